import PyProof.Rows.All
import Wide.All
import OpenK.AllK
import Wide.FinOn
import HandS.ForMost
import HandS.Evl
import HandS.IsInst
import HandS.TupAny
import HandS.TupLe
import HandS.Flow
import HandS.Style
import HandS.Wide
import HandS.WideMore
import HandS.Gcd
import HandS.TupLen
import KE.KMathGC
import HandS.Rev
import HandS.Zip
import HandS.Codes
import PySem.Challenge.RW_truewheel_k14_nearest_steps
set_option Elab.async false
set_option linter.all false
set_option maxRecDepth 100000
set_option maxHeartbeats 4000000
/-! DL: a data layer over HandS. An expression refines a data-level meaning, a statement a data-level step. -/
namespace DL
open PySem L2

/-! ### data, cells, results -/
inductive D where
  | none | bool (b : Bool) | int (i : Int) | str (s : Str) | list (xs : List D) | tuple (xs : List D) | dict (t : Bool) (ks vs : List D) | ro (xs : List D)

/-- what a local variable holds: frozen data, or a list or a dict of its own (p: handed in to be changed) -/
inductive Ce where
  | f (d : D) | l (p : Bool) (ds : List D) | k (p t : Bool) (ks vs : List D)
def Ce.ow : Ce → Bool
  | .f _ => false | .l _ _ => true | .k _ _ _ _ => true
def Ce.io : Ce → Bool
  | .f _ => false | .l p _ => p | .k p _ _ _ => p
def Ce.d : Ce → D
  | .f d => d | .l _ ds => .list ds | .k _ t ks vs => .dict t ks vs
def Ce.mem : Ce → List D
  | .f _ => [] | .l _ ds => ds | .k _ _ _ vs => vs
/-- the sort of a cell -/
def Ce.kd : Ce → Nat
  | .f _ => 0 | .l false _ => 1 | .l true _ => 2 | .k false false _ _ => 3 | .k true false _ _ => 4 | .k false true _ _ => 5 | .k true true _ _ => 6
/-- the cell as a callee sees it -/
def Ce.lent : Ce → Ce
  | .f d => .f d | .l _ ds => .l true ds | .k _ t ks vs => .k true t ks vs
/-- what a callee left, with the mark of the caller's cell -/
def Ce.back : Ce → Ce → Ce
  | .l p _, .l _ ds => .l p ds | .k p _ _ _, .k _ t ks vs => .k p t ks vs | c, _ => c

inductive Rs (α : Type) where
  | ok (a : α) | ex (n : String) (ds : List D) | no
def Rs.bind {α β : Type} : Rs α → (α → Rs β) → Rs β
  | .ok a, f => f a
  | .ex n ds, _ => .ex n ds
  | .no, _ => .no
@[simp] theorem Rs.bind_ok {α β : Type} (a : α) (f : α → Rs β) : (Rs.ok a).bind f = f a := rfl
@[simp] theorem Rs.bind_ex {α β : Type} (n : String) (ds : List D) (f : α → Rs β) : (Rs.ex n ds).bind f = .ex n ds := rfl
@[simp] theorem Rs.bind_no {α β : Type} (f : α → Rs β) : (Rs.no : Rs α).bind f = .no := rfl
theorem Rs.bind_eq {α β : Type} {r : Rs α} {f : α → Rs β} {b : β} (h : r.bind f = .ok b) : ∃ a, r = .ok a ∧ f a = .ok b := by
  cases r with
  | ok a => exact ⟨a, rfl, h⟩
  | ex n ds => cases h
  | no => cases h
abbrev En := List (Option Ce)
abbrev M (α : Type) := En → Rs (α × En)
def M.pure {α : Type} (a : α) : M α := fun e => .ok (a, e)
def M.bind {α β : Type} (m : M α) (f : α → M β) : M β := fun e => (m e).bind fun p => f p.1 p.2
@[simp] theorem M.pure_ap {α : Type} (a : α) (e : En) : M.pure a e = .ok (a, e) := rfl
@[simp] theorem M.bind_ap {α β : Type} (m : M α) (f : α → M β) (e : En) : M.bind m f e = (m e).bind fun p => f p.1 p.2 := rfl
theorem M.bind_eq {α β : Type} {m : M α} {f : α → M β} {e : En} {p : β × En} (h : M.bind m f e = .ok p) : ∃ a e1, m e = .ok (a, e1) ∧ f a e1 = .ok p := by
  obtain ⟨⟨a, e1⟩, h1, h2⟩ := Rs.bind_eq h
  exact ⟨a, e1, h1, h2⟩
def M.lift {α : Type} (r : Rs α) : M α := fun e => r.bind fun a => .ok (a, e)
@[simp] theorem M.lift_ap {α : Type} (r : Rs α) (e : En) : M.lift r e = r.bind fun a => .ok (a, e) := rfl

inductive Out where
  | nx (e : En) | rt (c : Ce) (e : En) | bk (e : En) | ct (e : En) | ex (n : String) (ds : List D) | no

/-! ### data in the heap -/
def kD : Key → D
  | .inl i => .int i
  | .inr s => .str s
/-- a dict's object, by its keys and values -/
def DcO (t : Bool) (o : HO) (ks : List D) (xs : List V) : Prop :=
  (t = false ∧ ∃ kvs : List (Key × V), o = .dK kvs ∧ kvs.map (fun p => kD p.1) = ks ∧ kvs.map (·.2) = xs) ∨
    (t = true ∧ ∃ kvs : List (List Key × V), o = .dT kvs ∧ kvs.map (fun p => D.tuple (p.1.map kD)) = ks ∧ kvs.map (·.2) = xs)
mutual
inductive Dn (K : PySem.W.Frag) (F : Hp) : V → D → Prop
  | non : Dn K F .non .none
  | bl (b : Bool) : Dn K F (.bl b) (.bool b)
  | int (i : Int) : Dn K F (.int i) (.int i)
  | str (x : Str) : Dn K F (.str x) (.str x)
  | lst {a : Addr} {xs : List V} {ds : List D} : F a = some (.lst xs) → DnA K F xs ds → Dn K F (.ref a) (.list ds)
  | ro {a : Addr} {xs : List V} {ds : List D} : SqL K F a xs → DnA K F xs ds → Dn K F (.ref a) (.ro ds)
  | tup {a : Addr} {xs : List V} {ds : List D} : F a = some (.tup xs) → DnA K F xs ds → Dn K F (.ref a) (.tuple ds)
  | dic {a : Addr} {t : Bool} {o : HO} {xs : List V} {ks vs : List D} : F a = some o → DcO t o ks xs → DnA K F xs vs → Dn K F (.ref a) (.dict t ks vs)
inductive DnA (K : PySem.W.Frag) (F : Hp) : List V → List D → Prop
  | nil : DnA K F [] []
  | cons {v : V} {vs : List V} {d : D} {ds : List D} : Dn K F v d → DnA K F vs ds → DnA K F (v :: vs) (d :: ds)
end
abbrev Ex := Evl.Ex
section
variable {K : PySem.W.Frag} {F F' H H' : Hp}
mutual
theorem Dn.mono (e : Ex F F') : ∀ {v : V} {d : D}, Dn K F v d → Dn K F' v d
  | _, _, .non => .non
  | _, _, .bl b => .bl b
  | _, _, .int i => .int i
  | _, _, .str x => .str x
  | _, _, .lst h ha => .lst (e _ _ h) (DnA.mono e ha)
  | _, _, .ro h ha => .ro (Evl.ex_l e h) (DnA.mono e ha)
  | _, _, .tup h ha => .tup (e _ _ h) (DnA.mono e ha)
  | _, _, .dic h hk ha => .dic (e _ _ h) hk (DnA.mono e ha)
theorem DnA.mono (e : Ex F F') : ∀ {vs : List V} {ds : List D}, DnA K F vs ds → DnA K F' vs ds
  | _, _, .nil => .nil
  | _, _, .cons h ha => .cons (Dn.mono e h) (DnA.mono e ha)
end
theorem DnA.len : ∀ {vs : List V} {ds : List D}, DnA K F vs ds → vs.length = ds.length
  | _, _, .nil => rfl
  | _, _, .cons _ ha => congrArg (· + 1) (DnA.len ha)
theorem DnA.get : ∀ {vs : List V} {ds : List D} {i : Nat} {d : D}, DnA K F vs ds → ds[i]? = some d → ∃ v, vs[i]? = some v ∧ Dn K F v d
  | _, _, _, _, .nil, h => by simp at h
  | _, _, 0, _, .cons h _, e => by
    simp at e
    subst e
    exact ⟨_, by simp, h⟩
  | _, _, i + 1, _, .cons _ ha, e => by
    simp at e
    obtain ⟨v, h1, h2⟩ := DnA.get ha e
    exact ⟨v, by simpa using h1, h2⟩
theorem DnA.getV : ∀ {vs : List V} {ds : List D} {i : Nat} {v : V}, DnA K F vs ds → vs[i]? = some v → ∃ d, ds[i]? = some d ∧ Dn K F v d
  | _, _, _, _, .nil, h => by simp at h
  | _, _, 0, _, .cons h _, e => by
    simp at e
    subst e
    exact ⟨_, by simp, h⟩
  | _, _, i + 1, _, .cons _ ha, e => by
    simp at e
    obtain ⟨v, h1, h2⟩ := DnA.getV ha e
    exact ⟨v, by simpa using h1, h2⟩
theorem DnA.app : ∀ {vs ws : List V} {ds es : List D}, DnA K F vs ds → DnA K F ws es → DnA K F (vs ++ ws) (ds ++ es)
  | _, _, _, _, .nil, h => h
  | _, _, _, _, .cons h ha, hb => .cons h (DnA.app ha hb)
theorem DnA.take : ∀ {vs : List V} {ds : List D} (n : Nat), DnA K F vs ds → DnA K F (vs.take n) (ds.take n)
  | _, _, 0, _ => by simpa using DnA.nil
  | _, _, n + 1, .nil => by simpa using DnA.nil
  | _, _, n + 1, .cons h ha => by simpa using DnA.cons h (DnA.take n ha)
theorem DnA.drop : ∀ {vs : List V} {ds : List D} (n : Nat), DnA K F vs ds → DnA K F (vs.drop n) (ds.drop n)
  | _, _, 0, h => by simpa using h
  | _, _, n + 1, .nil => by simpa using DnA.nil
  | _, _, n + 1, .cons h ha => by simpa using DnA.drop n ha
theorem DnA.set : ∀ {vs : List V} {ds : List D} {v : V} {d : D} (n : Nat), DnA K F vs ds → Dn K F v d → DnA K F (vs.set n v) (ds.set n d)
  | _, _, _, _, _, .nil, _ => by simpa using DnA.nil
  | _, _, _, _, 0, .cons _ ha, h => by simpa using DnA.cons h ha
  | _, _, _, _, n + 1, .cons h ha, h' => by simpa using DnA.cons h (DnA.set n ha h')
theorem DnA.rev : ∀ {vs : List V} {ds : List D}, DnA K F vs ds → DnA K F vs.reverse ds.reverse
  | _, _, .nil => .nil
  | _, _, .cons h ha => by
    rw [List.reverse_cons, List.reverse_cons]
    exact DnA.app (DnA.rev ha) (.cons h .nil)
theorem Dn.list_inv {v : V} {ds : List D} (h : Dn K F v (.list ds)) : ∃ a xs, v = .ref a ∧ F a = some (.lst xs) ∧ DnA K F xs ds := by
  cases h with
  | lst h ha => exact ⟨_, _, rfl, h, ha⟩
theorem Dn.ro_inv {v : V} {ds : List D} (h : Dn K F v (.ro ds)) : ∃ a xs, v = .ref a ∧ SqL K F a xs ∧ DnA K F xs ds := by
  cases h with
  | ro h ha => exact ⟨_, _, rfl, h, ha⟩
theorem Dn.tuple_inv {v : V} {ds : List D} (h : Dn K F v (.tuple ds)) : ∃ a xs, v = .ref a ∧ SqT K F a xs ∧ DnA K F xs ds := by
  cases h with
  | tup h ha => exact ⟨_, _, rfl, SqT.of h, ha⟩
theorem Dn.tuple_invS {v : V} {ds : List D} (h : Dn K F v (.tuple ds)) : ∃ a xs, v = .ref a ∧ F a = some (.tup xs) ∧ DnA K F xs ds := by
  cases h with
  | tup h ha => exact ⟨_, _, rfl, h, ha⟩
theorem Dn.dict_inv {v : V} {t : Bool} {ks vs : List D} (h : Dn K F v (.dict t ks vs)) : ∃ a o xs, v = .ref a ∧ F a = some o ∧ DcO t o ks xs ∧ DnA K F xs vs := by
  cases h with
  | dic h hk ha => exact ⟨_, _, _, rfl, h, hk, ha⟩
theorem Dn.int_inv {v : V} {i : Int} (h : Dn K F v (.int i)) : v = .int i := by cases h; rfl
theorem Dn.bool_inv {v : V} {i : Bool} (h : Dn K F v (.bool i)) : v = .bl i := by cases h; rfl
theorem Dn.str_inv {v : V} {i : Str} (h : Dn K F v (.str i)) : v = .str i := by cases h; rfl
theorem Dn.none_inv {v : V} (h : Dn K F v .none) : v = .non := by cases h; rfl
theorem DnA.ints : ∀ {vs : List V} {is : List Int}, DnA K F vs (is.map .int) → vs = is.map .int
  | _, [], h => by cases h; rfl
  | _, i :: is, h => by
    cases h with
    | cons h ha =>
      rw [h.int_inv, DnA.ints ha]
      rfl
theorem DnA.strs : ∀ {vs : List V} {is : List Str}, DnA K F vs (is.map .str) → vs = is.map .str
  | _, [], h => by cases h; rfl
  | _, i :: is, h => by
    cases h with
    | cons h ha =>
      rw [h.str_inv, DnA.strs ha]
      rfl
theorem DnA.bools : ∀ {vs : List V} {is : List Bool}, DnA K F vs (is.map .bool) → vs = is.map .bl
  | _, [], h => by cases h; rfl
  | _, i :: is, h => by
    cases h with
    | cons h ha =>
      rw [h.bool_inv, DnA.bools ha]
      rfl
theorem dnA_ints : ∀ is : List Int, DnA K F (is.map .int) (is.map .int)
  | [] => .nil
  | i :: is => .cons (.int i) (dnA_ints is)
theorem dnA_strs : ∀ is : List Str, DnA K F (is.map .str) (is.map .str)
  | [] => .nil
  | i :: is => .cons (.str i) (dnA_strs is)
theorem dnA_bools : ∀ is : List Bool, DnA K F (is.map .bl) (is.map .bool)
  | [] => .nil
  | i :: is => .cons (.bl i) (dnA_bools is)
end

/-! ### the heap goes on -/
structure Go (F H F' H' : Hp) (ms : Addr → Prop) : Prop where
  ff : Ex F F'
  hh : ∀ b o, H b = some o → ¬ ms b → H' b = some o
  fh : Ex F' H'
  st : ∀ b, F b = none → (H b).isSome = true → F' b = none ∧ (H' b).isSome = true
abbrev noA : Addr → Prop := fun _ => False
section
variable {F H F1 H1 F2 H2 : Hp} {ms ms' : Addr → Prop} {a : Addr} {o : HO}
theorem Go.refl (e : Ex F H) : Go F H F H ms := ⟨Evl.Ex.refl _, fun _ _ h _ => h, e, fun _ h1 h2 => ⟨h1, h2⟩⟩
theorem Go.trans (x : Go F H F1 H1 ms) (y : Go F1 H1 F2 H2 ms) : Go F H F2 H2 ms :=
  ⟨x.ff.trans y.ff, fun b o h n => y.hh b o (x.hh b o h n) n, y.fh, fun b h1 h2 => let ⟨p, q⟩ := x.st b h1 h2; y.st b p q⟩
theorem Go.mono (x : Go F H F1 H1 ms) (h : ∀ b, ms b → ms' b) : Go F H F1 H1 ms' := ⟨x.ff, fun b o e n => x.hh b o e fun z => n (h b z), x.fh, x.st⟩
theorem Go.any (x : Go F H F1 H1 noA) : Go F H F1 H1 ms := x.mono fun _ z => z.elim
/-- what was there, frozen or not, is there -/
theorem Go.some' (x : Go F H F1 H1 ms) (e : Ex F H) {b : Addr} (h : (H b).isSome = true) : (H1 b).isSome = true := by
  cases q : F b with
  | none => exact (x.st b q h).2
  | some u => rw [x.fh b u (x.ff b u q)]; rfl
theorem Go.old (x : Go F H F1 H1 ms) (e : Ex F H) {b : Addr} (h : H1 b = none) : H b = none := by
  cases q : H b with
  | none => rfl
  | some u =>
    have := x.some' e (b := b) (by rw [q]; rfl)
    rw [h] at this
    cases this
theorem ex_none {F H : Hp} (e : Ex F H) {b : Addr} (h : H b = none) : F b = none := by
  cases q : F b with
  | none => rfl
  | some u => rw [e b u q] at h; cases h
/-- a new object, frozen at once -/
theorem Go.newF (e : Ex F H) (h : H a = none) : Go F H (upd F a o) (upd H a o) ms := by
  refine ⟨Evl.Ex.new (ex_none e h), fun b u q _ => ?_, fun b u q => ?_, fun b h1 h2 => ?_⟩
  · rw [upd_ne (ne_of_none q h)]; exact q
  · by_cases hb : b = a
    · subst hb; rw [upd_same] at q ⊢; exact q
    · rw [upd_ne hb] at q ⊢; exact e b u q
  · have hb : b ≠ a := fun z => by subst z; rw [h] at h2; cases h2
    rw [upd_ne hb, upd_ne hb]
    exact ⟨h1, h2⟩
/-- a new object of its own -/
theorem Go.newO (e : Ex F H) (h : H a = none) : Go F H F (upd H a o) ms := by
  refine ⟨Evl.Ex.refl _, fun b u q _ => ?_, fun b u q => ?_, fun b h1 h2 => ?_⟩
  · rw [upd_ne (ne_of_none q h)]; exact q
  · rw [upd_ne (ne_of_none q (ex_none e h))]; exact e b u q
  · have hb : b ≠ a := fun z => by subst z; rw [h] at h2; cases h2
    rw [upd_ne hb]
    exact ⟨h1, h2⟩
/-- a new object of its own is frozen -/
theorem Go.frz (x : Go F H F1 H1 ms) (h : H a = none) (h1 : F1 a = none) (h2 : H1 a = some o) : Go F H (upd F1 a o) H1 ms := by
  refine ⟨x.ff.trans (Evl.Ex.new h1), x.hh, fun b u q => ?_, fun b p q => ?_⟩
  · by_cases hb : b = a
    · subst hb; rw [upd_same] at q; cases q; exact h2
    · rw [upd_ne hb] at q; exact x.fh b u q
  · have hb : b ≠ a := fun z => by subst z; rw [h] at q; cases q
    rw [upd_ne hb]
    exact x.st b p q
/-- an object that is not frozen is written -/
theorem Go.wr (e : Ex F H) (h : F a = none) (hm : ms a) (hs : (H a).isSome = true) : Go F H F (upd H a o) ms := by
  refine ⟨Evl.Ex.refl _, fun b u q n => ?_, fun b u q => ?_, fun b h1 h2 => ?_⟩
  · have hb : b ≠ a := fun z => by subst z; exact n hm
    rw [upd_ne hb]; exact q
  · rw [upd_ne (ne_of_none q h)]; exact e b u q
  · by_cases hb : b = a
    · subst hb; rw [upd_same]; exact ⟨h1, rfl⟩
    · rw [upd_ne hb]; exact ⟨h1, h2⟩
end

/-! ### the state -/
/-- the object of a cell, its members -/
def CeO (o : HO) : Ce → List V → Prop
  | .f _, _ => False
  | .l _ _, xs => o = .lst xs
  | .k _ t ks _, xs => DcO t o ks xs
/-- the entry: what was frozen, what was there, which slots hold what was handed in to be changed -/
structure Bs where
  F : Hp
  H : Hp
  io : List (Nat × Addr)
def Bs.ms (G : Bs) : Addr → Prop := fun a => ∃ i, (i, a) ∈ G.io
def At (K : PySem.W.Frag) (G : Bs) (F H : Hp) (i : Nat) (c : Ce) (v : V) : Prop :=
  (∃ d, c = .f d ∧ Dn K F v d) ∨
    ∃ a o xs, v = .ref a ∧ F a = none ∧ H a = some o ∧ CeO o c xs ∧ DnA K F xs c.mem ∧ (c.io = true → (i, a) ∈ G.io) ∧ (c.io = false → G.H a = none)
/-- the addresses of one's own objects -/
def Lv (σ : L2.St) (e : En) : Addr → Prop := fun a => ∃ (i : Nat) (c : Ce), e[i]? = some (some c) ∧ c.ow = true ∧ σ[i]? = some (some (V.ref a))
structure R (K : PySem.W.Frag) (G : Bs) (F H : Hp) (σ : L2.St) (e : En) : Prop where
  go : Go G.F G.H F H G.ms
  ba : Ex G.F G.H
  at_ : ∀ (i : Nat) (c : Ce), e[i]? = some (some c) → ∃ v, σ[i]? = some (some v) ∧ At K G F H i c v
  sep : ∀ (i j : Nat) (c c' : Ce) (a : Addr), i ≠ j → e[i]? = some (some c) → e[j]? = some (some c') → c.ow = true → c'.ow = true → σ[i]? = some (some (V.ref a)) → σ[j]? ≠ some (some (V.ref a))
  io : ∀ p ∈ G.io, σ[p.1]? = some (some (V.ref p.2)) ∧ ∃ c : Ce, e[p.1]? = some (some c) ∧ c.io = true
  len : e.length = σ.length
structure Nx (K : PySem.W.Frag) (G : Bs) (σ : L2.St) (F H : Hp) (e : En) (F' H' : Hp) (e' : En) : Prop where
  r : R K G F' H' σ e'
  go : Go F H F' H' (Lv σ e)
  sh : e'.map (Option.map Ce.kd) = e.map (Option.map Ce.kd)
section
variable {K : PySem.W.Frag} {G : Bs} {F H F1 H1 F2 H2 : Hp} {σ : L2.St} {e e1 e2 : En} {v : V} {d : D} {c : Ce} {i : Nat} {a : Addr}
theorem R.fh (r : R K G F H σ e) : Ex F H := r.go.fh
theorem CeO.ow {o : HO} {xs : List V} (h : CeO o c xs) : c.ow = true := by
  cases c with
  | f d => exact h.elim
  | l p ds => rfl
  | k p t ks vs => rfl
theorem At.fz (h : At K G F H i (.f d) v) : Dn K F v d := by
  rcases h with ⟨d', e, h⟩ | ⟨a, o, xs, _, _, _, h, _⟩
  · cases e; exact h
  · exact h.elim
theorem At.own (h : At K G F H i c v) (hc : c.ow = true) : ∃ a o xs, v = .ref a ∧ F a = none ∧ H a = some o ∧ CeO o c xs ∧ DnA K F xs c.mem ∧ (c.io = true → (i, a) ∈ G.io) ∧ (c.io = false → G.H a = none) := by
  rcases h with ⟨d, e, h⟩ | h
  · subst e; cases hc
  · exact h
theorem kd_ow {c c' : Ce} (h : c.kd = c'.kd) : c.ow = c'.ow ∧ c.io = c'.io := by
  cases c with
  | f d => cases c' with
    | f d' => exact ⟨rfl, rfl⟩
    | l p ds => cases p <;> cases h
    | k p t ks vs => cases p <;> cases t <;> cases h
  | l p ds => cases c' with
    | f d' => cases p <;> cases h
    | l p' ds => cases p <;> cases p' <;> first | exact ⟨rfl, rfl⟩ | cases h
    | k p' t ks vs => cases p <;> cases p' <;> cases t <;> cases h
  | k p t ks vs => cases c' with
    | f d' => cases p <;> cases t <;> cases h
    | l p' ds => cases p <;> cases p' <;> cases t <;> cases h
    | k p' t' ks vs => cases p <;> cases p' <;> cases t <;> cases t' <;> first | exact ⟨rfl, rfl⟩ | cases h
theorem sh_at (h : e1.map (Option.map Ce.kd) = e.map (Option.map Ce.kd)) (hc : e[i]? = some (some c)) : ∃ c' : Ce, e1[i]? = some (some c') ∧ c'.kd = c.kd := by
  have h1 : (e1.map (Option.map Ce.kd))[i]? = (e.map (Option.map Ce.kd))[i]? := by rw [h]
  rw [List.getElem?_map, List.getElem?_map, hc] at h1
  cases q : e1[i]? with
  | none => rw [q] at h1; cases h1
  | some o =>
    rw [q] at h1
    cases o with
    | none => cases h1
    | some c' => exact ⟨c', rfl, by simpa using h1⟩
theorem sh_lv (h : e1.map (Option.map Ce.kd) = e.map (Option.map Ce.kd)) {b : Addr} (hb : Lv σ e1 b) : Lv σ e b := by
  obtain ⟨i, c, h1, h2, h3⟩ := hb
  obtain ⟨c', h4, h5⟩ := sh_at h.symm h1
  exact ⟨i, c', h4, by rw [(kd_ow h5).1]; exact h2, h3⟩
theorem Nx.refl (r : R K G F H σ e) : Nx K G σ F H e F H e := ⟨r, Go.refl r.fh, rfl⟩
theorem Nx.trans (x : Nx K G σ F H e F1 H1 e1) (y : Nx K G σ F1 H1 e1 F2 H2 e2) : Nx K G σ F H e F2 H2 e2 :=
  ⟨y.r, x.go.trans (y.go.mono fun _ hb => sh_lv x.sh hb), y.sh.trans x.sh⟩
theorem Nx.dn (x : Nx K G σ F H e F1 H1 e1) (h : Dn K F v d) : Dn K F1 v d := h.mono x.go.ff
/-- of one's own, so there -/
theorem R.lv (r : R K G F H σ e) {b : Addr} (h : Lv σ e b) : F b = none ∧ (H b).isSome = true := by
  obtain ⟨i, c, h1, h2, h3⟩ := h
  obtain ⟨v, h4, h5⟩ := r.at_ i c h1
  obtain ⟨a, o, xs, rfl, h6, h7, _⟩ := h5.own h2
  rw [h3] at h4
  cases h4
  exact ⟨h6, by rw [h7]; rfl⟩
theorem At.step (h : At K G F H i c v) (go : Go F H F1 H1 noA) : At K G F1 H1 i c v := by
  rcases h with ⟨d, e, h⟩ | ⟨a, o, xs, h1, h2, h3, h4, h5, h6, h7⟩
  · exact .inl ⟨d, e, h.mono go.ff⟩
  · refine .inr ⟨a, o, xs, h1, (go.st a h2 (by rw [h3]; rfl)).1, go.hh a o h3 (fun z => z), h4, h5.mono go.ff, h6, h7⟩
/-- nothing of one's own is changed -/
theorem R.step (r : R K G F H σ e) (go : Go F H F1 H1 noA) : Nx K G σ F H e F1 H1 e :=
  ⟨⟨r.go.trans go.any, r.ba, fun i c h => let ⟨v, h1, h2⟩ := r.at_ i c h; ⟨v, h1, h2.step go⟩, r.sep, r.io, r.len⟩, go.any, rfl⟩
/-- new since H, so of no slot, and not of the entry -/
theorem R.new (r : R K G F H σ e) (h : H a = none) : ¬ Lv σ e a ∧ G.H a = none ∧ G.F a = none ∧ F a = none := by
  have g : G.H a = none := r.go.old r.ba h
  exact ⟨fun z => (by have := (r.lv z).2; rw [h] at this; cases this), g, ex_none r.ba g, ex_none r.fh h⟩
end

/-! ### values that come -/
/-- new or frozen: c is v, come since H -/
def NAt (K : PySem.W.Frag) (H F' H' : Hp) (c : Ce) (v : V) : Prop :=
  (∃ d, c = .f d ∧ Dn K F' v d) ∨ (c.io = false ∧ ∃ a o xs, v = .ref a ∧ H a = none ∧ F' a = none ∧ H' a = some o ∧ CeO o c xs ∧ DnA K F' xs c.mem)
/-- a handle: a value (frozen, or new), or what stands in a slot when it is looked at -/
inductive Hd where
  | v (c : Ce) | s (i : Nat)
def HAt (K : PySem.W.Frag) (G : Bs) (σ : L2.St) (F H : Hp) (e : En) : Hd → V → Prop
  | .v c, v => (∃ d, c = .f d ∧ Dn K F v d) ∨ (c.io = false ∧ ∃ a o xs, v = .ref a ∧ G.H a = none ∧ F a = none ∧ H a = some o ∧ ¬ Lv σ e a ∧ CeO o c xs ∧ DnA K F xs c.mem)
  | .s i, v => σ[i]? = some (some v) ∧ ∃ c : Ce, e[i]? = some (some c)
def Hd.get (h : Hd) (e : En) : Rs D := match h with
  | .v c => .ok c.d
  | .s i => match e[i]? with
    | some (some c) => .ok c.d
    | _ => .no
/-- v looks like d just now -/
def Vw (K : PySem.W.Frag) (F H : Hp) (d : D) (v : V) : Prop :=
  Dn K F v d ∨ ∃ a o xs c, v = .ref a ∧ H a = some o ∧ CeO o c xs ∧ DnA K F xs c.mem ∧ d = c.d
section
variable {K : PySem.W.Frag} {G : Bs} {F H F1 H1 F2 H2 : Hp} {σ : L2.St} {e e1 e2 : En} {v : V} {d : D} {c : Ce} {i : Nat} {a : Addr} {h : Hd}
theorem NAt.fz (x : NAt K H F1 H1 (.f d) v) : Dn K F1 v d := by
  rcases x with ⟨d', e, h⟩ | ⟨_, a, o, xs, _, _, _, _, h, _⟩
  · cases e; exact h
  · exact h.elim
theorem NAt.hat (x : NAt K H F1 H1 c v) (r : R K G F H σ e) (n : Nx K G σ F H e F1 H1 e1) : HAt K G σ F1 H1 e1 (.v c) v := by
  rcases x with ⟨d, rfl, h⟩ | ⟨hio, a, o, xs, rfl, h1, h2, h3, h4, h5⟩
  · exact .inl ⟨d, rfl, h⟩
  · obtain ⟨p, q, _⟩ := r.new h1
    exact .inr ⟨hio, a, o, xs, rfl, q, h2, h3, fun z => p (sh_lv n.sh z), h4, h5⟩
theorem HAt.nx (x : HAt K G σ F H e h v) (n : Nx K G σ F H e F1 H1 e1) : HAt K G σ F1 H1 e1 h v := by
  cases h with
  | v c =>
    rcases x with ⟨d, rfl, h⟩ | ⟨hio, a, o, xs, rfl, h1, h2, h3, h3b, h4, h5⟩
    · exact .inl ⟨d, rfl, n.dn h⟩
    · refine .inr ⟨hio, a, o, xs, rfl, h1, (n.go.st a h2 (by rw [h3]; rfl)).1, n.go.hh a o h3 h3b, fun z => h3b (sh_lv n.sh z), h4, h5.mono n.go.ff⟩
  | s i =>
    obtain ⟨h1, c, h2⟩ := x
    obtain ⟨c', h3, _⟩ := sh_at n.sh h2
    exact ⟨h1, c', h3⟩
theorem HAt.vw (x : HAt K G σ F H e h v) (r : R K G F H σ e) (g : h.get e = .ok d) : Vw K F H d v := by
  cases h with
  | v c =>
    have gd : c.d = d := Rs.ok.inj g
    rcases x with ⟨d', rfl, h⟩ | ⟨hio, a, o, xs, rfl, h1, h2, h3, h3b, h4, h5⟩
    · subst gd; exact .inl h
    · exact .inr ⟨a, o, xs, c, rfl, h3, h4, h5, gd.symm⟩
  | s i =>
    obtain ⟨h1, c, h2⟩ := x
    have gd : c.d = d := by
      simp only [Hd.get, h2] at g
      exact Rs.ok.inj g
    obtain ⟨v', h3, h4⟩ := r.at_ i c h2
    rw [h1] at h3
    cases h3
    rcases h4 with ⟨d', rfl, h⟩ | ⟨a, o, xs, rfl, h5, h6, h7, h8, _⟩
    · subst gd; exact .inl h
    · exact .inr ⟨a, o, xs, c, rfl, h6, h7, h8, gd.symm⟩
theorem Vw.int {i : Int} (x : Vw K F H (.int i) v) : v = .int i := by
  rcases x with h | ⟨a, o, xs, c, rfl, _, h, _, e⟩
  · exact h.int_inv
  · cases c <;> first | exact h.elim | cases e
theorem Vw.bool {i : Bool} (x : Vw K F H (.bool i) v) : v = .bl i := by
  rcases x with h | ⟨a, o, xs, c, rfl, _, h, _, e⟩
  · exact h.bool_inv
  · cases c <;> first | exact h.elim | cases e
theorem Vw.str {i : Str} (x : Vw K F H (.str i) v) : v = .str i := by
  rcases x with h | ⟨a, o, xs, c, rfl, _, h, _, e⟩
  · exact h.str_inv
  · cases c <;> first | exact h.elim | cases e
theorem Vw.none (x : Vw K F H .none v) : v = .non := by
  rcases x with h | ⟨a, o, xs, c, rfl, _, h, _, e⟩
  · exact h.none_inv
  · cases c <;> first | exact h.elim | cases e
theorem Vw.list {ds : List D} (x : Vw K F H (.list ds) v) (fh : Ex F H) : ∃ a xs, v = .ref a ∧ H a = some (.lst xs) ∧ DnA K F xs ds := by
  rcases x with h | ⟨a, o, xs, c, rfl, h1, h, h2, e⟩
  · obtain ⟨a, xs, e1, h1, h2⟩ := h.list_inv
    exact ⟨a, xs, e1, fh _ _ h1, h2⟩
  · cases c with
    | f d => exact h.elim
    | l p ds' =>
      cases e
      have h' : o = .lst xs := h
      subst h'
      exact ⟨a, xs, rfl, h1, h2⟩
    | k p t ks vs => cases e
theorem Vw.ro {ds : List D} (x : Vw K F H (.ro ds) v) (fh : Ex F H) : ∃ a xs, v = .ref a ∧ SqL K H a xs ∧ DnA K F xs ds := by
  rcases x with h | ⟨a, o, xs, c, rfl, h1, h, h2, e⟩
  · obtain ⟨a, xs, e1, h1, h2⟩ := h.ro_inv
    exact ⟨a, xs, e1, Evl.ex_l fh h1, h2⟩
  · cases c <;> first | exact h.elim | cases e
theorem Vw.tuple {ds : List D} (x : Vw K F H (.tuple ds) v) (fh : Ex F H) : ∃ a xs, v = .ref a ∧ SqT K H a xs ∧ DnA K F xs ds ∧ Dn K F v (.tuple ds) := by
  rcases x with h | ⟨a, o, xs, c, rfl, h1, h, h2, e⟩
  · obtain ⟨a, xs, e1, h1, h2⟩ := h.tuple_inv
    exact ⟨a, xs, e1, Evl.ex_t fh h1, h2, h⟩
  · cases c <;> first | exact h.elim | cases e
theorem Vw.dict {t : Bool} {ks vs : List D} (x : Vw K F H (.dict t ks vs) v) (fh : Ex F H) : ∃ a o xs, v = .ref a ∧ H a = some o ∧ DcO t o ks xs ∧ DnA K F xs vs := by
  rcases x with h | ⟨a, o, xs, c, rfl, h1, h, h2, e⟩
  · obtain ⟨a, o, xs, e1, h1, h2, h3⟩ := h.dict_inv
    exact ⟨a, o, xs, e1, fh _ _ h1, h2, h3⟩
  · cases c with
    | f d => exact h.elim
    | l p ds' => cases e
    | k p t' ks' vs' =>
      cases e
      exact ⟨a, o, xs, rfl, h1, h, h2⟩
/-- data that is a mere value is itself -/
def D.flat : D → Bool
  | .none => true | .bool _ => true | .int _ => true | .str _ => true | _ => false
end
end DL

namespace DL
open PySem L2

/-! ### weaker readings -/
section
variable {X : Cx} {e : Expr} {es : List Expr}
theorem PEimp {t t' : TE} (h : PE X e t) (hi : ∀ σ H Q, t' σ H Q → t σ H Q) : PE X e t' := ⟨fun pins s σ H Q I q => h.run pins s σ H Q I (hi σ H Q q)⟩
theorem PTimp {t t' : TT} (h : PT X e t) (hi : ∀ σ H Q, t' σ H Q → t σ H Q) : PT X e t' := ⟨fun pins s σ H Q I q => h.run pins s σ H Q I (hi σ H Q q)⟩
theorem PWimp {t t' : TT} (h : PW X e t) (hi : ∀ σ H Q, t' σ H Q → t σ H Q) : PW X e t' := ⟨fun wh pins s σ H Q I q => h.run wh pins s σ H Q I (hi σ H Q q)⟩
theorem PAimp {t t' : TA} (h : PA X es t) (hi : ∀ σ H Q, t' σ H Q → t σ H Q) : PA X es t' := ⟨fun pos pins s σ H Q I q => h.run pos pins s σ H Q I (hi σ H Q q)⟩
end

/-! ### meanings -/
section
variable (K : PySem.W.Frag)
def tF (m : M D) : TE := fun σ H Q => ∃ G F e d e', R K G F H σ e ∧ m e = .ok (d, e') ∧ ∀ v F' H', Nx K G σ F H e F' H' e' → Dn K F' v d → Q v H'
def tN (m : M Ce) : TE := fun σ H Q => ∃ G F e c e', R K G F H σ e ∧ m e = .ok (c, e') ∧ ∀ v F' H', Nx K G σ F H e F' H' e' → NAt K H F' H' c v → Q v H'
def tH (m : M Hd) : TE := fun σ H Q => ∃ G F e c e', R K G F H σ e ∧ m e = .ok (c, e') ∧ ∀ v F' H', Nx K G σ F H e F' H' e' → HAt K G σ F' H' e' c v → Q v H'
def tT (m : M Bool) : TT := fun σ H Q => ∃ G F e b e', R K G F H σ e ∧ m e = .ok (b, e') ∧ ∀ F' H', Nx K G σ F H e F' H' e' → Q b H'
def tA (m : M (List D)) : TA := fun σ H Q => ∃ G F e ds e', R K G F H σ e ∧ m e = .ok (ds, e') ∧ ∀ vs F' H', Nx K G σ F H e F' H' e' → DnA K F' vs ds → Q vs H'
inductive HAs (G : Bs) (σ : L2.St) (F H : Hp) (e : En) : List Hd → List V → Prop where
  | nil : HAs G σ F H e [] []
  | cons {h : Hd} {hs : List Hd} {v : V} {vs : List V} : HAt K G σ F H e h v → HAs G σ F H e hs vs → HAs G σ F H e (h :: hs) (v :: vs)
def tHA (m : M (List Hd)) : TA := fun σ H Q => ∃ G F e ds e', R K G F H σ e ∧ m e = .ok (ds, e') ∧ ∀ vs F' H', Nx K G σ F H e F' H' e' → HAs K G σ F' H' e' ds vs → Q vs H'
end
abbrev PF (X : Cx) (e : Expr) (m : M D) : Prop := PE X e (tF X.K m)
abbrev PN (X : Cx) (e : Expr) (m : M Ce) : Prop := PE X e (tN X.K m)
abbrev PH (X : Cx) (e : Expr) (m : M Hd) : Prop := PE X e (tH X.K m)
abbrev PTd (X : Cx) (e : Expr) (m : M Bool) : Prop := PT X e (tT X.K m)
abbrev PWd (X : Cx) (e : Expr) (m : M Bool) : Prop := PW X e (tT X.K m)
abbrev PAd (X : Cx) (es : List Expr) (m : M (List D)) : Prop := PA X es (tA X.K m)
abbrev PAh (X : Cx) (es : List Expr) (m : M (List Hd)) : Prop := PA X es (tHA X.K m)

section
variable {X : Cx} {ex ey ez : Expr} {es : List Expr} {pos : Pos} {K : PySem.W.Frag}
variable {G : Bs} {F H F1 H1 F2 H2 : Hp} {σ : L2.St} {e e1 e2 : En} {v : V} {d : D} {c : Ce} {a : Addr}
theorem NAt.back (n : NAt K H1 F2 H2 c v) (go : Go F H F1 H1 (Lv σ e)) (fh : Ex F H) : NAt K H F2 H2 c v := by
  rcases n with ⟨d, rfl, h⟩ | ⟨hio, a, o, xs, rfl, h1, h2⟩
  · exact .inl ⟨d, rfl, h⟩
  · exact .inr ⟨hio, a, o, xs, rfl, go.old fh h1, h2⟩
theorem R.frz {o : HO} (r : R K G F H σ e) (h1 : F a = none) (h2 : H a = some o) (h3 : ¬ Lv σ e a) (h4 : G.H a = none) : R K G (upd F a o) H σ e := by
  refine ⟨r.go.frz h4 h1 h2, r.ba, fun i c h => ?_, r.sep, r.io, r.len⟩
  obtain ⟨v, e1, e2⟩ := r.at_ i c h
  refine ⟨v, e1, ?_⟩
  rcases e2 with ⟨d, rfl, hd⟩ | ⟨b, u, xs, rfl, q1, q2, q3, q4, q5, q6⟩
  · exact .inl ⟨d, rfl, hd.mono (Evl.Ex.new h1)⟩
  · have hb : b ≠ a := fun z => by
      subst z
      exact h3 ⟨i, c, h, q3.ow, e1⟩
    exact .inr ⟨b, u, xs, rfl, by rw [upd_ne hb]; exact q1, q2, q3, q4.mono (Evl.Ex.new h1), q5, q6⟩
/-- what is new is frozen -/
theorem NAt.frz (n : NAt K H F1 H1 c v) (r : R K G F H σ e) (x : Nx K G σ F H e F1 H1 e1) : ∃ F2, Nx K G σ F H e F2 H1 e1 ∧ Ex F1 F2 ∧ Dn K F2 v c.d := by
  rcases n with ⟨d, rfl, h⟩ | ⟨hio, a, o, xs, rfl, h1, h2, h3, h4, h5⟩
  · exact ⟨F1, x, Evl.Ex.refl _, h⟩
  · obtain ⟨p, q, _⟩ := r.new h1
    refine ⟨upd F1 a o, ⟨x.r.frz h2 h3 (fun z => p (sh_lv x.sh z)) q, x.go.frz h1 h2 h3, x.sh⟩, Evl.Ex.new h2, ?_⟩
    cases c with
    | f d => exact h4.elim
    | l p ds =>
      have h4' : o = .lst xs := h4
      subst h4'
      exact .lst upd_same (h5.mono (Evl.Ex.new h2))
    | k p t ks vs => exact .dic upd_same h4 (h5.mono (Evl.Ex.new h2))

/-! ### from one reading to another -/
def mN (m : M D) : M Ce := fun e => (m e).bind fun p => .ok (.f p.1, p.2)
def mZ (m : M Ce) : M D := fun e => (m e).bind fun p => .ok (p.1.d, p.2)
def mH (m : M Ce) : M Hd := fun e => (m e).bind fun p => .ok (.v p.1, p.2)
theorem bind_ok2 {α β : Type} {m : M α} {f : α × En → Rs β} {e : En} {b : β} (h : (m e).bind f = .ok b) : ∃ a e1, m e = .ok (a, e1) ∧ f (a, e1) = .ok b := by
  obtain ⟨⟨a, e1⟩, h1, h2⟩ := Rs.bind_eq h
  exact ⟨a, e1, h1, h2⟩
theorem pn_f {m : M D} (h : PF X ex m) : PN X ex (mN m) := PEimp h fun σ H Q ⟨G, F, e, c, e', r, hm, q⟩ => by
  obtain ⟨d, e1, h1, h2⟩ := bind_ok2 hm
  cases h2
  exact ⟨G, F, e, d, e1, r, h1, fun v F' H' n hd => q v F' H' n (.inl ⟨d, rfl, hd⟩)⟩
theorem pf_n {m : M Ce} (h : PN X ex m) : PF X ex (mZ m) := PEimp h fun σ H Q ⟨G, F, e, d, e', r, hm, q⟩ => by
  obtain ⟨c, e1, h1, h2⟩ := bind_ok2 hm
  cases h2
  refine ⟨G, F, e, c, e1, r, h1, fun v F' H' n hn => ?_⟩
  obtain ⟨F2, n2, _, hd⟩ := hn.frz r n
  exact q v F2 H' n2 hd
theorem ph_n {m : M Ce} (h : PN X ex m) : PH X ex (mH m) := PEimp h fun σ H Q ⟨G, F, e, d, e', r, hm, q⟩ => by
  obtain ⟨c, e1, h1, h2⟩ := bind_ok2 hm
  cases h2
  exact ⟨G, F, e, c, e1, r, h1, fun v F' H' n hn => q v F' H' n (hn.hat r n)⟩
theorem ph_f {m : M D} (h : PF X ex m) : PH X ex (mH (mN m)) := ph_n (pn_f h)

/-! ### names and constants -/
def mVar (i : Nat) : M D := fun e => match e[i]? with
  | some (some (.f d)) => .ok (d, e)
  | _ => .no
def mSl (i : Nat) : M Hd := fun e => match e[i]? with
  | some (some _) => .ok (.s i, e)
  | _ => .no
theorem mVar_ok {i : Nat} {e e' : En} {d : D} (h : mVar i e = .ok (d, e')) : e[i]? = some (some (.f d)) ∧ e' = e := by
  unfold mVar at h
  split at h
  · rename_i d' q
    cases h
    exact ⟨q, rfl⟩
  · cases h
theorem mSl_ok {i : Nat} {e e' : En} {h' : Hd} (h : mSl i e = .ok (h', e')) : (∃ c, e[i]? = some (some c)) ∧ h' = .s i ∧ e' = e := by
  unfold mSl at h
  split at h
  · rename_i d' q
    cases h
    exact ⟨⟨_, q⟩, rfl, rfl⟩
  · cases h
theorem pf_var {i : Nat} (h : PE X ex (tVar i)) : PF X ex (mVar i) := PEimp h fun σ H Q ⟨G, F, e, d, e', r, hm, q⟩ => by
  obtain ⟨h1, rfl⟩ := mVar_ok hm
  obtain ⟨v, h2, h3⟩ := r.at_ i _ h1
  exact ⟨v, h2, q v F H (Nx.refl r) h3.fz⟩
theorem ph_var {i : Nat} (h : PE X ex (tVar i)) : PH X ex (mSl i) := PEimp h fun σ H Q ⟨G, F, e, d, e', r, hm, q⟩ => by
  obtain ⟨⟨c, h1⟩, rfl, rfl⟩ := mSl_ok hm
  obtain ⟨v, h2, h3⟩ := r.at_ i _ h1
  exact ⟨v, h2, q v F H (Nx.refl r) ⟨h2, c, h1⟩⟩
/-- a constant -/
def mC (d : D) : M D := fun e => .ok (d, e)
@[simp] theorem mC_ap (d : D) (e : En) : mC d e = .ok (d, e) := rfl
theorem pf_c {v : V} {d : D} (h : PE X ex (tC v)) (hd : ∀ F, Dn X.K F v d) : PF X ex (mC d) := PEimp h fun σ H Q ⟨G, F, e, d', e', r, hm, q⟩ => by
  cases hm
  exact q v F H (Nx.refl r) (hd F)
theorem pf_int {i : Int} {j : Nat} : PF X (.Constant (.int i) j pos) (mC (.int i)) := pf_c pe_int fun _ => .int i
theorem pf_bl {b : Bool} {j : Nat} : PF X (.Constant (.bool b) j pos) (mC (.bool b)) := pf_c pe_bl fun _ => .bl b
theorem pf_non {j : Nat} : PF X (.Constant .none j pos) (mC .none) := pf_c pe_non fun _ => .non
theorem pf_str {x : Str} {j : Nat} : PF X (.Constant (.str x) j pos) (mC (.str x)) := pf_c pe_str fun _ => .str x

/-! ### operations on values -/
/-- the operation r on two values does what g says of data -/
def Snd2 (K : PySem.W.Frag) (r : R2) (g : D → D → Rs Ce) : Prop := ∀ (F H : Hp) (x y : V) (dx dy : D) (c : Ce) (Q : VK), Ex F H → Vw K F H dx x → Vw K F H dy y → g dx dy = .ok c →
  (∀ v F' H', Go F H F' H' noA → NAt K H F' H' c v → Q v H') → r x y H Q
def Snd1 (K : PySem.W.Frag) (r : V → Hp → VK → Prop) (g : D → Rs Ce) : Prop := ∀ (F H : Hp) (x : V) (dx : D) (c : Ce) (Q : VK), Ex F H → Vw K F H dx x → g dx = .ok c →
  (∀ v F' H', Go F H F' H' noA → NAt K H F' H' c v → Q v H') → r x H Q
inductive VwA (K : PySem.W.Frag) (F H : Hp) : List D → List V → Prop where
  | nil : VwA K F H [] []
  | cons {d : D} {ds : List D} {v : V} {vs : List V} : Vw K F H d v → VwA K F H ds vs → VwA K F H (d :: ds) (v :: vs)
def SndL (K : PySem.W.Frag) (r : List V → Hp → VK → Prop) (g : List D → Rs Ce) : Prop := ∀ (F H : Hp) (xs : List V) (ds : List D) (c : Ce) (Q : VK), Ex F H → VwA K F H ds xs → g ds = .ok c →
  (∀ v F' H', Go F H F' H' noA → NAt K H F' H' c v → Q v H') → r xs H Q
def m2 (g : D → D → Rs Ce) (ma mb : M Hd) : M Ce := fun e => (ma e).bind fun p => (mb p.2).bind fun q => (p.1.get q.2).bind fun x => (q.1.get q.2).bind fun y => (g x y).bind fun c => .ok (c, q.2)
def m1 (g : D → Rs Ce) (ma : M Hd) : M Ce := fun e => (ma e).bind fun p => (p.1.get p.2).bind fun x => (g x).bind fun c => .ok (c, p.2)
def gets : List Hd → En → Rs (List D)
  | [], _ => .ok []
  | h :: hs, e => (h.get e).bind fun d => (gets hs e).bind fun ds => .ok (d :: ds)
def mL (g : List D → Rs Ce) (ma : M (List Hd)) : M Ce := fun e => (ma e).bind fun p => (gets p.1 p.2).bind fun xs => (g xs).bind fun c => .ok (c, p.2)
/-- the shape that all two-place rules share -/
theorem op2 {r : R2} {g : D → D → Rs Ce} (hs : Snd2 K r g) {ma mb : M Hd} {σ : L2.St} {H : Hp} {Q : VK} (h : tN K (m2 g ma mb) σ H Q) : tOp r (tH K ma) (tH K mb) σ H Q := by
  obtain ⟨G, F, e, c, e', rr, hm, q⟩ := h
  obtain ⟨x, e1, h1, hm⟩ := bind_ok2 hm
  obtain ⟨y, e2, h2, hm⟩ := bind_ok2 hm
  obtain ⟨dx, h3, hm⟩ := Rs.bind_eq hm
  obtain ⟨dy, h4, hm⟩ := Rs.bind_eq hm
  obtain ⟨c', h5, hm⟩ := Rs.bind_eq hm
  cases hm
  refine ⟨G, F, e, x, e1, rr, h1, fun vx F1 H1 n1 hx => ⟨G, F1, e1, y, e2, n1.r, h2, fun vy F2 H2 n2 hy => ?_⟩⟩
  refine hs F2 H2 vx vy dx dy c Q n2.r.fh ((hx.nx n2).vw n2.r h3) (hy.vw n2.r h4) h5 fun v F' H' go nat => ?_
  have n12 := n1.trans n2
  exact q v F' H' (n12.trans (n2.r.step go)) (nat.back n12.go rr.fh)
theorem op1 {r : V → Hp → VK → Prop} {g : D → Rs Ce} (hs : Snd1 K r g) {ma : M Hd} {σ : L2.St} {H : Hp} {Q : VK} (h : tN K (m1 g ma) σ H Q) : (tH K ma) σ H fun x H1 => r x H1 Q := by
  obtain ⟨G, F, e, c, e', rr, hm, q⟩ := h
  obtain ⟨x, e1, h1, hm⟩ := bind_ok2 hm
  obtain ⟨dx, h3, hm⟩ := Rs.bind_eq hm
  obtain ⟨c', h5, hm⟩ := Rs.bind_eq hm
  cases hm
  refine ⟨G, F, e, x, _, rr, h1, fun vx F1 H1 n1 hx => ?_⟩
  refine hs F1 H1 vx dx c Q n1.r.fh (hx.vw n1.r h3) h5 fun v F' H' go nat => ?_
  exact q v F' H' (n1.trans (n1.r.step go)) (nat.back n1.go rr.fh)
theorem HAs.vw {G : Bs} {σ : L2.St} {F H : Hp} {e : En} (r : R K G F H σ e) : ∀ {hs : List Hd} {vs : List V} {ds : List D}, HAs K G σ F H e hs vs → gets hs e = .ok ds → VwA K F H ds vs
  | _, _, _, .nil, g => by cases g; exact .nil
  | _, _, _, .cons h t, g => by
    obtain ⟨d, h1, g⟩ := Rs.bind_eq g
    obtain ⟨ds, h2, g⟩ := Rs.bind_eq g
    cases g
    exact .cons (h.vw r h1) (HAs.vw r t h2)
theorem HAs.nx {G : Bs} {σ : L2.St} {F H F1 H1 : Hp} {e e1 : En} (n : Nx K G σ F H e F1 H1 e1) : ∀ {hs : List Hd} {vs : List V}, HAs K G σ F H e hs vs → HAs K G σ F1 H1 e1 hs vs
  | _, _, .nil => .nil
  | _, _, .cons h t => .cons (h.nx n) (HAs.nx n t)
theorem opL {r : List V → Hp → VK → Prop} {g : List D → Rs Ce} (hs : SndL K r g) {ma : M (List Hd)} {σ : L2.St} {H : Hp} {Q : VK} (h : tN K (mL g ma) σ H Q) : tCB r (tHA K ma) σ H Q := by
  obtain ⟨G, F, e, c, e', rr, hm, q⟩ := h
  obtain ⟨x, e1, h1, hm⟩ := bind_ok2 hm
  obtain ⟨dx, h3, hm⟩ := Rs.bind_eq hm
  obtain ⟨c', h5, hm⟩ := Rs.bind_eq hm
  cases hm
  refine ⟨G, F, e, x, _, rr, h1, fun vx F1 H1 n1 hx => ?_⟩
  refine hs F1 H1 vx dx c Q n1.r.fh (hx.vw n1.r h3) h5 fun v F' H' go nat => ?_
  exact q v F' H' (n1.trans (n1.r.step go)) (nat.back n1.go rr.fh)

/-! ### arguments -/
def aNil {α : Type} : M (List α) := fun e => .ok ([], e)
def aCons {α : Type} (m : M α) (ms : M (List α)) : M (List α) := fun e => (m e).bind fun p => (ms p.2).bind fun q => .ok (p.1 :: q.1, q.2)
theorem pad_nil : PAd X [] aNil := PAimp pa_nil fun σ H Q ⟨G, F, e, d, e', r, hm, q⟩ => by
  cases hm
  exact q [] F H (Nx.refl r) .nil
theorem pad_cons {m : M D} {ms : M (List D)} (ha : PF X ex m) (hr : PAd X es ms) (hs : starEach (ex :: es) X.env = (false, eval ex X.env) :: starEach es X.env := by rfl) : PAd X (ex :: es) (aCons m ms) := PAimp (pa_cons ha hr hs) fun σ H Q ⟨G, F, e, d, e', r, hm, q⟩ => by
  obtain ⟨x, e1, h1, hm⟩ := bind_ok2 hm
  obtain ⟨y, e2, h2, hm⟩ := bind_ok2 hm
  cases hm
  exact ⟨G, F, e, x, e1, r, h1, fun v F1 H1 n1 hd => ⟨G, F1, e1, y, e2, n1.r, h2, fun vs F2 H2 n2 hds => q (v :: vs) F2 H2 (n1.trans n2) (.cons (n2.dn hd) hds)⟩⟩
theorem pah_nil : PAh X [] aNil := PAimp pa_nil fun σ H Q ⟨G, F, e, d, e', r, hm, q⟩ => by
  cases hm
  exact q [] F H (Nx.refl r) .nil
theorem pah_cons {m : M Hd} {ms : M (List Hd)} (ha : PH X ex m) (hr : PAh X es ms) (hs : starEach (ex :: es) X.env = (false, eval ex X.env) :: starEach es X.env := by rfl) : PAh X (ex :: es) (aCons m ms) := PAimp (pa_cons ha hr hs) fun σ H Q ⟨G, F, e, d, e', r, hm, q⟩ => by
  obtain ⟨x, e1, h1, hm⟩ := bind_ok2 hm
  obtain ⟨y, e2, h2, hm⟩ := bind_ok2 hm
  cases hm
  exact ⟨G, F, e, x, e1, r, h1, fun v F1 H1 n1 hd => ⟨G, F1, e1, y, e2, n1.r, h2, fun vs F2 H2 n2 hds => q (v :: vs) F2 H2 (n1.trans n2) (.cons (hd.nx n2) hds)⟩⟩

/-! ### the rules -/
theorem pn_op {op : Operator} {r : R2} {g : D → D → Rs Ce} {ma mb : M Hd} (ho : OpR X (binaryOp op) r) (hs : Snd2 X.K r g) (ha : PH X ex ma) (hb : PH X ey mb) : PN X (.BinOp ex op ey pos) (m2 g ma mb) := PEimp (pe_op ho ha hb) fun σ H Q h => op2 hs h
theorem pn_cmp {op : CmpOp} {r : R2} {g : D → D → Rs Ce} {ma mb : M Hd} (ho : OpR X (compareOp op) r) (hs : Snd2 X.K r g) (hm : behindInMarks op ey = false) (ha : PH X ex ma) (hb : PH X ey mb) : PN X (.Compare ex [op] [ey] pos) (m2 g ma mb) := PEimp (pe_cmpR ho ha hb hm) fun σ H Q h => op2 hs h
def mBool (m : M Ce) : M Bool := fun e => (m e).bind fun p => match p.1 with
  | .f (.bool b) => .ok (b, p.2)
  | _ => .no
theorem mBool_ok {m : M Ce} {e e' : En} {b : Bool} (h : mBool m e = .ok (b, e')) : m e = .ok (.f (.bool b), e') := by
  obtain ⟨c, e1, h1, h2⟩ := bind_ok2 h
  simp only at h2
  split at h2
  · cases h2
    exact h1
  · cases h2
theorem bool_test {m : M Ce} {σ : L2.St} {H : Hp} {Q : Bool → Hp → Prop} (h : tT K (mBool m) σ H Q) : tN K m σ H fun x H' => ∃ k, x = .bl k ∧ Q k H' := by
  obtain ⟨G, F, e, b, e', r, hm, q⟩ := h
  exact ⟨G, F, e, _, e', r, mBool_ok hm, fun v F' H' n hn => ⟨b, hn.fz.bool_inv, q F' H' n⟩⟩
theorem ptd_cmp {op : CmpOp} {r : R2} {g : D → D → Rs Ce} {ma mb : M Hd} (ho : OpR X (compareOp op) r) (hs : Snd2 X.K r g) (hm : behindInMarks op ey = false) (ha : PH X ex ma) (hb : PH X ey mb) : PTd X (.Compare ex [op] [ey] pos) (mBool (m2 g ma mb)) :=
  PTimp (pt_cmpR ho ha hb hm) fun σ H Q h => op2 hs (bool_test h)
theorem pn_un {op : UnaryOp} {r : V → Hp → VK → Prop} {g : D → Rs Ce} {ma : M Hd} (ho : UnR X (unaryOp op) r) (hs : Snd1 X.K r g) (ha : PH X ex ma) : PN X (.UnaryOp op ex pos) (m1 g ma) := PEimp (pe_un ho ha) fun σ H Q h => op1 hs h
theorem pn_ix {r : R2} {g : D → D → Rs Ce} {ma mb : M Hd} (ho : IxR X r) (hs : Snd2 X.K r g) (ha : PH X ex ma) (hb : PH X ey mb) (hp : PlainIx ey) : PN X (.Subscript ex ey pos) (m2 g ma mb) := PEimp (pe_ix ho ha hb hp) fun σ H Q h => op2 hs h
theorem pn_bi {x : Str} {p : Pos} {id : String} {r : List V → Hp → VK → Prop} {g : List D → Rs Ce} {ma : M (List Hd)} (hc : CallR X (.builtin id) r) (hs : SndL X.K r g) (hg : Gl X x) (hm : X.mg x = none) (hv : bootBuiltins x = some (.builtin id)) (ha : PAh X (ex :: es) ma)
    (hn : x ≠ "__name__" := by decide) (hdb : (x == ("__debug__" : Str)) = false := by decide) (he : starEach (ex :: es) X.env = (false, eval ex X.env) :: starEach es X.env := by rfl) (hpl : (backTo pos (starEach es X.env)).any (·.1) = false := by rfl) :
    PN X (.Call (.Name x p) (ex :: es) [] pos) (mL g ma) := PEimp (pe_callB hc hg hm hv ha hn hdb he hpl) fun σ H Q h => opL hs h
theorem pn_ty {x : Str} {p : Pos} {T : String} {r : List V → Hp → VK → Prop} {g : List D → Rs Ce} {ma : M (List Hd)} (hc : CallR X (.type T) r) (hs : SndL X.K r g) (hg : Gl X x) (hm : X.mg x = none) (hv : bootBuiltins x = some (.type T)) (ha : PAh X (ex :: es) ma)
    (hn : x ≠ "__name__" := by decide) (hdb : (x == ("__debug__" : Str)) = false := by decide) (he : starEach (ex :: es) X.env = (false, eval ex X.env) :: starEach es X.env := by rfl) (hpl : (backTo pos (starEach es X.env)).any (·.1) = false := by rfl) :
    PN X (.Call (.Name x p) (ex :: es) [] pos) (mL g ma) := PEimp (pe_callTy hc hg hm hv ha hn hdb he hpl) fun σ H Q h => opL hs h
/-- a module's name for a built-in function (from math import gcd) -/
theorem pn_fun {x : Str} {p : Pos} {id : String} {r : List V → Hp → VK → Prop} {g : List D → Rs Ce} {ma : M (List Hd)} (hc : CallR X (.builtin id) r) (hs : SndL X.K r g) (hg : Gl X x) (hm : X.mg x = some (.builtin id)) (ha : PAh X (ex :: es) ma)
    (hdb : (x == ("__debug__" : Str)) = false := by decide) (he : starEach (ex :: es) X.env = (false, eval ex X.env) :: starEach es X.env := by rfl) (hpl : (backTo pos (starEach es X.env)).any (·.1) = false := by rfl) :
    PN X (.Call (.Name x p) (ex :: es) [] pos) (mL g ma) := PEimp (pe_callBfun hc hg hm ha hdb he hpl) fun σ H Q h => opL hs h
def mTup (ma : M (List D)) : M D := fun e => (ma e).bind fun p => if p.1.length ≤ sizeLine then .ok (.tuple p.1, p.2) else .no
def mLst (ma : M (List D)) : M Ce := fun e => (ma e).bind fun p => if p.1.length ≤ sizeLine then .ok (.l false p.1, p.2) else .no
theorem ite_ok {α : Type} {c : Prop} [Decidable c] {x : Rs α} {a : α} (h : (if c then x else .no) = .ok a) : c ∧ x = .ok a := by
  by_cases hc : c
  · rw [if_pos hc] at h; exact ⟨hc, h⟩
  · rw [if_neg hc] at h; cases h
theorem pf_tup {k : Nat} {ma : M (List D)} (ha : PAd X es ma) : PF X (.Tuple es k pos) (mTup ma) := PEimp (pe_tup ha) fun σ H Q ⟨G, F, e, d, e', r, hm, q⟩ => by
  obtain ⟨ds, e1, h1, hm⟩ := bind_ok2 hm
  obtain ⟨hz, hm⟩ := ite_ok hm
  cases hm
  refine ⟨G, F, e, ds, _, r, h1, fun vs F1 H1 n hd => ⟨by rw [hd.len]; exact hz, fun p hp => ?_⟩⟩
  have go : Go F1 H1 (upd F1 p (.tup vs)) (upd H1 p (.tup vs)) noA := Go.newF n.r.fh hp
  exact q _ _ _ (n.trans (n.r.step go)) (.tup upd_same (hd.mono go.ff))
theorem pn_lst {ma : M (List D)} (ha : PAd X es ma) : PN X (.List es pos) (mLst ma) := PEimp (pe_lst ha) fun σ H Q ⟨G, F, e, d, e', r, hm, q⟩ => by
  obtain ⟨ds, e1, h1, hm⟩ := bind_ok2 hm
  obtain ⟨hz, hm⟩ := ite_ok hm
  cases hm
  refine ⟨G, F, e, ds, _, r, h1, fun vs F1 H1 n hd => ⟨by rw [hd.len]; exact hz, fun p hp => ?_⟩⟩
  have go : Go F1 H1 F1 (upd H1 p (.lst vs)) noA := Go.newO n.r.fh hp
  exact q _ _ _ (n.trans (n.r.step go)) (.inr ⟨rfl, p, _, vs, rfl, n.go.old r.fh hp, ex_none n.r.fh hp, upd_same, rfl, hd⟩)
def mIf {α : Type} (t : M Bool) (a b : M α) : M α := fun e => (t e).bind fun p => if p.1 = true then a p.2 else b p.2
theorem pn_if {t : M Bool} {ma mb : M Ce} (ht : PTd X ez t) (ha : PN X ex ma) (hb : PN X ey mb) : PN X (.IfExp ez ex ey pos) (mIf t ma mb) := PEimp (pe_ifExp ht ha hb) fun σ H Q ⟨G, F, e, c, e', r, hm, q⟩ => by
  obtain ⟨b, e1, h1, hm⟩ := bind_ok2 hm
  refine ⟨G, F, e, b, e1, r, h1, fun F1 H1 n => ?_⟩
  cases b with
  | true => exact ⟨G, F1, e1, c, e', n.r, hm, fun v F' H' n' hn => q v F' H' (n.trans n') (hn.back n.go r.fh)⟩
  | false => exact ⟨G, F1, e1, c, e', n.r, hm, fun v F' H' n' hn => q v F' H' (n.trans n') (hn.back n.go r.fh)⟩
/-! tests -/
def mAnd (a b : M Bool) : M Bool := fun e => (a e).bind fun p => if p.1 = true then b p.2 else .ok (false, p.2)
def mOr (a b : M Bool) : M Bool := fun e => (a e).bind fun p => if p.1 = true then .ok (true, p.2) else b p.2
def mNot (a : M Bool) : M Bool := fun e => (a e).bind fun p => .ok (!p.1, p.2)
theorem pwd_and1 {a : M Bool} (h : PTd X ex a) : PWd X (.BoolOp .And [ex] pos) a := pw_and1 h
theorem pwd_or1 {a : M Bool} (h : PTd X ex a) : PWd X (.BoolOp .Or [ex] pos) a := pw_or1 h
theorem pwd_and {a b : M Bool} (h : PTd X ex a) (hb : PWd X (.BoolOp .And (ey :: es) pos) b) : PWd X (.BoolOp .And (ex :: ey :: es) pos) (mAnd a b) := PWimp (pw_and h hb) fun σ H Q ⟨G, F, e, c, e', r, hm, q⟩ => by
  obtain ⟨k, e1, h1, hm⟩ := bind_ok2 hm
  refine ⟨G, F, e, k, e1, r, h1, fun F1 H1 n => ?_⟩
  cases k with
  | true => exact ⟨G, F1, e1, c, e', n.r, hm, fun F' H' n' => q F' H' (n.trans n')⟩
  | false =>
    cases hm
    exact q F1 H1 n
theorem pwd_or {a b : M Bool} (h : PTd X ex a) (hb : PWd X (.BoolOp .Or (ey :: es) pos) b) : PWd X (.BoolOp .Or (ex :: ey :: es) pos) (mOr a b) := PWimp (pw_or h hb) fun σ H Q ⟨G, F, e, c, e', r, hm, q⟩ => by
  obtain ⟨k, e1, h1, hm⟩ := bind_ok2 hm
  refine ⟨G, F, e, k, e1, r, h1, fun F1 H1 n => ?_⟩
  cases k with
  | true =>
    cases hm
    exact q F1 H1 n
  | false => exact ⟨G, F1, e1, c, e', n.r, hm, fun F' H' n' => q F' H' (n.trans n')⟩
theorem ptd_w {a : M Bool} (h : PWd X ex a) : PTd X ex a := h.pt
theorem ptd_not {a : M Bool} (h : PTd X ex a) : PTd X (.UnaryOp .Not ex pos) (mNot a) := PTimp (pt_not h) fun σ H Q ⟨G, F, e, c, e', r, hm, q⟩ => by
  obtain ⟨k, e1, h1, hm⟩ := bind_ok2 hm
  cases hm
  exact ⟨G, F, e, k, _, r, h1, fun F1 H1 n => q F1 H1 n⟩
/-! and, or, not as values: bools (the last of and, or anything) -/
def mAndV (a b : M Ce) : M Ce := fun e => (a e).bind fun p => match p.1 with
  | .f (.bool true) => b p.2
  | .f (.bool false) => .ok (.f (.bool false), p.2)
  | _ => .no
def mOrV (a b : M Ce) : M Ce := fun e => (a e).bind fun p => match p.1 with
  | .f (.bool true) => .ok (.f (.bool true), p.2)
  | .f (.bool false) => b p.2
  | _ => .no
def mNotV (a : M Ce) : M D := fun e => (a e).bind fun p => match p.1 with
  | .f (.bool b) => .ok (.bool (!b), p.2)
  | _ => .no
theorem pn_one {op : BoolOp} {a : M Ce} (h : PN X ex a) : PN X (.BoolOp op [ex] pos) a := pe_one h
theorem pn_and {a b : M Ce} (h : PN X ex a) (hb : PN X (.BoolOp .And (ey :: es) pos) b) : PN X (.BoolOp .And (ex :: ey :: es) pos) (mAndV a b) := PEimp (pe_and h hb) fun σ H Q ⟨G, F, e, c, e', r, hm, q⟩ => by
  obtain ⟨k, e1, h1, hm⟩ := bind_ok2 hm
  refine ⟨G, F, e, k, e1, r, h1, fun v F1 H1 n hn => ?_⟩
  simp only at hm
  split at hm
  · exact ⟨true, hn.fz.bool_inv, ⟨G, F1, e1, c, e', n.r, hm, fun v F' H' n' hn' => q v F' H' (n.trans n') (hn'.back n.go r.fh)⟩⟩
  · cases hm
    exact ⟨false, hn.fz.bool_inv, q _ F1 H1 n (.inl ⟨_, rfl, .bl _⟩)⟩
  · cases hm
theorem pn_or {a b : M Ce} (h : PN X ex a) (hb : PN X (.BoolOp .Or (ey :: es) pos) b) : PN X (.BoolOp .Or (ex :: ey :: es) pos) (mOrV a b) := PEimp (pe_or h hb) fun σ H Q ⟨G, F, e, c, e', r, hm, q⟩ => by
  obtain ⟨k, e1, h1, hm⟩ := bind_ok2 hm
  refine ⟨G, F, e, k, e1, r, h1, fun v F1 H1 n hn => ?_⟩
  simp only at hm
  split at hm
  · cases hm
    exact ⟨true, hn.fz.bool_inv, q _ F1 H1 n (.inl ⟨_, rfl, .bl _⟩)⟩
  · exact ⟨false, hn.fz.bool_inv, ⟨G, F1, e1, c, e', n.r, hm, fun v F' H' n' hn' => q v F' H' (n.trans n') (hn'.back n.go r.fh)⟩⟩
  · cases hm
theorem pf_not {a : M Ce} (h : PN X ex a) : PF X (.UnaryOp .Not ex pos) (mNotV a) := PEimp (pe_not h) fun σ H Q ⟨G, F, e, c, e', r, hm, q⟩ => by
  obtain ⟨k, e1, h1, hm⟩ := bind_ok2 hm
  simp only at hm
  split at hm
  · cases hm
    exact ⟨G, F, e, _, _, r, h1, fun v F1 H1 n hn => ⟨_, hn.fz.bool_inv, q _ F1 H1 n (.bl _)⟩⟩
  · cases hm
/-! truth -/
def D.truth : D → Rs Bool
  | .none => .ok false
  | .bool b => .ok b
  | .int i => .ok (i != 0)
  | .str s => if s.length ≤ sizeLine then .ok ((s.length : Int) != 0) else .no
  | .list ds => .ok (!ds.isEmpty)
  | .ro ds => .ok (!ds.isEmpty)
  | .tuple ds => .ok (!ds.isEmpty)
  | .dict _ _ _ => .no
theorem DnA.emp {vs : List V} {ds : List D} (h : DnA K F vs ds) : vs.isEmpty = ds.isEmpty := by cases h <;> rfl
theorem Vw.tru {b : Bool} {dx : D} {x : V} (h : Vw K F H dx x) (fh : Ex F H) (e : dx.truth = .ok b) : TruV K x H b := by
  cases dx with
  | none => rw [h.none]; cases e; rfl
  | bool b => rw [h.bool]; cases e; rfl
  | int i => rw [h.int]; cases e; rfl
  | str s =>
    rw [h.str]
    obtain ⟨h1, h2⟩ := ite_ok e
    cases h2
    exact ⟨h1, rfl⟩
  | list ds =>
    obtain ⟨a, xs, rfl, h1, h2⟩ := h.list fh
    cases e
    exact .inl ⟨xs, SqL.of h1, by rw [h2.emp]⟩
  | ro ds =>
    obtain ⟨a, xs, rfl, h1, h2⟩ := h.ro fh
    cases e
    exact .inl ⟨xs, h1, by rw [h2.emp]⟩
  | tuple ds =>
    obtain ⟨a, xs, rfl, h1, h2, _⟩ := h.tuple fh
    cases e
    exact .inr (.inl ⟨xs, h1, by rw [h2.emp]⟩)
  | dict ks vs => cases e
def mTru (m : M Hd) : M Bool := fun e => (m e).bind fun p => (p.1.get p.2).bind fun d => d.truth.bind fun b => .ok (b, p.2)
theorem ptd_tru {m : M Hd} (h : PH X ex m) (he : ∀ whole, isTrue ex X.env whole = (do let v ← whole; standAt ex.pos; holding [v] (truthy v)) := by intro _; rfl) : PTd X ex (mTru m) := PTimp (pt_truth h he) fun σ H Q ⟨G, F, e, c, e', r, hm, q⟩ => by
  obtain ⟨k, e1, h1, hm⟩ := bind_ok2 hm
  obtain ⟨d, h2, hm⟩ := Rs.bind_eq hm
  obtain ⟨b, h3, hm⟩ := Rs.bind_eq hm
  cases hm
  exact ⟨G, F, e, k, _, r, h1, fun v F1 H1 n hn => ⟨_, (hn.vw n.r h2).tru n.r.fh h3, q F1 H1 n⟩⟩
/-! chains -/
def mChain (g g' : D → D → Rs Ce) (ma mb mc : M Hd) : M Ce := fun e => (ma e).bind fun p => (mb p.2).bind fun q => (p.1.get q.2).bind fun x => (q.1.get q.2).bind fun y => (g x y).bind fun c => match c with
  | .f (.bool true) => (mc q.2).bind fun z => (q.1.get z.2).bind fun y' => (z.1.get z.2).bind fun w => (g' y' w).bind fun c' => .ok (c', z.2)
  | .f (.bool false) => .ok (.f (.bool false), q.2)
  | _ => .no
theorem opC {r r' : R2} {g g' : D → D → Rs Ce} (hs : Snd2 K r g) (hs' : Snd2 K r' g') {ma mb mc : M Hd} {σ : L2.St} {H : Hp} {Q : VK} (h : tN K (mChain g g' ma mb mc) σ H Q) : tChain r r' (tH K ma) (tH K mb) (tH K mc) σ H Q := by
  obtain ⟨G, F, e, c, e', rr, hm, q⟩ := h
  obtain ⟨x, e1, h1, hm⟩ := bind_ok2 hm
  obtain ⟨y, e2, h2, hm⟩ := bind_ok2 hm
  obtain ⟨dx, h3, hm⟩ := Rs.bind_eq hm
  obtain ⟨dy, h4, hm⟩ := Rs.bind_eq hm
  obtain ⟨c', h5, hm⟩ := Rs.bind_eq hm
  refine ⟨G, F, e, x, e1, rr, h1, fun vx F1 H1 n1 hx => ⟨G, F1, e1, y, e2, n1.r, h2, fun vy F2 H2 n2 hy => ?_⟩⟩
  refine hs F2 H2 vx vy dx dy c' _ n2.r.fh ((hx.nx n2).vw n2.r h3) (hy.vw n2.r h4) h5 fun v F' H' go nat => ?_
  have n12 := n1.trans n2
  have n3 := n2.r.step go
  simp only at hm
  split at hm
  · obtain ⟨z, e3, h6, hm⟩ := bind_ok2 hm
    obtain ⟨dy', h7, hm⟩ := Rs.bind_eq hm
    obtain ⟨dz, h8, hm⟩ := Rs.bind_eq hm
    obtain ⟨c2, h9, hm⟩ := Rs.bind_eq hm
    cases hm
    refine ⟨true, nat.fz.bool_inv, ⟨G, F', e2, z, e3, n3.r, h6, fun vz F4 H4 n4 hz => ?_⟩⟩
    refine hs' F4 H4 vy vz dy' dz c Q n4.r.fh (((hy.nx n3).nx n4).vw n4.r h7) (hz.vw n4.r h8) h9 fun v2 F5 H5 go5 nat5 => ?_
    have nn := (n12.trans n3).trans n4
    exact q v2 F5 H5 (nn.trans (n4.r.step go5)) (nat5.back nn.go rr.fh)
  · cases hm
    exact ⟨false, nat.fz.bool_inv, q _ F' H' (n12.trans n3) (.inl ⟨_, rfl, .bl _⟩)⟩
  · cases hm
theorem pn_chain {op op' : CmpOp} {r r' : R2} {g g' : D → D → Rs Ce} {ma mb mc : M Hd} (ho : OpR X (compareOp op) r) (hs : Snd2 X.K r g) (ho' : OpR X (compareOp op') r') (hs' : Snd2 X.K r' g') (ha : PH X ex ma) (hb : PH X ey mb) (hc : PH X ez mc)
    (hm : lastMarks [op, op'] [ey, ez] = false := by with_unfolding_all rfl) : PN X (.Compare ex [op, op'] [ey, ez] pos) (mChain g g' ma mb mc) := PEimp (pe_chain ho ho' ha hb hc hm) fun σ H Q h => opC hs hs' h
theorem ptd_chain {op op' : CmpOp} {r r' : R2} {g g' : D → D → Rs Ce} {ma mb mc : M Hd} (ho : OpR X (compareOp op) r) (hs : Snd2 X.K r g) (ho' : OpR X (compareOp op') r') (hs' : Snd2 X.K r' g') (ha : PH X ex ma) (hb : PH X ey mb) (hc : PH X ez mc)
    (hm : lastMarks [op, op'] [ey, ez] = false := by with_unfolding_all rfl) : PTd X (.Compare ex [op, op'] [ey, ez] pos) (mBool (mChain g g' ma mb mc)) := PTimp (pt_chain ho ho' ha hb hc hm) fun σ H Q h => opC hs hs' (bool_test h)
end
end DL

namespace DL
open PySem L2 PyProof.Rows

/-! ### equality of data -/
mutual
def D.toPy : D → PyData
  | .none => .none
  | .bool b => .bool b
  | .int i => .int i
  | .str s => .str s
  | .list ds => .list (D.toPyA ds)
  | .ro ds => .list (D.toPyA ds)
  | .tuple ds => .tuple (D.toPyA ds)
  | .dict _ _ _ => .dict []
def D.toPyA : List D → List PyData
  | [] => []
  | d :: ds => D.toPy d :: D.toPyA ds
end
mutual
/-- data without dicts, its texts of true signs, nested so deep at most -/
def D.pl : Nat → D → Bool
  | _, .none => true
  | _, .bool _ => true
  | _, .int _ => true
  | _, .str s => s.cps.all (· < 0x110000)
  | n, .list ds => D.plA n ds
  | n, .ro ds => D.plA n ds
  | n, .tuple ds => D.plA n ds
  | _, .dict _ _ _ => false
def D.plA : Nat → List D → Bool
  | _, [] => true
  | n, d :: ds => (match n with
    | 0 => false
    | n + 1 => D.pl n d) && D.plA n ds
end
mutual
def D.eqb : D → D → Bool
  | .none, .none => true
  | .bool a, .bool b => a == b
  | .bool a, .int j => (if a then 1 else 0) == j
  | .int i, .bool b => i == (if b then 1 else 0)
  | .int i, .int j => i == j
  | .str x, .str y => x == y
  | .list xs, .list ys => D.eqbA xs ys
  | .list xs, .ro ys => D.eqbA xs ys
  | .ro xs, .list ys => D.eqbA xs ys
  | .ro xs, .ro ys => D.eqbA xs ys
  | .tuple xs, .tuple ys => D.eqbA xs ys
  | _, _ => false
def D.eqbA : List D → List D → Bool
  | [], [] => true
  | x :: xs, y :: ys => D.eqb x y && D.eqbA xs ys
  | _, _ => false
end
section
variable {K : PySem.W.Frag} {F H : Hp}
mutual
theorem Dn.dp : ∀ {v : V} {d : D} {n : Nat}, Dn K F v d → d.pl n = true → Dp K F v d.toPy
  | _, _, _, .non, _ => by unfold D.toPy; exact .non
  | _, _, _, .bl b, _ => by unfold D.toPy; exact .bl b
  | _, _, _, .int i, _ => by unfold D.toPy; exact .int i
  | _, _, _, .str x, _ => by unfold D.toPy; exact .str x
  | _, _, _, .lst h ha, p => by unfold D.toPy; unfold D.pl at p; exact .lst (SqL.of h) (DnA.dp ha p)
  | _, _, _, .ro h ha, p => by unfold D.toPy; unfold D.pl at p; exact .lst h (DnA.dp ha p)
  | _, _, _, .tup h ha, p => by unfold D.toPy; unfold D.pl at p; exact .tup (SqT.of h) (DnA.dp ha p)
  | _, _, _, .dic _ _ _, p => by unfold D.pl at p; cases p
theorem DnA.dp : ∀ {vs : List V} {ds : List D} {n : Nat}, DnA K F vs ds → D.plA n ds = true → DpAll K F vs (D.toPyA ds)
  | _, _, _, .nil, _ => by unfold D.toPyA; exact .nil
  | _, _, 0, .cons h ha, p => by unfold D.plA at p; simp at p
  | _, _, n + 1, .cons h ha, p => by
    unfold D.plA at p
    unfold D.toPyA
    have p' := Bool.and_eq_true_iff.mp p
    exact .cons (Dn.dp h p'.1) (DnA.dp ha p'.2)
end
mutual
theorem dp_mono (e : Ex F H) : ∀ {v : V} {d : PyData}, Dp K F v d → Dp K H v d
  | _, _, .non => .non
  | _, _, .bl b => .bl b
  | _, _, .int i => .int i
  | _, _, .str x => .str x
  | _, _, .lst h ha => .lst (Evl.ex_l e h) (dpA_mono e ha)
  | _, _, .tup h ha => .tup (Evl.ex_t e h) (dpA_mono e ha)
theorem dpA_mono (e : Ex F H) : ∀ {vs : List V} {ds : List PyData}, DpAll K F vs ds → DpAll K H vs ds
  | _, _, .nil => .nil
  | _, _, .cons h ha => .cons (dp_mono e h) (dpA_mono e ha)
end
mutual
theorem D.pl_ok : ∀ {d : D} {n : Nat}, d.pl n = true → d.toPy.canLay0 = true ∧ d.toPy.depth ≤ n + 1
  | .none, _, _ => by simp [D.toPy, PyData.canLay0, PyData.depth]
  | .bool _, _, _ => by simp [D.toPy, PyData.canLay0, PyData.depth]
  | .int _, _, _ => by simp [D.toPy, PyData.canLay0, PyData.depth]
  | .str s, _, p => by
    unfold D.pl at p
    unfold D.toPy PyData.canLay0 PyData.depth
    exact ⟨p, Nat.zero_le _⟩
  | .list ds, n, p => by
    unfold D.pl at p
    have := D.plA_ok p
    simp only [D.toPy, PyData.canLay0, PyData.depth]
    exact ⟨this.1, by have := this.2; omega⟩
  | .ro ds, n, p => by
    unfold D.pl at p
    have := D.plA_ok p
    simp only [D.toPy, PyData.canLay0, PyData.depth]
    exact ⟨this.1, by have := this.2; omega⟩
  | .tuple ds, n, p => by
    unfold D.pl at p
    have := D.plA_ok p
    simp only [D.toPy, PyData.canLay0, PyData.depth]
    exact ⟨this.1, by have := this.2; omega⟩
  | .dict _ _ _, _, p => by unfold D.pl at p; cases p
theorem D.plA_ok : ∀ {ds : List D} {n : Nat}, D.plA n ds = true → PyData.canLayAll0 (D.toPyA ds) = true ∧ PyData.depthAll (D.toPyA ds) ≤ n
  | [], n, _ => by simp [D.toPyA, PyData.canLayAll0, PyData.depthAll]
  | d :: ds, 0, p => by unfold D.plA at p; simp at p
  | d :: ds, n + 1, p => by
    unfold D.plA at p
    have p' := Bool.and_eq_true_iff.mp p
    have h1 := D.pl_ok p'.1
    have h2 := D.plA_ok p'.2
    simp only [D.toPyA, PyData.canLayAll0, PyData.depthAll, h1.1, h2.1, Bool.and_self, true_and]
    omega
end
mutual
theorem D.eqb_py : ∀ {x y : D} {n m : Nat}, x.pl n = true → y.pl m = true → PyData.eqv x.toPy y.toPy = D.eqb x y
  | x, y, n, m, hx, hy => by
    cases x <;> cases y <;> first
      | (unfold D.pl at hx; exact absurd hx (by decide))
      | (unfold D.pl at hy; exact absurd hy (by decide))
      | (simp only [D.toPy, PyData.eqv, D.eqb]; done)
      | (simp only [D.toPy, PyData.eqv, D.eqb]; unfold D.pl at hx hy; exact D.eqb_pyA hx hy)
theorem D.eqb_pyA : ∀ {xs ys : List D} {n m : Nat}, D.plA n xs = true → D.plA m ys = true → PyData.eqvAll (D.toPyA xs) (D.toPyA ys) = D.eqbA xs ys
  | [], [], _, _, _, _ => by simp only [D.toPyA, PyData.eqvAll, D.eqbA]
  | [], y :: ys, _, _, _, _ => by simp only [D.toPyA, PyData.eqvAll, D.eqbA]
  | x :: xs, [], _, _, _, _ => by simp only [D.toPyA, PyData.eqvAll, D.eqbA]
  | x :: xs, y :: ys, 0, _, hx, _ => by unfold D.plA at hx; simp at hx
  | x :: xs, y :: ys, _ + 1, 0, _, hy => by unfold D.plA at hy; simp at hy
  | x :: xs, y :: ys, n + 1, m + 1, hx, hy => by
    unfold D.plA at hx hy
    have hx' := Bool.and_eq_true_iff.mp hx
    have hy' := Bool.and_eq_true_iff.mp hy
    simp only [D.toPyA, PyData.eqvAll, D.eqbA]
    rw [D.eqb_py hx'.1 hy'.1, D.eqb_pyA hx'.2 hy'.2]
end
theorem Vw.dp {v : V} {d : D} (h : Vw K F H d v) (fh : Ex F H) {n : Nat} (p : d.pl n = true) : Dp K H v d.toPy := by
  rcases h with h | ⟨a, o, xs, c, rfl, h1, h2, h3, rfl⟩
  · exact dp_mono fh (h.dp p)
  · cases c with
    | f d => exact h2.elim
    | l q ds =>
      have h2' : o = .lst xs := h2
      subst h2'
      simp only [Ce.d] at p ⊢
      unfold D.pl at p
      unfold D.toPy
      exact .lst (SqL.of h1) (dpA_mono fh (DnA.dp h3 p))
    | k q t ks vs =>
      simp only [Ce.d] at p
      unfold D.pl at p
      cases p
end
/-! plain scalars by themselves -/
def D.sc : D → D → Bool
  | .int _, .int _ => true | .str _, .str _ => true | .bool _, .bool _ => true | .none, .none => true | _, _ => false
def eqD (x y : D) : Rs Ce := if (x.sc y || (x.pl 60 && y.pl 60)) = true then .ok (.f (.bool (D.eqb x y))) else .no
def neD (x y : D) : Rs Ce := if (x.sc y || (x.pl 60 && y.pl 60)) = true then .ok (.f (.bool (!D.eqb x y))) else .no
def rEqA (K : PySem.W.Frag) : R2 := fun x y H Q => rEq x y H Q ∨ rEqD K x y H Q
def rNeA (K : PySem.W.Frag) : R2 := fun x y H Q => rNe x y H Q ∨ rNeD K x y H Q
theorem op_eqA {X : Cx} (hu : X.A.units + 64 < cLine) : OpR X (compareOp .Eq) (rEqA X.K) := op_eq.or (op_eqD hu)
theorem op_neA {X : Cx} (hu : X.A.units + 64 < cLine) : OpR X (compareOp .NotEq) (rNeA X.K) := op_ne.or (op_neD hu)
section
variable {K : PySem.W.Frag} {F H : Hp}
/-- a mere value comes -/
theorem ret1 {c : Ce} {v : V} {d : D} {Q : VK} (fh : Ex F H) (hd : Dn K F v d) (hc : c = .f d) (q : ∀ v F' H', Go F H F' H' noA → NAt K H F' H' c v → Q v H') : Q v H := q v F H (Go.refl fh) (.inl ⟨d, hc, hd⟩)
theorem shaped_pl {d : D} (h : d.pl 60 = true) : SeqAt.shaped d.toPy = true := by
  have := D.pl_ok h
  show (d.toPy.canLay0 && decide (d.toPy.depth ≤ 64)) = true
  rw [this.1, decide_eq_true (show d.toPy.depth ≤ 64 by omega)]
  rfl
theorem dec_vint (i j : Int) : decide (V.int i = V.int j) = (i == j) := dec_int
theorem sc_eq {dx dy : D} {x y : V} (h : dx.sc dy = true) (hx : Vw K F H dx x) (hy : Vw K F H dy y) : scal x y = true ∧ decide (x = y) = D.eqb dx dy := by
  cases dx <;> cases dy <;> first
    | (cases h; done)
    | skip
  · rw [hx.none, hy.none]
    refine ⟨rfl, ?_⟩
    unfold D.eqb
    rfl
  · rw [hx.bool, hy.bool]
    refine ⟨rfl, ?_⟩
    unfold D.eqb
    exact dec_bl
  · rw [hx.int, hy.int]
    refine ⟨rfl, ?_⟩
    unfold D.eqb
    exact dec_int
  · rw [hx.str, hy.str]
    refine ⟨rfl, ?_⟩
    unfold D.eqb
    exact dec_str
theorem snd_eq : Snd2 K (rEqA K) eqD := fun F H x y dx dy c Q fh hx hy hg q => by
  obtain ⟨h1, hg⟩ := ite_ok hg
  have hc : c = .f (.bool (D.eqb dx dy)) := (Rs.ok.inj hg).symm
  by_cases h : dx.sc dy = true
  · obtain ⟨e1, e2⟩ := sc_eq h hx hy
    refine .inl ⟨e1, ?_⟩
    rw [e2]
    exact ret1 fh (.bl _) hc q
  · have h2 : (dx.pl 60 && dy.pl 60) = true := by simpa [h] using h1
    obtain ⟨p1, p2⟩ := Bool.and_eq_true_iff.mp h2
    refine .inr ⟨_, _, hx.dp fh p1, hy.dp fh p2, shaped_pl p1, shaped_pl p2, ?_⟩
    rw [D.eqb_py p1 p2]
    exact ret1 fh (.bl _) hc q
theorem snd_ne : Snd2 K (rNeA K) neD := fun F H x y dx dy c Q fh hx hy hg q => by
  obtain ⟨h1, hg⟩ := ite_ok hg
  have hc : c = .f (.bool (!D.eqb dx dy)) := (Rs.ok.inj hg).symm
  by_cases h : dx.sc dy = true
  · obtain ⟨e1, e2⟩ := sc_eq h hx hy
    refine .inl ⟨e1, ?_⟩
    rw [e2]
    exact ret1 fh (.bl _) hc q
  · have h2 : (dx.pl 60 && dy.pl 60) = true := by simpa [h] using h1
    obtain ⟨p1, p2⟩ := Bool.and_eq_true_iff.mp h2
    refine .inr ⟨_, _, hx.dp fh p1, hy.dp fh p2, shaped_pl p1, shaped_pl p2, ?_⟩
    rw [D.eqb_py p1 p2]
    exact ret1 fh (.bl _) hc q

/-! ### arithmetic -/
def addD : D → D → Rs Ce
  | .int i, .int j => .ok (.f (.int (i + j)))
  | .str a, .str b => if a.length + b.length ≤ sizeLine then .ok (.f (.str (a ++ b))) else .no
  | .tuple a, .tuple b => if a.length + b.length ≤ sizeLine then .ok (.f (.tuple (a ++ b))) else .no
  | .list a, .list b => if a.length + b.length ≤ sizeLine then .ok (.l false (a ++ b)) else .no
  | _, _ => .no
def rAddA (K : PySem.W.Frag) : R2 := fun x y H Q => rI0 (fun i j => .int (i + j)) x y H Q ∨ (∃ i j, x = .str i ∧ y = .str j ∧ i.length + j.length ≤ sizeLine ∧ Q (.str (i ++ j)) H) ∨ rCatA K x y H Q ∨ rCat x y H Q
theorem op_addA {X : Cx} : OpR X (binaryOp .Add) (rAddA X.K) := op_add.or (op_add_str.or (op_catA.or op_cat))
theorem snd_add : Snd2 K (rAddA K) addD := fun F H x y dx dy c Q fh hx hy hg q => by
  cases dx <;> cases dy <;> first
    | (cases hg; done)
    | skip
  · rename_i i j
    cases hg
    rw [hx.int, hy.int]
    exact .inl ⟨i, j, rfl, rfl, ret1 fh (.int _) rfl q⟩
  · rename_i i j
    obtain ⟨h1, hg⟩ := ite_ok hg
    cases hg
    rw [hx.str, hy.str]
    exact .inr (.inl ⟨i, j, rfl, rfl, h1, ret1 fh (.str _) rfl q⟩)
  · obtain ⟨h1, hg⟩ := ite_ok hg
    cases hg
    obtain ⟨a, xs, rfl, h3, h4⟩ := hx.list fh
    obtain ⟨b, ys, rfl, h5, h6⟩ := hy.list fh
    refine .inr (.inr (.inr ⟨a, b, xs, ys, rfl, rfl, h3, h5, by rw [h4.len, h6.len]; exact h1, fun p hp => ?_⟩))
    exact q _ F _ (Go.newO fh hp) (.inr ⟨rfl, p, _, _, rfl, hp, ex_none fh hp, upd_same, rfl, h4.app h6⟩)
  · obtain ⟨h1, hg⟩ := ite_ok hg
    cases hg
    obtain ⟨a, xs, rfl, h3, h4, h4d⟩ := hx.tuple fh
    obtain ⟨b, ys, rfl, h5, h6, h6d⟩ := hy.tuple fh
    refine .inr (.inr (.inl ⟨a, b, xs, ys, rfl, rfl, h3, h5, by rw [h4.len, h6.len]; exact h1, fun e => ?_, fun e1 e2 => ?_, fun _ _ p hp => ?_⟩))
    · subst e
      cases h4
      exact ret1 fh h6d rfl q
    · subst e2
      cases h6
      refine ret1 fh h4d ?_ q
      rw [List.append_nil]
    · have go : Go F H (upd F p (.tup (xs ++ ys))) (upd H p (.tup (xs ++ ys))) noA := Go.newF fh hp
      exact q _ _ _ go (.inl ⟨_, rfl, .tup upd_same ((h4.app h6).mono go.ff)⟩)
def subD : D → D → Rs Ce
  | .int i, .int j => .ok (.f (.int (i - j)))
  | _, _ => .no
theorem snd_sub : Snd2 K (rI0 fun i j => .int (i - j)) subD := fun F H x y dx dy c Q fh hx hy hg q => by
  cases dx <;> cases dy <;> first
    | (cases hg; done)
    | skip
  rename_i i j
  cases hg
  rw [hx.int, hy.int]
  exact ⟨i, j, rfl, rfl, ret1 fh (.int _) rfl q⟩
/-- a product that is not too large -/
def MulOk (i j : Int) : Prop := (-(2 ^ 64) < i ∧ i < 2 ^ 64) ∨ (-(2 ^ 64) < j ∧ j < 2 ^ 64) ∨ (i.natAbs < 2 ^ 400000 ∧ j.natAbs < 2 ^ 400000)
noncomputable instance (i j : Int) : Decidable (MulOk i j) := Classical.propDecidable _
noncomputable def mulD : D → D → Rs Ce
  | .int i, .int j => if MulOk i j then .ok (.f (.int (i * j))) else .no
  | .list ds, .int k => if (-(2 ^ 63) ≤ k ∧ k < 2 ^ 63 ∧ ds.length * k.toNat ≤ sizeLine) then .ok (.l false (List.replicate k.toNat ds).flatten) else .no
  | _, _ => .no
def rMulA : R2 := fun x y H Q => rI CMul (fun i j => .int (i * j)) x y H Q ∨ rI CMulW (fun i j => .int (i * j)) x y H Q ∨ rRep x y H Q
theorem op_mulA {X : Cx} : OpR X (binaryOp .Mult) rMulA := op_mul.or (op_mulW.or op_rep)
theorem DnA.rep {xs : List V} {ds : List D} (h : DnA K F xs ds) : ∀ k : Nat, DnA K F (List.replicate k xs).flatten (List.replicate k ds).flatten
  | 0 => by simpa using DnA.nil
  | k + 1 => by
    rw [List.replicate_succ, List.replicate_succ, List.flatten_cons, List.flatten_cons]
    exact h.app (DnA.rep h k)
theorem mulOk_r {i j : Int} (h : MulOk i j) : CMul i j ∨ CMulW i j := by
  rcases h with h | h | ⟨h1, h2⟩
  · exact .inl (.inl h)
  · exact .inl (.inr h)
  · exact .inr (wide_mul h1 h2 (by decide) (by decide) (by decide))
theorem snd_mul : Snd2 K rMulA mulD := fun F H x y dx dy c Q fh hx hy hg q => by
  cases dx <;> cases dy <;> first
    | (cases hg; done)
    | skip
  · rename_i i j
    obtain ⟨h1, hg⟩ := ite_ok hg
    cases hg
    rw [hx.int, hy.int]
    rcases mulOk_r h1 with h | h
    · exact .inl ⟨i, j, rfl, rfl, h, ret1 fh (.int _) rfl q⟩
    · exact .inr (.inl ⟨i, j, rfl, rfl, h, ret1 fh (.int _) rfl q⟩)
  · rename_i ds k
    obtain ⟨⟨h1, h2, h3⟩, hg⟩ := ite_ok hg
    cases hg
    obtain ⟨a, xs, rfl, h5, h6⟩ := hx.list fh
    rw [hy.int]
    refine .inr (.inr ⟨a, k, xs, rfl, rfl, h5, h1, h2, by rw [h6.len]; exact h3, fun p hp => ?_⟩)
    exact q _ F _ (Go.newO fh hp) (.inr ⟨rfl, p, _, _, rfl, hp, ex_none fh hp, upd_same, rfl, h6.rep _⟩)
def DivOk (j : Int) : Prop := 0 < j ∧ j.natAbs < 2 ^ 8000
noncomputable instance (j : Int) : Decidable (DivOk j) := Classical.propDecidable _
noncomputable def fdivD : D → D → Rs Ce
  | .int i, .int j => if DivOk j then .ok (.f (.int (i / j))) else if j ≠ 0 ∧ j.natAbs < 1073741824 then .ok (.f (.int (i.fdiv j))) else .no
  | _, _ => .no
def rDivA : R2 := fun x y H Q => rI CDivW (fun i j => .int (i / j)) x y H Q ∨ rI CDivN (fun i j => .int (i.fdiv j)) x y H Q
theorem op_fdivA {X : Cx} : OpR X (binaryOp .FloorDiv) rDivA := op_fdivW.or op_fdivN
theorem divOk_w {j : Int} (h : DivOk j) : CDivW 0 j := wide_div h.1 h.2 (by decide) (by decide)
theorem snd_fdiv : Snd2 K rDivA fdivD := fun F H x y dx dy c Q fh hx hy hg q => by
  cases dx <;> cases dy <;> first
    | (cases hg; done)
    | skip
  rename_i i j
  rw [hx.int, hy.int]
  simp only [fdivD] at hg
  by_cases h : DivOk j
  · rw [if_pos h] at hg
    cases hg
    exact .inl ⟨i, j, rfl, rfl, wide_div h.1 h.2 (by decide) (by decide), ret1 fh (.int _) rfl q⟩
  · rw [if_neg h] at hg
    obtain ⟨h1, hg⟩ := ite_ok hg
    cases hg
    exact .inr ⟨i, j, rfl, rfl, h1, ret1 fh (.int _) rfl q⟩
def modD : D → D → Rs Ce
  | .int i, .int j => if 0 < j then .ok (.f (.int (i % j))) else if j ≠ 0 then .ok (.f (.int (i.fmod j))) else .no
  | _, _ => .no
def rModA : R2 := fun x y H Q => rI (fun _ j => 0 < j) (fun i j => .int (i % j)) x y H Q ∨ rI (fun _ j => j ≠ 0) (fun i j => .int (i.fmod j)) x y H Q
theorem op_modA {X : Cx} : OpR X (binaryOp .Mod) rModA := op_mod.or op_modN
theorem snd_mod : Snd2 K rModA modD := fun F H x y dx dy c Q fh hx hy hg q => by
  cases dx <;> cases dy <;> first
    | (cases hg; done)
    | skip
  rename_i i j
  rw [hx.int, hy.int]
  simp only [modD] at hg
  by_cases h : 0 < j
  · rw [if_pos h] at hg
    cases hg
    exact .inl ⟨i, j, rfl, rfl, h, ret1 fh (.int _) rfl q⟩
  · rw [if_neg h] at hg
    obtain ⟨h1, hg⟩ := ite_ok hg
    cases hg
    exact .inr ⟨i, j, rfl, rfl, h1, ret1 fh (.int _) rfl q⟩
def powD : D → D → Rs Ce
  | .int i, .int j => if 0 ≤ j ∧ j ≤ 10000 ∧ i.natAbs < 2 ^ 64 then .ok (.f (.int (i ^ j.toNat))) else .no
  | _, _ => .no
theorem snd_pow : Snd2 K (rI CPow fun i j => .int (i ^ j.toNat)) powD := fun F H x y dx dy c Q fh hx hy hg q => by
  cases dx <;> cases dy <;> first
    | (cases hg; done)
    | skip
  rename_i i j
  obtain ⟨⟨h1, h2, h3⟩, hg⟩ := ite_ok hg
  cases hg
  rw [hx.int, hy.int]
  exact ⟨i, j, rfl, rfl, ⟨h1, by omega, h3⟩, ret1 fh (.int _) rfl q⟩
def negD : D → Rs Ce
  | .int i => .ok (.f (.int (-i)))
  | _ => .no
theorem snd_neg : Snd1 K (rU fun i => .int (-i)) negD := fun F H x dx c Q fh hx hg q => by
  cases dx <;> first
    | (cases hg; done)
    | skip
  rename_i i
  cases hg
  rw [hx.int]
  exact ⟨i, rfl, ret1 fh (.int _) rfl q⟩
/-! ### comparisons of ints (and texts) -/
def ltD : D → D → Rs Ce
  | .int i, .int j => .ok (.f (.bool (decide (i < j))))
  | .str x, .str y => .ok (.f (.bool (decide (x.cps.toList < y.cps.toList))))
  | _, _ => .no
def leD : D → D → Rs Ce
  | .int i, .int j => .ok (.f (.bool (decide (i ≤ j))))
  | _, _ => .no
def gtD : D → D → Rs Ce
  | .int i, .int j => .ok (.f (.bool (decide (j < i))))
  | _, _ => .no
def geD : D → D → Rs Ce
  | .int i, .int j => .ok (.f (.bool (decide (j ≤ i))))
  | _, _ => .no
def rLtA : R2 := fun x y H Q => rI0 (fun i j => .bl (decide (i < j))) x y H Q ∨ (∃ i j, x = .str i ∧ y = .str j ∧ Q (.bl (decide (i.cps.toList < j.cps.toList))) H)
theorem op_ltA {X : Cx} : OpR X (compareOp .Lt) rLtA := op_lt.or op_lt_str
theorem snd_lt : Snd2 K rLtA ltD := fun F H x y dx dy c Q fh hx hy hg q => by
  cases dx <;> cases dy <;> first
    | (cases hg; done)
    | skip
  · rename_i i j
    cases hg
    rw [hx.int, hy.int]
    exact .inl ⟨i, j, rfl, rfl, ret1 fh (.bl _) rfl q⟩
  · rename_i i j
    cases hg
    rw [hx.str, hy.str]
    exact .inr ⟨i, j, rfl, rfl, ret1 fh (.bl _) rfl q⟩
theorem snd_le : Snd2 K (rI0 fun i j => .bl (decide (i ≤ j))) leD := fun F H x y dx dy c Q fh hx hy hg q => by
  cases dx <;> cases dy <;> first
    | (cases hg; done)
    | skip
  rename_i i j
  cases hg
  rw [hx.int, hy.int]
  exact ⟨i, j, rfl, rfl, ret1 fh (.bl _) rfl q⟩
theorem snd_gt : Snd2 K (rI0 fun i j => .bl (decide (j < i))) gtD := fun F H x y dx dy c Q fh hx hy hg q => by
  cases dx <;> cases dy <;> first
    | (cases hg; done)
    | skip
  rename_i i j
  cases hg
  rw [hx.int, hy.int]
  exact ⟨i, j, rfl, rfl, ret1 fh (.bl _) rfl q⟩
theorem snd_ge : Snd2 K (rI0 fun i j => .bl (decide (j ≤ i))) geD := fun F H x y dx dy c Q fh hx hy hg q => by
  cases dx <;> cases dy <;> first
    | (cases hg; done)
    | skip
  rename_i i j
  cases hg
  rw [hx.int, hy.int]
  exact ⟨i, j, rfl, rfl, ret1 fh (.bl _) rfl q⟩
/-! ### is None, is True, is False -/
def D.isN : D → Bool
  | .none => true | _ => false
def D.isB (b : Bool) : D → Bool
  | .bool c => c == b | _ => false
def isD : D → D → Rs Ce
  | x, .none => .ok (.f (.bool x.isN))
  | x, .bool b => .ok (.f (.bool (x.isB b)))
  | _, _ => .no
def isntD : D → D → Rs Ce
  | x, .none => .ok (.f (.bool (!x.isN)))
  | x, .bool b => .ok (.f (.bool (!x.isB b)))
  | _, _ => .no
def rIsA : R2 := fun x y H Q => (y = .non ∧ Q (.bl (decide (x = .non))) H) ∨ ∃ b, y = .bl b ∧ Q (.bl (decide (x = .bl b))) H
def rIsntA : R2 := fun x y H Q => (y = .non ∧ Q (.bl (!decide (x = .non))) H) ∨ ∃ b, y = .bl b ∧ Q (.bl (!decide (x = .bl b))) H
theorem beq_val_bool {X : Cx} {x : V} {v : Value} {b : Bool} (rx : RelV x v) : (v == Value.bool b) = decide (x = V.bl b) := by
  cases x <;> first
    | (obtain ⟨t, rfl⟩ := rx; rw [Bool.eq_iff_iff]; simp; done)
    | (cases rx; rw [Bool.eq_iff_iff]; simp; done)
theorem plain_bool {x : V} {v : Value} {b : Bool} (rx : RelV x v) : plainIs v (.bool b) = true := by
  cases x <;> first
    | (obtain ⟨t, rfl⟩ := rx; rfl)
    | (cases rx; rfl)
theorem op_isB {X : Cx} : OpR X (compareOp .Is) (fun x y H Q => ∃ b, y = .bl b ∧ Q (.bl (decide (x = .bl b))) H) := by
  intro pins s σ H x y v u Q I rx ry h
  obtain ⟨b, rfl, q⟩ := h
  cases (show u = Value.bool b from ry)
  exact wpAny_is_plain (plain_bool rx) ⟨.bl _, H, I, by rw [beq_val_bool (X := X) rx]; rfl, q⟩
theorem op_isntB {X : Cx} : OpR X (compareOp .IsNot) (fun x y H Q => ∃ b, y = .bl b ∧ Q (.bl (!decide (x = .bl b))) H) := by
  intro pins s σ H x y v u Q I rx ry h
  obtain ⟨b, rfl, q⟩ := h
  cases (show u = Value.bool b from ry)
  exact wpAny_isNot_plain (plain_bool rx) ⟨.bl _, H, I, by rw [beq_val_bool (X := X) rx]; rfl, q⟩
theorem op_isA {X : Cx} : OpR X (compareOp .Is) rIsA := op_isN.or op_isB
theorem op_isntA {X : Cx} : OpR X (compareOp .IsNot) rIsntA := op_notN.or op_isntB
theorem Vw.isN {d : D} {v : V} (h : Vw K F H d v) : decide (v = .non) = d.isN := by
  rcases h with h | ⟨a, o, xs, c, rfl, h1, h2, h3, rfl⟩
  · cases h <;> rfl
  · cases c <;> first | exact h2.elim | rfl
theorem Vw.isB {d : D} {v : V} {b : Bool} (h : Vw K F H d v) : decide (v = .bl b) = d.isB b := by
  rcases h with h | ⟨a, o, xs, c, rfl, h1, h2, h3, rfl⟩
  · cases h <;> first | rfl | (rw [Bool.eq_iff_iff]; simp [D.isB])
  · cases c <;> first | exact h2.elim | rfl
theorem snd_is : Snd2 K rIsA isD := fun F H x y dx dy c Q fh hx hy hg q => by
  cases dy <;> first
    | (cases hg; done)
    | skip
  · have hc : c = .f (.bool dx.isN) := (Rs.ok.inj hg).symm
    refine .inl ⟨hy.none, ?_⟩
    rw [hx.isN]
    exact ret1 fh (.bl _) hc q
  · rename_i b
    have hc : c = .f (.bool (dx.isB b)) := (Rs.ok.inj hg).symm
    refine .inr ⟨b, hy.bool, ?_⟩
    rw [hx.isB]
    exact ret1 fh (.bl _) hc q
theorem snd_isnt : Snd2 K rIsntA isntD := fun F H x y dx dy c Q fh hx hy hg q => by
  cases dy <;> first
    | (cases hg; done)
    | skip
  · have hc : c = .f (.bool (!dx.isN)) := (Rs.ok.inj hg).symm
    refine .inl ⟨hy.none, ?_⟩
    rw [hx.isN]
    exact ret1 fh (.bl _) hc q
  · rename_i b
    have hc : c = .f (.bool (!dx.isB b)) := (Rs.ok.inj hg).symm
    refine .inr ⟨b, hy.bool, ?_⟩
    rw [hx.isB]
    exact ret1 fh (.bl _) hc q
/-! ### subscripts -/
def ixD : D → D → Rs Ce
  | .tuple ds, .int i => match atI ds i with
    | some d => .ok (.f d)
    | _ => .no
  | .list ds, .int i => match atI ds i with
    | some d => .ok (.f d)
    | _ => .no
  | .ro ds, .int i => match atI ds i with
    | some d => .ok (.f d)
    | _ => .no
  | .str s, .int i => if s.length ≤ sizeLine then (match atI s.cps.toList i with
    | some c => .ok (.f (.str ⟨#[c]⟩))
    | _ => .no) else .no
  | _, _ => .no
theorem DnA.atI {xs : List V} {ds : List D} {i : Int} {d : D} (h : DnA K F xs ds) (e : L2.atI ds i = some d) : ∃ v, L2.atI xs i = some v ∧ Dn K F v d := by
  unfold L2.atI at e ⊢
  rw [h.len]
  cases q : ixN ds.length i with
  | none => rw [q] at e; cases e
  | some j =>
    rw [q] at e
    exact h.get e
theorem snd_ix : Snd2 K (rIx K) ixD := fun F H x y dx dy c Q fh hx hy hg q => by
  cases dx <;> cases dy <;> first
    | (cases hg; done)
    | skip
  · rename_i s i
    obtain ⟨h1, hg⟩ := ite_ok hg
    split at hg
    · rename_i ch h2
      cases hg
      rw [hx.str, hy.int]
      exact .inr (.inr ⟨s, i, ch, rfl, rfl, h1, h2, ret1 fh (.str _) rfl q⟩)
    · cases hg
  · rename_i ds i
    simp only [ixD] at hg
    split at hg
    · rename_i d h2
      cases hg
      obtain ⟨a, xs, rfl, h3, h4⟩ := hx.list fh
      obtain ⟨v, h5, h6⟩ := h4.atI h2
      rw [hy.int]
      exact .inl ⟨a, xs, i, v, rfl, rfl, SqL.of h3, h5, ret1 fh h6 rfl q⟩
    · cases hg
  · rename_i ds i
    simp only [ixD] at hg
    split at hg
    · rename_i d h2
      cases hg
      obtain ⟨a, xs, rfl, h3, h4, _⟩ := hx.tuple fh
      obtain ⟨v, h5, h6⟩ := h4.atI h2
      rw [hy.int]
      exact .inr (.inl ⟨a, xs, i, v, rfl, rfl, h3, h5, ret1 fh h6 rfl q⟩)
    · cases hg
  · rename_i ds i
    simp only [ixD] at hg
    split at hg
    · rename_i d h2
      cases hg
      obtain ⟨a, xs, rfl, h3, h4⟩ := hx.ro fh
      obtain ⟨v, h5, h6⟩ := h4.atI h2
      rw [hy.int]
      exact .inl ⟨a, xs, i, v, rfl, rfl, h3, h5, ret1 fh h6 rfl q⟩
    · cases hg
/-! ### built-in functions -/
theorem VwA.one {ds : List D} {xs : List V} {d : D} (h : VwA K F H [d] xs) : ∃ x, xs = [x] ∧ Vw K F H d x := by
  cases h with
  | cons h t => cases t; exact ⟨_, rfl, h⟩
theorem VwA.two {d d' : D} {xs : List V} (h : VwA K F H [d, d'] xs) : ∃ x y, xs = [x, y] ∧ Vw K F H d x ∧ Vw K F H d' y := by
  cases h with
  | cons h t => cases t with
    | cons h' t' => cases t'; exact ⟨_, _, rfl, h, h'⟩
def lenD : List D → Rs Ce
  | [.str s] => if s.length ≤ sizeLine then .ok (.f (.int s.length)) else .no
  | [.list ds] => .ok (.f (.int ds.length))
  | [.ro ds] => .ok (.f (.int ds.length))
  | [.tuple ds] => .ok (.f (.int ds.length))
  | [.dict _ ks _] => .ok (.f (.int ks.length))
  | _ => .no
theorem dcO_len {t : Bool} {o : HO} {ks : List D} {xs : List V} (h : DcO t o ks xs) : ks.length = xs.length := by
  rcases h with ⟨_, kvs, _, rfl, rfl⟩ | ⟨_, kvs, _, rfl, rfl⟩ <;> simp
/-- int(x) -/
def intD : List D → Rs Ce
  | [.int i] => .ok (.f (.int i))
  | [.bool b] => .ok (.f (.int (if b then 1 else 0)))
  | _ => .no
theorem snd_int : SndL K (fun xs H Q => (∃ i, xs = [.int i] ∧ Q (.int i) H) ∨ ∃ k, xs = [.bl k] ∧ Q (.int (if k then 1 else 0)) H) intD := fun F H xs ds c Q fh hx hg q => by
  unfold intD at hg
  split at hg
  · cases hg
    obtain ⟨x, rfl, h⟩ := hx.one (ds := [])
    rw [h.int]
    exact .inl ⟨_, rfl, ret1 fh (.int _) rfl q⟩
  · cases hg
    obtain ⟨x, rfl, h⟩ := hx.one (ds := [])
    rw [h.bool]
    exact .inr ⟨_, rfl, ret1 fh (.int _) rfl q⟩
  · cases hg
def absD : List D → Rs Ce
  | [.int i] => .ok (.f (.int (if i < 0 then -i else i)))
  | _ => .no
theorem snd_abs : SndL K (fun xs H Q => ∃ i, xs = [.int i] ∧ Q (.int (if i < 0 then -i else i)) H) absD := fun F H xs ds c Q fh hx hg q => by
  unfold absD at hg
  split at hg
  · cases hg
    obtain ⟨x, rfl, h⟩ := hx.one (ds := [])
    rw [h.int]
    exact ⟨_, rfl, ret1 fh (.int _) rfl q⟩
  · cases hg
def gcdD : List D → Rs Ce
  | [.int a, .int b] => .ok (.f (.int ((Nat.gcd a.natAbs b.natAbs : Nat) : Int)))
  | _ => .no
theorem snd_gcd : SndL K rGcd gcdD := fun F H xs ds c Q fh hx hg q => by
  unfold gcdD at hg
  split at hg
  · cases hg
    obtain ⟨x, y, rfl, h, h'⟩ := hx.two
    rw [h.int, h'.int]
    exact ⟨_, _, rfl, ret1 fh (.int _) rfl q⟩
  · cases hg
def lcmD : List D → Rs Ce
  | [.int a, .int b] => if a.natAbs < 2 ^ 64 ∧ b.natAbs < 2 ^ 64 then .ok (.f (.int ((Nat.lcm a.natAbs b.natAbs : Nat) : Int))) else .no
  | _ => .no
def rLcm : List V → Hp → VK → Prop := fun vs H Q => ∃ a b : Int, vs = [.int a, .int b] ∧ a.natAbs < 2 ^ 64 ∧ b.natAbs < 2 ^ 64 ∧ Q (.int ((Nat.lcm a.natAbs b.natAbs : Nat) : Int)) H
theorem cr_lcm {X : Cx} : CallR X (.builtin "math.lcm") rLcm := by
  intro pins s σ H vs us Q I r h
  obtain ⟨a, b, rfl, h1, h2, q⟩ := h
  obtain ⟨t, u, rfl⟩ := Vals.int2 r
  exact PySem.W.mc_lcm h1 h2 fun _ => ⟨.int _, H, I.tok _, ⟨_, rfl⟩, q⟩
theorem snd_lcm : SndL K rLcm lcmD := fun F H xs ds c Q fh hx hg q => by
  unfold lcmD at hg
  split at hg
  · obtain ⟨⟨h1, h2⟩, hg⟩ := ite_ok hg
    cases hg
    obtain ⟨x, y, rfl, h, h'⟩ := hx.two
    rw [h.int, h'.int]
    exact ⟨_, _, rfl, h1, h2, ret1 fh (.int _) rfl q⟩
  · cases hg
end
end DL

namespace DL
open PySem L2 PyProof.Rows

section
variable {X : Cx}
theorem PSimp {st : Stmt} {t t' : TS} (h : PS X st t) (hi : ∀ D σ H, t' D σ H → t D σ H) : PS X st t' := ⟨fun pins s σ H D I q => h.run pins s σ H D I (hi D σ H q)⟩
theorem PSsimp {sts : List Stmt} {t t' : TS} (h : PSs X sts t) (hi : ∀ D σ H, t' D σ H → t D σ H) : PSs X sts t' := ⟨fun pins s σ H D I q => h.run pins s σ H D I (hi D σ H q)⟩
theorem PGimp {tg : Expr} {t t' : TG} (h : PG X tg t) (hi : ∀ v σ H Q, t' v σ H Q → t v σ H Q) : PG X tg t' := ⟨fun pins s σ H v u Q I r q => h.run pins s σ H v u Q I r (hi v σ H Q q)⟩
end
/-! ### statements -/
/-- a result: frozen data, or an object that is new since the entry -/
def RtA (K : PySem.W.Frag) (G : Bs) (F' H' : Hp) (c : Ce) (v : V) : Prop :=
  (∃ d, c = .f d ∧ Dn K F' v d) ∨ (c.io = false ∧ ∃ a o xs, v = .ref a ∧ G.H a = none ∧ F' a = none ∧ H' a = some o ∧ CeO o c xs ∧ DnA K F' xs c.mem)
def Post (K : PySem.W.Frag) (G : Bs) (F : Hp) (E : Ends) : Out → Prop
  | .nx e' => ∀ F' H' σ', R K G F' H' σ' e' → Ex F F' → E.nx σ' H'
  | .bk e' => ∀ F' H' σ', R K G F' H' σ' e' → Ex F F' → E.bk σ' H'
  | .ct e' => ∀ F' H' σ', R K G F' H' σ' e' → Ex F F' → E.ct σ' H'
  | .rt c e' => ∀ v F' H' σ', R K G F' H' σ' e' → Ex F F' → RtA K G F' H' c v → E.rt v H'
  | _ => False
def tS (K : PySem.W.Frag) (m : En → Out) : TS := fun E σ H => ∃ G F e, R K G F H σ e ∧ Post K G F E (m e)
abbrev PDS (X : Cx) (st : Stmt) (m : En → Out) : Prop := PS X st (tS X.K m)
abbrev PDs (X : Cx) (sts : List Stmt) (m : En → Out) : Prop := PSs X sts (tS X.K m)
/-- a step of a statement, its expression's outcome first -/
def onR {α : Type} (r : Rs (α × En)) (f : α → En → Out) : Out := match r with
  | .ok (a, e) => f a e
  | .ex n ds => .ex n ds
  | .no => .no
@[simp] theorem onR_ok {α : Type} (a : α) (e : En) (f : α → En → Out) : onR (.ok (a, e)) f = f a e := rfl
@[simp] theorem onR_ex {α : Type} (n : String) (ds : List D) (f : α → En → Out) : onR (.ex n ds) f = .ex n ds := rfl
@[simp] theorem onR_no {α : Type} (f : α → En → Out) : onR .no f = .no := rfl
def ioAt (e : En) (i : Nat) : Bool := match e[i]? with
  | some (some c) => c.io
  | _ => false
section
variable {X : Cx} {K : PySem.W.Frag} {G : Bs} {F F1 H H1 : Hp} {σ : L2.St} {e e1 : En} {E : Ends} {v : V} {c : Ce} {d : D} {i : Nat} {a : Addr}
theorem Post.ex {o : Out} (h : Post K G F E o) (x : Ex F F1) : Post K G F1 E o := by
  cases o with
  | nx e' => exact fun F' H' σ' r q => h F' H' σ' r (x.trans q)
  | bk e' => exact fun F' H' σ' r q => h F' H' σ' r (x.trans q)
  | ct e' => exact fun F' H' σ' r q => h F' H' σ' r (x.trans q)
  | rt c e' => exact fun v F' H' σ' r q => h v F' H' σ' r (x.trans q)
  | ex n ds => exact h
  | no => exact h
theorem onR_inv {α : Type} {r : Rs (α × En)} {f : α → En → Out} (h : Post K G F E (onR r f)) : ∃ a e', r = .ok (a, e') ∧ Post K G F E (f a e') := by
  cases r with
  | ok p => exact ⟨p.1, p.2, rfl, h⟩
  | ex n ds => exact h.elim
  | no => exact h.elim
/-- a value is stored in a slot -/
theorem R.set (r : R K G F H σ e) (hi : ioAt e i = false) (hv : HAt K G σ F H e (.v c) v) : R K G F H (σ.set i (some v)) (e.set i (some c)) := by
  have hio : ∀ c', e[i]? = some (some c') → c'.io = false := fun c' h => by
    unfold ioAt at hi
    rw [h] at hi
    exact hi
  have hlen := r.len
  -- what a slot behind the store holds
  have at2 : ∀ (j : Nat) (c' : Ce), (e.set i (some c))[j]? = some (some c') → (j = i ∧ c' = c ∧ (σ.set i (some v))[j]? = some (some v)) ∨ (j ≠ i ∧ e[j]? = some (some c') ∧ (σ.set i (some v))[j]? = σ[j]?) := fun j c' h => by
    by_cases hj : j = i
    · subst hj
      have hl : j < e.length := by
        have := (List.getElem?_eq_some_iff.mp h).1
        simpa using this
      rw [List.getElem?_set_self hl] at h
      cases h
      exact .inl ⟨rfl, rfl, List.getElem?_set_self (by omega)⟩
    · rw [List.getElem?_set_ne (Ne.symm hj)] at h
      exact .inr ⟨hj, h, List.getElem?_set_ne (Ne.symm hj)⟩
  refine ⟨r.go, r.ba, fun j c' h => ?_, fun j k c1 c2 b hjk h1 h2 o1 o2 s1 s2 => ?_, fun p hp => ?_, by simp [hlen]⟩
  · rcases at2 j c' h with ⟨rfl, rfl, e1⟩ | ⟨hj, h', e1⟩
    · refine ⟨v, e1, ?_⟩
      rcases hv with ⟨d, rfl, hd⟩ | ⟨h1, a, o, xs, rfl, h2, h3, h4, h5, h6, h7⟩
      · exact .inl ⟨d, rfl, hd⟩
      · exact .inr ⟨a, o, xs, rfl, h3, h4, h6, h7, (fun z => by rw [h1] at z; cases z), fun _ => h2⟩
    · obtain ⟨v', q1, q2⟩ := r.at_ j c' h'
      exact ⟨v', e1.trans q1, q2⟩
  · have key : ∀ (j k : Nat) (c1 c2 : Ce), j = i → c1 = c → k ≠ i → e[k]? = some (some c2) → c1.ow = true → c2.ow = true → (σ.set i (some v))[j]? = some (some (V.ref b)) → (σ.set i (some v))[j]? = some (some v) → σ[k]? ≠ some (some (V.ref b)) := by
      intro j k c1 c2 hj hc hk kh2 ko1 ko2 ks1 ksv ks2
      rw [ksv] at ks1
      rcases hv with ⟨d, q, hd⟩ | ⟨h1, a, o, xs, q, h2', h3, h4, h5, h6, h7⟩
      · rw [hc, q] at ko1
        cases ko1
      · rw [q] at ks1
        cases ks1
        exact h5 ⟨k, c2, kh2, ko2, ks2⟩
    rcases at2 j c1 h1 with ⟨e1, e2, e3⟩ | ⟨hj, h1', e1⟩
    · rcases at2 k c2 h2 with ⟨e1', _, _⟩ | ⟨hk, h2', e1'⟩
      · exact hjk (e1.trans e1'.symm)
      · rw [e1'] at s2
        exact key j k c1 c2 e1 e2 hk h2' o1 o2 s1 e3 s2
    · rcases at2 k c2 h2 with ⟨e1', e2', e3'⟩ | ⟨hk, h2', e1'⟩
      · rw [e1] at s1
        exact key k j c2 c1 e1' e2' hj h1' o2 o1 s2 e3' s1
      · rw [e1] at s1
        rw [e1'] at s2
        exact r.sep j k c1 c2 b hjk h1' h2' o1 o2 s1 s2
  · obtain ⟨h1, c', h2, h3⟩ := r.io p hp
    have hne : p.1 ≠ i := fun z => by
      rw [z] at h2
      rw [hio c' h2] at h3
      cases h3
    rw [List.getElem?_set_ne (Ne.symm hne), List.getElem?_set_ne (Ne.symm hne)]
    exact ⟨h1, c', h2, h3⟩
def sAsg (i : Nat) (m : M Ce) : En → Out := fun e => onR (m e) fun c e' => if ioAt e' i = true then .no else .nx (e'.set i (some c))
def sAsgF (i : Nat) (m : M D) : En → Out := fun e => onR (m e) fun d e' => if ioAt e' i = true then .no else .nx (e'.set i (some (.f d)))
theorem post_ite {o : Out} {b : Bool} (h : Post K G F E (if b = true then .no else o)) : b = false ∧ Post K G F E o := by
  cases b with
  | true => rw [if_pos rfl] at h; exact h.elim
  | false => rw [if_neg Bool.false_ne_true] at h; exact ⟨rfl, h⟩
variable {st : Stmt} {sts : List Stmt} {ex ey ez : Expr} {es : List Expr} {pos pos' : Pos} {x : Str}
theorem asg_ok {m : M Ce} (h : tS K (sAsg i m) E σ H) : tAsg (tN K m) (gName i) E σ H := by
  obtain ⟨G, F, e, r, hp⟩ := h
  obtain ⟨c, e1, h1, hp⟩ := onR_inv hp
  obtain ⟨h2, hp⟩ := post_ite hp
  exact ⟨G, F, e, c, e1, r, h1, fun v F' H' n hn => hp F' H' _ (n.r.set h2 (hn.hat r n)) n.go.ff⟩
theorem asgF_ok {m : M D} (h : tS K (sAsgF i m) E σ H) : tAsg (tF K m) (gName i) E σ H := by
  obtain ⟨G, F, e, r, hp⟩ := h
  obtain ⟨c, e1, h1, hp⟩ := onR_inv hp
  obtain ⟨h2, hp⟩ := post_ite hp
  exact ⟨G, F, e, c, e1, r, h1, fun v F' H' n hn => hp F' H' _ (n.r.set h2 (.inl ⟨c, rfl, hn⟩)) n.go.ff⟩
/-- x = e, x a list or a dict of one's own -/
theorem pds_set {m : M Ce} (hN : X.N.Nodup) (hi : X.N[i]? = some x) (hx : Loc X.env.scope x) (he : PN X ex m) (hs : swapsWith ex (some (.Name x pos')) pos.line X.env = pure false := by rfl) (hf : X.fn x = true ∨ X.env.scope.names.lookup x = some .local := by first | exact .inl rfl | exact .inr rfl | assumption) :
    PDS X (.Assign [.Name x pos'] ex pos) (sAsg i m) := PSimp (ps_set hN hi hx he hs hf) fun D σ H h => asg_ok h
/-- x = e, frozen data -/
theorem pds_setF {m : M D} (hN : X.N.Nodup) (hi : X.N[i]? = some x) (hx : Loc X.env.scope x) (he : PF X ex m) (hs : swapsWith ex (some (.Name x pos')) pos.line X.env = pure false := by rfl) (hf : X.fn x = true ∨ X.env.scope.names.lookup x = some .local := by first | exact .inl rfl | exact .inr rfl | assumption) :
    PDS X (.Assign [.Name x pos'] ex pos) (sAsgF i m) := PSimp (ps_set hN hi hx he hs hf) fun D σ H h => asgF_ok h
/-- one behind the other -/
def sSeq (a b : En → Out) : En → Out := fun e => match a e with
  | .nx e' => b e'
  | o => o
def sNext : En → Out := fun e => .nx e
theorem pds_nil : PDs X [] sNext := PSsimp pss_nil fun E σ H ⟨G, F, e, r, hp⟩ => hp F H σ r (Evl.Ex.refl _)
theorem seq_ok {a b : En → Out} (h : tS K (sSeq a b) E σ H) : tSeq (tS K a) (tS K b) E σ H := by
  obtain ⟨G, F, e, r, hp⟩ := h
  refine ⟨G, F, e, r, ?_⟩
  unfold sSeq at hp
  cases q : a e with
  | nx e1 =>
    rw [q] at hp
    exact fun F' H' σ' r' x => ⟨G, F', e1, r', Post.ex hp x⟩
  | bk e1 => rw [q] at hp; exact hp
  | ct e1 => rw [q] at hp; exact hp
  | rt c e1 => rw [q] at hp; exact hp
  | ex n ds => rw [q] at hp; exact hp.elim
  | no => rw [q] at hp; exact hp.elim
theorem pds_cons {a b : En → Out} (h1 : PDS X st a) (h2 : PDs X sts b) : PDs X (st :: sts) (sSeq a b) := PSsimp (pss_cons h1 h2) fun D σ H h => seq_ok h
theorem pds_one {a : En → Out} (h1 : PDS X st a) : PDs X [st] a := pss_one h1
theorem pds_doc {s : Str} {j : Nat} : PDS X (.Expr (.Constant (.str s) j pos) pos') sNext := PSimp ps_doc fun E σ H ⟨G, F, e, r, hp⟩ => hp F H σ r (Evl.Ex.refl _)
theorem pds_pass : PDS X (.Pass pos) sNext := PSimp ps_pass fun E σ H ⟨G, F, e, r, hp⟩ => hp F H σ r (Evl.Ex.refl _)
def sBreak : En → Out := fun e => .bk e
def sCont : En → Out := fun e => .ct e
theorem pds_break : PDS X (.Break pos) sBreak := PSimp ps_break fun E σ H ⟨G, F, e, r, hp⟩ => hp F H σ r (Evl.Ex.refl _)
theorem pds_cont : PDS X (.Continue pos) sCont := PSimp ps_continue fun E σ H ⟨G, F, e, r, hp⟩ => hp F H σ r (Evl.Ex.refl _)
/-- a slot's own object is frozen for good (nothing happens in the program) -/
def sFrz (i : Nat) (b : En → Out) : En → Out := fun e => match e[i]? with
  | some (some c) => if c.io = true then .no else b (e.set i (some (.f c.d)))
  | _ => .no
theorem frz_ok {b : En → Out} (h : tS K (sFrz i b) E σ H) : tS K b E σ H := by
  obtain ⟨G, F, e, r, hp⟩ := h
  unfold sFrz at hp
  cases q : e[i]? with
  | none => rw [q] at hp; exact hp.elim
  | some oc =>
    cases oc with
    | none => rw [q] at hp; exact hp.elim
    | some c =>
      rw [q] at hp
      obtain ⟨hio, hp⟩ := post_ite hp
      obtain ⟨v, h1, h2⟩ := r.at_ i c q
      have hioAt : ioAt e i = false := by unfold ioAt; rw [q]; exact hio
      have hset : ∀ (σ : L2.St), σ[i]? = some (some v) → σ.set i (some v) = σ := fun σ hσ => by
        apply List.ext_getElem?
        intro j
        by_cases hj : j = i
        · subst hj
          rw [List.getElem?_set_self (List.getElem?_eq_some_iff.mp hσ).1, hσ]
        · rw [List.getElem?_set_ne (Ne.symm hj)]
      rcases h2 with ⟨d, rfl, hd⟩ | ⟨a, o, xs, rfl, q1, q2, q3, q4, q5, q6⟩
      · have r2 := r.set (i := i) hioAt (c := .f d) (v := v) (.inl ⟨d, rfl, hd⟩)
        rw [hset σ h1] at r2
        exact ⟨G, F, _, r2, hp⟩
      · -- the slot is forgotten, the object frozen, the slot told anew
        have hcd : Dn K (upd F a o) (.ref a) c.d := by
          cases c with
          | f d => exact q3.elim
          | l p ds =>
            have q3' : o = .lst xs := q3
            subst q3'
            exact .lst upd_same (q4.mono (Evl.Ex.new q1))
          | k p t ks vs => exact .dic upd_same q3 (q4.mono (Evl.Ex.new q1))
        have hl : i < e.length := (List.getElem?_eq_some_iff.mp q).1
        -- R without slot i
        have r0 : R K G F H σ (e.set i none) := by
          have at2 : ∀ (j : Nat) (c' : Ce), (e.set i none)[j]? = some (some c') → j ≠ i ∧ e[j]? = some (some c') := fun j c' h => by
            by_cases hj : j = i
            · subst hj
              rw [List.getElem?_set_self hl] at h
              cases h
            · rw [List.getElem?_set_ne (Ne.symm hj)] at h
              exact ⟨hj, h⟩
          refine ⟨r.go, r.ba, fun j c' h => r.at_ j c' (at2 j c' h).2, fun j k c1 c2 b hjk g1 g2 o1 o2 => r.sep j k c1 c2 b hjk (at2 _ _ g1).2 (at2 _ _ g2).2 o1 o2, fun p hp => ?_, by simpa using r.len⟩
          obtain ⟨g1, c', g2, g3⟩ := r.io p hp
          have hne : p.1 ≠ i := fun z => by
            rw [z, q] at g2
            cases g2
            rw [hio] at g3
            cases g3
          exact ⟨g1, c', by rw [List.getElem?_set_ne (Ne.symm hne)]; exact g2, g3⟩
        have hnl : ¬ Lv σ (e.set i none) a := fun ⟨j, c', g1, g2, g3⟩ => by
          by_cases hj : j = i
          · subst hj
            rw [List.getElem?_set_self hl] at g1
            cases g1
          · rw [List.getElem?_set_ne (Ne.symm hj)] at g1
            exact r.sep j i c' c a hj g1 q g2 q3.ow g3 h1
        have r1 := r0.frz q1 q2 hnl (q6 hio)
        have r2 := r1.set (i := i) (c := .f c.d) (v := .ref a) (by unfold ioAt; rw [List.getElem?_set_self hl]) (.inl ⟨_, rfl, hcd⟩)
        rw [hset σ h1, List.set_set] at r2
        exact ⟨G, upd F a o, _, r2, Post.ex hp (Evl.Ex.new q1)⟩
theorem pds_frz {b : En → Out} (i : Nat) (h : PDs X sts b) : PDs X sts (sFrz i b) := PSsimp h fun D σ H h => frz_ok h
/-- an expression as a statement -/
def sDrop {α : Type} (m : M α) : En → Out := fun e => onR (m e) fun _ e' => .nx e'
theorem pds_expr {m : M Ce} (he : PN X ex m) (hs : swapsWith ex none pos.line X.env = pure false := by rfl) : PDS X (.Expr ex pos) (sDrop m) := PSimp (ps_expr he hs) fun E σ H ⟨G, F, e, r, hp⟩ => by
  obtain ⟨c, e1, h1, hp⟩ := onR_inv hp
  exact ⟨G, F, e, c, e1, r, h1, fun v F' H' n hn => hp F' H' _ n.r n.go.ff⟩
def sRet (m : M Ce) : En → Out := fun e => onR (m e) fun c e' => .rt c e'
theorem NAt.rt {e1 : En} (h : NAt K H F1 H1 c v) (r : R K G F H σ e) : RtA K G F1 H1 c v := by
  rcases h with ⟨d, rfl, h⟩ | ⟨hio, a, o, xs, rfl, h1, h2, h3, h4, h5⟩
  · exact .inl ⟨d, rfl, h⟩
  · exact .inr ⟨hio, a, o, xs, rfl, (r.new h1).2.1, h2, h3, h4, h5⟩
theorem pds_ret {m : M Ce} (he : PN X ex m) : PDS X (.Return (some ex) pos) (sRet m) := PSimp (ps_ret he) fun E σ H ⟨G, F, e, r, hp⟩ => by
  obtain ⟨c, e1, h1, hp⟩ := onR_inv hp
  exact ⟨G, F, e, c, e1, r, h1, fun v F' H' n hn => hp v F' H' σ n.r n.go.ff (hn.rt (e1 := e) r)⟩
def sRetN : En → Out := fun e => .rt (.f .none) e
theorem pds_retN : PDS X (.Return none pos) sRetN := PSimp ps_retN fun E σ H ⟨G, F, e, r, hp⟩ => hp .non F H σ r (Evl.Ex.refl _) (.inl ⟨_, rfl, .non⟩)
/-- return x, x a slot with an object of one's own -/
def sRetS (i : Nat) : En → Out := fun e => match e[i]? with
  | some (some c) => if c.io = true then .no else .rt c e
  | _ => .no
theorem pds_retS (i : Nat) (he : PE X ex (tVar i)) : PDS X (.Return (some ex) pos) (sRetS i) := PSimp (ps_ret he) fun E σ H ⟨G, F, e, r, hp⟩ => by
  unfold sRetS at hp
  cases q : e[i]? with
  | none => rw [q] at hp; exact hp.elim
  | some oc =>
    cases oc with
    | none => rw [q] at hp; exact hp.elim
    | some c =>
      rw [q] at hp
      obtain ⟨hio, hp⟩ := post_ite hp
      obtain ⟨v, h1, h2⟩ := r.at_ i c q
      refine ⟨v, h1, hp v F H σ r (Evl.Ex.refl _) ?_⟩
      rcases h2 with ⟨d, rfl, hd⟩ | ⟨a, o, xs, rfl, q1, q2, q3, q4, q5, q6⟩
      · exact .inl ⟨d, rfl, hd⟩
      · exact .inr ⟨hio, a, o, xs, rfl, q6 hio, q1, q2, q3, q4⟩
def sIf (t : M Bool) (a b : En → Out) : En → Out := fun e => onR (t e) fun c e' => if c = true then a e' else b e'
theorem pds_if {t : M Bool} {a b : En → Out} {s1 s2 : List Stmt} (ht : PTd X ex t) (ha : PDs X s1 a) (hb : PDs X s2 b) : PDS X (.If ex s1 s2 pos) (sIf t a b) := PSimp (ps_if ht ha hb) fun E σ H ⟨G, F, e, r, hp⟩ => by
  obtain ⟨c, e1, h1, hp⟩ := onR_inv hp
  refine ⟨G, F, e, c, e1, r, h1, fun F' H' n => ?_⟩
  cases c with
  | true => exact ⟨G, F', e1, n.r, Post.ex hp n.go.ff⟩
  | false => exact ⟨G, F', e1, n.r, Post.ex hp n.go.ff⟩

/-! ### a list of one's own is changed -/
theorem set_kd (h : e[i]? = some (some c)) {c' : Ce} (hk : c'.kd = c.kd) : (e.set i (some c')).map (Option.map Ce.kd) = e.map (Option.map Ce.kd) := by
  apply List.ext_getElem?
  intro j
  rw [List.getElem?_map, List.getElem?_map]
  by_cases hj : j = i
  · subst hj
    rw [List.getElem?_set_self (List.getElem?_eq_some_iff.mp h).1, h]
    simp [hk]
  · rw [List.getElem?_set_ne (Ne.symm hj)]
/-- the object of slot i is written: its cell is c' from now on -/
theorem R.wr (r : R K G F H σ e) (h : e[i]? = some (some c)) (hs : σ[i]? = some (some (.ref a))) (ho : c.ow = true) {c' : Ce} (hk : c'.kd = c.kd) {o' : HO} {xs' : List V} (hc : CeO o' c' xs') (hm : DnA K F xs' c'.mem) :
    Nx K G σ F H e F (upd H a o') (e.set i (some c')) := by
  have hl : i < e.length := (List.getElem?_eq_some_iff.mp h).1
  obtain ⟨v, h1, h2⟩ := r.at_ i c h
  rw [hs] at h1
  cases h1
  obtain ⟨a', o, xs, q, q1, q2, q3, q4, q5, q6⟩ := h2.own ho
  cases q
  have lv : Lv σ e a := ⟨i, c, h, ho, hs⟩
  have sh := set_kd h hk
  obtain ⟨k1, k2⟩ := kd_ow hk
  have go : Go F H F (upd H a o') (Lv σ e) := Go.wr r.fh q1 lv (by rw [q2]; rfl)
  have at2 : ∀ (j : Nat) (c2 : Ce), (e.set i (some c'))[j]? = some (some c2) → (j = i ∧ c2 = c') ∨ (j ≠ i ∧ e[j]? = some (some c2)) := fun j c2 h => by
    by_cases hj : j = i
    · subst hj
      rw [List.getElem?_set_self hl] at h
      cases h
      exact .inl ⟨rfl, rfl⟩
    · rw [List.getElem?_set_ne (Ne.symm hj)] at h
      exact .inr ⟨hj, h⟩
  refine ⟨⟨?_, r.ba, fun j c2 hj => ?_, fun j k c1 c2 b hjk h1 h2 o1 o2 s1 => ?_, fun p hp => ?_, by simpa using r.len⟩, go, sh⟩
  · refine ⟨r.go.ff, fun b u hb hn => ?_, go.fh, fun b hb1 hb2 => ?_⟩
    · have hba : b ≠ a := fun z => by
        subst z
        cases hci : c.io with
        | true => exact hn ⟨i, q5 hci⟩
        | false =>
          rw [q6 hci] at hb
          cases hb
      rw [upd_ne hba]
      exact r.go.hh b u hb hn
    · obtain ⟨z1, z2⟩ := r.go.st b hb1 hb2
      refine ⟨z1, ?_⟩
      by_cases hba : b = a
      · subst hba; rw [upd_same]; rfl
      · rw [upd_ne hba]; exact z2
  · rcases at2 j c2 hj with ⟨rfl, rfl⟩ | ⟨hne, hj⟩
    · exact ⟨_, hs, .inr ⟨a, o', xs', rfl, q1, upd_same, hc, hm, fun z => q5 (by rw [← k2]; exact z), fun z => q6 (by rw [← k2]; exact z)⟩⟩
    · obtain ⟨w, g1, g2⟩ := r.at_ j c2 hj
      refine ⟨w, g1, ?_⟩
      rcases g2 with g2 | ⟨b, u, ys, rfl, z1, z2, z3, z4, z5, z6⟩
      · exact .inl g2
      · have hba : b ≠ a := fun z => by
          subst z
          exact r.sep j i c2 c b hne hj h z3.ow ho g1 hs
        exact .inr ⟨b, u, ys, rfl, z1, by rw [upd_ne hba]; exact z2, z3, z4, z5, z6⟩
  · obtain ⟨d1, g1, w1⟩ := sh_at sh.symm h1
    obtain ⟨d2, g2, w2⟩ := sh_at sh.symm h2
    exact r.sep j k d1 d2 b hjk g1 g2 (by rw [(kd_ow w1).1]; exact o1) (by rw [(kd_ow w2).1]; exact o2) s1
  · obtain ⟨h1, c2, h2, h3⟩ := r.io p hp
    obtain ⟨d2, g2, w2⟩ := sh_at sh h2
    exact ⟨h1, d2, g2, by rw [(kd_ow w2).2]; exact h3⟩
/-- x.append(e) -/
def sApp (i : Nat) (m : M D) : En → Out := fun e => match e[i]? with
  | some (some (.l _ _)) => onR (m e) fun d e' => (match e'[i]? with
    | some (some (.l p ds)) => if ds.length < 16000000 then .nx (e'.set i (some (.l p (ds ++ [d])))) else .no
    | _ => .no)
  | _ => .no
theorem small_line {n : Nat} (h : n < 16000000) : n < sizeLine := by rw [sizeLine_eq]; omega
theorem lst_at (h : e[i]? = some (some c)) (r : R K G F H σ e) {p : Bool} {ds : List D} (hc : c = .l p ds) : ∃ a xs, σ[i]? = some (some (.ref a)) ∧ F a = none ∧ H a = some (.lst xs) ∧ DnA K F xs ds := by
  subst hc
  obtain ⟨v0, s0, a0⟩ := r.at_ i _ h
  obtain ⟨a, o, xs, rfl, z1, z2, z3, z4, _⟩ := a0.own rfl
  have z3' : o = .lst xs := z3
  subst z3'
  exact ⟨a, xs, s0, z1, z2, z4⟩
theorem app_ok {m : M D} (h : tS K (sApp i m) E σ H) : tDrop (tBM K "list" rAppend (tVar i) (tCons (tF K m) tNil)) E σ H := by
  obtain ⟨G, F, e, r, hp⟩ := h
  unfold sApp at hp
  split at hp
  · rename_i p0 ds0 g0
    obtain ⟨d, e1, h1, hp⟩ := onR_inv hp
    obtain ⟨a, xs, s0, z1, z2, z4⟩ := lst_at g0 r rfl
    refine ⟨.ref a, s0, .inl ⟨rfl, _, .inl (.inl z2)⟩, G, F, e, d, e1, r, h1, fun v F1 H1 n1 hd => ?_⟩
    split at hp
    · rename_i p ds q
      by_cases hz : ds.length < 16000000
      · rw [if_pos hz] at hp
        obtain ⟨a', xs', s1, y1, y2, y4⟩ := lst_at q n1.r rfl
        rw [s0] at s1
        cases s1
        refine ⟨a, xs', v, rfl, rfl, y2, ?_, ?_⟩
        · rw [y4.len]; exact small_line hz
        · have n2 := n1.r.wr (c' := .l p (ds ++ [d])) q s0 rfl (by cases p <;> rfl) (o' := .lst (xs' ++ [v])) (xs' := xs' ++ [v]) rfl (y4.app (.cons hd .nil))
          exact hp F1 _ σ n2.r n1.go.ff
      · rw [if_neg hz] at hp
        exact hp.elim
    · exact hp.elim
  · exact hp.elim
end
end DL

namespace DL
open PySem L2 PyProof.Rows
section
variable {X : Cx} {K : PySem.W.Frag} {G : Bs} {F F1 H H1 : Hp} {σ : L2.St} {e e1 : En} {E : Ends} {v : V} {c : Ce} {d : D} {i : Nat} {a : Addr}
variable {st : Stmt} {sts : List Stmt} {ex ey ez tg : Expr} {es : List Expr} {pos pos' apos cpos : Pos} {x : Str}
theorem pds_app {m : M D} (ho : PE X ex (tVar i)) (he : PF X ey m) (hbase : attributeBase ex "append" X.env (eval ex X.env) = eval ex X.env := by rfl)
    (hfew : ((backTo cpos (starEach [ey] X.env)).all (fun x => !x.1) && (backToKw cpos (keywordEach [] X.env)).all (fun x => x.1.isSome) && decide (([ey] : List Expr).length + ([] : List Keyword).length + (if ([] : List Keyword).isEmpty then 0 else 1) < 30)) = true := by rfl)
    (hline : (apos.endLine == cpos.line) = true := by rfl) (hs : starEach [ey] X.env = (false, eval ey X.env) :: starEach [] X.env := by rfl) (hplain : (backTo cpos (starEach ([] : List Expr) X.env)).any (·.1) = false := by rfl)
    (hsw : swapsWith (.Call (.Attribute ex "append" apos) [ey] [] cpos) none pos.line X.env = pure false := by rfl) : PDS X (.Expr (.Call (.Attribute ex "append" apos) [ey] [] cpos) pos) (sApp i m) :=
  PSimp (ps_expr (pe_bm PySem.F.plainAttrs_list PySem.F.slot_list_append PySem.F.type_list_append mt_append ho (pa_cons he pa_nil hs) hbase hfew hline hs hplain) hsw) fun D σ H h => app_ok h

/-! ### targets -/
abbrev Tg := D → En → Rs En
def tgN (i : Nat) : Tg := fun d e => if ioAt e i = true then .no else .ok (e.set i (some (.f d)))
def tgAll : List Tg → List D → En → Rs En
  | [], [], e => .ok e
  | t :: ts, d :: ds, e => (t d e).bind (tgAll ts ds)
  | _, _, _ => .no
def tgT (ts : List Tg) : Tg := fun d e => match d with
  | .tuple ds => tgAll ts ds e
  | _ => .no
/-- slots besides these are as they were -/
def Chg (is : List Nat) (σ σ' : L2.St) : Prop := σ'.length = σ.length ∧ ∀ j, j ∉ is → σ'[j]? = σ[j]?
def tG (K : PySem.W.Frag) (t : Tg) (is : List Nat) : TG := fun v σ H Q => ∃ G F e d e', R K G F H σ e ∧ Dn K F v d ∧ t d e = .ok e' ∧ ∀ σ', R K G F H σ' e' → Chg is σ σ' → Q σ' H
def tGs (K : PySem.W.Frag) (ts : List Tg) (is : List Nat) : TGs := fun vs σ H Q => ∃ G F e ds e', R K G F H σ e ∧ DnA K F vs ds ∧ tgAll ts ds e = .ok e' ∧ ∀ σ', R K G F H σ' e' → Chg is σ σ' → Q σ' H
abbrev PGd (X : Cx) (tg : Expr) (t : Tg) (is : List Nat) : Prop := PG X tg (tG X.K t is)
abbrev PGds (X : Cx) (tgs : List Expr) (ts : List Tg) (is : List Nat) : Prop := PGs X tgs (tGs X.K ts is)
theorem PGsimp {tgs : List Expr} {t t' : TGs} (h : PGs X tgs t) (hi : ∀ v σ H Q, t' v σ H Q → t v σ H Q) : PGs X tgs t' := ⟨fun pins s σ H v u Q I r q => h.run pins s σ H v u Q I r (hi v σ H Q q)⟩
theorem ite_ok2 {α : Type} {b : Bool} {r : Rs α} {y : α} (h : (if b = true then .no else r) = .ok y) : b = false ∧ r = .ok y := by
  cases b with
  | true => rw [if_pos rfl] at h; cases h
  | false => rw [if_neg Bool.false_ne_true] at h; exact ⟨rfl, h⟩
theorem chg_set {i : Nat} {o : Option V} : Chg [i] σ (σ.set i o) := ⟨by simp, fun j hj => List.getElem?_set_ne (by simpa using fun z => hj (by simp [z]))⟩
theorem Chg.trans {is js : List Nat} {σ1 σ2 : L2.St} (h : Chg is σ σ1) (k : Chg js σ1 σ2) : Chg (is ++ js) σ σ2 := ⟨k.1.trans h.1, fun j hj => by
  rw [List.mem_append, not_or] at hj
  exact (k.2 j hj.2).trans (h.2 j hj.1)⟩
theorem pgd_name (hN : X.N.Nodup) (hi : X.N[i]? = some x) (hx : Loc X.env.scope x) (hf : X.fn x = true ∨ X.env.scope.names.lookup x = some .local := by first | exact .inl rfl | exact .inr rfl | assumption) : PGd X (.Name x pos) (tgN i) [i] :=
  PGimp (pg_name hN hi hx hf) fun v σ H Q ⟨G, F, e, d, e', r, hd, ht, q⟩ => by
    obtain ⟨h1, h2⟩ := ite_ok2 ht
    cases h2
    exact q _ (r.set h1 (.inl ⟨d, rfl, hd⟩)) chg_set
theorem pgds_nil : PGds X [] [] [] := PGsimp pgs_nil fun v σ H Q ⟨G, F, e, ds, e', r, hd, ht, q⟩ => by
  cases hd with
  | nil => cases ht; exact ⟨rfl, q _ r ⟨rfl, fun _ _ => rfl⟩⟩
  | cons _ _ => cases ht
theorem pgds_cons {tgs : List Expr} {t : Tg} {ts : List Tg} {is js : List Nat} (h1 : PGd X tg t is) (h2 : PGds X tgs ts js) (hs : (assignEach (tg :: tgs) X.env).map (·.2) = assign tg X.env :: (assignEach tgs X.env).map (·.2) := by rfl) : PGds X (tg :: tgs) (t :: ts) (is ++ js) :=
  PGsimp (pgs_cons h1 h2 hs) fun v σ H Q ⟨G, F, e, ds, e', r, hd, ht, q⟩ => by
    cases hd with
    | nil => cases ht
    | cons hd ha =>
      obtain ⟨e1, h3, h4⟩ := Rs.bind_eq ht
      exact ⟨_, _, rfl, G, F, e, _, e1, r, hd, h3, fun σ' r' c1 => ⟨G, F, e1, _, e', r', ha, h4, fun σ2 r2 c2 => q σ2 r2 (c1.trans c2)⟩⟩
theorem pgd_tup {tgs : List Expr} {ts : List Tg} {is : List Nat} {k n : Nat} (hc : X.calm = true) (h : PGds X tgs ts is) (hl : ts.length = n) (hn : (assignEach tgs X.env).length = n := by rfl) (hst : (assignEach tgs X.env).findIdx? (·.1) = none := by rfl) : PGd X (.Tuple tgs k pos) (tgT ts) is :=
  PGimp (pg_tup hc h hn hst) fun v σ H Q ⟨G, F, e, d, e', r, hd, ht, q⟩ => by
    unfold tgT at ht
    split at ht
    · rename_i ds
      obtain ⟨a, xs, rfl, h1, h2⟩ := hd.tuple_inv
      refine ⟨a, xs, rfl, Evl.ex_t r.fh h1, ?_, G, F, e, ds, e', r, h2, ht, q⟩
      have key : ∀ (ts : List Tg) (ds : List D) (e : En), tgAll ts ds e = .ok e' → ts.length = ds.length := by
        intro ts
        induction ts with
        | nil => intro ds e h; cases ds with
          | nil => rfl
          | cons d ds => cases h
        | cons t ts ih => intro ds e h; cases ds with
          | nil => cases h
          | cons d ds =>
            obtain ⟨e1, _, h4⟩ := Rs.bind_eq h
            rw [List.length_cons, List.length_cons, ih ds e1 h4]
      rw [h2.len, ← key ts ds e ht, hl]
    · cases ht
/-- what a target's rule does to the environment -/
def frozenAt (e : En) (i : Nat) : Bool := match e[i]? with
  | some (some c) => !c.ow
  | _ => true
structure TgOk (t : Tg) (is : List Nat) : Prop where
  ln : ∀ d e e', t d e = .ok e' → e'.length = e.length
  ne : ∀ d e e', t d e = .ok e' → ∀ j, j ∉ is → e'[j]? = e[j]?
  fz : ∀ d e e', t d e = .ok e' → ∀ j, (j ∈ is ∨ frozenAt e j = true) → frozenAt e' j = true
theorem tgOk_n (i : Nat) : TgOk (tgN i) [i] := by
  refine ⟨fun d e e' h => ?_, fun d e e' h j hj => ?_, fun d e e' h j hj => ?_⟩
  · obtain ⟨_, h⟩ := ite_ok2 h
    cases h
    simp
  · obtain ⟨_, h⟩ := ite_ok2 h
    cases h
    exact List.getElem?_set_ne (by simpa using fun z => hj (by simp [z]))
  · obtain ⟨_, h⟩ := ite_ok2 h
    cases h
    by_cases hji : j = i
    · subst hji
      unfold frozenAt
      by_cases hl : j < e.length
      · rw [List.getElem?_set_self hl]; rfl
      · rw [List.getElem?_eq_none (by simpa using Nat.le_of_not_lt hl)]
    · rcases hj with hj | hj
      · exact absurd (by simpa using hj) hji
      · unfold frozenAt at hj ⊢
        rw [List.getElem?_set_ne (Ne.symm hji)]
        exact hj
inductive TgsOk : List Tg → List Nat → Prop where
  | nil : TgsOk [] []
  | cons {t : Tg} {ts : List Tg} {is js : List Nat} : TgOk t is → TgsOk ts js → TgsOk (t :: ts) (is ++ js)
theorem TgsOk.all : ∀ {ts : List Tg} {is : List Nat}, TgsOk ts is → ∀ ds e e', tgAll ts ds e = .ok e' → e'.length = e.length ∧ (∀ j, j ∉ is → e'[j]? = e[j]?) ∧ ∀ j, (j ∈ is ∨ frozenAt e j = true) → frozenAt e' j = true
  | _, _, .nil, ds, e, e', h => by
    cases ds with
    | nil => cases h; exact ⟨rfl, fun _ _ => rfl, fun j hj => by simpa using hj⟩
    | cons d ds => cases h
  | _, _, .cons t ts, ds, e, e', h => by
    cases ds with
    | nil => cases h
    | cons d ds =>
      obtain ⟨e1, h1, h2⟩ := Rs.bind_eq h
      obtain ⟨g1, g2, g3⟩ := TgsOk.all ts ds e1 e' h2
      refine ⟨g1.trans (t.ln d e e1 h1), fun j hj => ?_, fun j hj => ?_⟩
      · rw [List.mem_append, not_or] at hj
        exact (g2 j hj.2).trans (t.ne d e e1 h1 j hj.1)
      · rw [List.mem_append] at hj
        rcases hj with (hj | hj) | hj
        · exact g3 j (.inr (t.fz d e e1 h1 j (.inl hj)))
        · exact g3 j (.inl hj)
        · exact g3 j (.inr (t.fz d e e1 h1 j (.inr hj)))
theorem tgOk_t {ts : List Tg} {is : List Nat} (h : TgsOk ts is) : TgOk (tgT ts) is := by
  have key : ∀ d e e', tgT ts d e = .ok e' → ∃ ds, tgAll ts ds e = .ok e' := fun d e e' h => by
    unfold tgT at h
    split at h
    · exact ⟨_, h⟩
    · cases h
  exact ⟨fun d e e' q => let ⟨ds, q⟩ := key d e e' q; (h.all ds e e' q).1, fun d e e' q => let ⟨ds, q⟩ := key d e e' q; (h.all ds e e' q).2.1, fun d e e' q => let ⟨ds, q⟩ := key d e e' q; (h.all ds e e' q).2.2⟩
/-- target = value, by a target's rule -/
def sTgt (t : Tg) (m : M D) : En → Out := fun e => onR (m e) fun d e' => match t d e' with
  | .ok e2 => .nx e2
  | _ => .no
theorem pds_asg {t : Tg} {is : List Nat} {m : M D} (he : PF X ex m) (hg : PGd X tg t is) (hs : swapsWithSole [tg] ex pos.line X.env = pure false := by rfl) (hw : swappedStores [tg] ex X.env = pure none := by rfl)
    (h1 : (assignEach [tg] X.env).map (·.2) = [assign tg X.env] := by rfl) : PDS X (.Assign [tg] ex pos) (sTgt t m) := PSimp (ps_asg he hg hs hw h1) fun E σ H ⟨G, F, e, r, hp⟩ => by
  obtain ⟨d, e1, h1, hp⟩ := onR_inv hp
  split at hp
  · rename_i e2 h2
    exact ⟨G, F, e, d, e1, r, h1, fun v F' H' n hd => ⟨G, F', e1, d, e2, n.r, hd, h2, fun σ' r' _ => hp F' H' σ' r' n.go.ff⟩⟩
  · exact hp.elim
/-- x, y = a, b -/
def sPar (i j : Nat) (m : M (List D)) : En → Out := fun e => onR (m e) fun ds e' => match ds with
  | [d1, d2] => if (ioAt e' i || ioAt e' j) = true then .no else .nx ((e'.set i (some (.f d1))).set j (some (.f d2)))
  | _ => .no
theorem ioAt_set {d : D} {i j : Nat} (h : ioAt e j = false) : ioAt (e.set i (some (.f d))) j = false := by
  unfold ioAt at h ⊢
  by_cases hj : j = i
  · subst hj
    by_cases hl : j < e.length
    · rw [List.getElem?_set_self hl]; rfl
    · rw [List.getElem?_eq_none (by simpa using Nat.le_of_not_lt hl)]
  · rw [List.getElem?_set_ne (Ne.symm hj)]; exact h
theorem pds_par {i j : Nat} {x y : Str} {px py pt : Pos} {kt k2 : Nat} {pt2 : Pos} {m : M (List D)} (hc : X.calm = true) (hN : X.N.Nodup) (hi : X.N[i]? = some x) (hj : X.N[j]? = some y) (hij : i ≠ j)
    (hx : X.env.scope.names.lookup x = some .local) (hy : X.env.scope.names.lookup y = some .local) (ha : PAd X [ex, ey] m)
    (hw : swappedStores [.Tuple [.Name x px, .Name y py] kt pt] (.Tuple [ex, ey] k2 pt2) X.env = pure (some [x, y]))
    (hs : swapsWithSole [.Tuple [.Name x px, .Name y py] kt pt] (.Tuple [ex, ey] k2 pt2) pos.line X.env = pure false := by rfl) : PDS X (.Assign [.Tuple [.Name x px, .Name y py] kt pt] (.Tuple [ex, ey] k2 pt2) pos) (sPar i j m) :=
  PSimp (ps_par hc hN hi hj hij hx hy ha hw hs) fun E σ H ⟨G, F, e, r, hp⟩ => by
    obtain ⟨ds, e1, h1, hp⟩ := onR_inv hp
    split at hp
    · rename_i d1 d2
      obtain ⟨h2, hp⟩ := post_ite hp
      obtain ⟨h3, h4⟩ := Bool.or_eq_false_iff.mp h2
      refine ⟨G, F, e, _, e1, r, h1, fun vs F' H' n hd => ?_⟩
      cases hd with
      | cons g1 t =>
        cases t with
        | cons g2 t =>
          cases t
          refine ⟨_, _, rfl, hp F' H' _ ?_ n.go.ff⟩
          exact (n.r.set h3 (.inl ⟨d1, rfl, g1⟩)).set (ioAt_set h4) (.inl ⟨d2, rfl, g2⟩)
    · exact hp.elim
def sPar3 (i j k : Nat) (m : M (List D)) : En → Out := fun e => onR (m e) fun ds e' => match ds with
  | [d1, d2, d3] => if (ioAt e' i || (ioAt e' j || ioAt e' k)) = true then .no else .nx (((e'.set i (some (.f d1))).set j (some (.f d2))).set k (some (.f d3)))
  | _ => .no
/-- x op= e -/
def sAug (g : D → D → Rs Ce) (i : Nat) (m : M D) : En → Out := fun e => match e[i]? with
  | some (some (.f dx)) => onR (m e) fun d e' => (match g dx d with
    | .ok (.f dz) => .nx (e'.set i (some (.f dz)))
    | _ => .no)
  | _ => .no
theorem pds_aug {op : Operator} {r : R2} {g : D → D → Rs Ce} {m : M D} (hN : X.N.Nodup) (hi : X.N[i]? = some x) (hx : Loc X.env.scope x) (he : PF X ex m) (ho : OpR X (inplaceOp op) r) (hsnd : Snd2 X.K r g) (hf : X.fn x = true ∨ X.env.scope.names.lookup x = some .local := by first | exact .inl rfl | exact .inr rfl | assumption) :
    PDS X (.AugAssign (.Name x pos') op ex pos) (sAug g i m) := PSimp (ps_aug (ti := r) hN hi hx he ho hf) fun E σ H ⟨G, F, e, rr, hp⟩ => by
  unfold sAug at hp
  split at hp
  · rename_i dx q
    obtain ⟨d, e1, h1, hp⟩ := onR_inv hp
    obtain ⟨w, s0, a0⟩ := rr.at_ i _ q
    refine ⟨w, s0, G, F, e, d, e1, rr, h1, fun v F1 H1 n hd => ?_⟩
    split at hp
    · rename_i dz hg
      refine hsnd F1 H1 w v dx d _ _ n.r.fh (.inl (n.dn a0.fz)) (.inl hd) hg fun z F2 H2 go nat => ?_
      have n2 := n.r.step go
      refine hp F2 H2 _ (n2.r.set ?_ (.inl ⟨dz, rfl, nat.fz⟩)) (n.go.ff.trans go.ff)
      -- the slot holds frozen data still
      obtain ⟨c', g1, g2⟩ := sh_at n.sh q
      unfold ioAt
      rw [g1]
      show c'.io = false
      rw [(kd_ow g2).2]
      rfl
    · exact hp.elim
  · exact hp.elim

/-! ### for -/
/-- what the walk J yields: these data, whatever grows meanwhile -/
def Wk (K : PySem.W.Frag) (J : It) (F : Hp) (ds : List D) : Prop :=
  ∀ (i : Nat) (F2 H2 : Hp), Ex F F2 → Ex F2 H2 → (∀ d, ds[i]? = some d → J.go i H2 ∧ ∀ x H3, J.yld i H2 x H3 → ∃ F3, Go F2 H2 F3 H3 noA ∧ Dn K F3 x d) ∧ (ds[i]? = none → J.stop i H2)
def tI (K : PySem.W.Frag) (m : M (List D)) : TI := fun σ H R' => ∃ G F e ds e', R K G F H σ e ∧ m e = .ok (ds, e') ∧ ∀ J F' H', Nx K G σ F H e F' H' e' → Wk K J F' ds → R' J H'
abbrev PId (X : Cx) (tg iter : Expr) (m : M (List D)) : Prop := PI X tg iter (tI X.K m)
theorem PIimp {t t' : TI} (h : PI X tg ex t) (hi : ∀ σ H Q, t' σ H Q → t σ H Q) : PI X tg ex t' := ⟨fun pins s σ H Q I q => h.run pins s σ H Q I (hi σ H Q q)⟩
def mSeq (m : M D) : M (List D) := fun e => (m e).bind fun p => match p.1 with
  | .list ds => .ok (ds, p.2)
  | .ro ds => .ok (ds, p.2)
  | _ => .no
def mSeqT (m : M D) : M (List D) := fun e => (m e).bind fun p => match p.1 with
  | .tuple ds => .ok (ds, p.2)
  | _ => .no
theorem wk_list {xs : List V} {ds : List D} (h : SqL K F a xs) (hd : DnA K F xs ds) (inj : ∀ (H : Hp) ys, Ex F H → SqL K H a ys → ys = xs) : Wk K (Itl K a) F ds := fun i F2 H2 x1 x2 => by
  have hx := x1.trans x2
  refine ⟨fun d hi => ?_, fun hi => ?_⟩
  · obtain ⟨v, h1, h2⟩ := hd.get hi
    refine ⟨⟨xs, v, Evl.ex_l hx h, h1⟩, fun x H3 y => ?_⟩
    obtain ⟨rfl, y⟩ := y
    have := y xs (Evl.ex_l hx h)
    rw [h1] at this
    cases this
    exact ⟨F2, Go.refl x2, h2.mono x1⟩
  · exact ⟨xs, Evl.ex_l hx h, by rw [hd.len]; exact List.getElem?_eq_none_iff.mp hi⟩
/-- over a list that is frozen -/
theorem pid_list {m : M D} (h : PF X ex m) : PId X tg ex (mSeq m) := PIimp (pi_list h) fun σ H Q ⟨G, F, e, ds, e', r, hm, q⟩ => by
  obtain ⟨d, e1, h1, hm⟩ := bind_ok2 hm
  simp only at hm
  have key : ∀ v F' H', Nx X.K G σ F H e F' H' e1 → e' = e1 → (∃ a xs, v = V.ref a ∧ SqL X.K F' a xs ∧ DnA X.K F' xs ds) → ∃ a, v = V.ref a ∧ (∃ xs, SqL X.K H' a xs) ∧ Q (Itl X.K a) H' := fun v F' H' n he ⟨a, xs, hv, hl, hd⟩ => by
    subst he
    refine ⟨a, hv, ⟨xs, Evl.ex_l n.r.fh hl⟩, q _ F' H' n ?_⟩
    intro i F2 H2 x1 x2
    have hx := x1.trans x2
    refine ⟨fun d hi => ?_, fun hi => ?_⟩
    · obtain ⟨w, h1, h2⟩ := hd.get hi
      refine ⟨⟨xs, w, Evl.ex_l hx hl, h1⟩, fun x H3 y => ?_⟩
      obtain ⟨rfl, y⟩ := y
      have := y xs (Evl.ex_l hx hl)
      rw [h1] at this
      cases this
      exact ⟨F2, Go.refl x2, h2.mono x1⟩
    · exact ⟨xs, Evl.ex_l hx hl, by rw [hd.len]; exact List.getElem?_eq_none_iff.mp hi⟩
  split at hm
  · cases hm
    refine ⟨G, F, e, _, _, r, h1, fun v F' H' n hn => key v F' H' n rfl ?_⟩
    obtain ⟨a, xs, q1, q2, q3⟩ := hn.list_inv
    exact ⟨a, xs, q1, SqL.of q2, q3⟩
  · cases hm
    exact ⟨G, F, e, _, _, r, h1, fun v F' H' n hn => key v F' H' n rfl hn.ro_inv⟩
  · cases hm
theorem pid_tup {m : M D} (h : PF X ex m) : PId X tg ex (mSeqT m) := PIimp (pi_tup h) fun σ H Q ⟨G, F, e, ds, e', r, hm, q⟩ => by
  obtain ⟨d, e1, h1, hm⟩ := bind_ok2 hm
  simp only at hm
  split at hm
  · cases hm
    refine ⟨G, F, e, _, _, r, h1, fun v F' H' n hn => ?_⟩
    obtain ⟨a, xs, hv, hl, hd⟩ := hn.tuple_inv
    refine ⟨a, hv, ⟨xs, Evl.ex_t n.r.fh hl⟩, q _ F' H' n ?_⟩
    intro i F2 H2 x1 x2
    have hx := x1.trans x2
    refine ⟨fun d hi => ?_, fun hi => ?_⟩
    · obtain ⟨w, h1, h2⟩ := hd.get hi
      refine ⟨⟨xs, w, Evl.ex_t hx hl, h1⟩, fun x H3 y => ?_⟩
      obtain ⟨rfl, y⟩ := y
      have := y xs (Evl.ex_t hx hl)
      rw [h1] at this
      cases this
      exact ⟨F2, Go.refl x2, h2.mono x1⟩
    · exact ⟨xs, Evl.ex_t hx hl, by rw [hd.len]; exact List.getElem?_eq_none_iff.mp hi⟩
  · cases hm
/-- lo, lo + 1, .. -/
def rgD (lo : Int) : Nat → List D
  | 0 => []
  | n + 1 => .int lo :: rgD (lo + 1) n
theorem rgD_get : ∀ (n : Nat) (lo : Int) (i : Nat), i < n → (rgD lo n)[i]? = some (.int (lo + i))
  | 0, _, _, h => absurd h (Nat.not_lt_zero _)
  | n + 1, lo, 0, _ => by simp [rgD]
  | n + 1, lo, i + 1, h => by
    rw [rgD, List.getElem?_cons_succ, rgD_get n (lo + 1) i (by omega)]
    congr 2
    omega
theorem rgD_len : ∀ (n : Nat) (lo : Int), (rgD lo n).length = n
  | 0, _ => rfl
  | n + 1, lo => by rw [rgD, List.length_cons, rgD_len n]
theorem wk_rng (lo : Int) (n : Nat) : Wk K (Itr lo n) F (rgD lo n) := fun i F2 H2 x1 x2 => by
  refine ⟨fun d hi => ?_, fun hi => ?_⟩
  · have hl : i < n := by
      have := (List.getElem?_eq_some_iff.mp hi).1
      rwa [rgD_len] at this
    refine ⟨hl, fun x H3 y => ?_⟩
    obtain ⟨rfl, rfl⟩ := y
    rw [rgD_get n lo i hl] at hi
    cases hi
    exact ⟨F2, Go.refl x2, .int _⟩
  · have := List.getElem?_eq_none_iff.mp hi
    rw [rgD_len] at this
    exact this
def mRng1 (ma : M (List D)) : M (List D) := fun e => (ma e).bind fun p => match p.1 with
  | [.int n] => if -(2 ^ 62) ≤ n ∧ n < 2 ^ 62 then .ok (rgD 0 n.toNat, p.2) else .no
  | _ => .no
def mRng2 (ma : M (List D)) : M (List D) := fun e => (ma e).bind fun p => match p.1 with
  | [.int lo, .int n] => if -(2 ^ 62) ≤ lo ∧ lo < 2 ^ 62 ∧ -(2 ^ 62) ≤ n ∧ n < 2 ^ 62 then .ok (rgD lo (n - lo).toNat, p.2) else .no
  | _ => .no
theorem pid_rng1 {p : Pos} {ma : M (List D)} (hg : Gl X "range") (hm : X.mg "range" = none) (ha : PAd X [ex] ma) (hs : starEach [ex] X.env = [(false, eval ex X.env)] := by rfl) : PId X tg (.Call (.Name "range" p) [ex] [] pos) (mRng1 ma) :=
  PIimp (pi_range1 hg hm ha hs) fun σ H Q ⟨G, F, e, ds, e', r, hm, q⟩ => by
    obtain ⟨d, e1, h1, hm⟩ := bind_ok2 hm
    simp only at hm
    split at hm
    · rename_i n
      obtain ⟨hz, hm⟩ := ite_ok hm
      cases hm
      refine ⟨G, F, e, _, _, r, h1, fun vs F' H' n' hd => ?_⟩
      cases hd with
      | cons g t =>
        cases t
        rw [g.int_inv]
        exact ⟨n, rfl, hz.1, hz.2, q _ F' H' n' (wk_rng 0 n.toNat)⟩
    · cases hm
theorem pid_rng2 {p : Pos} {ma : M (List D)} (hg : Gl X "range") (hm : X.mg "range" = none) (ha : PAd X [ex, ey] ma) (hs : starEach [ex, ey] X.env = [(false, eval ex X.env), (false, eval ey X.env)] := by rfl) (hs2 : starEach [ey] X.env = [(false, eval ey X.env)] := by rfl) : PId X tg (.Call (.Name "range" p) [ex, ey] [] pos) (mRng2 ma) :=
  PIimp (pi_range2 hg hm ha hs hs2) fun σ H Q ⟨G, F, e, ds, e', r, hm, q⟩ => by
    obtain ⟨d, e1, h1, hm⟩ := bind_ok2 hm
    simp only at hm
    split at hm
    · rename_i lo n
      obtain ⟨hz, hm⟩ := ite_ok hm
      cases hm
      refine ⟨G, F, e, _, _, r, h1, fun vs F' H' n' hd => ?_⟩
      cases hd with
      | cons g t =>
        cases t with
        | cons g2 t =>
          cases t
          rw [g.int_inv, g2.int_inv]
          exact ⟨lo, n, rfl, hz, q _ F' H' n' (wk_rng lo _)⟩
    · cases hm
def loopL (t : Tg) (b : En → Out) : List D → En → Out
  | [], e => .nx e
  | d :: ds, e => match t d e with
    | .ok e1 => (match b e1 with
      | .nx e2 => loopL t b ds e2
      | .ct e2 => loopL t b ds e2
      | .bk e2 => .nx e2
      | o => o)
    | _ => .no
def sFor (m : M (List D)) (t : Tg) (b : En → Out) : En → Out := fun e => onR (m e) fun ds e' => loopL t b ds e'
theorem for_ok {m : M (List D)} {t : Tg} {is : List Nat} {b : En → Out} (h : tS K (sFor m t b) E σ H) : tFor (tI K m) (tG K t is) (tS K b) E σ H := by
  obtain ⟨G, F, e, r, hp⟩ := h
  obtain ⟨ds, e1, h1, hp⟩ := onR_inv hp
  refine ⟨G, F, e, ds, e1, r, h1, fun J F0 H0 n wk => ?_⟩
  refine ⟨fun i m σ H => m = ds.length - i ∧ i ≤ ds.length ∧ ∃ F e, R K G F H σ e ∧ Ex F0 F ∧ Post K G F E (loopL t b (ds.drop i) e), ⟨ds.length, by omega, Nat.zero_le _, F0, e1, n.r, Evl.Ex.refl _, by rw [List.drop_zero]; exact Post.ex hp n.go.ff⟩, ?_⟩
  rintro i m σ' H' ⟨rfl, hi, F', e', r', x', hp'⟩
  obtain ⟨w1, w2⟩ := wk i F' H' x' r'.fh
  by_cases hlt : i < ds.length
  · have hd : ds[i]? = some ds[i] := List.getElem?_eq_getElem hlt
    obtain ⟨g1, g2⟩ := w1 _ hd
    rw [List.drop_eq_getElem_cons hlt] at hp'
    refine .inr ⟨g1, fun σ2 H2 => ∃ F e, R K G F H2 σ2 e ∧ Ex F0 F ∧ Post K G F E (loopL t b (ds.drop (i + 1)) e), fun σ2 H2 q => ⟨ds.length - (i + 1), by omega, rfl, hlt, q⟩, fun x H3 y => ?_⟩
    obtain ⟨F3, go, hx⟩ := g2 x H3 y
    have n3 := r'.step go
    unfold loopL at hp'
    split at hp'
    · rename_i e2 ht
      refine ⟨G, F3, e', _, e2, n3.r, hx, ht, fun σ4 r4 _ => ⟨G, F3, e2, r4, ?_⟩⟩
      cases hb : b e2 with
      | nx e3 =>
        rw [hb] at hp'
        exact fun F5 H5 σ5 r5 x5 => ⟨F5, e3, r5, (x'.trans go.ff).trans x5, Post.ex hp' (go.ff.trans x5)⟩
      | ct e3 =>
        rw [hb] at hp'
        exact fun F5 H5 σ5 r5 x5 => ⟨F5, e3, r5, (x'.trans go.ff).trans x5, Post.ex hp' (go.ff.trans x5)⟩
      | bk e3 =>
        rw [hb] at hp'
        exact fun F5 H5 σ5 r5 x5 => hp' F5 H5 σ5 r5 (go.ff.trans x5)
      | rt c e3 =>
        rw [hb] at hp'
        exact fun v F5 H5 σ5 r5 x5 q => hp' v F5 H5 σ5 r5 (go.ff.trans x5) q
      | ex n ds => rw [hb] at hp'; exact hp'.elim
      | no => rw [hb] at hp'; exact hp'.elim
    · exact hp'.elim
  · have e2 : i = ds.length := by omega
    subst e2
    rw [List.drop_length] at hp'
    exact .inl ⟨w2 (List.getElem?_eq_none (Nat.le_refl _)), hp' F' H' σ' r' (Evl.Ex.refl _)⟩
theorem pds_for {m : M (List D)} {t : Tg} {is : List Nat} {b : En → Out} (hp : PassesOwn (model X.prog X.w) X.A X.env X.xe) (hc : X.calm = true) (hi : PId X tg ex m) (hg : PGd X tg t is) (hb : PDs X sts b) (hs : ∀ x, foldedSetIterable ex X.env x = pure x := by intro _; rfl) :
    PDS X (.For tg ex sts [] pos) (sFor m t b) := PSimp (ps_for hp hc hi hg hb hs) fun D σ H h => for_ok h

/-! ### while -/
def wN (t : M Bool) (b : En → Out) : Nat → En → Out
  | 0, _ => .no
  | n + 1, e => match t e with
    | .ok (true, e1) => (match b e1 with
      | .nx e2 => wN t b n e2
      | .ct e2 => wN t b n e2
      | .bk e2 => .nx e2
      | o => o)
    | .ok (false, e1) => .nx e1
    | .ex n ds => .ex n ds
    | .no => .no
theorem wN_mono {t : M Bool} {b : En → Out} : ∀ (n : Nat) (e : En), wN t b n e ≠ .no → wN t b (n + 1) e = wN t b n e
  | 0, e, h => absurd rfl h
  | n + 1, e, h => by
    show wN t b (n + 1 + 1) e = wN t b (n + 1) e
    have e1 : ∀ k, wN t b (k + 1) e = (match t e with
      | .ok (true, e1) => (match b e1 with
        | .nx e2 => wN t b k e2
        | .ct e2 => wN t b k e2
        | .bk e2 => .nx e2
        | o => o)
      | .ok (false, e1) => .nx e1
      | .ex n ds => .ex n ds
      | .no => .no) := fun k => rfl
    rw [e1 n] at h
    rw [e1 (n + 1), e1 n]
    cases ht : t e with
    | ex _ _ => rfl
    | no => rfl
    | ok p =>
      obtain ⟨c, e2⟩ := p
      rw [ht] at h
      cases c with
      | false => rfl
      | true =>
        simp only at h ⊢
        cases hb : b e2 with
        | nx e3 => rw [hb] at h; exact wN_mono n e3 h
        | ct e3 => rw [hb] at h; exact wN_mono n e3 h
        | bk e3 => rfl
        | rt c e3 => rfl
        | ex _ _ => rfl
        | no => rfl
theorem wN_le {t : M Bool} {b : En → Out} {n : Nat} {e : En} (h : wN t b n e ≠ .no) : ∀ k, wN t b (n + k) e = wN t b n e
  | 0 => rfl
  | k + 1 => by
    have ih := wN_le h k
    show wN t b (n + k + 1) e = _
    rw [wN_mono (n + k) e (by rw [ih]; exact h), ih]
open Classical in
noncomputable def sWhile (t : M Bool) (b : En → Out) : En → Out := fun e => if h : ∃ n, wN t b n e ≠ .no then wN t b h.choose e else .no
theorem sWhile_at {t : M Bool} {b : En → Out} {n : Nat} {e : En} (h : wN t b n e ≠ .no) : sWhile t b e = wN t b n e := by
  unfold sWhile
  have hx : ∃ n, wN t b n e ≠ .no := ⟨n, h⟩
  rw [dif_pos hx]
  have h1 := wN_le hx.choose_spec n
  have h2 := wN_le h hx.choose
  rw [← h1, ← h2, Nat.add_comm]
/-- the unfolding -/
theorem sWhile_eq (t : M Bool) (b : En → Out) (e : En) : sWhile t b e = (match t e with
    | .ok (true, e1) => (match b e1 with
      | .nx e2 => sWhile t b e2
      | .ct e2 => sWhile t b e2
      | .bk e2 => .nx e2
      | o => o)
    | .ok (false, e1) => .nx e1
    | .ex n ds => .ex n ds
    | .no => .no) := by
  have e1 : ∀ k, wN t b (k + 1) e = (match t e with
    | .ok (true, e1) => (match b e1 with
      | .nx e2 => wN t b k e2
      | .ct e2 => wN t b k e2
      | .bk e2 => .nx e2
      | o => o)
    | .ok (false, e1) => .nx e1
    | .ex n ds => .ex n ds
    | .no => .no) := fun k => rfl
  cases ht : t e with
  | ex m ds =>
    have := e1 0
    rw [ht] at this
    exact (sWhile_at (n := 1) (by rw [this]; intro z; cases z)).trans this
  | no =>
    show sWhile t b e = .no
    unfold sWhile
    rw [dif_neg]
    rintro ⟨n, hn⟩
    cases n with
    | zero => exact hn rfl
    | succ n => rw [e1 n, ht] at hn; exact hn rfl
  | ok p =>
    obtain ⟨c, e2⟩ := p
    cases c with
    | false =>
      have := e1 0
      rw [ht] at this
      exact (sWhile_at (n := 1) (by rw [this]; intro z; cases z)).trans this
    | true =>
      simp only
      have go : ∀ e3, (∀ k, wN t b (k + 1) e = wN t b k e3) → sWhile t b e = sWhile t b e3 := fun e3 hk => by
        by_cases hx : ∃ n, wN t b n e3 ≠ .no
        · obtain ⟨n, hn⟩ := hx
          rw [sWhile_at hn, sWhile_at (n := n + 1) (by rw [hk n]; exact hn), hk n]
        · have hy : ¬ ∃ n, wN t b n e ≠ .no := fun ⟨n, hn⟩ => by
            cases n with
            | zero => exact hn rfl
            | succ n => exact hx ⟨n, by rw [← hk n]; exact hn⟩
          unfold sWhile
          rw [dif_neg hx, dif_neg hy]
      cases hb : b e2 with
      | nx e3 => exact go e3 fun k => by rw [e1 k, ht]; simp only [hb]
      | ct e3 => exact go e3 fun k => by rw [e1 k, ht]; simp only [hb]
      | bk e3 =>
        have := e1 0
        rw [ht] at this
        simp only [hb] at this
        exact (sWhile_at (n := 1) (by rw [this]; intro z; cases z)).trans this
      | rt c e3 =>
        have := e1 0
        rw [ht] at this
        simp only [hb] at this
        exact (sWhile_at (n := 1) (by rw [this]; intro z; cases z)).trans this
      | ex m ds =>
        have := e1 0
        rw [ht] at this
        simp only [hb] at this
        exact (sWhile_at (n := 1) (by rw [this]; intro z; cases z)).trans this
      | no =>
        show sWhile t b e = .no
        unfold sWhile
        rw [dif_neg]
        rintro ⟨n, hn⟩
        cases n with
        | zero => exact hn rfl
        | succ n =>
          rw [e1 n, ht] at hn
          simp only [hb] at hn
          exact hn rfl
theorem while_ok {t : M Bool} {b : En → Out} (h : tS K (sWhile t b) E σ H) : tWhile (tT K t) (tS K b) E σ H := by
  obtain ⟨G, F0, e0, r0, hp0⟩ := h
  have hx : ∃ n, wN t b n e0 ≠ .no := by
    by_cases hx : ∃ n, wN t b n e0 ≠ .no
    · exact hx
    · unfold sWhile at hp0
      rw [dif_neg hx] at hp0
      exact hp0.elim
  obtain ⟨n0, hn0⟩ := hx
  rw [sWhile_at hn0] at hp0
  refine ⟨fun n σ H => ∃ F e, R K G F H σ e ∧ Ex F0 F ∧ Post K G F E (wN t b n e), ⟨n0, F0, e0, r0, Evl.Ex.refl _, hp0⟩, ?_⟩
  rintro n σ1 H1 ⟨F1, e1, r1, x1, hp⟩
  cases n with
  | zero => exact hp.elim
  | succ n =>
    unfold wN at hp
    split at hp
    · rename_i e2 ht
      refine ⟨G, F1, e1, true, e2, r1, ht, fun F' H' nx => ?_⟩
      refine (if_pos rfl).mpr ⟨fun σ H => ∃ F e, R K G F H σ e ∧ Ex F0 F ∧ Post K G F E (wN t b n e), fun σ' H' q => ⟨n, Nat.lt_succ_self n, q⟩, G, F', e2, nx.r, ?_⟩
      cases hb : b e2 with
      | nx e3 =>
        rw [hb] at hp
        exact fun F5 H5 σ5 r5 x5 => ⟨F5, e3, r5, (x1.trans nx.go.ff).trans x5, Post.ex hp (nx.go.ff.trans x5)⟩
      | ct e3 =>
        rw [hb] at hp
        exact fun F5 H5 σ5 r5 x5 => ⟨F5, e3, r5, (x1.trans nx.go.ff).trans x5, Post.ex hp (nx.go.ff.trans x5)⟩
      | bk e3 =>
        rw [hb] at hp
        exact fun F5 H5 σ5 r5 x5 => hp F5 H5 σ5 r5 (nx.go.ff.trans x5)
      | rt c e3 =>
        rw [hb] at hp
        exact fun v F5 H5 σ5 r5 x5 q => hp v F5 H5 σ5 r5 (nx.go.ff.trans x5) q
      | ex n ds => rw [hb] at hp; exact hp.elim
      | no => rw [hb] at hp; exact hp.elim
    · rename_i e2 ht
      refine ⟨G, F1, e1, false, e2, r1, ht, fun F' H' nx => ?_⟩
      exact (if_neg Bool.false_ne_true).mpr (hp F' H' σ1 nx.r nx.go.ff)
    · exact hp.elim
    · exact hp.elim
theorem pds_while {t : M Bool} {b : En → Out} (hp : PassesOwn (model X.prog X.w) X.A X.env X.xe) (hc : PTd X ex t) (hb : PDs X sts b) : PDS X (.While ex sts [] pos) (sWhile t b) := PSimp (ps_while hp hc hb) fun D σ H h => while_ok h
end
end DL

namespace DL
open PySem L2 PyProof.Rows

/-! ### what a def promises -/
abbrev Sf := List Ce → Rs (Ce × List Ce)
inductive CsAt (K : PySem.W.Frag) (F H : Hp) : Nat → List Ce → List V → List (Nat × Addr) → Prop where
  | nil {n : Nat} : CsAt K F H n [] [] []
  | f {n : Nat} {v : V} {d : D} {cs : List Ce} {vs : List V} {io : List (Nat × Addr)} : Dn K F v d → CsAt K F H (n + 1) cs vs io → CsAt K F H n (.f d :: cs) (v :: vs) io
  | o {n : Nat} {a : Addr} {c : Ce} {o : HO} {xs : List V} {cs : List Ce} {vs : List V} {io : List (Nat × Addr)} : c.io = true → F a = none → H a = some o → CeO o c xs → DnA K F xs c.mem → CsAt K F H (n + 1) cs vs io →
      CsAt K F H n (c :: cs) (.ref a :: vs) ((n, a) :: io)
inductive OutAt (K : PySem.W.Frag) (F H : Hp) : List Addr → List Ce → Prop where
  | nil : OutAt K F H [] []
  | cons {a : Addr} {c : Ce} {o : HO} {xs : List V} {as : List Addr} {cs : List Ce} : F a = none → H a = some o → CeO o c xs → DnA K F xs c.mem → OutAt K F H as cs → OutAt K F H (a :: as) (c :: cs)
def spD (K : PySem.W.Frag) (S : Sf) : Sp := fun vs H Q _ => ∃ F cs c outs io, Ex F H ∧ CsAt K F H 0 cs vs io ∧ (io.map (·.2)).Nodup ∧ S cs = .ok (c, outs) ∧
  ∀ v F' H', Go F H F' H' (· ∈ io.map (·.2)) → NAt K H F' H' c v → OutAt K F' H' (io.map (·.2)) outs → Q v H'
def owIx : Nat → List Ce → List Nat
  | _, [] => []
  | n, c :: cs => match c with
    | .f _ => owIx (n + 1) cs
    | _ => n :: owIx (n + 1) cs
def outsAt : List Nat → En → Rs (List Ce)
  | [], _ => .ok []
  | i :: is, e => match e[i]? with
    | some (some c) => if c.io = true then (outsAt is e).bind fun cs => .ok (c :: cs) else .no
    | _ => .no
def startE (n : Nat) (cs : List Ce) : En := cs.map some ++ List.replicate (n - cs.length) none
def runD (n : Nat) (m : En → Out) (cs : List Ce) : Rs (Ce × List Ce) := match m (startE n cs) with
  | .rt c e => (outsAt (owIx 0 cs) e).bind fun os => .ok (c, os)
  | .nx e => (outsAt (owIx 0 cs) e).bind fun os => .ok (.f .none, os)
  | .ex n ds => .ex n ds
  | _ => .no
section
variable {K : PySem.W.Frag} {F H F' H' : Hp}
theorem CsAt.len : ∀ {n : Nat} {cs : List Ce} {vs : List V} {io : List (Nat × Addr)}, CsAt K F H n cs vs io → cs.length = vs.length
  | _, _, _, _, .nil => rfl
  | _, _, _, _, .f _ t => congrArg (· + 1) (CsAt.len t)
  | _, _, _, _, .o _ _ _ _ _ t => congrArg (· + 1) (CsAt.len t)
theorem CsAt.ix : ∀ {n : Nat} {cs : List Ce} {vs : List V} {io : List (Nat × Addr)}, CsAt K F H n cs vs io → io.map (·.1) = owIx n cs
  | _, _, _, _, .nil => rfl
  | _, _, _, _, .f _ t => by unfold owIx; exact CsAt.ix t
  | _, _, _, _, .o (c := c) h _ _ ho _ t => by
    cases c with
    | f d => exact ho.elim
    | l p ds => unfold owIx; rw [List.map_cons, CsAt.ix t]
    | k p t0 ks vs => unfold owIx; rw [List.map_cons, CsAt.ix t]
theorem CsAt.le : ∀ {n : Nat} {cs : List Ce} {vs : List V} {io : List (Nat × Addr)}, CsAt K F H n cs vs io → ∀ p ∈ io, n ≤ p.1
  | _, _, _, _, .nil, _, h => nomatch h
  | _, _, _, _, .f _ t, p, h => by have := CsAt.le t p h; omega
  | _, _, _, _, .o _ _ _ _ _ t, p, h => by
    rcases List.mem_cons.mp h with rfl | h
    · exact Nat.le_refl _
    · have := CsAt.le t p h; omega
/-- what a parameter's slot holds at the entry -/
theorem CsAt.at : ∀ {n : Nat} {cs : List Ce} {vs : List V} {io : List (Nat × Addr)}, CsAt K F H n cs vs io → ∀ (i : Nat) (c : Ce), cs[i]? = some c → ∃ v, vs[i]? = some v ∧
    ((∃ d, c = .f d ∧ Dn K F v d) ∨ ∃ a o xs, v = .ref a ∧ c.io = true ∧ F a = none ∧ H a = some o ∧ CeO o c xs ∧ DnA K F xs c.mem ∧ (n + i, a) ∈ io)
  | _, _, _, _, .nil, i, c, h => by simp at h
  | _, _, _, _, .f hd t, 0, c, h => by
    simp at h
    subst h
    exact ⟨_, by simp, .inl ⟨_, rfl, hd⟩⟩
  | n, _, _, _, .f hd t, i + 1, c, h => by
    simp at h
    obtain ⟨v, h1, h2⟩ := CsAt.at t i c h
    refine ⟨v, by simpa using h1, ?_⟩
    rcases h2 with h2 | ⟨a, o, xs, q1, q2, q3, q4, q5, q6, q7⟩
    · exact .inl h2
    · exact .inr ⟨a, o, xs, q1, q2, q3, q4, q5, q6, by rw [show n + (i + 1) = n + 1 + i by omega]; exact q7⟩
  | n, _, _, _, .o h1 h2 h3 h4 h5 t, 0, c, h => by
    simp at h
    subst h
    exact ⟨_, by simp, .inr ⟨_, _, _, rfl, h1, h2, h3, h4, h5, by simp⟩⟩
  | n, _, _, _, .o h1 h2 h3 h4 h5 t, i + 1, c, h => by
    simp at h
    obtain ⟨v, g1, g2⟩ := CsAt.at t i c h
    refine ⟨v, by simpa using g1, ?_⟩
    rcases g2 with h2 | ⟨a, o, xs, q1, q2, q3, q4, q5, q6, q7⟩
    · exact .inl h2
    · exact .inr ⟨a, o, xs, q1, q2, q3, q4, q5, q6, List.mem_cons_of_mem _ (by rw [show n + (i + 1) = n + 1 + i by omega]; exact q7)⟩
theorem CsAt.ios : ∀ {n : Nat} {cs : List Ce} {vs : List V} {io : List (Nat × Addr)}, CsAt K F H n cs vs io → ∀ p ∈ io, ∃ i, p.1 = n + i ∧ vs[i]? = some (.ref p.2) ∧ ∃ c, cs[i]? = some c ∧ c.io = true
  | _, _, _, _, .nil, _, h => nomatch h
  | n, _, _, _, .f _ t, p, h => by
    obtain ⟨i, h1, h2, c, h3, h4⟩ := CsAt.ios t p h
    exact ⟨i + 1, by omega, by simpa using h2, c, by simpa using h3, h4⟩
  | n, _, _, _, .o q _ _ _ _ t, p, h => by
    rcases List.mem_cons.mp h with rfl | h
    · exact ⟨0, rfl, by simp, _, by simp, q⟩
    · obtain ⟨i, h1, h2, c, h3, h4⟩ := CsAt.ios t p h
      exact ⟨i + 1, by omega, by simpa using h2, c, by simpa using h3, h4⟩
theorem nd_snd {io : List (Nat × Addr)} (h : (io.map (·.2)).Nodup) {i j : Nat} {a : Addr} (h1 : (i, a) ∈ io) (h2 : (j, a) ∈ io) : i = j := by
  induction io with
  | nil => cases h1
  | cons p io ih =>
    rw [List.map_cons, List.nodup_cons] at h
    rcases List.mem_cons.mp h1 with e1 | h1'
    · rcases List.mem_cons.mp h2 with e2 | h2'
      · rw [← e2] at e1
        exact congrArg Prod.fst e1
      · exfalso
        apply h.1
        rw [← e1]
        exact List.mem_map_of_mem (f := (·.2)) h2'
    · rcases List.mem_cons.mp h2 with e2 | h2'
      · exfalso
        apply h.1
        rw [← e2]
        exact List.mem_map_of_mem (f := (·.2)) h1'
      · exact ih h.2 h1' h2'
theorem start_at {N : List Str} {vs : List V} {i : Nat} {v : V} (h : vs[i]? = some v) : (L2.start N vs)[i]? = some (some v) := by
  unfold L2.start
  have hl : i < vs.length := (List.getElem?_eq_some_iff.mp h).1
  rw [List.getElem?_append_left (by simpa using hl), List.getElem?_map, h]
  rfl
theorem startE_at {n i : Nat} {cs : List Ce} {c : Ce} (h : (startE n cs)[i]? = some (some c)) : cs[i]? = some c := by
  unfold startE at h
  by_cases hl : i < cs.length
  · rw [List.getElem?_append_left (by simpa using hl), List.getElem?_map] at h
    cases q : cs[i]? with
    | none => rw [q] at h; cases h
    | some c' => rw [q] at h; simpa using h
  · rw [List.getElem?_append_right (by simpa using Nat.le_of_not_lt hl)] at h
    have := List.mem_of_getElem? h
    rw [List.mem_replicate] at this
    cases this.2
/-- the state at the entry -/
theorem R.start {N : List Str} {cs : List Ce} {vs : List V} {io : List (Nat × Addr)} (e : Ex F H) (h : CsAt K F H 0 cs vs io) (hn : (io.map (·.2)).Nodup) (hN : vs.length ≤ N.length) : R K ⟨F, H, io⟩ F H (L2.start N vs) (startE N.length cs) := by
  refine ⟨Go.refl e, e, fun i c q => ?_, fun i j c c' a hij h1 h2 o1 o2 s1 s2 => ?_, fun p hp => ?_, ?_⟩
  · obtain ⟨v, h1, h2⟩ := h.at i c (startE_at q)
    refine ⟨v, start_at h1, ?_⟩
    rcases h2 with h2 | ⟨a, o, xs, rfl, q2, q3, q4, q5, q6, q7⟩
    · exact .inl h2
    · exact .inr ⟨a, o, xs, rfl, q3, q4, q5, q6, fun _ => by simpa using q7, fun z => by rw [q2] at z; cases z⟩
  · obtain ⟨v, g1, g2⟩ := h.at i c (startE_at h1)
    obtain ⟨v', g1', g2'⟩ := h.at j c' (startE_at h2)
    rw [start_at g1] at s1
    rw [start_at g1'] at s2
    cases s1
    cases s2
    rcases g2 with ⟨d, rfl, _⟩ | ⟨b, o, xs, q1, q2, q3, q4, q5, q6, q7⟩
    · cases o1
    · rcases g2' with ⟨d, rfl, _⟩ | ⟨b', o', xs', r1, r2, r3, r4, r5, r6, r7⟩
      · cases o2
      · cases q1
        cases r1
        exact hij (by simpa using nd_snd hn q7 r7)
  · obtain ⟨i, h1, h2, c, h3, h4⟩ := h.ios p hp
    have e1 : p.1 = i := by omega
    refine ⟨by rw [e1]; exact start_at h2, c, ?_, h4⟩
    rw [e1]
    unfold startE
    have hl : i < cs.length := (List.getElem?_eq_some_iff.mp h3).1
    rw [List.getElem?_append_left (by simpa using hl), List.getElem?_map, h3]
    rfl
  · have := h.len
    unfold startE L2.start
    simp
    omega
/-- what was handed in, at the end -/
theorem R.outs {G : Bs} {σ : L2.St} {e : En} (r : R K G F H σ e) : ∀ (io : List (Nat × Addr)) (os : List Ce), (∀ p ∈ io, p ∈ G.io) → outsAt (io.map (·.1)) e = .ok os → OutAt K F H (io.map (·.2)) os
  | [], os, _, h => by cases h; exact .nil
  | p :: io, os, hp, h => by
    rw [List.map_cons] at h
    unfold outsAt at h
    split at h
    · rename_i c q
      obtain ⟨hio, h⟩ := ite_ok h
      obtain ⟨cs, h1, h2⟩ := Rs.bind_eq h
      cases h2
      obtain ⟨v, g1, g2⟩ := r.at_ p.1 c q
      have := (r.io p (hp p List.mem_cons_self)).1
      rw [this] at g1
      cases g1
      rcases g2 with ⟨d, rfl, _⟩ | ⟨b, o, xs, q1, q2, q3, q4, q5, _⟩
      · cases hio
      · cases q1
        rw [List.map_cons]
        exact .cons q2 q3 q4 q5 (R.outs r io cs (fun p' hp' => hp p' (List.mem_cons_of_mem _ hp')) h1)
    · cases h
end
/-- a def's body in its context -/
abbrev XX (P : Program) (w : World) (K : PySem.W.Frag) (mg : Str → Option Value) (base : Heap) (N : List Str) (qual : Str) (sc : Scope) (f : Addr) (cdv : Value) (A : Around) (outer : List PySem.Env) (s : Shared) (H : Hp) (E : XK) : Cx :=
  (cxOf CX0 P w K mg base N qual sc f cdv A outer s H E).nox
section
variable {P : Program} {w : World} {K : PySem.W.Frag} {mg : Str → Option Value} {base : Heap}
abbrev FnD (P : Program) (w : World) (K : PySem.W.Frag) (mg : Str → Option Value) (base : Heap) (k : Nat) (f : Addr) (fd : FuncData) (ps : List Str) (S : Sf) : Prop := FnOk P w K mg base CX0 k f fd ps (spD K S)
theorem fnD_ok {x qual : Str} {st : Stmt} {f : Addr} {fd : FuncData} {N ps : List Str} {k : Nat} {S : Sf} (F : Fun K x qual st f fd) (Sc : FnScope N ps (defScope st)) (hN : ps.length ≤ N.length) (m : En → Out)
    (hb : ∀ (cdv : Value) (A : Around) (outer : List PySem.Env) (s : Shared) (H : Hp) (E : XK), Room k (A.deeper (envOfC qual (defScope st) s.heap.objs.size f cdv)) → PDs (XX P w K mg base N qual (defScope st) f cdv A outer s H E) (defBody st) m)
    (hS : ∀ cs c outs, S cs = .ok (c, outs) → cs.length = ps.length ∧ runD N.length m cs = .ok (c, outs)) : FnD P w K mg base (k + 1) f fd ps S := by
  refine F.ok Sc (fun vs H Q E h => ?_) (fun cdv A outer s H vs Q E hr h => ?_)
  · obtain ⟨F0, cs, c, outs, io, _, h1, _, h2, _⟩ := h
    rw [← h1.len]
    exact (hS cs c outs h2).1
  · obtain ⟨F0, cs, c, outs, io, he, h1, hn, h2, q⟩ := h
    obtain ⟨hl, hm⟩ := hS cs c outs h2
    refine ⟨_, hb cdv A outer s H E hr, ⟨F0, H, io⟩, F0, startE N.length cs, R.start he h1 hn (by rw [← h1.len, hl]; exact hN), ?_⟩
    unfold runD at hm
    have gms : ∀ b, Bs.ms ⟨F0, H, io⟩ b → b ∈ io.map (·.2) := fun b ⟨i, hi⟩ => List.mem_map_of_mem (f := (·.2)) hi
    split at hm
    · rename_i c' e' hq
      obtain ⟨os, g1, g2⟩ := Rs.bind_eq hm
      cases g2
      rw [hq]
      intro v F' H' σ' r x rt
      rw [← h1.ix] at g1
      exact q v F' H' (r.go.mono gms) rt (r.outs io _ (fun _ h => h) g1)
    · rename_i e' hq
      obtain ⟨os, g1, g2⟩ := Rs.bind_eq hm
      cases g2
      rw [hq]
      intro F' H' σ' r x
      rw [← h1.ix] at g1
      exact q .non F' H' (r.go.mono gms) (.inl ⟨_, rfl, .non⟩) (r.outs io _ (fun _ h => h) g1)
    · cases hm
    · cases hm
theorem FnD.imp {k : Nat} {f : Addr} {fd : FuncData} {ps : List Str} {S S' : Sf} (F : FnD P w K mg base k f fd ps S) (h : ∀ cs r, S' cs = .ok r → S cs = .ok r) : FnD P w K mg base k f fd ps S' :=
  FnOk.imp F fun vs H Q E ⟨F0, cs, c, outs, io, h1, h2, h3, h4, h5⟩ => ⟨F0, cs, c, outs, io, h1, h2, h3, h _ _ h4, h5⟩
end

/-! ### a call -/
/-- an argument: data, or a slot whose object the callee may change -/
inductive Ag where
  | d (d : D) | s (i : Nat)
def AgAt (K : PySem.W.Frag) (σ : L2.St) (F : Hp) (e : En) : Ag → V → Prop
  | .d d, v => Dn K F v d
  | .s i, v => σ[i]? = some (some v) ∧ ∃ c : Ce, e[i]? = some (some c) ∧ c.ow = true
inductive AgsAt (K : PySem.W.Frag) (σ : L2.St) (F : Hp) (e : En) : List Ag → List V → Prop where
  | nil : AgsAt K σ F e [] []
  | cons {a : Ag} {as : List Ag} {v : V} {vs : List V} : AgAt K σ F e a v → AgsAt K σ F e as vs → AgsAt K σ F e (a :: as) (v :: vs)
def tAg (K : PySem.W.Frag) (m : M (List Ag)) : TA := fun σ H Q => ∃ G F e as e', R K G F H σ e ∧ m e = .ok (as, e') ∧ ∀ vs F' H', Nx K G σ F H e F' H' e' → AgsAt K σ F' e' as vs → Q vs H'
abbrev PAg (X : Cx) (es : List Expr) (m : M (List Ag)) : Prop := PA X es (tAg X.K m)
def aD (m : M D) : M Ag := fun e => (m e).bind fun p => .ok (.d p.1, p.2)
def aS (i : Nat) : M Ag := fun e => match e[i]? with
  | some (some c) => if c.ow = true then .ok (.s i, e) else .no
  | _ => .no
def agCells : List Ag → En → Rs (List Ce)
  | [], _ => .ok []
  | .d d :: as, e => (agCells as e).bind fun cs => .ok (.f d :: cs)
  | .s i :: as, e => match e[i]? with
    | some (some c) => (agCells as e).bind fun cs => .ok (c.lent :: cs)
    | _ => .no
def agSlots : List Ag → List Nat
  | [] => []
  | .d _ :: as => agSlots as
  | .s i :: as => i :: agSlots as
def putBack : List Nat → List Ce → En → Rs En
  | [], [], e => .ok e
  | i :: is, c :: cs, e => match e[i]?, c with
    | some (some (.l p _)), .l _ ds => putBack is cs (e.set i (some (.l p ds)))
    | some (some (.k p t _ _)), .k _ t' ks vs => if t = t' then putBack is cs (e.set i (some (.k p t' ks vs))) else .no
    | _, _ => .no
  | _, _, _ => .no
def mCall (S : Sf) (ma : M (List Ag)) : M Ce := fun e => (ma e).bind fun p => (agCells p.1 p.2).bind fun cs => if (agSlots p.1).Nodup then (S cs).bind fun r => (putBack (agSlots p.1) r.2 p.2).bind fun e' => .ok (r.1, e') else .no
section
variable {X : Cx} {K : PySem.W.Frag} {G : Bs} {F F1 H H1 F2 H2 : Hp} {σ : L2.St} {e e1 : En} {v : V} {c : Ce} {d : D} {i : Nat} {a : Addr}
variable {ex ey : Expr} {es : List Expr} {pos p : Pos} {x : Str}
theorem AgAt.nx {g : Ag} (n : Nx K G σ F H e F1 H1 e1) (h : AgAt K σ F e g v) : AgAt K σ F1 e1 g v := by
  cases g with
  | d d => exact n.dn h
  | s i =>
    obtain ⟨h1, c, h2, h3⟩ := h
    obtain ⟨c', h4, h5⟩ := sh_at n.sh h2
    exact ⟨h1, c', h4, by rw [(kd_ow h5).1]; exact h3⟩
theorem pag_nil : PAg X [] aNil := PAimp pa_nil fun σ H Q ⟨G, F, e, d, e', r, hm, q⟩ => by
  cases hm
  exact q [] F H (Nx.refl r) .nil
theorem pag_cons {m : M D} {ms : M (List Ag)} (ha : PF X ex m) (hr : PAg X es ms) (hs : starEach (ex :: es) X.env = (false, eval ex X.env) :: starEach es X.env := by rfl) : PAg X (ex :: es) (aCons (aD m) ms) := PAimp (pa_cons ha hr hs) fun σ H Q ⟨G, F, e, d, e', r, hm, q⟩ => by
  obtain ⟨x, e1, h1, hm⟩ := bind_ok2 hm
  obtain ⟨y, e2, h2, hm⟩ := bind_ok2 hm
  cases hm
  obtain ⟨d, e3, h3, h4⟩ := bind_ok2 h1
  cases h4
  exact ⟨G, F, e, d, _, r, h3, fun v F1 H1 n1 hd => ⟨G, F1, _, y, e2, n1.r, h2, fun vs F2 H2 n2 hds => q (v :: vs) F2 H2 (n1.trans n2) (.cons (n2.dn hd) hds)⟩⟩
theorem pag_conS {ms : M (List Ag)} (ha : PE X ex (tVar i)) (hr : PAg X es ms) (hs : starEach (ex :: es) X.env = (false, eval ex X.env) :: starEach es X.env := by rfl) : PAg X (ex :: es) (aCons (aS i) ms) := PAimp (pa_cons ha hr hs) fun σ H Q ⟨G, F, e, d, e', r, hm, q⟩ => by
  obtain ⟨x, e1, h1, hm⟩ := bind_ok2 hm
  obtain ⟨y, e2, h2, hm⟩ := bind_ok2 hm
  cases hm
  unfold aS at h1
  split at h1
  · rename_i c hc
    obtain ⟨ho, h1⟩ := ite_ok h1
    cases h1
    obtain ⟨v, g1, g2⟩ := r.at_ i c hc
    refine ⟨v, g1, G, F, _, y, e2, r, h2, fun vs F2 H2 n2 hds => q (v :: vs) F2 H2 n2 (.cons ?_ hds)⟩
    exact AgAt.nx (g := .s i) n2 ⟨g1, c, hc, ho⟩
  · cases h1
/-- the state goes on, the slots as told -/
theorem R.next (r : R K G F H σ e) (go : Go F H F1 H1 (Lv σ e)) (sh : e1.map (Option.map Ce.kd) = e.map (Option.map Ce.kd)) (hat : ∀ (i : Nat) (c : Ce), e1[i]? = some (some c) → ∃ v, σ[i]? = some (some v) ∧ At K G F1 H1 i c v) : Nx K G σ F H e F1 H1 e1 := by
  refine ⟨⟨?_, r.ba, hat, fun i j c c' a hij h1 h2 o1 o2 s1 => ?_, fun p hp => ?_, ?_⟩, go, sh⟩
  · refine ⟨r.go.ff.trans go.ff, fun b o hb hn => ?_, go.fh, fun b h1 h2 => ?_⟩
    · refine go.hh b o (r.go.hh b o hb hn) fun ⟨i, c, h1, h2, h3⟩ => ?_
      obtain ⟨v, g1, g2⟩ := r.at_ i c h1
      rw [h3] at g1
      cases g1
      obtain ⟨a, u, xs, q, _, _, _, _, q5, q6⟩ := g2.own h2
      cases q
      cases hio : c.io with
      | true => exact hn ⟨i, q5 hio⟩
      | false => rw [q6 hio] at hb; cases hb
    · obtain ⟨p, q⟩ := r.go.st b h1 h2
      exact go.st b p q
  · obtain ⟨d1, g1, w1⟩ := sh_at sh.symm h1
    obtain ⟨d2, g2, w2⟩ := sh_at sh.symm h2
    exact r.sep i j d1 d2 a hij g1 g2 (by rw [(kd_ow w1).1]; exact o1) (by rw [(kd_ow w2).1]; exact o2) s1
  · obtain ⟨h1, c, h2, h3⟩ := r.io p hp
    obtain ⟨c', g1, w1⟩ := sh_at sh h2
    exact ⟨h1, c', g1, by rw [(kd_ow w1).2]; exact h3⟩
  · have := congrArg List.length sh
    simp only [List.length_map] at this
    rw [this]
    exact r.len
theorem lent_io {c : Ce} (h : c.ow = true) : c.lent.io = true := by cases c <;> first | rfl | cases h
theorem lent_mem (c : Ce) : c.lent.mem = c.mem := by cases c <;> rfl
theorem lent_ceO {o : HO} {c : Ce} {xs : List V} (h : CeO o c xs) : CeO o c.lent xs := by cases c <;> exact h
/-- the arguments as the callee finds them -/
theorem ags_cells (r : R K G F H σ e) : ∀ {as : List Ag} {vs : List V} {cs : List Ce} (n : Nat), AgsAt K σ F e as vs → agCells as e = .ok cs → ∃ io : List (Nat × Addr), CsAt K F H n cs vs io ∧ io.length = (agSlots as).length ∧
    ∀ (k : Nat) (i : Nat) (b : Addr), (agSlots as)[k]? = some i → (io.map (·.2))[k]? = some b → σ[i]? = some (some (.ref b)) ∧ Lv σ e b
  | _, _, _, n, .nil, h => by
    cases h
    exact ⟨[], .nil, rfl, fun k i b h => by simp [agSlots] at h⟩
  | _, _, _, n, .cons (a := .d d) hd t, h => by
    obtain ⟨cs, h1, h2⟩ := Rs.bind_eq h
    cases h2
    obtain ⟨io, g1, g2, g3⟩ := ags_cells r (n + 1) t h1
    exact ⟨io, .f hd g1, g2, g3⟩
  | _, _, _, n, .cons (a := .s i) hd t, h => by
    obtain ⟨s1, c, s2, s3⟩ := hd
    unfold agCells at h
    rw [s2] at h
    obtain ⟨cs, h1, h2⟩ := Rs.bind_eq h
    cases h2
    obtain ⟨io, g1, g2, g3⟩ := ags_cells r (n + 1) t h1
    obtain ⟨w, z1, z2⟩ := r.at_ i c s2
    rw [s1] at z1
    cases z1
    obtain ⟨a, o, xs, rfl, q1, q2, q3, q4, _⟩ := z2.own s3
    refine ⟨(n, a) :: io, .o (lent_io s3) q1 q2 (lent_ceO q3) (by rw [lent_mem]; exact q4) g1, by unfold agSlots; simp [g2], fun k j b hk hb => ?_⟩
    unfold agSlots at hk
    cases k with
    | zero =>
      simp at hk hb
      subst hk hb
      exact ⟨s1, i, c, s2, s3, s1⟩
    | succ k => exact g3 k j b (by simpa using hk) (by simpa using hb)
theorem nodup_of {α : Type} {l : List α} (h : ∀ (i j : Nat) (x : α), l[i]? = some x → l[j]? = some x → i = j) : l.Nodup := by
  induction l with
  | nil => exact List.nodup_nil
  | cons y l ih =>
    refine List.nodup_cons.mpr ⟨fun hy => ?_, ih fun i j x h1 h2 => ?_⟩
    · obtain ⟨k, hk, e⟩ := List.mem_iff_getElem.mp hy
      have := h 0 (k + 1) y (by simp) (by simp [hk, e])
      omega
    · have := h (i + 1) (j + 1) x (by simpa using h1) (by simpa using h2)
      omega
theorem nodup_ix' {α : Type} {l : List α} (h : l.Nodup) {i j : Nat} {x : α} (h1 : l[i]? = some x) (h2 : l[j]? = some x) : i = j := by
  obtain ⟨l1, e1⟩ := List.getElem?_eq_some_iff.mp h1
  obtain ⟨l2, e2⟩ := List.getElem?_eq_some_iff.mp h2
  exact (List.getElem_inj h).mp (e1.trans e2.symm)
/-- what the slots hold behind a call -/
theorem putBack_at : ∀ {is : List Nat} {os : List Ce} {as : List Addr} {e e' : En}, is.Nodup → putBack is os e = .ok e' → OutAt K F1 H1 as os →
    e'.map (Option.map Ce.kd) = e.map (Option.map Ce.kd) ∧ ∀ (i : Nat) (c : Ce), e'[i]? = some (some c) → (i ∉ is ∧ e[i]? = some (some c)) ∨
      ∃ (k : Nat) (b : Addr) (o : HO) (xs : List V), is[k]? = some i ∧ as[k]? = some b ∧ F1 b = none ∧ H1 b = some o ∧ CeO o c xs ∧ DnA K F1 xs c.mem
  | [], os, as, e, e', _, h, ho => by
    cases os with
    | nil =>
      cases h
      exact ⟨rfl, fun i c q => .inl ⟨by simp, q⟩⟩
    | cons _ _ => cases h
  | i :: is, os, as, e, e', hn, h, ho => by
    cases ho with
    | nil => cases h
    | @cons a c o xs as cs q1 q2 q3 q4 ho =>
      obtain ⟨n1, n2⟩ := List.nodup_cons.mp hn
      -- one slot, then the others
      have key : ∀ c0 c1 : Ce, e[i]? = some (some c0) → c1.kd = c0.kd → CeO o c1 xs → DnA K F1 xs c1.mem → putBack is cs (e.set i (some c1)) = .ok e' →
          e'.map (Option.map Ce.kd) = e.map (Option.map Ce.kd) ∧ ∀ (j : Nat) (c : Ce), e'[j]? = some (some c) → (j ∉ i :: is ∧ e[j]? = some (some c)) ∨
            ∃ (k : Nat) (b : Addr) (o : HO) (xs : List V), (i :: is)[k]? = some j ∧ (a :: as)[k]? = some b ∧ F1 b = none ∧ H1 b = some o ∧ CeO o c xs ∧ DnA K F1 xs c.mem := by
        intro c0 c1 h0 hk hc hm h
        obtain ⟨g1, g2⟩ := putBack_at n2 h ho
        refine ⟨g1.trans (set_kd h0 hk), fun j c hj => ?_⟩
        rcases g2 j c hj with ⟨z1, z2⟩ | ⟨k, b, o, xs, z1, z2, z3⟩
        · by_cases hji : j = i
          · subst hji
            rw [List.getElem?_set_self (List.getElem?_eq_some_iff.mp h0).1] at z2
            cases z2
            exact .inr ⟨0, a, o, xs, by simp, by simp, q1, q2, hc, hm⟩
          · rw [List.getElem?_set_ne (Ne.symm hji)] at z2
            exact .inl ⟨by simp [hji, z1], z2⟩
        · exact .inr ⟨k + 1, b, o, xs, by simpa using z1, by simpa using z2, z3⟩
      unfold putBack at h
      split at h
      · rename_i p ds0 p' ds h0
        exact key (.l p ds0) (.l p ds) h0 (by cases p <;> rfl) q3 q4 h
      · rename_i p t1 ks0 vs0 p' t0 ks vs h0
        obtain ⟨ht, h⟩ := ite_ok h
        exact key (.k p _ ks0 vs0) (.k p _ ks vs) h0 (by rw [ht]; cases p <;> cases t0 <;> rfl) q3 q4 h
      · cases h
theorem call_ok {S : Sf} {ma : M (List Ag)} {H : Hp} {Q : VK} (h : tN K (mCall S ma) σ H Q) : tCall (spD K S) [] E0 (tAg K ma) σ H Q := by
  obtain ⟨G, F, e, c, e', r, hm, q⟩ := h
  obtain ⟨as, e1, h1, hm⟩ := bind_ok2 hm
  obtain ⟨cs, h2, hm⟩ := Rs.bind_eq hm
  obtain ⟨hnd, hm⟩ := ite_ok hm
  obtain ⟨⟨c', os⟩, h3, hm⟩ := Rs.bind_eq hm
  obtain ⟨e2, h4, hm⟩ := Rs.bind_eq hm
  cases hm
  refine ⟨G, F, e, as, e1, r, h1, fun vs F1 H1 n ha => ?_⟩
  show spD K S (vs ++ []) H1 Q E0
  rw [List.append_nil]
  obtain ⟨io, g1, g2, g3⟩ := ags_cells n.r 0 ha h2
  have gk : ∀ (k : Nat) (b : Addr), (io.map (·.2))[k]? = some b → ∃ i, (agSlots as)[k]? = some i ∧ σ[i]? = some (some (.ref b)) ∧ Lv σ e1 b := fun k b hk => by
    have hl : k < (agSlots as).length := by
      have := (List.getElem?_eq_some_iff.mp hk).1
      rw [List.length_map, g2] at this
      exact this
    refine ⟨(agSlots as)[k], List.getElem?_eq_getElem hl, ?_⟩
    exact g3 k _ b (List.getElem?_eq_getElem hl) hk
  have hn2 : (io.map (·.2)).Nodup := nodup_of fun k j b hk hj => by
    obtain ⟨i1, s1, s2, l1⟩ := gk k b hk
    obtain ⟨i2, s3, s4, l2⟩ := gk j b hj
    by_cases hi : i1 = i2
    · subst hi
      exact nodup_ix' hnd s1 s3
    · exfalso
      have own : ∀ (k : Nat) (b : Addr) (i : Nat), (agSlots as)[k]? = some i → ∃ c : Ce, e1[i]? = some (some c) ∧ c.ow = true := by
        have go : ∀ {as : List Ag} {vs : List V}, AgsAt K σ F1 e1 as vs → ∀ (k i : Nat), (agSlots as)[k]? = some i → ∃ c : Ce, e1[i]? = some (some c) ∧ c.ow = true := by
          intro as vs ha
          induction ha with
          | nil => intro k i h; simp [agSlots] at h
          | @cons a as v vs h0 _ ih =>
            cases a with
            | d d => exact ih
            | s i0 =>
              intro k i h
              unfold agSlots at h
              cases k with
              | zero =>
                simp at h
                subst h
                exact h0.2
              | succ k => exact ih k i (by simpa using h)
        exact fun k b i h => go ha k i h
      obtain ⟨c1, w1, w2⟩ := own k b i1 s1
      obtain ⟨c2, w3, w4⟩ := own j b i2 s3
      exact n.r.sep i1 i2 c1 c2 b hi w1 w3 w2 w4 s2 s4
  refine ⟨F1, cs, _, os, io, n.r.fh, g1, hn2, h3, fun v F2 H2 go nat out => ?_⟩
  have lv : ∀ b, b ∈ io.map (·.2) → Lv σ e1 b := fun b hb => by
    obtain ⟨k, hk⟩ := List.getElem?_of_mem hb
    obtain ⟨_, _, _, l⟩ := gk k b hk
    exact l
  obtain ⟨sh, pb⟩ := putBack_at hnd h4 out
  have n2 : Nx K G σ F1 H1 e1 F2 H2 e' := n.r.next (go.mono lv) sh fun i c2 hi => by
    rcases pb i c2 hi with ⟨z1, z2⟩ | ⟨k, b, o, xs, z1, z2, z3, z4, z5, z6⟩
    · obtain ⟨w, w1, w2⟩ := n.r.at_ i c2 z2
      refine ⟨w, w1, ?_⟩
      rcases w2 with ⟨d, rfl, hd⟩ | ⟨b, o, xs, rfl, y1, y2, y3, y4, y5, y6⟩
      · exact .inl ⟨d, rfl, hd.mono go.ff⟩
      · have hb : b ∉ io.map (·.2) := fun hb => by
          obtain ⟨k, hk⟩ := List.getElem?_of_mem hb
          obtain ⟨j, s1, s2, ⟨j', c', l1, l2, l3⟩⟩ := gk k b hk
          have hji : j' = i := Classical.byContradiction fun hne => n.r.sep j' i c' c2 b hne l1 z2 l2 y3.ow l3 w1
          have hj2 : j = i := by
            obtain ⟨w3, v3, _⟩ := n.r.at_ i c2 z2
            by_cases hne : j = i
            · exact hne
            · exfalso
              -- j is one of the slots handed over, so it is of its own
              have own : ∀ {as : List Ag} {vs : List V}, AgsAt K σ F1 e1 as vs → ∀ (k i : Nat), (agSlots as)[k]? = some i → ∃ c : Ce, e1[i]? = some (some c) ∧ c.ow = true := by
                intro as vs ha
                induction ha with
                | nil => intro k i h; simp [agSlots] at h
                | @cons a as v vs h0 _ ih =>
                  cases a with
                  | d d => exact ih
                  | s i0 =>
                    intro k i h
                    unfold agSlots at h
                    cases k with
                    | zero =>
                      simp at h
                      subst h
                      exact h0.2
                    | succ k => exact ih k i (by simpa using h)
              obtain ⟨c3, w5, w6⟩ := own ha k j s1
              exact n.r.sep j i c3 c2 b hne w5 z2 w6 y3.ow s2 w1
          rw [← hj2] at z1
          exact z1 (List.mem_of_getElem? s1)
        exact .inr ⟨b, o, xs, rfl, (go.st b y1 (by rw [y2]; rfl)).1, go.hh b o y2 hb, y3, y4.mono go.ff, y5, y6⟩
    · obtain ⟨j, s1, s2, _⟩ := gk k b z2
      have hji : j = i := by rw [z1] at s1; exact (Option.some.inj s1).symm
      subst hji
      obtain ⟨c0, g0, w0⟩ := sh_at sh.symm hi
      obtain ⟨w, w1, w2⟩ := n.r.at_ j c0 g0
      rw [s2] at w1
      cases w1
      have ow0 : c0.ow = true := by rw [(kd_ow w0).1]; exact z5.ow
      obtain ⟨b', o', xs', q', _, _, _, _, y5, y6⟩ := w2.own ow0
      cases q'
      exact ⟨_, s2, .inr ⟨b, o, xs, rfl, z3, z4, z5, z6, fun z => y5 (by rw [(kd_ow w0).2]; exact z), fun z => y6 (by rw [(kd_ow w0).2]; exact z)⟩⟩
  exact q v F2 H2 (n.trans n2) (nat.back n.go r.fh)
theorem pn_call {k : Nat} {f : Addr} {fd : FuncData} {ps : List Str} {S : Sf} {ma : M (List Ag)} (F : FnD X.prog X.w X.K X.mg X.base k f fd ps S) (hr : Room k X.A) (hg : Gl X x) (hm : X.mg x = some (.ref f)) (hk : PySem.W.keepIn X.K (.ref f) = true) (hb : Binds X.K fd ps [])
    (ha : PAg X (ex :: es) ma) (hdb : (x == ("__debug__" : Str)) = false := by decide) (he : starEach (ex :: es) X.env = (false, eval ex X.env) :: starEach es X.env := by rfl) (hpl : (backTo pos (starEach es X.env)).any (·.1) = false := by rfl) :
    PN X (.Call (.Name x p) (ex :: es) [] pos) (mCall S ma) := PEimp (pe_call F hr hg hm hk hb .nil pass0 ha hdb he hpl) fun σ H Q h => call_ok h
end
end DL

namespace DL
open PySem L2 PyProof.Rows

/-! ### list comprehensions -/
def wipeE (e : En) : List Nat → En
  | [] => e
  | v :: vs => (wipeE e vs).set v none
def restE (e e3 : En) : List Nat → En
  | [] => e3
  | v :: vs => (restE e e3 vs).set v ((e[v]?).getD none)
theorem wipe_get (σ : L2.St) (j : Nat) : ∀ vs : List Nat, (wipe σ vs)[j]? = if j ∈ vs then (σ[j]?).map (fun _ => none) else σ[j]?
  | [] => by simp [wipe]
  | v :: vs => by
    unfold wipe
    by_cases h : v = j
    · subst h
      rw [if_pos List.mem_cons_self]
      by_cases hl : v < (wipe σ vs).length
      · rw [List.getElem?_set_self hl]
        rw [wipe_length] at hl
        rw [List.getElem?_eq_getElem hl]
        rfl
      · rw [List.getElem?_eq_none (by simpa using Nat.le_of_not_lt hl)]
        rw [wipe_length] at hl
        rw [List.getElem?_eq_none (Nat.le_of_not_lt hl)]
        rfl
    · rw [List.getElem?_set_ne h, wipe_get σ j vs]
      simp [Ne.symm h]
theorem wipeE_len (e : En) : ∀ vs : List Nat, (wipeE e vs).length = e.length
  | [] => rfl
  | v :: vs => by unfold wipeE; rw [List.length_set, wipeE_len e vs]
theorem wipeE_get (e : En) (j : Nat) : ∀ vs : List Nat, (wipeE e vs)[j]? = if j ∈ vs then (e[j]?).map (fun _ => none) else e[j]?
  | [] => by simp [wipeE]
  | v :: vs => by
    unfold wipeE
    by_cases h : v = j
    · subst h
      rw [if_pos List.mem_cons_self]
      by_cases hl : v < (wipeE e vs).length
      · rw [List.getElem?_set_self hl]
        rw [wipeE_len] at hl
        rw [List.getElem?_eq_getElem hl]
        rfl
      · rw [List.getElem?_eq_none (by simpa using Nat.le_of_not_lt hl)]
        rw [wipeE_len] at hl
        rw [List.getElem?_eq_none (Nat.le_of_not_lt hl)]
        rfl
    · rw [List.getElem?_set_ne h, wipeE_get e j vs]
      simp [Ne.symm h]
theorem restE_len (e e3 : En) : ∀ vs : List Nat, (restE e e3 vs).length = e3.length
  | [] => rfl
  | v :: vs => by unfold restE; rw [List.length_set, restE_len e e3 vs]
theorem restE_get (e e3 : En) (hl : e3.length = e.length) (j : Nat) : ∀ vs : List Nat, (restE e e3 vs)[j]? = if j ∈ vs then e[j]? else e3[j]?
  | [] => by simp [restE]
  | v :: vs => by
    unfold restE
    by_cases h : v = j
    · subst h
      rw [if_pos List.mem_cons_self]
      by_cases hv : v < e.length
      · rw [List.getElem?_set_self (by rw [restE_len, hl]; exact hv), List.getElem?_eq_getElem hv]
        rfl
      · rw [List.getElem?_eq_none (by rw [List.length_set, restE_len, hl]; exact Nat.le_of_not_lt hv), List.getElem?_eq_none (Nat.le_of_not_lt hv)]
    · rw [List.getElem?_set_ne h, restE_get e e3 hl j vs]
      simp [Ne.symm h]
def cLoop (t : Tg) (vs : List Nat) (c : M Bool) (m : M D) : List D → List D → En → Rs (List D × En)
  | [], acc, e => if vs.all (frozenAt e) = true then .ok (acc, e) else .no
  | d :: ds, acc, e => if vs.all (frozenAt e) = true then
      (t d (wipeE e vs)).bind fun e1 => (c e1).bind fun p => if p.1 = true then
        (m p.2).bind fun q => if acc.length < 16000000 then cLoop t vs c m ds (acc ++ [q.1]) q.2 else .no
      else cLoop t vs c m ds acc p.2
    else .no
def mComp (src : M (List D)) (t : Tg) (vs : List Nat) (c : M Bool) (m : M D) : M Ce := fun e => (src e).bind fun p => (cLoop t vs c m p.1 [] p.2).bind fun q => .ok (.l false q.1, restE p.2 q.2 vs)
def mYes : M Bool := fun e => .ok (true, e)
section
variable {K : PySem.W.Frag} {G : Bs} {F H F1 H1 : Hp} {σ : L2.St} {e e1 e3 : En} {vs is : List Nat}
theorem fr_at (h : vs.all (frozenAt e) = true) {i : Nat} (hi : i ∈ vs) {c : Ce} (hc : e[i]? = some (some c)) : c.ow = false := by
  have h1 := List.all_eq_true.mp h i hi
  unfold frozenAt at h1
  rw [hc] at h1
  simpa using h1
theorem io_ow {c : Ce} (h : c.ow = false) : c.io = false := by cases c <;> first | rfl | cases h
/-- the block's own names are forgotten -/
theorem R.wipe (r : R K G F H σ e) (h : vs.all (frozenAt e) = true) : R K G F H (wipe σ vs) (wipeE e vs) := by
  have at2 : ∀ (j : Nat) (c : Ce), (wipeE e vs)[j]? = some (some c) → j ∉ vs ∧ e[j]? = some (some c) := fun j c hj => by
    rw [wipeE_get] at hj
    by_cases hv : j ∈ vs
    · rw [if_pos hv] at hj
      cases q : e[j]? with
      | none => rw [q] at hj; cases hj
      | some o => rw [q] at hj; cases hj
    · rw [if_neg hv] at hj
      exact ⟨hv, hj⟩
  have sg : ∀ j, j ∉ vs → (L2.wipe σ vs)[j]? = σ[j]? := fun j hj => by rw [wipe_get, if_neg hj]
  refine ⟨r.go, r.ba, fun j c hj => ?_, fun j k c1 c2 a hjk h1 h2 o1 o2 s1 s2 => ?_, fun p hp => ?_, by rw [wipeE_len, wipe_length]; exact r.len⟩
  · obtain ⟨hv, hj⟩ := at2 j c hj
    rw [sg j hv]
    exact r.at_ j c hj
  · obtain ⟨v1, g1⟩ := at2 j c1 h1
    obtain ⟨v2, g2⟩ := at2 k c2 h2
    rw [sg j v1] at s1
    rw [sg k v2] at s2
    exact r.sep j k c1 c2 a hjk g1 g2 o1 o2 s1 s2
  · obtain ⟨h1, c, h2, h3⟩ := r.io p hp
    have hv : p.1 ∉ vs := fun hv => by
      have := io_ow (fr_at h hv h2)
      rw [h3] at this
      cases this
    exact ⟨by rw [sg _ hv]; exact h1, c, by rw [wipeE_get, if_neg hv]; exact h2, h3⟩
/-- and told again -/
theorem R.unwipe (r : R K G F H (L2.wipe σ vs) (wipeE e3 vs)) (r1 : R K G F1 H1 σ e1) (x : Ex F1 F) (h : vs.all (frozenAt e1) = true) (hl : e3.length = e1.length) : R K G F H σ (restE e1 e3 vs) := by
  have at2 : ∀ (j : Nat) (c : Ce), (restE e1 e3 vs)[j]? = some (some c) → (j ∈ vs ∧ e1[j]? = some (some c)) ∨ (j ∉ vs ∧ (wipeE e3 vs)[j]? = some (some c) ∧ (L2.wipe σ vs)[j]? = σ[j]?) := fun j c hj => by
    rw [restE_get e1 e3 hl] at hj
    by_cases hv : j ∈ vs
    · rw [if_pos hv] at hj
      exact .inl ⟨hv, hj⟩
    · rw [if_neg hv] at hj
      exact .inr ⟨hv, by rw [wipeE_get, if_neg hv]; exact hj, by rw [wipe_get, if_neg hv]⟩
  refine ⟨r.go, r.ba, fun j c hj => ?_, fun j k c1 c2 a hjk h1 h2 o1 o2 s1 s2 => ?_, fun p hp => ?_, by rw [restE_len, hl]; exact r1.len⟩
  · rcases at2 j c hj with ⟨hv, g⟩ | ⟨hv, g, sg⟩
    · obtain ⟨v, q1, q2⟩ := r1.at_ j c g
      refine ⟨v, q1, ?_⟩
      have ow := fr_at h hv g
      rcases q2 with ⟨d, rfl, hd⟩ | ⟨a, o, xs, rfl, _, _, q, _⟩
      · exact .inl ⟨d, rfl, hd.mono x⟩
      · rw [q.ow] at ow; cases ow
    · obtain ⟨v, q1, q2⟩ := r.at_ j c g
      rw [sg] at q1
      exact ⟨v, q1, q2⟩
  · rcases at2 j c1 h1 with ⟨hv, g⟩ | ⟨hv, g, sg⟩
    · rw [fr_at h hv g] at o1; cases o1
    · rcases at2 k c2 h2 with ⟨hv', g'⟩ | ⟨hv', g', sg'⟩
      · rw [fr_at h hv' g'] at o2; cases o2
      · rw [← sg] at s1
        rw [← sg'] at s2
        exact r.sep j k c1 c2 a hjk g g' o1 o2 s1 s2
  · obtain ⟨h1, c, h2, h3⟩ := r.io p hp
    have hv : p.1 ∉ vs := fun hv => by
      rw [wipeE_get, if_pos hv] at h2
      cases q : e3[p.1]? with
      | none => rw [q] at h2; cases h2
      | some o => rw [q] at h2; cases h2
    rw [wipe_get, if_neg hv] at h1
    rw [wipeE_get, if_neg hv] at h2
    exact ⟨h1, c, by rw [restE_get e1 e3 hl, if_neg hv]; exact h2, h3⟩
theorem wipe_chg {σ2 : L2.St} (h : Chg is (L2.wipe σ vs) σ2) (hs : ∀ i ∈ is, i ∈ vs) : L2.wipe σ2 vs = L2.wipe σ vs := by
  apply List.ext_getElem?
  intro j
  rw [wipe_get, wipe_get]
  have hlen : σ2.length = σ.length := by rw [h.1, wipe_length]
  by_cases hv : j ∈ vs
  · rw [if_pos hv, if_pos hv]
    by_cases hj : j < σ.length
    · rw [List.getElem?_eq_getElem hj, List.getElem?_eq_getElem (by omega)]
      rfl
    · rw [List.getElem?_eq_none (Nat.le_of_not_lt hj), List.getElem?_eq_none (by omega)]
  · rw [if_neg hv, if_neg hv, h.2 j (fun z => hv (hs j z)), wipe_get, if_neg hv]
/-- an object that is no slot's is written -/
theorem R.other {a : Addr} {o : HO} (r : R K G F H σ e) (h1 : F a = none) (h2 : (H a).isSome = true) (h3 : ¬ Lv σ e a) (h4 : G.H a = none) : R K G F (upd H a o) σ e := by
  refine ⟨⟨r.go.ff, fun b u hb hn => ?_, fun b u hb => ?_, fun b q1 q2 => ?_⟩, r.ba, fun i c hc => ?_, r.sep, r.io, r.len⟩
  · have hba : b ≠ a := fun z => by subst z; rw [h4] at hb; cases hb
    rw [upd_ne hba]
    exact r.go.hh b u hb hn
  · rw [upd_ne (ne_of_none hb h1)]
    exact r.fh b u hb
  · obtain ⟨z1, z2⟩ := r.go.st b q1 q2
    refine ⟨z1, ?_⟩
    by_cases hba : b = a
    · subst hba; rw [upd_same]; rfl
    · rw [upd_ne hba]; exact z2
  · obtain ⟨v, g1, g2⟩ := r.at_ i c hc
    refine ⟨v, g1, ?_⟩
    rcases g2 with g2 | ⟨b, u, xs, rfl, z1, z2, z3, z4, z5⟩
    · exact .inl g2
    · have hba : b ≠ a := fun z => by
        subst z
        exact h3 ⟨i, c, hc, z3.ow, g1⟩
      exact .inr ⟨b, u, xs, rfl, z1, by rw [upd_ne hba]; exact z2, z3, z4, z5⟩
theorem kd_frozen {c c' : Ce} (h : c'.kd = c.kd) : c'.ow = c.ow := (kd_ow h).1
theorem all_frozen_sh (sh : e1.map (Option.map Ce.kd) = e.map (Option.map Ce.kd)) (h : vs.all (frozenAt e) = true) : vs.all (frozenAt e1) = true := by
  rw [List.all_eq_true] at h ⊢
  intro i hi
  have := h i hi
  unfold frozenAt at this ⊢
  cases q : e1[i]? with
  | none => rfl
  | some oc =>
    cases oc with
    | none => rfl
    | some c =>
      obtain ⟨c', g1, g2⟩ := sh_at sh.symm q
      rw [g1] at this
      simpa [kd_frozen g2] using this
theorem wipe_sh (sh : e1.map (Option.map Ce.kd) = e.map (Option.map Ce.kd)) : (wipeE e1 vs).map (Option.map Ce.kd) = (wipeE e vs).map (Option.map Ce.kd) := by
  apply List.ext_getElem?
  intro j
  have h1 : (e1.map (Option.map Ce.kd))[j]? = (e.map (Option.map Ce.kd))[j]? := by rw [sh]
  rw [List.getElem?_map, List.getElem?_map] at h1 ⊢
  rw [wipeE_get, wipeE_get]
  by_cases hv : j ∈ vs
  · rw [if_pos hv, if_pos hv]
    cases q1 : e1[j]? with
    | none => rw [q1] at h1; cases q2 : e[j]? with
      | none => rfl
      | some _ => rw [q2] at h1; cases h1
    | some _ => rw [q1] at h1; cases q2 : e[j]? with
      | none => rw [q2] at h1; cases h1
      | some _ => rfl
  · rw [if_neg hv, if_neg hv]; exact h1
theorem lc_ok {src : M (List D)} {t : Tg} {c : M Bool} {m : M D} {Q : VK} (to : TgOk t is) (hs : ∀ i ∈ is, i ∈ vs) (h : tN K (mComp src t vs c m) σ H Q) : tLc (tI K src) (tG K t is) (tT K c) (tF K m) vs σ H Q := by
  obtain ⟨G, F, e, cell, e', r, hm, q⟩ := h
  obtain ⟨ds, e1, h1, hm⟩ := bind_ok2 hm
  obtain ⟨⟨xs, e3⟩, h2, hm⟩ := Rs.bind_eq hm
  cases hm
  refine ⟨G, F, e, ds, e1, r, h1, fun J F1 H1 n wk D hD => ?_⟩
  have fr0 : vs.all (frozenAt e1) = true := by
    cases ds with
    | nil => unfold cLoop at h2; exact (ite_ok h2).1
    | cons d ds => unfold cLoop at h2; exact (ite_ok h2).1
  have F1D : F1 D = none := ex_none n.r.fh hD
  obtain ⟨DnL, DGH, DGF, _⟩ := n.r.new hD
  have go0 : Go F1 H1 F1 (upd H1 D (.lst [])) noA := Go.newO n.r.fh hD
  refine ⟨fun i m' H' => m' = ds.length - i ∧ i ≤ ds.length ∧ ∃ (F2 : Hp) (e2 : En) (acc : List DL.D) (va : List V), R K G F2 H' (L2.wipe σ vs) (wipeE e2 vs) ∧ e2.length = e1.length ∧ (wipeE e2 vs).map (Option.map Ce.kd) = (wipeE e1 vs).map (Option.map Ce.kd) ∧
      Go F1 H1 F2 H' (Lv σ e1) ∧ F2 D = none ∧ H' D = some (.lst va) ∧ DnA K F2 va acc ∧ cLoop t vs c m (ds.drop i) acc e2 = .ok (xs, e3),
    ⟨ds.length, by omega, Nat.zero_le _, F1, e1, [], [], ((n.r.wipe fr0).step go0).r, rfl, rfl, go0.any, F1D, upd_same, .nil, by rw [List.drop_zero]; exact h2⟩, ?_⟩
  rintro i m' H' ⟨rfl, hi, F2, e2, acc, va, r2, len2, sh2, go2, FD, HD, da, hc⟩
  obtain ⟨w1, w2⟩ := wk i F2 H' go2.ff r2.fh
  -- the list is no slot's
  have notLv : ∀ (e4 : En) (σ4 : L2.St), (∀ b, Lv σ4 e4 b → Lv σ e1 b) → ¬ Lv σ4 e4 D := fun e4 σ4 hh z => DnL (hh D z)
  have lvw : ∀ b, Lv (L2.wipe σ vs) (wipeE e2 vs) b → Lv σ e1 b := fun b ⟨j, cc, g1, g2, g3⟩ => by
    obtain ⟨c', g4, g5⟩ := sh_at sh2.symm g1
    rw [wipeE_get] at g4
    by_cases hv : j ∈ vs
    · rw [if_pos hv] at g4
      cases q : e1[j]? with
      | none => rw [q] at g4; cases g4
      | some o => rw [q] at g4; cases g4
    · rw [if_neg hv] at g4
      rw [wipe_get, if_neg hv] at g3
      exact ⟨j, c', g4, by rw [(kd_ow g5).1]; exact g2, g3⟩
  by_cases hlt : i < ds.length
  · have hd : ds[i]? = some ds[i] := List.getElem?_eq_getElem hlt
    obtain ⟨g1, g2⟩ := w1 _ hd
    rw [List.drop_eq_getElem_cons hlt] at hc
    unfold cLoop at hc
    obtain ⟨fr, hc⟩ := ite_ok hc
    obtain ⟨ea, ht, hc⟩ := Rs.bind_eq hc
    obtain ⟨⟨b, eb⟩, hcond, hc⟩ := Rs.bind_eq hc
    refine .inr ⟨g1, fun H'' => ∃ (F2 : Hp) (e2 : En) (acc : List DL.D) (va : List V), R K G F2 H'' (L2.wipe σ vs) (wipeE e2 vs) ∧ e2.length = e1.length ∧ (wipeE e2 vs).map (Option.map Ce.kd) = (wipeE e1 vs).map (Option.map Ce.kd) ∧
      Go F1 H1 F2 H'' (Lv σ e1) ∧ F2 D = none ∧ H'' D = some (.lst va) ∧ DnA K F2 va acc ∧ cLoop t vs c m (ds.drop (i + 1)) acc e2 = .ok (xs, e3), fun H'' q => ⟨ds.length - (i + 1), by omega, rfl, hlt, q⟩, fun x H3 y => ?_⟩
    obtain ⟨F3, go3, hx⟩ := g2 x H3 y
    have n3 := r2.step go3
    have len_a : ea.length = e1.length := by rw [to.ln _ _ _ ht, wipeE_len, len2]
    have fr_a : vs.all (frozenAt ea) = true := by
      rw [List.all_eq_true]
      intro j hj
      refine to.fz _ _ _ ht j (.inr ?_)
      unfold frozenAt
      rw [wipeE_get, if_pos hj]
      cases e2[j]? <;> rfl
    -- behind the target: what is of one's own is as it was
    have sh_a : (wipeE ea vs).map (Option.map Ce.kd) = (wipeE e1 vs).map (Option.map Ce.kd) := by
      rw [← sh2]
      apply List.ext_getElem?
      intro j
      rw [List.getElem?_map, List.getElem?_map, wipeE_get, wipeE_get]
      by_cases hv : j ∈ vs
      · rw [if_pos hv, if_pos hv]
        have : (ea[j]?).isSome = (e2[j]?).isSome := by
          by_cases hj : j < e1.length
          · rw [List.getElem?_eq_getElem (by omega), List.getElem?_eq_getElem (by omega)]
            try rfl
          · rw [List.getElem?_eq_none (by omega), List.getElem?_eq_none (by omega)]
            try rfl
        cases q1 : ea[j]? <;> cases q2 : e2[j]? <;> simp_all
      · rw [if_neg hv, if_neg hv, to.ne _ _ _ ht j (fun z => hv (hs j z)), wipeE_get, if_neg hv]
    refine ⟨G, F3, _, _, ea, n3.r, hx, ht, fun σ2 r4 chg => ⟨wipe_chg chg hs, G, F3, ea, b, eb, r4, hcond, fun F5 H5 n5 => ?_⟩⟩
    have wσ : L2.wipe σ2 vs = L2.wipe σ vs := wipe_chg chg hs
    have lva : ∀ b, Lv σ2 ea b → Lv σ e1 b := fun b ⟨j, cc, z1, z2, z3⟩ => by
      have hv : j ∉ vs := fun hv => by
        rw [fr_at fr_a hv z1] at z2; cases z2
      refine lvw b ⟨j, cc, ?_, z2, ?_⟩
      · rw [← to.ne _ _ _ ht j (fun z => hv (hs j z))]; exact z1
      · rw [← chg.2 j (fun z => hv (hs j z))]; exact z3
    have F3D : F3 D = none := (go3.st D FD (by rw [HD]; rfl)).1
    have H3D : H3 D = some (.lst va) := go3.hh D _ HD (fun z => z)
    have da3 := da.mono go3.ff
    have go13 : Go F1 H1 F3 H3 (Lv σ e1) := go2.trans go3.any
    have F5D : F5 D = none := (n5.go.st D F3D (by rw [H3D]; rfl)).1
    have H5D : H5 D = some (.lst va) := n5.go.hh D _ H3D (notLv ea σ2 lva)
    have go15 : Go F1 H1 F5 H5 (Lv σ e1) := go13.trans (n5.go.mono lva)
    have fr_b : vs.all (frozenAt eb) = true := all_frozen_sh n5.sh fr_a
    have len_b : eb.length = e1.length := by
      have := congrArg List.length n5.sh
      simp only [List.length_map] at this
      rw [this, len_a]
    cases b with
    | false =>
      refine iteF ?_
      dsimp only at hc
      rw [if_neg Bool.false_ne_true] at hc
      have rw5 := n5.r.wipe fr_b
      rw [wσ] at rw5
      exact ⟨F5, eb, acc, va, rw5, len_b, (wipe_sh n5.sh).trans sh_a, go15, F5D, H5D, da3.mono n5.go.ff, hc⟩
    | true =>
      refine iteT ?_
      dsimp only at hc
      rw [if_pos rfl] at hc
      obtain ⟨⟨z, ec⟩, hm, hc⟩ := Rs.bind_eq hc
      obtain ⟨hz, hc⟩ := ite_ok hc
      refine ⟨G, F5, eb, z, ec, n5.r, hm, fun v F6 H6 n6 hv => ?_⟩
      have lvb : ∀ b, Lv σ2 eb b → Lv σ e1 b := fun b hb => lva b (sh_lv n5.sh hb)
      have F6D : F6 D = none := (n6.go.st D F5D (by rw [H5D]; rfl)).1
      have H6D : H6 D = some (.lst va) := n6.go.hh D _ H5D (notLv eb σ2 lvb)
      have go16 : Go F1 H1 F6 H6 (Lv σ e1) := go15.trans (n6.go.mono lvb)
      have fr_c : vs.all (frozenAt ec) = true := all_frozen_sh n6.sh fr_b
      have len_c : ec.length = e1.length := by
        have := congrArg List.length n6.sh
        simp only [List.length_map] at this
        rw [this, len_b]
      have da6 := (da3.mono n5.go.ff).mono n6.go.ff
      refine ⟨va, H6D, by rw [da6.len]; exact small_line hz, F6, ec, acc ++ [z], va ++ [v], ?_, len_c, ((wipe_sh n6.sh).trans (wipe_sh n5.sh)).trans sh_a, ?_, F6D, upd_same, da6.app (.cons hv .nil), hc⟩
      · have rw6 := n6.r.wipe fr_c
        rw [wσ] at rw6
        refine rw6.other F6D (by rw [H6D]; rfl) (fun z => ?_) DGH
        obtain ⟨j, cc, z1, z2, z3⟩ := z
        have hv : j ∉ vs := fun hv => by
          rw [wipeE_get, if_pos hv] at z1
          cases q : ec[j]? with
          | none => rw [q] at z1; cases z1
          | some o => rw [q] at z1; cases z1
        rw [wipeE_get, if_neg hv] at z1
        refine notLv ec σ2 (fun b hb => lvb b (sh_lv n6.sh hb)) ⟨j, cc, z1, z2, ?_⟩
        rw [wipe_get, if_neg hv] at z3
        rw [chg.2 j (fun z => hv (hs j z)), wipe_get, if_neg hv]
        exact z3
      · refine ⟨go16.ff, fun b u hb hn => ?_, fun b u hb => ?_, fun b q1 q2 => ?_⟩
        · have hbD : b ≠ D := fun z => by subst z; rw [hD] at hb; cases hb
          rw [upd_ne hbD]
          exact go16.hh b u hb hn
        · rw [upd_ne (ne_of_none hb F6D)]
          exact go16.fh b u hb
        · have hbD : b ≠ D := fun z => by subst z; rw [hD] at q2; cases q2
          rw [upd_ne hbD]
          exact go16.st b q1 q2
  · have e4 : i = ds.length := by omega
    subst e4
    rw [List.drop_length] at hc
    unfold cLoop at hc
    obtain ⟨fr, hc⟩ := ite_ok hc
    have hc1 := congrArg Prod.fst (Rs.ok.inj hc)
    have hc2 := congrArg Prod.snd (Rs.ok.inj hc)
    dsimp only at hc1 hc2
    subst hc1 hc2
    refine .inl ⟨w2 (List.getElem?_eq_none (Nat.le_refl _)), ?_⟩
    have rr := R.unwipe r2 n.r go2.ff fr0 len2
    refine q (.ref D) F2 H' (n.trans ⟨rr, go2, ?_⟩) (.inr ⟨rfl, D, _, va, rfl, n.go.old r.fh hD, FD, HD, rfl, da⟩)
    apply List.ext_getElem?
    intro j
    have h1 : ((wipeE e2 vs).map (Option.map Ce.kd))[j]? = ((wipeE e1 vs).map (Option.map Ce.kd))[j]? := by rw [sh2]
    rw [List.getElem?_map, List.getElem?_map] at h1 ⊢
    rw [wipeE_get, wipeE_get] at h1
    rw [restE_get e1 e2 len2]
    by_cases hv : j ∈ vs
    · rw [if_pos hv]
    · rw [if_neg hv, if_neg hv] at h1
      rw [if_neg hv]
      exact h1
end
section
variable {X : Cx} {ex elt tg iter : Expr} {ifs : List Expr} {scope : Scope} {own : List (Str × Nat)} {pos spos py : Pos} {src : M (List D)} {t : Tg} {is : List Nat} {c : M Bool} {m : M D} {i : Nat} {y : Str}
abbrev PTsd (X : Cx) (ifs : List Expr) (m : M Bool) : Prop := PTs X ifs (tT X.K m)
theorem PTsimp {t t' : TT} (h : PTs X ifs t) (hi : ∀ σ H Q, t' σ H Q → t σ H Q) : PTs X ifs t' := ⟨fun pins s σ H Q I q => h.run pins s σ H Q I (hi σ H Q q)⟩
theorem ptsd_nil : PTsd X [] mYes := PTsimp pts_nil fun σ H Q ⟨G, F, e, b, e', r, hm, q⟩ => by
  cases hm
  exact q F H (Nx.refl r)
theorem ptsd_one {a : M Bool} (h : PTd X ex a) : PTsd X [ex] a := pts_one h
theorem pn_lc (hc : X.calm = true) (hN : X.N.Nodup) (hi : PId X tg iter src) (ok : BlkOk X.N X.env.scope scope own) (to : TgOk t is) (hsub : ∀ i ∈ is, i ∈ own.map (·.2))
    (hg : ∀ (s : Shared) (H : Hp) (C : Addr) (cl : List (Str × Addr)) (fp : List Addr), PGd (X.blk s H scope (compEnvC scope cl C X.env) fp) tg t is) (ht : ∀ (s : Shared) (H : Hp) (C : Addr) (cl : List (Str × Addr)) (fp : List Addr), PTsd (X.blk s H scope (compEnvC scope cl C X.env) fp) ifs c)
    (he : ∀ (s : Shared) (H : Hp) (C : Addr) (cl : List (Str × Addr)) (fp : List Addr), PF (X.blk s H scope (compEnvC scope cl C X.env) fp) elt m) (hs : ∀ x, foldedSetIterable iter X.env x = pure x := by intro _; rfl) :
    PN X (.ListComp elt [⟨tg, iter, ifs, 0⟩] scope pos) (mComp src t (own.map (·.2)) c m) :=
  PEimp (pe_lc hc hN hi ok hg ht he hs) fun σ H Q h => lc_ok to hsub h
/-- y = [..], all on one line -/
theorem pds_setLc (hc : X.calm = true) (hN : X.N.Nodup) (hy : X.N[i]? = some y) (hyl : X.env.scope.names.lookup y = some .local) (hsw : swapsWith (.ListComp elt [⟨tg, iter, ifs, 0⟩] scope pos) (some (.Name y py)) spos.line X.env = pure true)
    (hi : PId X tg iter src) (ok : BlkOk X.N X.env.scope scope own) (to : TgOk t is) (hsub : ∀ i ∈ is, i ∈ own.map (·.2))
    (hg : ∀ (s : Shared) (H : Hp) (C : Addr) (cl : List (Str × Addr)) (fp : List Addr), PGd (X.blk s H scope (compEnvC scope cl C X.env) fp) tg t is) (ht : ∀ (s : Shared) (H : Hp) (C : Addr) (cl : List (Str × Addr)) (fp : List Addr), PTsd (X.blk s H scope (compEnvC scope cl C X.env) fp) ifs c)
    (he : ∀ (s : Shared) (H : Hp) (C : Addr) (cl : List (Str × Addr)) (fp : List Addr), PF (X.blk s H scope (compEnvC scope cl C X.env) fp) elt m) (hs : ∀ x, foldedSetIterable iter X.env x = pure x := by intro _; rfl) :
    PDS X (.Assign [.Name y py] (.ListComp elt [⟨tg, iter, ifs, 0⟩] scope pos) spos) (sAsg i (mComp src t (own.map (·.2)) c m)) :=
  PSimp (ps_setLc hc hN hy hyl hsw hi ok hg ht he hs) fun E σ H h => by
    have h2 := asg_ok h
    exact lc_ok (c := c) (m := m) to hsub h2
theorem pds_setLcF (hc : X.calm = true) (hN : X.N.Nodup) (hy : X.N[i]? = some y) (hyl : X.env.scope.names.lookup y = some .local) (hsw : swapsWith (.ListComp elt [⟨tg, iter, ifs, 0⟩] scope pos) (some (.Name y py)) spos.line X.env = pure true)
    (hi : PId X tg iter src) (ok : BlkOk X.N X.env.scope scope own) (to : TgOk t is) (hsub : ∀ i ∈ is, i ∈ own.map (·.2))
    (hg : ∀ (s : Shared) (H : Hp) (C : Addr) (cl : List (Str × Addr)) (fp : List Addr), PGd (X.blk s H scope (compEnvC scope cl C X.env) fp) tg t is) (ht : ∀ (s : Shared) (H : Hp) (C : Addr) (cl : List (Str × Addr)) (fp : List Addr), PTsd (X.blk s H scope (compEnvC scope cl C X.env) fp) ifs c)
    (he : ∀ (s : Shared) (H : Hp) (C : Addr) (cl : List (Str × Addr)) (fp : List Addr), PF (X.blk s H scope (compEnvC scope cl C X.env) fp) elt m) (hs : ∀ x, foldedSetIterable iter X.env x = pure x := by intro _; rfl) :
    PDS X (.Assign [.Name y py] (.ListComp elt [⟨tg, iter, ifs, 0⟩] scope pos) spos) (sAsgF i (mZ (mComp src t (own.map (·.2)) c m))) :=
  PSimp (ps_setLc hc hN hy hyl hsw hi ok hg ht he hs) fun E σ H h => by
    have h2 := asgF_ok h
    refine lc_ok (c := c) (m := m) to hsub ?_
    obtain ⟨G, F, e, d, e', r, hm, q⟩ := h2
    obtain ⟨c, e1, h1, h2⟩ := bind_ok2 hm
    cases h2
    refine ⟨G, F, e, c, _, r, h1, fun v F' H' n hn => ?_⟩
    obtain ⟨F2, n2, _, hd⟩ := hn.frz r n
    exact q v F2 H' n2 hd
end
end DL

namespace DL
open PySem L2 PyProof.Rows

/-! ### dicts as data -/
def dFind : List D → List D → D → Option D
  | k' :: ks, v :: vs, k => if D.eqb k' k = true then some v else dFind ks vs k
  | _, _, _ => none
def dHas (ks : List D) (k : D) : Bool := ks.any fun k' => D.eqb k' k
def dPutV : List D → List D → D → D → List D
  | k' :: ks, v' :: vs, k, v => (if D.eqb k' k = true then v else v') :: dPutV ks vs k v
  | _, vs, _, _ => vs
def dPutK (ks : List D) (k : D) : List D := if dHas ks k = true then ks else ks ++ [k]
def dPutW (ks vs : List D) (k v : D) : List D := if dHas ks k = true then dPutV ks vs k v else vs ++ [v]
/-- a key: an int, a text; or a tuple of such -/
def D.key : D → Option Key
  | .int i => some (.inl i)
  | .str s => some (.inr s)
  | _ => Option.none
def keysA : List D → Option (List Key)
  | [] => some []
  | d :: ds => match d.key, keysA ds with
    | some k, some ks => some (k :: ks)
    | _, _ => none
def D.keyT : D → Option (List Key)
  | .tuple ds => keysA ds
  | _ => Option.none
theorem key_kD {d : D} {k : Key} (h : d.key = some k) : d = kD k := by
  cases d <;> first
    | (cases h; done)
    | (cases h; rfl)
theorem keysA_kD : ∀ {ds : List D} {ks : List Key}, keysA ds = some ks → ds = ks.map kD
  | [], ks, h => by cases h; rfl
  | d :: ds, ks, h => by
    unfold keysA at h
    split at h
    · rename_i k ks' h1 h2
      cases h
      rw [key_kD h1, keysA_kD h2]
      rfl
    · cases h
theorem keyT_kD {d : D} {ks : List Key} (h : d.keyT = some ks) : d = .tuple (ks.map kD) := by
  cases d <;> first
    | (cases h; done)
    | (rw [keysA_kD (show keysA _ = some ks from h)])
theorem eqb_kD (a b : Key) : D.eqb (kD a) (kD b) = decide (a = b) := by
  cases a <;> cases b <;> simp [kD, D.eqb] <;> first
    | (rename_i x y; by_cases e : x = y <;> simp [e])
    | rfl
theorem eqbA_kD : ∀ (a b : List Key), D.eqbA (a.map kD) (b.map kD) = decide (a = b)
  | [], [] => by simp [D.eqbA]
  | [], _ :: _ => by simp [D.eqbA]
  | _ :: _, [] => by simp [D.eqbA]
  | x :: a, y :: b => by
    simp only [List.map_cons, D.eqbA, eqb_kD, eqbA_kD a b]
    by_cases h1 : x = y <;> by_cases h2 : a = b <;> simp [h1, h2]
section
variable {K : PySem.W.Frag} {F H F' H' : Hp}
/-- a dict's items against its data, whatever its keys' sort -/
theorem find_data {κ : Type} [DecidableEq κ] (enc : κ → D) (he : ∀ a b, D.eqb (enc a) (enc b) = decide (a = b)) (k : κ) : ∀ {kvs : List (κ × V)} {vs : List D}, DnA K F (kvs.map (·.2)) vs →
    match dFind (kvs.map fun p => enc p.1) vs (enc k) with
    | some d => ∃ v, valV kvs k = some v ∧ Dn K F v d
    | none => valV kvs k = none
  | [], vs, h => by
    cases h
    rfl
  | p :: kvs, vs, h => by
    cases h with
    | @cons v _ d ds hd ha =>
      simp only [List.map_cons, dFind, he]
      by_cases e : p.1 = k
      · simp only [e, decide_true, if_true]
        exact ⟨p.2, valV_pos e, hd⟩
      · simp only [e, decide_false, Bool.false_eq_true, if_false]
        have := find_data enc he k ha
        rw [valV_neg e]
        exact this
theorem has_data {κ : Type} [DecidableEq κ] (enc : κ → D) (he : ∀ a b, D.eqb (enc a) (enc b) = decide (a = b)) (k : κ) (kvs : List (κ × V)) : dHas (kvs.map fun p => enc p.1) (enc k) = (valV kvs k).isSome := by
  rw [← valV_any]
  unfold dHas
  rw [List.any_map]
  congr 1
  funext p
  exact he _ _
theorem put_data {κ : Type} [DecidableEq κ] (enc : κ → D) (he : ∀ a b, D.eqb (enc a) (enc b) = decide (a = b)) (k : κ) {v : V} {d : D} (hd : Dn K F v d) {kvs : List (κ × V)} {vs : List D} (h : DnA K F (kvs.map (·.2)) vs) :
    (putK kvs k v).map (fun p => enc p.1) = dPutK (kvs.map fun p => enc p.1) (enc k) ∧ DnA K F ((putK kvs k v).map (·.2)) (dPutW (kvs.map fun p => enc p.1) vs (enc k) d) := by
  unfold putK dPutK dPutW
  rw [has_data enc he, ← valV_any]
  by_cases hk : (kvs.any fun kv => decide (kv.1 = k)) = true
  · rw [if_pos hk, if_pos hk, if_pos hk]
    refine ⟨?_, ?_⟩
    · rw [List.map_map]
      congr 1
      funext p
      simp only [Function.comp]
      split <;> rfl
    · clear hk
      induction kvs generalizing vs with
      | nil => cases h; exact .nil
      | cons p kvs ih =>
        cases h with
        | @cons _ _ d' ds hd' ha =>
          simp only [List.map_cons, dPutV, he]
          refine .cons ?_ (ih ha)
          by_cases e : p.1 = k
          · simp only [e, decide_true, if_true]; exact hd
          · simp only [e, decide_false, Bool.false_eq_true, if_false]; exact hd'
  · rw [if_neg hk, if_neg hk, if_neg hk]
    refine ⟨by simp, ?_⟩
    rw [List.map_append]
    exact h.app (.cons hd .nil)
abbrev encT : List Key → D := fun ks => .tuple (ks.map kD)
theorem encT_eq (a b : List Key) : D.eqb (encT a) (encT b) = decide (a = b) := by
  show D.eqb (.tuple _) (.tuple _) = _
  unfold D.eqb
  exact eqbA_kD a b
theorem dna_keys : ∀ {ks : List Key} {xs : List V}, DnA K F xs (ks.map kD) → xs = ks.map kV
  | [], xs, h => by cases h; rfl
  | k :: ks, xs, h => by
    cases h with
    | cons h ha =>
      rw [dna_keys ha]
      cases k with
      | inl i => rw [show _ = _ from h.int_inv]; rfl
      | inr s => rw [show _ = _ from h.str_inv]; rfl
/-- the key in a dict of this sort (t: keys that are tuples) -/
def keyOk (t : Bool) (k : D) : Bool := if t = true then k.keyT.isSome else k.key.isSome
/-- a key's look-up in an object that is a dict -/
theorem dget_data {t : Bool} {a : Addr} {o : HO} {ks vs : List D} {xs : List V} {k : D} {y : V} (fh : Ex F H) (ha : H a = some o) (hc : DcO t o ks xs) (hd : DnA K F xs vs) (hk : keyOk t k = true) (hy : Dn K F y k) :
    ∃ r, DGet H a y r ∧ r.isSome = dHas ks k ∧ match dFind ks vs k with
      | some d => ∃ v, r = some v ∧ Dn K F v d
      | none => r = none := by
  rcases hc with ⟨rfl, kvs, rfl, rfl, rfl⟩ | ⟨rfl, kvs, rfl, rfl, rfl⟩
  · unfold keyOk at hk
    rw [if_neg Bool.false_ne_true] at hk
    obtain ⟨kk, e⟩ := Option.isSome_iff_exists.mp hk
    rw [key_kD e] at hy ⊢
    have hyv : y = kV kk := by
      cases kk with
      | inl i => exact hy.int_inv
      | inr s => exact hy.str_inv
    rw [hyv]
    refine ⟨_, DGet.k ha, (has_data kD eqb_kD kk kvs).symm, ?_⟩
    have := find_data kD eqb_kD kk hd
    exact this
  · unfold keyOk at hk
    rw [if_pos rfl] at hk
    obtain ⟨kk, e⟩ := Option.isSome_iff_exists.mp hk
    rw [keyT_kD e] at hy ⊢
    obtain ⟨b, zs, rfl, q1, q2⟩ := hy.tuple_invS
    have hz := dna_keys q2
    subst hz
    refine ⟨_, DGet.t ha (fh _ _ q1), (has_data encT encT_eq kk kvs).symm, ?_⟩
    exact find_data encT encT_eq kk hd
theorem dput_data {p t : Bool} {a : Addr} {o : HO} {ks vs : List D} {xs : List V} {k d : D} {y v : V} (fh : Ex F H) (ha : H a = some o) (hc : DcO t o ks xs) (hd : DnA K F xs vs) (hk : keyOk t k = true) (hy : Dn K F y k) (hv : Dn K F v d) (hz : ks.length < 16000000) :
    ∃ o' xs', DPut H a y v (upd H a o') ∧ CeO o' (.k p t (dPutK ks k) (dPutW ks vs k d)) xs' ∧ DnA K F xs' (dPutW ks vs k d) := by
  rcases hc with ⟨rfl, kvs, rfl, rfl, rfl⟩ | ⟨rfl, kvs, rfl, rfl, rfl⟩
  · unfold keyOk at hk
    rw [if_neg Bool.false_ne_true] at hk
    obtain ⟨kk, e⟩ := Option.isSome_iff_exists.mp hk
    rw [key_kD e] at hy ⊢
    have hyv : y = kV kk := by
      cases kk with
      | inl i => exact hy.int_inv
      | inr s => exact hy.str_inv
    rw [hyv]
    obtain ⟨e1, e2⟩ := put_data kD eqb_kD kk hv hd
    exact ⟨_, _, DPut.k ha (small_line (by simpa using hz)), .inl ⟨rfl, putK kvs kk v, rfl, e1, rfl⟩, e2⟩
  · unfold keyOk at hk
    rw [if_pos rfl] at hk
    obtain ⟨kk, e⟩ := Option.isSome_iff_exists.mp hk
    rw [keyT_kD e] at hy ⊢
    obtain ⟨b, zs, rfl, q1, q2⟩ := hy.tuple_invS
    have hz' := dna_keys q2
    subst hz'
    obtain ⟨e1, e2⟩ := put_data encT encT_eq kk hv hd
    exact ⟨_, _, DPut.t ha (fh _ _ q1) (small_line (by simpa using hz)), .inr ⟨rfl, putK kvs kk v, rfl, e1, rfl⟩, e2⟩
end
/-! ### rules for dicts -/
/-- {} (t: its keys will be tuples) -/
def mDNew (t : Bool) : M Ce := fun e => .ok (.k false t [] [], e)
def sDPut (i : Nat) (mk mv : M D) : En → Out := fun e => onR (mv e) fun v e1 => match e1[i]? with
  | some (some (.k _ _ _ _)) => onR (mk e1) fun k e2 => (match e2[i]? with
    | some (some (.k p t ks vs)) => if (keyOk t k = true ∧ ks.length < 16000000) then .nx (e2.set i (some (.k p t (dPutK ks k) (dPutW ks vs k v)))) else .no
    | _ => .no)
  | _ => .no
def dgetD : D → D → Rs Ce
  | .dict t ks vs, k => if keyOk t k = true then (match dFind ks vs k with
    | some d => .ok (.f d)
    | none => .no) else .no
  | _, _ => .no
section
variable {X : Cx} {K : PySem.W.Frag} {G : Bs} {F F1 H H1 : Hp} {σ : L2.St} {e e1 : En} {E : Ends} {v : V} {c : Ce} {d : D} {i : Nat} {a : Addr}
variable {st : Stmt} {sts : List Stmt} {ex ey ez tg : Expr} {es : List Expr} {pos pos' apos cpos : Pos} {x : Str}
theorem pn_dnewK : PN X (.Dict [] [] pos) (mDNew false) := PEimp pe_dnewK fun σ H Q ⟨G, F, e, c, e', r, hm, q⟩ => by
  cases hm
  intro p hp
  exact q _ F _ (r.step (Go.newO r.fh hp)) (.inr ⟨rfl, p, _, [], rfl, hp, ex_none r.fh hp, upd_same, .inl ⟨rfl, [], rfl, rfl, rfl⟩, .nil⟩)
theorem pn_dnewT : PN X (.Dict [] [] pos) (mDNew true) := PEimp pe_dnewT fun σ H Q ⟨G, F, e, c, e', r, hm, q⟩ => by
  cases hm
  intro p hp
  exact q _ F _ (r.step (Go.newO r.fh hp)) (.inr ⟨rfl, p, _, [], rfl, hp, ex_none r.fh hp, upd_same, .inr ⟨rfl, [], rfl, rfl, rfl⟩, .nil⟩)
theorem dict_at (h : e[i]? = some (some c)) (r : R K G F H σ e) {p t : Bool} {ks vs : List D} (hc : c = .k p t ks vs) : ∃ a o xs, σ[i]? = some (some (.ref a)) ∧ F a = none ∧ H a = some o ∧ DcO t o ks xs ∧ DnA K F xs vs := by
  subst hc
  obtain ⟨v0, s0, a0⟩ := r.at_ i _ h
  obtain ⟨a, o, xs, rfl, z1, z2, z3, z4, _⟩ := a0.own rfl
  exact ⟨a, o, xs, s0, z1, z2, z3, z4⟩
theorem pds_dput {mk mv : M D} (hu : X.A.units + 1 < cLine) (ho : PE X ex (tVar i)) (hi : PF X ey mk) (hv : PF X ez mv) (hs : swapsWith ez (some (.Subscript ex ey pos')) pos.line X.env = pure false := by rfl) :
    PDS X (.Assign [.Subscript ex ey pos'] ez pos) (sDPut i mk mv) := PSimp (ps_dput hu ho hi hv hs) fun E σ H ⟨G, F, e, r, hp⟩ => by
  obtain ⟨dv, e1, h1, hp⟩ := onR_inv hp
  refine ⟨G, F, e, dv, e1, r, h1, fun v F1 H1 n1 hdv => ?_⟩
  split at hp
  · rename_i p0 t0 ks0 vs0 g0
    obtain ⟨dk, e2, h2, hp⟩ := onR_inv hp
    obtain ⟨a, o0, xs0, s0, _⟩ := dict_at g0 n1.r rfl
    refine ⟨.ref a, s0, G, F1, e1, dk, e2, n1.r, h2, fun y F2 H2 n2 hdk => ?_⟩
    split at hp
    · rename_i p t ks vs g2
      by_cases hz : keyOk t dk = true ∧ ks.length < 16000000
      · rw [if_pos hz] at hp
        obtain ⟨a', o, xs, s1, y1, y2, y3, y4⟩ := dict_at g2 n2.r rfl
        rw [s0] at s1
        cases s1
        obtain ⟨o', xs', hput, hce, hdn⟩ := dput_data (p := p) n2.r.fh y2 y3 y4 hz.1 hdk (n2.dn hdv) hz.2
        refine ⟨a, _, rfl, hput, ?_⟩
        have n3 := n2.r.wr (c' := .k p t (dPutK ks dk) (dPutW ks vs dk dv)) g2 s0 rfl (by cases p <;> cases t <;> rfl) hce hdn
        exact hp F2 _ σ n3.r (n1.go.ff.trans n2.go.ff)
      · rw [if_neg hz] at hp
        exact hp.elim
    · exact hp.elim
  · exact hp.elim
/-- d[k], the key there -/
theorem pf_dget {md : M Hd} {mk : M D} (hu : X.A.units + 1 < cLine) (ho : PH X ex md) (hi : PF X ey mk) (hs : NoSl ey) : PN X (.Subscript ex ey pos) (m2 dgetD md (mH (mN mk))) := PEimp (pe_dget hu ho (ph_f hi) hs) fun σ H Q ⟨G, F, e, c, e', r, hm, q⟩ => by
  obtain ⟨x, e1, h1, hm⟩ := bind_ok2 hm
  obtain ⟨y, e2, h2, hm⟩ := bind_ok2 hm
  obtain ⟨dx, h3, hm⟩ := Rs.bind_eq hm
  obtain ⟨dy, h4, hm⟩ := Rs.bind_eq hm
  obtain ⟨c', h5, hm⟩ := Rs.bind_eq hm
  cases hm
  refine ⟨G, F, e, x, e1, r, h1, fun vx F1 H1 n1 hx => ⟨G, F1, e1, y, _, n1.r, h2, fun vy F2 H2 n2 hy => ?_⟩⟩
  obtain ⟨cy, e3, h6, h7⟩ := bind_ok2 h2
  obtain ⟨dk, e4, h8, h9⟩ := bind_ok2 h6
  cases h9
  cases h7
  cases h4
  have hdk : Dn X.K F2 vy dk := by
    rcases hy with ⟨d, q1, q2⟩ | ⟨_, a, o, xs, _, _, _, _, _, q1, _⟩
    · cases q1; exact q2
    · exact q1.elim
  have hdx : ∃ t ks vs, dx = .dict t ks vs := by
    cases dx <;> first
      | exact ⟨_, _, _, rfl⟩
      | (cases h5; done)
  obtain ⟨t, ks, vs, rfl⟩ := hdx
  unfold dgetD at h5
  obtain ⟨hk, h5⟩ := ite_ok h5
  obtain ⟨a, o, xs, rfl, q1, q2, q3⟩ := ((hx.nx n2).vw n2.r h3).dict n2.r.fh
  obtain ⟨rr, g1, g2, g3⟩ := dget_data n2.r.fh q1 q2 q3 hk hdk
  split at h5
  · rename_i d hf
    cases h5
    simp only [hf] at g3
    obtain ⟨w, rfl, g4⟩ := g3
    exact ⟨a, w, rfl, g1, q w F2 H2 (n1.trans n2) (.inl ⟨d, rfl, g4⟩)⟩
  · cases h5
/-! ### two at once: x, y = a, b, new lists and dicts too -/
def sParN (i j : Nat) (ma mb : M Ce) : En → Out := fun e => onR (ma e) fun c1 e1 => onR (mb e1) fun c2 e2 => if (ioAt e2 i || ioAt e2 j) = true then .no else .nx ((e2.set i (some c1)).set j (some c2))
theorem ioAt_setN {i j : Nat} (hc : c.io = false) (h : ioAt e j = false) : ioAt (e.set i (some c)) j = false := by
  unfold ioAt at h ⊢
  by_cases hj : j = i
  · subst hj
    by_cases hl : j < e.length
    · rw [List.getElem?_set_self hl]; exact hc
    · rw [List.getElem?_eq_none (by simpa using Nat.le_of_not_lt hl)]
  · rw [List.getElem?_set_ne (Ne.symm hj)]; exact h
theorem NAt.io {H F' H' : Hp} (h : NAt K H F' H' c v) : c.io = false := by
  rcases h with ⟨d, rfl, _⟩ | ⟨h, _⟩
  · rfl
  · exact h
theorem pds_parN {i j : Nat} {x y : Str} {px py pt : Pos} {kt k2 : Nat} {pt2 : Pos} {ma mb : M Ce} (hc : X.calm = true) (hN : X.N.Nodup) (hi : X.N[i]? = some x) (hj : X.N[j]? = some y) (hij : i ≠ j)
    (hx : X.env.scope.names.lookup x = some .local) (hy : X.env.scope.names.lookup y = some .local) (ha : PN X ex ma) (hb : PN X ey mb)
    (hw : swappedStores [.Tuple [.Name x px, .Name y py] kt pt] (.Tuple [ex, ey] k2 pt2) X.env = pure (some [x, y]))
    (hs1 : starEach [ex, ey] X.env = (false, eval ex X.env) :: starEach [ey] X.env := by rfl) (hs2 : starEach [ey] X.env = (false, eval ey X.env) :: starEach [] X.env := by rfl)
    (hs : swapsWithSole [.Tuple [.Name x px, .Name y py] kt pt] (.Tuple [ex, ey] k2 pt2) pos.line X.env = pure false := by rfl) : PDS X (.Assign [.Tuple [.Name x px, .Name y py] kt pt] (.Tuple [ex, ey] k2 pt2) pos) (sParN i j ma mb) :=
  PSimp (ps_par hc hN hi hj hij hx hy (pa_cons ha (pa_cons hb pa_nil hs2) hs1) hw hs) fun E σ H ⟨G, F, e, r, hp⟩ => by
    obtain ⟨c1, e1, h1, hp⟩ := onR_inv hp
    obtain ⟨c2, e2, h2, hp⟩ := onR_inv hp
    obtain ⟨hio, hp⟩ := post_ite hp
    obtain ⟨h3, h4⟩ := Bool.or_eq_false_iff.mp hio
    refine ⟨G, F, e, c1, e1, r, h1, fun v1 F1 H1 n1 a1 => ⟨G, F1, e1, c2, e2, n1.r, h2, fun v2 F2 H2 n2 a2 => ⟨v1, v2, rfl, ?_⟩⟩⟩
    have hat1 := (a1.hat r n1).nx n2
    have r1 := n2.r.set (i := i) h3 hat1
    refine hp F2 H2 _ (r1.set (i := j) (ioAt_setN a1.io h4) ?_) (n1.go.ff.trans n2.go.ff)
    rcases a2 with ⟨d, q1, q2⟩ | ⟨q1, a, o, xs, rfl, q2, q3, q4, q5, q6⟩
    · exact .inl ⟨d, q1, q2⟩
    · obtain ⟨z1, z2, _⟩ := n1.r.new q2
      refine .inr ⟨q1, a, o, xs, rfl, z2, q3, q4, fun ⟨k, ck, g1, g2, g3⟩ => ?_, q5, q6⟩
      by_cases hk : k = i
      · subst hk
        have hl : k < e2.length := by
          have := (List.getElem?_eq_some_iff.mp g1).1
          simpa using this
        rw [List.getElem?_set_self hl] at g1
        cases g1
        rw [List.getElem?_set_self (by rw [← n2.r.len]; exact hl)] at g3
        cases g3
        rcases a1 with ⟨d, q7, _⟩ | ⟨_, b, u, ys, q7, w1, w2, w3, _⟩
        · rw [q7] at g2; cases g2
        · cases q7
          rw [q2] at w3
          cases w3
      · rw [List.getElem?_set_ne (Ne.symm hk)] at g1 g3
        exact z1 (sh_lv n2.sh ⟨k, ck, g1, g2, g3⟩)
/-! ### x[i] = e, x a list of one's own -/
def sLPut (i : Nat) (mj mv : M D) : En → Out := fun e => onR (mv e) fun v e1 => match e1[i]? with
  | some (some (.l _ _)) => onR (mj e1) fun k e2 => (match e2[i]?, k with
    | some (some (.l p ds)), .int j => (match ixN ds.length j with
      | some jj => .nx (e2.set i (some (.l p (ds.set jj v))))
      | none => .no)
    | _, _ => .no)
  | _ => .no
theorem pds_lput {mj mv : M D} (ho : PE X ex (tVar i)) (hi : PF X ey mj) (hv : PF X ez mv) (hs : swapsWithSole [.Subscript ex ey pos'] ez pos.line X.env = pure false := by rfl) (hw : swappedStores [.Subscript ex ey pos'] ez X.env = pure none := by rfl)
    (h1 : (assignEach [.Subscript ex ey pos'] X.env).map (·.2) = [assign (.Subscript ex ey pos') X.env] := by rfl)
    (ha : ∀ v, assign (.Subscript ex ey pos') X.env v = (do
      let ov ← holding [v] (eval ex X.env)
      let iv ← holding [v, ov] (eval ey X.env)
      standAt pos'
      holding [v, ov, iv] (setItem ov iv v)
      release [v, ov, iv] []) := by intro _; rfl) :
    PDS X (.Assign [.Subscript ex ey pos'] ez pos) (sLPut i mj mv) := PSimp (ps_asg hv (pg_sub ho hi set_list ha) hs hw h1) fun E σ H ⟨G, F, e, r, hp⟩ => by
  obtain ⟨dv, e1, h1, hp⟩ := onR_inv hp
  refine ⟨G, F, e, dv, e1, r, h1, fun v F1 H1 n1 hdv => ?_⟩
  split at hp
  · rename_i p0 ds0 g0
    obtain ⟨dk, e2, h2, hp⟩ := onR_inv hp
    obtain ⟨a, xs0, s0, _⟩ := lst_at g0 n1.r rfl
    refine ⟨.ref a, s0, G, F1, e1, dk, e2, n1.r, h2, fun y F2 H2 n2 hdk => ?_⟩
    split at hp
    · rename_i p ds j g2
      split at hp
      · rename_i jj hj
        obtain ⟨a', xs, s1, y1, y2, y4⟩ := lst_at g2 n2.r rfl
        rw [s0] at s1
        cases s1
        refine ⟨a, xs, j, jj, rfl, hdk.int_inv, y2, by rw [y4.len]; exact hj, ?_⟩
        have n3 := n2.r.wr (c' := .l p (ds.set jj dv)) g2 s0 rfl (by cases p <;> rfl) (o' := .lst (xs.set jj v)) (xs' := xs.set jj v) rfl (y4.set jj (n2.dn hdv))
        exact hp F2 _ σ n3.r (n1.go.ff.trans n2.go.ff)
      · exact hp.elim
    · exact hp.elim
  · exact hp.elim
end
/-! ### built-in functions once more -/
section
variable {K : PySem.W.Frag} {F H F' H' : Hp}
def rLenA (K : PySem.W.Frag) : List V → Hp → VK → Prop := fun xs H Q => (∃ x n, xs = [x] ∧ LenV K x H n ∧ Q (.int n) H) ∨ (∃ a kvs, xs = [V.ref a] ∧ H a = some (.dK kvs) ∧ Q (.int kvs.length) H) ∨ rLenT xs H Q
theorem call_lenA {X : Cx} : CallR X (.builtin "len") (rLenA X.K) := call_len.or (call_lenD.or call_len_dT)
theorem snd_len : SndL K (rLenA K) lenD := fun F H xs ds c Q fh hx hg q => by
  unfold lenD at hg
  split at hg
  · obtain ⟨h1, hg⟩ := ite_ok hg
    cases hg
    obtain ⟨x, rfl, h⟩ := hx.one (ds := [])
    rw [h.str]
    exact .inl ⟨_, _, rfl, ⟨h1, rfl⟩, ret1 fh (.int _) rfl q⟩
  · cases hg
    obtain ⟨x, rfl, h⟩ := hx.one (ds := [])
    obtain ⟨a, xs, rfl, h3, h4⟩ := h.list fh
    exact .inl ⟨_, _, rfl, .inl ⟨xs, SqL.of h3, rfl⟩, ret1 fh (.int _) (by rw [h4.len]) q⟩
  · cases hg
    obtain ⟨x, rfl, h⟩ := hx.one (ds := [])
    obtain ⟨a, xs, rfl, h3, h4⟩ := h.ro fh
    exact .inl ⟨_, _, rfl, .inl ⟨xs, h3, rfl⟩, ret1 fh (.int _) (by rw [h4.len]) q⟩
  · cases hg
    obtain ⟨x, rfl, h⟩ := hx.one (ds := [])
    obtain ⟨a, xs, rfl, h3, h4, _⟩ := h.tuple fh
    exact .inl ⟨_, _, rfl, .inr ⟨xs, h3, rfl⟩, ret1 fh (.int _) (by rw [h4.len]) q⟩
  · cases hg
    obtain ⟨x, rfl, h⟩ := hx.one (ds := [])
    obtain ⟨a, o, xs, rfl, h3, h4, h5⟩ := h.dict fh
    rcases h4 with ⟨_, kvs, rfl, rfl, rfl⟩ | ⟨_, kvs, rfl, rfl, rfl⟩
    · exact .inr (.inl ⟨a, kvs, rfl, h3, ret1 fh (.int _) (by rw [List.length_map]) q⟩)
    · exact .inr (.inr ⟨a, kvs, rfl, h3, ret1 fh (.int _) (by rw [List.length_map]) q⟩)
  · cases hg
def tupleD : List D → Rs Ce
  | [.list ds] => .ok (.f (.tuple ds))
  | [.tuple ds] => .ok (.f (.tuple ds))
  | _ => .no
def rTupA (K : PySem.W.Frag) : List V → Hp → VK → Prop := fun xs H Q => ∃ p ys, xs = [.ref p] ∧ ((SqL K H p ys ∧ ∀ l, H l = none → Q (.ref l) (upd H l (.tup ys))) ∨ (SqT K H p ys ∧ Q (.ref p) H))
theorem snd_tuple : SndL K (rTupA K) tupleD := fun F H xs ds c Q fh hx hg q => by
  unfold tupleD at hg
  split at hg
  · cases hg
    obtain ⟨x, rfl, h⟩ := hx.one (ds := [])
    obtain ⟨a, xs, rfl, h3, h4⟩ := h.list fh
    refine ⟨a, xs, rfl, .inl ⟨SqL.of h3, fun l hl => ?_⟩⟩
    have go : Go F H (upd F l (.tup xs)) (upd H l (.tup xs)) noA := Go.newF fh hl
    exact q _ _ _ go (.inl ⟨_, rfl, .tup upd_same (h4.mono go.ff)⟩)
  · cases hg
    obtain ⟨x, rfl, h⟩ := hx.one (ds := [])
    obtain ⟨a, xs, rfl, h3, h4, h5⟩ := h.tuple fh
    exact ⟨a, xs, rfl, .inr ⟨h3, ret1 fh h5 rfl q⟩⟩
  · cases hg
def listD : List D → Rs Ce
  | [.list ds] => .ok (.l false ds)
  | [.ro ds] => .ok (.l false ds)
  | [.tuple ds] => .ok (.l false ds)
  | _ => .no
def rListA (K : PySem.W.Frag) : List V → Hp → VK → Prop := fun xs H Q => ∃ p ys, xs = [.ref p] ∧ (SqL K H p ys ∨ SqT K H p ys) ∧ ∀ l, H l = none → Q (.ref l) (upd H l (.lst ys))
theorem snd_list : SndL K (rListA K) listD := fun F H xs ds c Q fh hx hg q => by
  have key : ∀ (a : Addr) (ys : List V) (es : List D), DnA K F ys es → (SqL K H a ys ∨ SqT K H a ys) → c = .l false es → xs = [.ref a] → rListA K xs H Q := fun a ys es hd hs hc hxs =>
    ⟨a, ys, hxs, hs, fun l hl => q _ F _ (Go.newO fh hl) (.inr ⟨by rw [hc]; rfl, l, _, ys, rfl, hl, ex_none fh hl, upd_same, by rw [hc]; rfl, by rw [hc]; exact hd⟩)⟩
  unfold listD at hg
  split at hg
  · cases hg
    obtain ⟨x, rfl, h⟩ := hx.one (ds := [])
    obtain ⟨a, ys, rfl, h3, h4⟩ := h.list fh
    exact key a ys _ h4 (.inl (SqL.of h3)) rfl rfl
  · cases hg
    obtain ⟨x, rfl, h⟩ := hx.one (ds := [])
    obtain ⟨a, ys, rfl, h3, h4⟩ := h.ro fh
    exact key a ys _ h4 (.inl h3) rfl rfl
  · cases hg
    obtain ⟨x, rfl, h⟩ := hx.one (ds := [])
    obtain ⟨a, ys, rfl, h3, h4, _⟩ := h.tuple fh
    exact key a ys _ h4 (.inr h3) rfl rfl
  · cases hg
end
/-! ### isinstance -/
def D.ty : D → String
  | .none => "NoneType" | .bool _ => "bool" | .int _ => "int" | .str _ => "str" | .list _ => "list" | .ro _ => "list" | .tuple _ => "tuple" | .dict _ _ _ => "dict"
def isT (T : String) (d : D) : Bool := d.ty == T || (T == "int" && d.ty == "bool")
def mIs (T : String) (m : M Hd) : M D := fun e => (m e).bind fun p => (p.1.get p.2).bind fun d => .ok (.bool (isT T d), p.2)
/-- a class that isinstance is asked for -/
structure TyOk (T : String) : Prop where
  ok : ∀ n ∈ ["NoneType", "bool", "int", "str", "list", "tuple", "dict"], kitB n T = some (n == T || (T == "int" && n == "bool"))
theorem tyOk_int : TyOk "int" := ⟨by decide +kernel⟩
theorem tyOk_bool : TyOk "bool" := ⟨by decide +kernel⟩
theorem tyOk_str : TyOk "str" := ⟨by decide +kernel⟩
theorem tyOk_tuple : TyOk "tuple" := ⟨by decide +kernel⟩
theorem tyOk_list : TyOk "list" := ⟨by decide +kernel⟩
theorem tyOk_dict : TyOk "dict" := ⟨by decide +kernel⟩
section
variable {X : Cx} {K : PySem.W.Frag} {F H : Hp} {ex : Expr} {pos p p2 : Pos}
theorem sqL_ty {a : Addr} {xs : List V} (h : SqL K H a xs) : TyX K H (.ref a) (.type "list") := by
  rcases h with (h | ⟨o, h⟩) | ⟨o, its, n, hk, hc, _⟩
  · exact .base (.lst h)
  · exact .base (.frz h)
  · exact .kList hk hc
theorem Vw.ty {d : D} {v : V} (h : Vw K F H d v) (fh : Ex F H) : TyX K H v (.type d.ty) := by
  cases d with
  | none => rw [h.none]; exact .base .non
  | bool b => rw [h.bool]; exact .base (.bl b)
  | int i => rw [h.int]; exact .base (.int i)
  | str s => rw [h.str]; exact .base (.str s)
  | list ds =>
    obtain ⟨a, xs, rfl, h1, _⟩ := h.list fh
    exact .base (.lst h1)
  | ro ds =>
    obtain ⟨a, xs, rfl, h1, _⟩ := h.ro fh
    exact sqL_ty h1
  | tuple ds =>
    obtain ⟨a, xs, rfl, h1, _, h2⟩ := h.tuple fh
    obtain ⟨a', xs', e, h3, _⟩ := h2.tuple_invS
    cases e
    exact .base (.tup (fh _ _ h3))
  | dict t ks vs =>
    obtain ⟨a, o, xs, rfl, h1, h2, _⟩ := h.dict fh
    rcases h2 with ⟨_, kvs, rfl, _⟩ | ⟨_, kvs, rfl, _⟩
    · exact .base (.dK h1)
    · exact .base (.dT h1)
theorem pf_isi {T : String} {y : Str} {m : M Hd} (to : TyOk T) (hg : Gl X "isinstance") (hm : X.mg "isinstance" = none) (h : PH X ex m) (gy : Gl X y) (my : X.mg y = none) (by_ : bootBuiltins y = some (.type T)) (ny : y ≠ "__name__" := by decide) (dy : (y == ("__debug__" : Str)) = false := by decide)
    (he : starEach [ex, .Name y p2] X.env = (false, eval ex X.env) :: starEach [.Name y p2] X.env := by rfl) (hs2 : starEach [.Name y p2] X.env = (false, eval (.Name y p2) X.env) :: starEach [] X.env := by rfl) (hpl : (backTo pos (starEach [.Name y p2] X.env)).any (·.1) = false := by rfl) :
    PF X (.Call (.Name "isinstance" p) [ex, .Name y p2] [] pos) (mIs T m) :=
  PEimp (pe_callB call_isi hg hm (show bootBuiltins "isinstance" = some (.builtin "isinstance") by decide +kernel) (pa_cons h (pa_cons (pe_bltn (v := .ty T) gy my by_ rfl ny dy) pa_nil hs2) he) (by decide) (by decide) he hpl) fun σ H Q ⟨G, F, e, d, e', r, hm, q⟩ => by
    obtain ⟨hd, e1, h1, hm⟩ := bind_ok2 hm
    obtain ⟨dx, h2, hm⟩ := Rs.bind_eq hm
    cases hm
    refine ⟨G, F, e, hd, _, r, h1, fun v F1 H1 n hv => ⟨v, .ty T, .type dx.ty, .type T, isT T dx, rfl, .ty T, (hv.vw n.r h2).ty n.r.fh, ?_, q _ F1 H1 n (.bl _)⟩⟩
    refine kit_ty ?_
    have : dx.ty ∈ ["NoneType", "bool", "int", "str", "list", "tuple", "dict"] := by cases dx <;> simp [D.ty]
    exact to.ok _ this
/-- "..".join(texts) -/
def textsOf : List D → Option (List Str)
  | [] => some []
  | .str s :: ds => (textsOf ds).map fun ss => s :: ss
  | _ :: _ => none
def joinD : D → D → Rs Ce
  | .str a, .list ds => (match textsOf ds with
    | some ys => if (ys.map (·.length)).sum + ys.length * a.length ≤ 16777216 then .ok (.f (.str (Txt.join a ys))) else .no
    | none => .no)
  | .str a, .tuple ds => (match textsOf ds with
    | some ys => if (ys.map (·.length)).sum + ys.length * a.length ≤ 16777216 then .ok (.f (.str (Txt.join a ys))) else .no
    | none => .no)
  | _, _ => .no
theorem textsOf_eq : ∀ {ds : List D} {ys : List Str}, textsOf ds = some ys → ds = ys.map .str
  | [], ys, h => by cases h; rfl
  | d :: ds, ys, h => by
    cases d <;> first
      | (cases h; done)
      | skip
    unfold textsOf at h
    cases q : textsOf ds with
    | none => rw [q] at h; cases h
    | some zs =>
      rw [q] at h
      cases h
      rw [textsOf_eq q]
      rfl
/-- a method of a text with one argument that is first a text -/
def mJoin (ma mb : M Hd) : M Ce := fun e => (ma e).bind fun p => (p.1.get p.2).bind fun x => if isT "str" x = true then (mb p.2).bind fun q => (q.1.get q.2).bind fun y => (joinD x y).bind fun c => .ok (c, q.2) else .no
theorem pn_join {apos : Pos} {eo : Expr} {ma mb : M Hd} (ho : PH X eo ma) (he : PH X ex mb) (hs : starEach [ex] X.env = [(false, eval ex X.env)] := by rfl) (hbase : attributeBase eo "join" X.env (eval eo X.env) = eval eo X.env := by rfl) (hline : (apos.endLine == pos.line) = true := by rfl) :
    PN X (.Call (.Attribute eo "join" apos) [ex] [] pos) (mJoin ma mb) := PEimp (pe_join ho he hs hbase hline) fun σ H Q ⟨G, F, e, c, e', r, hm, q⟩ => by
  obtain ⟨x, e1, h1, hm⟩ := bind_ok2 hm
  obtain ⟨dx, h2, hm⟩ := Rs.bind_eq hm
  obtain ⟨hx, hm⟩ := ite_ok hm
  obtain ⟨y, e2, h3, hm⟩ := bind_ok2 hm
  obtain ⟨dy, h4, hm⟩ := Rs.bind_eq hm
  obtain ⟨c', h5, hm⟩ := Rs.bind_eq hm
  cases hm
  have hdx : ∃ s, dx = .str s := by
    cases dx <;> first
      | exact ⟨_, rfl⟩
      | (simp [isT, D.ty] at hx; done)
  obtain ⟨s, rfl⟩ := hdx
  refine ⟨G, F, e, x, e1, r, h1, fun vx F1 H1 n1 hvx => ⟨⟨s, (hvx.vw n1.r h2).str⟩, G, F1, e1, y, _, n1.r, h3, fun vy F2 H2 n2 hvy => ?_⟩⟩
  rw [(hvx.vw n1.r h2).str]
  have vw := hvy.vw n2.r h4
  have nn := n1.trans n2
  cases dy <;> first
    | (cases h5; done)
    | skip
  · rename_i ds
    simp only [joinD] at h5
    split at h5
    · rename_i ys hy
      obtain ⟨hz, h5⟩ := ite_ok h5
      cases h5
      obtain ⟨a, xs, rfl, g1, g2⟩ := vw.list n2.r.fh
      rw [textsOf_eq hy] at g2
      rw [g2.strs] at g1
      exact ⟨s, a, ys, rfl, rfl, .inl (SqL.of g1), hz, q _ F2 H2 nn (.inl ⟨_, rfl, .str _⟩)⟩
    · cases h5
  · rename_i ds
    simp only [joinD] at h5
    split at h5
    · rename_i ys hy
      obtain ⟨hz, h5⟩ := ite_ok h5
      cases h5
      obtain ⟨a, xs, rfl, g1, g2, _⟩ := vw.tuple n2.r.fh
      rw [textsOf_eq hy] at g2
      rw [g2.strs] at g1
      exact ⟨s, a, ys, rfl, rfl, .inr g1, hz, q _ F2 H2 nn (.inl ⟨_, rfl, .str _⟩)⟩
    · cases h5
end
end DL

namespace DL
open PySem L2 PyProof.Rows
/-! ### what stands among the built-ins -/
theorem bt_len : bootBuiltins "len" = some (.builtin "len") := by decide +kernel
theorem bt_abs : bootBuiltins "abs" = some (.builtin "abs") := by decide +kernel
theorem bt_min : bootBuiltins "min" = some (.builtin "min") := by decide +kernel
theorem bt_max : bootBuiltins "max" = some (.builtin "max") := by decide +kernel
theorem bt_sum : bootBuiltins "sum" = some (.builtin "sum") := by decide +kernel
theorem bt_sorted : bootBuiltins "sorted" = some (.builtin "sorted") := by decide +kernel
theorem bt_all : bootBuiltins "all" = some (.builtin "all") := by decide +kernel
theorem bt_any : bootBuiltins "any" = some (.builtin "any") := by decide +kernel
theorem bt_divmod : bootBuiltins "divmod" = some (.builtin "divmod") := by decide +kernel
theorem bt_int : bootBuiltins "int" = some (.type "int") := by decide +kernel
theorem bt_bool : bootBuiltins "bool" = some (.type "bool") := by decide +kernel
theorem bt_str : bootBuiltins "str" = some (.type "str") := by decide +kernel
theorem bt_tuple : bootBuiltins "tuple" = some (.type "tuple") := by decide +kernel
theorem bt_list : bootBuiltins "list" = some (.type "list") := by decide +kernel
theorem bt_dict : bootBuiltins "dict" = some (.type "dict") := by decide +kernel
/-! ### walks over lists or tuples -/
section
variable {X : Cx} {tg ex ey : Expr} {es : List Expr} {pos p : Pos} {x : Str}
def iSeq (K : PySem.W.Frag) (tl : TE) : TI := fun σ H R => tl σ H fun x H1 => ∃ a, x = .ref a ∧ (((∃ xs, SqL K H1 a xs) ∧ R (Itl K a) H1) ∨ ((∃ xs, SqT K H1 a xs) ∧ R (Itt K a) H1))
theorem pi_seq {l : Expr} {tl : TE} (hl : PE X l tl) : PI X tg l (iSeq X.K tl) := by
  refine ⟨fun pins s σ H R I h => ?_⟩
  refine thn (hl.run pins s σ H _ I h) fun v s1 ⟨x, H1, I1, r1, q1⟩ => ?_
  obtain ⟨a, e, q1⟩ := q1
  subst e
  cases r1
  rcases q1 with ⟨⟨xs, hq⟩, q⟩ | ⟨⟨xs, hq⟩, q⟩
  · obtain ⟨its, rv, p, hz⟩ := I1.list hq
    refine wpAny_pyIter_list p.isList ?_
    refine ⟨s1.heap.objs.size, [s1.heap.objs.size], _, _, H1, rfl, I1.kept (t' := s1.toks) fun b o e => Heap.get?_push_of_some _ e, turn_list a _, ⟨_, Heap.get?_push_size _ rfl, rfl, rfl⟩, fun b hb => ?_, q⟩
    have e : b = s1.heap.objs.size := by simpa using hb
    subst e
    exact I1.fpOk (Nat.le_refl _) (I1.hok.fresh (Nat.le_refl _))
  · obtain ⟨its, rv, p, hz⟩ := I1.tuple hq
    refine wpAny_pyIter_tuple (show s1.heap.IsTuple a its.toArray from p) ?_
    refine ⟨s1.heap.objs.size, [s1.heap.objs.size], _, _, H1, rfl, I1.kept (t' := s1.toks) fun b o e => Heap.get?_push_of_some _ e, turn_tuple a _, ⟨_, Heap.get?_push_size _ rfl, rfl, rfl⟩, fun b hb => ?_, q⟩
    have e : b = s1.heap.objs.size := by simpa using hb
    subst e
    exact I1.fpOk (Nat.le_refl _) (I1.hok.fresh (Nat.le_refl _))
def D.items : D → Rs (List D)
  | .list ds => .ok ds
  | .ro ds => .ok ds
  | .tuple ds => .ok ds
  | _ => .no
def mSeqA (m : M D) : M (List D) := fun e => (m e).bind fun p => p.1.items.bind fun ds => .ok (ds, p.2)
theorem pid_seq {m : M D} (h : PF X ex m) : PId X tg ex (mSeqA m) := PIimp (pi_seq h) fun σ H Q ⟨G, F, e, ds, e', r, hm, q⟩ => by
  obtain ⟨d, e1, h1, hm⟩ := bind_ok2 hm
  obtain ⟨ds', h2, hm⟩ := Rs.bind_eq hm
  cases hm
  have keyL : ∀ v F' H', Nx X.K G σ F H e F' H' e1 → (∃ a xs, v = V.ref a ∧ SqL X.K F' a xs ∧ DnA X.K F' xs ds) → ∃ a, v = V.ref a ∧ (((∃ xs, SqL X.K H' a xs) ∧ Q (Itl X.K a) H') ∨ ((∃ xs, SqT X.K H' a xs) ∧ Q (Itt X.K a) H')) := fun v F' H' n ⟨a, xs, hv, hl, hd⟩ => by
    refine ⟨a, hv, .inl ⟨⟨xs, Evl.ex_l n.r.fh hl⟩, q _ F' H' n ?_⟩⟩
    intro i F2 H2 x1 x2
    have hx := x1.trans x2
    refine ⟨fun d hi => ?_, fun hi => ?_⟩
    · obtain ⟨w, h1, h2⟩ := hd.get hi
      refine ⟨⟨xs, w, Evl.ex_l hx hl, h1⟩, fun x H3 y => ?_⟩
      obtain ⟨rfl, y⟩ := y
      have := y xs (Evl.ex_l hx hl)
      rw [h1] at this
      cases this
      exact ⟨F2, Go.refl x2, h2.mono x1⟩
    · exact ⟨xs, Evl.ex_l hx hl, by rw [hd.len]; exact List.getElem?_eq_none_iff.mp hi⟩
  cases d <;> first
    | (cases h2; done)
    | skip
  · cases h2
    refine ⟨G, F, e, _, _, r, h1, fun v F' H' n hn => keyL v F' H' n ?_⟩
    obtain ⟨a, xs, q1, q2, q3⟩ := hn.list_inv
    exact ⟨a, xs, q1, SqL.of q2, q3⟩
  · cases h2
    refine ⟨G, F, e, _, _, r, h1, fun v F' H' n hn => ?_⟩
    obtain ⟨a, xs, hv, hl, hd⟩ := hn.tuple_inv
    refine ⟨a, hv, .inr ⟨⟨xs, Evl.ex_t n.r.fh hl⟩, q _ F' H' n ?_⟩⟩
    intro i F2 H2 x1 x2
    have hx := x1.trans x2
    refine ⟨fun d hi => ?_, fun hi => ?_⟩
    · obtain ⟨w, h1, h2⟩ := hd.get hi
      refine ⟨⟨xs, w, Evl.ex_t hx hl, h1⟩, fun x H3 y => ?_⟩
      obtain ⟨rfl, y⟩ := y
      have := y xs (Evl.ex_t hx hl)
      rw [h1] at this
      cases this
      exact ⟨F2, Go.refl x2, h2.mono x1⟩
    · exact ⟨xs, Evl.ex_t hx hl, by rw [hd.len]; exact List.getElem?_eq_none_iff.mp hi⟩
  · cases h2
    exact ⟨G, F, e, _, _, r, h1, fun v F' H' n hn => keyL v F' H' n hn.ro_inv⟩
end
/-! ### defs by name -/
section
variable {P : Program} {w : World} {K : PySem.W.Frag} {mg : Str → Option Value} {base : Heap}
/-- the def x of the module keeps its promise S, by level k -/
structure DFn (P : Program) (w : World) (K : PySem.W.Frag) (mg : Str → Option Value) (base : Heap) (x : Str) (k : Nat) (S : Sf) : Prop where
  ok : ∃ f fd ps, FnD P w K mg base k f fd ps S ∧ mg x = some (.ref f) ∧ PySem.W.keepIn K (.ref f) = true ∧ Binds K fd ps []
theorem DFn.mono {x : Str} {j k : Nat} {S : Sf} (h : DFn P w K mg base x j S) (hk : j ≤ k) : DFn P w K mg base x k S := by
  obtain ⟨f, fd, ps, h1, h2⟩ := h.ok
  exact ⟨f, fd, ps, FnOk.mono h1 hk, h2⟩
theorem DFn.imp {x : Str} {k : Nat} {S S' : Sf} (h : DFn P w K mg base x k S) (hs : ∀ cs r, S' cs = .ok r → S cs = .ok r) : DFn P w K mg base x k S' := by
  obtain ⟨f, fd, ps, h1, h2⟩ := h.ok
  exact ⟨f, fd, ps, FnD.imp h1 hs, h2⟩
/-- where the def x stands -/
structure At1 (K : PySem.W.Frag) (mg : Str → Option Value) (x : Str) (st : Stmt) (ps : List Str) (f : Addr) (fd : FuncData) : Prop where
  fn : Fun K x x st f fd
  gl : mg x = some (.ref f)
  bi : Binds K fd ps []
theorem dfn_ok {x : Str} {st : Stmt} {f : Addr} {fd : FuncData} {N ps : List Str} {k : Nat} {S : Sf} (A : At1 K mg x st ps f fd) (Sc : FnScope N ps (defScope st)) (hN : ps.length ≤ N.length) (m : En → Out)
    (hb : ∀ (cdv : Value) (A : Around) (outer : List PySem.Env) (s : Shared) (H : Hp) (E : XK), Room k (A.deeper (envOfC x (defScope st) s.heap.objs.size f cdv)) → PDs (XX P w K mg base N x (defScope st) f cdv A outer s H E) (defBody st) m)
    (hS : ∀ cs c outs, S cs = .ok (c, outs) → cs.length = ps.length ∧ runD N.length m cs = .ok (c, outs)) : DFn P w K mg base x (k + 1) S :=
  ⟨f, fd, ps, fnD_ok A.fn Sc hN m hb hS, A.gl, A.fn.kp, A.bi⟩
end
section
variable {X : Cx} {ex : Expr} {es : List Expr} {pos p : Pos} {x : Str}
theorem pn_cd {j k : Nat} {S : Sf} {ma : M (List Ag)} (c : DFn X.prog X.w X.K X.mg X.base x j S) (hr : Room k X.A) (hjk : j ≤ k) (hg : Gl X x) (ha : PAg X (ex :: es) ma)
    (hdb : (x == ("__debug__" : Str)) = false := by decide) (he : starEach (ex :: es) X.env = (false, eval ex X.env) :: starEach es X.env := by rfl) (hpl : (backTo pos (starEach es X.env)).any (·.1) = false := by rfl) :
    PN X (.Call (.Name x p) (ex :: es) [] pos) (mCall S ma) := by
  obtain ⟨f, fd, ps, h1, h2, h3, h4⟩ := c.ok
  exact pn_call h1 (hr.mono hjk) hg h2 h3 h4 ha hdb he hpl
theorem hu1 {A : Around} {k : Nat} (hr : Room k A) : A.units + 1 < cLine := hu_of hr
theorem hu64 {A : Around} {k : Nat} (hr : Room k A) : A.units + 64 < cLine := hr.units
theorem hu65 {A : Around} {k : Nat} (hr : Room k A) : A.units + 65 < cLine := by have := hr.un; omega
end
/-! ### a law -/
open Classical in
/-- what is asked of a law: True of every list of at most n ints -/
noncomputable def lawS (n : Nat) : Sf := fun cs => if ∃ ns : List Int, ns.length ≤ n ∧ cs = [.f (.ro (ns.map .int))] then .ok (.f (.bool true), []) else .no
open Classical in
theorem lawS_ok {n : Nat} {cs : List Ce} {c : Ce} {outs : List Ce} (h : lawS n cs = .ok (c, outs)) : ∃ ns : List Int, ns.length ≤ n ∧ cs = [.f (.ro (ns.map .int))] ∧ c = .f (.bool true) ∧ outs = [] := by
  unfold lawS at h
  obtain ⟨⟨ns, h1, h2⟩, h⟩ := ite_ok h
  cases h
  exact ⟨ns, h1, h2, rfl, rfl⟩
open Classical in
theorem law_sp {n : Nat} (K : PySem.W.Frag) (H : Hp) (a : Addr) (ns : List Int) (hl : ns.length ≤ n) (hS : SqL K H a (ns.map V.int)) : spD K (lawS n) [.ref a] H (fun v _ => v = .bl true) fun _ _ _ => False := by
  refine ⟨H, [.f (.ro (ns.map .int))], .f (.bool true), [], [], Evl.Ex.refl _, .f (.ro hS (dnA_ints ns)) .nil, List.nodup_nil, ?_, fun v F' H' go nat _ => nat.fz.bool_inv⟩
  unfold lawS
  exact if_pos ⟨ns, hl, rfl⟩
end DL

namespace DL
open PySem L2 PyProof.Rows
section
variable {K : PySem.W.Frag} {F H : Hp}
/-! ### op= on frozen data -/
def iaddD : D → D → Rs Ce
  | .int i, .int j => .ok (.f (.int (i + j)))
  | .str a, .str b => if a.length + b.length ≤ sizeLine then .ok (.f (.str (a ++ b))) else .no
  | _, _ => .no
def rIAdd : R2 := fun x y H Q => rI0 (fun i j => .int (i + j)) x y H Q ∨ (∃ i j, x = .str i ∧ y = .str j ∧ i.length + j.length ≤ sizeLine ∧ Q (.str (i ++ j)) H)
theorem iop_addA {X : Cx} : OpR X (inplaceOp .Add) rIAdd := iop_add.or iop_add_str
theorem snd_iadd : Snd2 K rIAdd iaddD := fun F H x y dx dy c Q fh hx hy hg q => by
  cases dx <;> cases dy <;> first
    | (cases hg; done)
    | skip
  · rename_i i j
    cases hg
    rw [hx.int, hy.int]
    exact .inl ⟨i, j, rfl, rfl, ret1 fh (.int _) rfl q⟩
  · rename_i i j
    obtain ⟨h1, hg⟩ := ite_ok hg
    cases hg
    rw [hx.str, hy.str]
    exact .inr ⟨i, j, rfl, rfl, h1, ret1 fh (.str _) rfl q⟩
noncomputable def imulD : D → D → Rs Ce
  | .int i, .int j => if MulOk i j then .ok (.f (.int (i * j))) else .no
  | _, _ => .no
def rIMul : R2 := fun x y H Q => rI CMul (fun i j => .int (i * j)) x y H Q ∨ rI CMulW (fun i j => .int (i * j)) x y H Q
theorem iop_mulA {X : Cx} : OpR X (inplaceOp .Mult) rIMul := iop_mul.or (opI fun _ _ _ _ _ _ _ hc q => imul_int q hc.ok)
theorem snd_imul : Snd2 K rIMul imulD := fun F H x y dx dy c Q fh hx hy hg q => by
  cases dx <;> cases dy <;> first
    | (cases hg; done)
    | skip
  rename_i i j
  obtain ⟨h1, hg⟩ := ite_ok hg
  cases hg
  rw [hx.int, hy.int]
  rcases mulOk_r h1 with h | h
  · exact .inl ⟨i, j, rfl, rfl, h, ret1 fh (.int _) rfl q⟩
  · exact .inr ⟨i, j, rfl, rfl, h, ret1 fh (.int _) rfl q⟩
noncomputable def ifdivD : D → D → Rs Ce
  | .int i, .int j => if DivOk j then .ok (.f (.int (i / j))) else .no
  | _, _ => .no
theorem snd_ifdiv : Snd2 K (rI CDivW fun i j => .int (i / j)) ifdivD := fun F H x y dx dy c Q fh hx hy hg q => by
  cases dx <;> cases dy <;> first
    | (cases hg; done)
    | skip
  rename_i i j
  obtain ⟨h, hg⟩ := ite_ok hg
  cases hg
  rw [hx.int, hy.int]
  exact ⟨i, j, rfl, rfl, wide_div h.1 h.2 (by decide) (by decide), ret1 fh (.int _) rfl q⟩
end
end DL

namespace DL
open PySem L2 PyProof.Rows
/-! ### reckoning a meaning: simp rules -/
@[simp] theorem mN_r (m : M D) (e : En) : mN m e = (m e).bind fun p => .ok (.f p.1, p.2) := rfl
@[simp] theorem mZ_r (m : M Ce) (e : En) : mZ m e = (m e).bind fun p => .ok (p.1.d, p.2) := rfl
@[simp] theorem mH_r (m : M Ce) (e : En) : mH m e = (m e).bind fun p => .ok (.v p.1, p.2) := rfl
@[simp] theorem mVar_r (i : Nat) (e : En) : mVar i e = match e[i]? with
  | some (some (.f d)) => .ok (d, e)
  | _ => .no := rfl
@[simp] theorem mSl_r (i : Nat) (e : En) : mSl i e = match e[i]? with
  | some (some _) => .ok (.s i, e)
  | _ => .no := rfl
@[simp] theorem get_v (c : Ce) (e : En) : (Hd.v c).get e = .ok c.d := rfl
@[simp] theorem get_s (i : Nat) (e : En) : (Hd.s i).get e = match e[i]? with
  | some (some c) => .ok c.d
  | _ => .no := rfl
@[simp] theorem ce_d_f (d : D) : (Ce.f d).d = d := rfl
@[simp] theorem ce_d_l (p : Bool) (ds : List D) : (Ce.l p ds).d = .list ds := rfl
@[simp] theorem ce_d_k (p t : Bool) (ks vs : List D) : (Ce.k p t ks vs).d = .dict t ks vs := rfl
@[simp] theorem m2_r (g : D → D → Rs Ce) (ma mb : M Hd) (e : En) : m2 g ma mb e = (ma e).bind fun p => (mb p.2).bind fun q => (p.1.get q.2).bind fun x => (q.1.get q.2).bind fun y => (g x y).bind fun c => .ok (c, q.2) := rfl
@[simp] theorem m1_r (g : D → Rs Ce) (ma : M Hd) (e : En) : m1 g ma e = (ma e).bind fun p => (p.1.get p.2).bind fun x => (g x).bind fun c => .ok (c, p.2) := rfl
@[simp] theorem mL_r (g : List D → Rs Ce) (ma : M (List Hd)) (e : En) : mL g ma e = (ma e).bind fun p => (gets p.1 p.2).bind fun xs => (g xs).bind fun c => .ok (c, p.2) := rfl
@[simp] theorem gets_nil (e : En) : gets [] e = .ok [] := rfl
@[simp] theorem gets_cons (h : Hd) (hs : List Hd) (e : En) : gets (h :: hs) e = (h.get e).bind fun d => (gets hs e).bind fun ds => .ok (d :: ds) := rfl
@[simp] theorem aNil_r {α : Type} (e : En) : (aNil : M (List α)) e = .ok ([], e) := rfl
@[simp] theorem aCons_r {α : Type} (m : M α) (ms : M (List α)) (e : En) : aCons m ms e = (m e).bind fun p => (ms p.2).bind fun q => .ok (p.1 :: q.1, q.2) := rfl
@[simp] theorem mTup_r (ma : M (List D)) (e : En) : mTup ma e = (ma e).bind fun p => if p.1.length ≤ sizeLine then .ok (.tuple p.1, p.2) else .no := rfl
@[simp] theorem mLst_r (ma : M (List D)) (e : En) : mLst ma e = (ma e).bind fun p => if p.1.length ≤ sizeLine then .ok (.l false p.1, p.2) else .no := rfl
@[simp] theorem mIf_r {α : Type} (t : M Bool) (a b : M α) (e : En) : mIf t a b e = (t e).bind fun p => if p.1 = true then a p.2 else b p.2 := rfl
@[simp] theorem mAnd_r (a b : M Bool) (e : En) : mAnd a b e = (a e).bind fun p => if p.1 = true then b p.2 else .ok (false, p.2) := rfl
@[simp] theorem mOr_r (a b : M Bool) (e : En) : mOr a b e = (a e).bind fun p => if p.1 = true then .ok (true, p.2) else b p.2 := rfl
@[simp] theorem mNot_r (a : M Bool) (e : En) : mNot a e = (a e).bind fun p => .ok (!p.1, p.2) := rfl
@[simp] theorem mBool_r (m : M Ce) (e : En) : mBool m e = (m e).bind fun p => match p.1 with
  | .f (.bool b) => .ok (b, p.2)
  | _ => .no := rfl
@[simp] theorem mAndV_r (a b : M Ce) (e : En) : mAndV a b e = (a e).bind fun p => match p.1 with
  | .f (.bool true) => b p.2
  | .f (.bool false) => .ok (.f (.bool false), p.2)
  | _ => .no := rfl
@[simp] theorem mOrV_r (a b : M Ce) (e : En) : mOrV a b e = (a e).bind fun p => match p.1 with
  | .f (.bool true) => .ok (.f (.bool true), p.2)
  | .f (.bool false) => b p.2
  | _ => .no := rfl
@[simp] theorem mNotV_r (a : M Ce) (e : En) : mNotV a e = (a e).bind fun p => match p.1 with
  | .f (.bool b) => .ok (.bool (!b), p.2)
  | _ => .no := rfl
@[simp] theorem mTru_r (m : M Hd) (e : En) : mTru m e = (m e).bind fun p => (p.1.get p.2).bind fun d => d.truth.bind fun b => .ok (b, p.2) := rfl
@[simp] theorem mChain_r (g g' : D → D → Rs Ce) (ma mb mc : M Hd) (e : En) : mChain g g' ma mb mc e = (ma e).bind fun p => (mb p.2).bind fun q => (p.1.get q.2).bind fun x => (q.1.get q.2).bind fun y => (g x y).bind fun c => match c with
  | .f (.bool true) => (mc q.2).bind fun z => (q.1.get z.2).bind fun y' => (z.1.get z.2).bind fun w => (g' y' w).bind fun c' => .ok (c', z.2)
  | .f (.bool false) => .ok (.f (.bool false), q.2)
  | _ => .no := rfl
@[simp] theorem mIs_r (T : String) (m : M Hd) (e : En) : mIs T m e = (m e).bind fun p => (p.1.get p.2).bind fun d => .ok (.bool (isT T d), p.2) := rfl
@[simp] theorem mSeqA_r (m : M D) (e : En) : mSeqA m e = (m e).bind fun p => p.1.items.bind fun ds => .ok (ds, p.2) := rfl
@[simp] theorem items_l (ds : List D) : (D.list ds).items = .ok ds := rfl
@[simp] theorem items_r (ds : List D) : (D.ro ds).items = .ok ds := rfl
@[simp] theorem items_t (ds : List D) : (D.tuple ds).items = .ok ds := rfl
@[simp] theorem mRng1_r (ma : M (List D)) (e : En) : mRng1 ma e = (ma e).bind fun p => match p.1 with
  | [.int n] => if -(2 ^ 62) ≤ n ∧ n < 2 ^ 62 then .ok (rgD 0 n.toNat, p.2) else .no
  | _ => .no := rfl
@[simp] theorem mRng2_r (ma : M (List D)) (e : En) : mRng2 ma e = (ma e).bind fun p => match p.1 with
  | [.int lo, .int n] => if -(2 ^ 62) ≤ lo ∧ lo < 2 ^ 62 ∧ -(2 ^ 62) ≤ n ∧ n < 2 ^ 62 then .ok (rgD lo (n - lo).toNat, p.2) else .no
  | _ => .no := rfl
@[simp] theorem mJoin_r (ma mb : M Hd) (e : En) : mJoin ma mb e = (ma e).bind fun p => (p.1.get p.2).bind fun x => if isT "str" x = true then (mb p.2).bind fun q => (q.1.get q.2).bind fun y => (joinD x y).bind fun c => .ok (c, q.2) else .no := rfl
@[simp] theorem mDNew_r (t : Bool) (e : En) : mDNew t e = .ok (.k false t [] [], e) := rfl
theorem mComp_r (src : M (List D)) (t : Tg) (vs : List Nat) (c : M Bool) (m : M D) (e : En) : mComp src t vs c m e = (src e).bind fun p => (cLoop t vs c m p.1 [] p.2).bind fun q => .ok (.l false q.1, restE p.2 q.2 vs) := rfl
@[simp] theorem mYes_r (e : En) : mYes e = .ok (true, e) := rfl
@[simp] theorem aD_r (m : M D) (e : En) : aD m e = (m e).bind fun p => .ok (.d p.1, p.2) := rfl
@[simp] theorem aS_r (i : Nat) (e : En) : aS i e = match e[i]? with
  | some (some c) => if c.ow = true then .ok (.s i, e) else .no
  | _ => .no := rfl
@[simp] theorem agCells_nil (e : En) : agCells [] e = .ok [] := rfl
@[simp] theorem agCells_d (d : D) (as : List Ag) (e : En) : agCells (.d d :: as) e = (agCells as e).bind fun cs => .ok (.f d :: cs) := rfl
@[simp] theorem agCells_s (i : Nat) (as : List Ag) (e : En) : agCells (.s i :: as) e = match e[i]? with
    | some (some c) => (agCells as e).bind fun cs => .ok (c.lent :: cs)
    | _ => .no := rfl
@[simp] theorem agSlots_nil : agSlots [] = [] := rfl
@[simp] theorem agSlots_d (d : D) (as : List Ag) : agSlots (.d d :: as) = agSlots as := rfl
@[simp] theorem agSlots_s (i : Nat) (as : List Ag) : agSlots (.s i :: as) = i :: agSlots as := rfl
@[simp] theorem putBack_nil (e : En) : putBack [] [] e = .ok e := rfl
@[simp] theorem putBack_l (i : Nat) (is : List Nat) (p : Bool) (ds : List D) (cs : List Ce) (e : En) : putBack (i :: is) (.l p ds :: cs) e = match e[i]? with
    | some (some (.l p' _)) => putBack is cs (e.set i (some (.l p' ds)))
    | _ => .no := by
  show (match e[i]?, Ce.l p ds with
    | some (some (.l p _)), .l _ ds => putBack is cs (e.set i (some (.l p ds)))
    | some (some (.k p t _ _)), .k _ t' ks vs => if t = t' then putBack is cs (e.set i (some (.k p t' ks vs))) else .no
    | _, _ => .no) = _
  cases e[i]? with
  | none => rfl
  | some o => cases o with
    | none => rfl
    | some c => cases c <;> rfl
@[simp] theorem mCall_r (S : Sf) (ma : M (List Ag)) (e : En) : mCall S ma e = (ma e).bind fun p => (agCells p.1 p.2).bind fun cs => if (agSlots p.1).Nodup then (S cs).bind fun r => (putBack (agSlots p.1) r.2 p.2).bind fun e' => .ok (r.1, e') else .no := rfl
@[simp] theorem lent_f (d : D) : (Ce.f d).lent = .f d := rfl
@[simp] theorem lent_l (p : Bool) (ds : List D) : (Ce.l p ds).lent = .l true ds := rfl
@[simp] theorem ow_f (d : D) : (Ce.f d).ow = false := rfl
@[simp] theorem ow_l (p : Bool) (ds : List D) : (Ce.l p ds).ow = true := rfl
@[simp] theorem ow_k (p t : Bool) (ks vs : List D) : (Ce.k p t ks vs).ow = true := rfl
@[simp] theorem io_f (d : D) : (Ce.f d).io = false := rfl
@[simp] theorem io_l (p : Bool) (ds : List D) : (Ce.l p ds).io = p := rfl
@[simp] theorem io_k (p t : Bool) (ks vs : List D) : (Ce.k p t ks vs).io = p := rfl
@[simp] theorem ioAt_nil (i : Nat) : ioAt [] i = false := rfl
@[simp] theorem ioAt_z (c : Ce) (e : En) : ioAt (some c :: e) 0 = c.io := rfl
@[simp] theorem ioAt_n (e : En) : ioAt (none :: e) 0 = false := rfl
@[simp] theorem ioAt_m (a : Option D) (e : En) : ioAt (a.map Ce.f :: e) 0 = false := by cases a <;> rfl
@[simp] theorem ioAt_s (o : Option Ce) (e : En) (i : Nat) : ioAt (o :: e) (i + 1) = ioAt e i := rfl
@[simp] theorem frozenAt_nil (i : Nat) : frozenAt [] i = true := rfl
@[simp] theorem frozenAt_z (c : Ce) (e : En) : frozenAt (some c :: e) 0 = !c.ow := rfl
@[simp] theorem frozenAt_n (e : En) : frozenAt (none :: e) 0 = true := rfl
@[simp] theorem frozenAt_m (a : Option D) (e : En) : frozenAt (a.map Ce.f :: e) 0 = true := by cases a <;> rfl
@[simp] theorem frozenAt_s (o : Option Ce) (e : En) (i : Nat) : frozenAt (o :: e) (i + 1) = frozenAt e i := rfl
theorem ioAt_r (e : En) (i : Nat) : ioAt e i = match e[i]? with
  | some (some c) => c.io
  | _ => false := rfl
theorem frozenAt_r (e : En) (i : Nat) : frozenAt e i = match e[i]? with
  | some (some c) => !c.ow
  | _ => true := rfl
/-! statements -/
@[simp] theorem sAsg_r (i : Nat) (m : M Ce) (e : En) : sAsg i m e = onR (m e) fun c e' => if ioAt e' i = true then .no else .nx (e'.set i (some c)) := rfl
@[simp] theorem sAsgF_r (i : Nat) (m : M D) (e : En) : sAsgF i m e = onR (m e) fun d e' => if ioAt e' i = true then .no else .nx (e'.set i (some (.f d))) := rfl
@[simp] theorem sSeq_r (a b : En → Out) (e : En) : sSeq a b e = match a e with
  | .nx e' => b e'
  | o => o := rfl
@[simp] theorem sNext_r (e : En) : sNext e = .nx e := rfl
@[simp] theorem sBreak_r (e : En) : sBreak e = .bk e := rfl
@[simp] theorem sCont_r (e : En) : sCont e = .ct e := rfl
@[simp] theorem sFrz_r (i : Nat) (b : En → Out) (e : En) : sFrz i b e = match e[i]? with
  | some (some c) => if c.io = true then .no else b (e.set i (some (.f c.d)))
  | _ => .no := rfl
@[simp] theorem sDrop_r {α : Type} (m : M α) (e : En) : sDrop m e = onR (m e) fun _ e' => .nx e' := rfl
@[simp] theorem sRet_r (m : M Ce) (e : En) : sRet m e = onR (m e) fun c e' => .rt c e' := rfl
@[simp] theorem sRetN_r (e : En) : sRetN e = .rt (.f .none) e := rfl
@[simp] theorem sRetS_r (i : Nat) (e : En) : sRetS i e = match e[i]? with
  | some (some c) => if c.io = true then .no else .rt c e
  | _ => .no := rfl
@[simp] theorem sIf_r (t : M Bool) (a b : En → Out) (e : En) : sIf t a b e = onR (t e) fun c e' => if c = true then a e' else b e' := rfl
@[simp] theorem sApp_r (i : Nat) (m : M D) (e : En) : sApp i m e = match e[i]? with
  | some (some (.l _ _)) => onR (m e) fun d e' => (match e'[i]? with
    | some (some (.l p ds)) => if ds.length < 16000000 then .nx (e'.set i (some (.l p (ds ++ [d])))) else .no
    | _ => .no)
  | _ => .no := rfl
@[simp] theorem sTgt_r (t : Tg) (m : M D) (e : En) : sTgt t m e = onR (m e) fun d e' => match t d e' with
  | .ok e2 => .nx e2
  | _ => .no := rfl
@[simp] theorem tgN_r (i : Nat) (d : D) (e : En) : tgN i d e = if ioAt e i = true then .no else .ok (e.set i (some (.f d))) := rfl
@[simp] theorem tgT_r (ts : List Tg) (ds : List D) (e : En) : tgT ts (.tuple ds) e = tgAll ts ds e := rfl
@[simp] theorem tgAll_nil (e : En) : tgAll [] [] e = .ok e := rfl
@[simp] theorem tgAll_cons (t : Tg) (ts : List Tg) (d : D) (ds : List D) (e : En) : tgAll (t :: ts) (d :: ds) e = (t d e).bind (tgAll ts ds) := rfl
@[simp] theorem sParN_r (i j : Nat) (ma mb : M Ce) (e : En) : sParN i j ma mb e = onR (ma e) fun c1 e1 => onR (mb e1) fun c2 e2 => if (ioAt e2 i || ioAt e2 j) = true then .no else .nx ((e2.set i (some c1)).set j (some c2)) := rfl
@[simp] theorem sAug_r (g : D → D → Rs Ce) (i : Nat) (m : M D) (e : En) : sAug g i m e = match e[i]? with
  | some (some (.f dx)) => onR (m e) fun d e' => (match g dx d with
    | .ok (.f dz) => .nx (e'.set i (some (.f dz)))
    | _ => .no)
  | _ => .no := rfl
@[simp] theorem sFor_r (m : M (List D)) (t : Tg) (b : En → Out) (e : En) : sFor m t b e = onR (m e) fun ds e' => loopL t b ds e' := rfl
@[simp] theorem loopL_nil (t : Tg) (b : En → Out) (e : En) : loopL t b [] e = .nx e := rfl
theorem loopL_cons (t : Tg) (b : En → Out) (d : D) (ds : List D) (e : En) : loopL t b (d :: ds) e = match t d e with
    | .ok e1 => (match b e1 with
      | .nx e2 => loopL t b ds e2
      | .ct e2 => loopL t b ds e2
      | .bk e2 => .nx e2
      | o => o)
    | _ => .no := rfl
@[simp] theorem sDPut_r (i : Nat) (mk mv : M D) (e : En) : sDPut i mk mv e = onR (mv e) fun v e1 => match e1[i]? with
  | some (some (.k _ _ _ _)) => onR (mk e1) fun k e2 => (match e2[i]? with
    | some (some (.k p t ks vs)) => if (keyOk t k = true ∧ ks.length < 16000000) then .nx (e2.set i (some (.k p t (dPutK ks k) (dPutW ks vs k v)))) else .no
    | _ => .no)
  | _ => .no := rfl
@[simp] theorem sLPut_r (i : Nat) (mj mv : M D) (e : En) : sLPut i mj mv e = onR (mv e) fun v e1 => match e1[i]? with
  | some (some (.l _ _)) => onR (mj e1) fun k e2 => (match e2[i]?, k with
    | some (some (.l p ds)), .int j => (match ixN ds.length j with
      | some jj => .nx (e2.set i (some (.l p (ds.set jj v))))
      | none => .no)
    | _, _ => .no)
  | _ => .no := rfl
theorem runD_r (n : Nat) (m : En → Out) (cs : List Ce) : runD n m cs = match m (startE n cs) with
  | .rt c e => (outsAt (owIx 0 cs) e).bind fun os => .ok (c, os)
  | .nx e => (outsAt (owIx 0 cs) e).bind fun os => .ok (.f .none, os)
  | .ex n ds => .ex n ds
  | _ => .no := rfl
@[simp] theorem owIx_nil (n : Nat) : owIx n [] = [] := rfl
@[simp] theorem owIx_f (n : Nat) (d : D) (cs : List Ce) : owIx n (.f d :: cs) = owIx (n + 1) cs := rfl
@[simp] theorem owIx_l (n : Nat) (p : Bool) (ds : List D) (cs : List Ce) : owIx n (.l p ds :: cs) = n :: owIx (n + 1) cs := rfl
@[simp] theorem outsAt_nil (e : En) : outsAt [] e = .ok [] := rfl
@[simp] theorem outsAt_cons (i : Nat) (is : List Nat) (e : En) : outsAt (i :: is) e = match e[i]? with
    | some (some c) => if c.io = true then (outsAt is e).bind fun cs => .ok (c :: cs) else .no
    | _ => .no := rfl
/-! operations -/
@[simp] theorem addD_i (i j : Int) : addD (.int i) (.int j) = .ok (.f (.int (i + j))) := rfl
@[simp] theorem subD_i (i j : Int) : subD (.int i) (.int j) = .ok (.f (.int (i - j))) := rfl
theorem mulD_i {i j : Int} (h : MulOk i j) : mulD (.int i) (.int j) = .ok (.f (.int (i * j))) := if_pos h
theorem imulD_i {i j : Int} (h : MulOk i j) : imulD (.int i) (.int j) = .ok (.f (.int (i * j))) := if_pos h
theorem fdivD_i {i j : Int} (h : DivOk j) : fdivD (.int i) (.int j) = .ok (.f (.int (i / j))) := if_pos h
theorem ifdivD_i {i j : Int} (h : DivOk j) : ifdivD (.int i) (.int j) = .ok (.f (.int (i / j))) := if_pos h
theorem modD_i {i j : Int} (h : 0 < j) : modD (.int i) (.int j) = .ok (.f (.int (i % j))) := if_pos h
@[simp] theorem iaddD_i (i j : Int) : iaddD (.int i) (.int j) = .ok (.f (.int (i + j))) := rfl
@[simp] theorem negD_i (i : Int) : negD (.int i) = .ok (.f (.int (-i))) := rfl
@[simp] theorem ltD_i (i j : Int) : ltD (.int i) (.int j) = .ok (.f (.bool (decide (i < j)))) := rfl
@[simp] theorem leD_i (i j : Int) : leD (.int i) (.int j) = .ok (.f (.bool (decide (i ≤ j)))) := rfl
@[simp] theorem gtD_i (i j : Int) : gtD (.int i) (.int j) = .ok (.f (.bool (decide (j < i)))) := rfl
@[simp] theorem geD_i (i j : Int) : geD (.int i) (.int j) = .ok (.f (.bool (decide (j ≤ i)))) := rfl
@[simp] theorem eqD_i (i j : Int) : eqD (.int i) (.int j) = .ok (.f (.bool (i == j))) := by simp [eqD, D.sc, D.eqb]
@[simp] theorem neD_i (i j : Int) : neD (.int i) (.int j) = .ok (.f (.bool (!(i == j)))) := by simp [neD, D.sc, D.eqb]
@[simp] theorem eqD_s (i j : Str) : eqD (.str i) (.str j) = .ok (.f (.bool (i == j))) := by simp [eqD, D.sc, D.eqb]
@[simp] theorem neD_s (i j : Str) : neD (.str i) (.str j) = .ok (.f (.bool (!(i == j)))) := by simp [neD, D.sc, D.eqb]
@[simp] theorem isD_n (x : D) : isD x .none = .ok (.f (.bool x.isN)) := rfl
@[simp] theorem isD_b (x : D) (b : Bool) : isD x (.bool b) = .ok (.f (.bool (x.isB b))) := rfl
@[simp] theorem isntD_n (x : D) : isntD x .none = .ok (.f (.bool (!x.isN))) := rfl
@[simp] theorem intD_i (i : Int) : intD [.int i] = .ok (.f (.int i)) := rfl
@[simp] theorem absD_i (i : Int) : absD [.int i] = .ok (.f (.int (if i < 0 then -i else i))) := rfl
@[simp] theorem gcdD_i (a b : Int) : gcdD [.int a, .int b] = .ok (.f (.int ((Nat.gcd a.natAbs b.natAbs : Nat) : Int))) := rfl
theorem lcmD_i {a b : Int} (h : a.natAbs < 2 ^ 64 ∧ b.natAbs < 2 ^ 64) : lcmD [.int a, .int b] = .ok (.f (.int ((Nat.lcm a.natAbs b.natAbs : Nat) : Int))) := if_pos h
@[simp] theorem lenD_l (ds : List D) : lenD [.list ds] = .ok (.f (.int ds.length)) := rfl
@[simp] theorem lenD_ro (ds : List D) : lenD [.ro ds] = .ok (.f (.int ds.length)) := rfl
@[simp] theorem lenD_t (ds : List D) : lenD [.tuple ds] = .ok (.f (.int ds.length)) := rfl
@[simp] theorem lenD_d (t : Bool) (ks vs : List D) : lenD [.dict t ks vs] = .ok (.f (.int ks.length)) := rfl
@[simp] theorem tupleD_l (ds : List D) : tupleD [.list ds] = .ok (.f (.tuple ds)) := rfl
@[simp] theorem tupleD_t (ds : List D) : tupleD [.tuple ds] = .ok (.f (.tuple ds)) := rfl
@[simp] theorem listD_l (ds : List D) : listD [.list ds] = .ok (.l false ds) := rfl
@[simp] theorem listD_t (ds : List D) : listD [.tuple ds] = .ok (.l false ds) := rfl
theorem ixD_t (ds : List D) (i : Int) : ixD (.tuple ds) (.int i) = match atI ds i with
    | some d => .ok (.f d)
    | _ => .no := rfl
theorem ixD_l (ds : List D) (i : Int) : ixD (.list ds) (.int i) = match atI ds i with
    | some d => .ok (.f d)
    | _ => .no := rfl
theorem ixD_ro (ds : List D) (i : Int) : ixD (.ro ds) (.int i) = match atI ds i with
    | some d => .ok (.f d)
    | _ => .no := rfl
@[simp] theorem ixD_t0 (d : D) (ds : List D) : ixD (.tuple (d :: ds)) (.int 0) = .ok (.f d) := by
  rw [ixD_t, show atI (d :: ds) 0 = some d from atI_nat (j := 0) rfl]
@[simp] theorem ixD_t1 (d d1 : D) (ds : List D) : ixD (.tuple (d :: d1 :: ds)) (.int 1) = .ok (.f d1) := by
  rw [ixD_t, show atI (d :: d1 :: ds) 1 = some d1 from atI_nat (j := 1) rfl]
@[simp] theorem ixD_t2 (d d1 d2 : D) (ds : List D) : ixD (.tuple (d :: d1 :: d2 :: ds)) (.int 2) = .ok (.f d2) := by
  rw [ixD_t, show atI (d :: d1 :: d2 :: ds) 2 = some d2 from atI_nat (j := 2) rfl]
@[simp] theorem ixD_t3 (d d1 d2 d3 : D) (ds : List D) : ixD (.tuple (d :: d1 :: d2 :: d3 :: ds)) (.int 3) = .ok (.f d3) := by
  rw [ixD_t, show atI (d :: d1 :: d2 :: d3 :: ds) 3 = some d3 from atI_nat (j := 3) rfl]
@[simp] theorem ixD_t4 (d d1 d2 d3 d4 : D) (ds : List D) : ixD (.tuple (d :: d1 :: d2 :: d3 :: d4 :: ds)) (.int 4) = .ok (.f d4) := by
  rw [ixD_t, show atI (d :: d1 :: d2 :: d3 :: d4 :: ds) 4 = some d4 from atI_nat (j := 4) rfl]
@[simp] theorem ixD_l0 (d : D) (ds : List D) : ixD (.list (d :: ds)) (.int 0) = .ok (.f d) := by
  rw [ixD_l, show atI (d :: ds) 0 = some d from atI_nat (j := 0) rfl]
@[simp] theorem ixD_l1 (d d1 : D) (ds : List D) : ixD (.list (d :: d1 :: ds)) (.int 1) = .ok (.f d1) := by
  rw [ixD_l, show atI (d :: d1 :: ds) 1 = some d1 from atI_nat (j := 1) rfl]
theorem ixD_tn {ds : List D} {n : Nat} {d : D} (h : ds[n]? = some d) : ixD (.tuple ds) (.int (n : Int)) = .ok (.f d) := by rw [ixD_t, atI_nat h]
theorem ixD_ln {ds : List D} {n : Nat} {d : D} (h : ds[n]? = some d) : ixD (.list ds) (.int (n : Int)) = .ok (.f d) := by rw [ixD_l, atI_nat h]
theorem ixD_rn {ds : List D} {n : Nat} {d : D} (h : ds[n]? = some d) : ixD (.ro ds) (.int (n : Int)) = .ok (.f d) := by rw [ixD_ro, atI_nat h]
@[simp] theorem ixN_0 (n : Nat) : ixN (n + 1) 0 = some 0 := by simp [ixN]
@[simp] theorem ixN_1 (n : Nat) : ixN (n + 1 + 1) 1 = some 1 := by
  unfold ixN
  rw [if_pos (by decide), if_pos (by omega)]
  rfl
@[simp] theorem sizeLine_ge (n : Nat) (h : n ≤ 1000 := by decide) : n ≤ sizeLine := Nat.le_trans h (by rw [sizeLine_eq]; decide)
@[simp] theorem isN_none : D.none.isN = true := rfl
@[simp] theorem isN_b (b : Bool) : (D.bool b).isN = false := rfl
@[simp] theorem isN_i (i : Int) : (D.int i).isN = false := rfl
@[simp] theorem isN_s (s : Str) : (D.str s).isN = false := rfl
@[simp] theorem isN_t (ds : List D) : (D.tuple ds).isN = false := rfl
@[simp] theorem isN_l (ds : List D) : (D.list ds).isN = false := rfl
@[simp] theorem isB_n (b : Bool) : D.none.isB b = false := rfl
@[simp] theorem isB_b (b c : Bool) : (D.bool c).isB b = (c == b) := rfl
@[simp] theorem isB_i (b : Bool) (i : Int) : (D.int i).isB b = false := rfl
@[simp] theorem isB_s (b : Bool) (s : Str) : (D.str s).isB b = false := rfl
@[simp] theorem isB_t (b : Bool) (ds : List D) : (D.tuple ds).isB b = false := rfl
@[simp] theorem truth_b (b : Bool) : (D.bool b).truth = .ok b := rfl
@[simp] theorem truth_n : D.none.truth = .ok false := rfl
@[simp] theorem truth_i (i : Int) : (D.int i).truth = .ok (i != 0) := rfl
@[simp] theorem truth_l (ds : List D) : (D.list ds).truth = .ok (!ds.isEmpty) := rfl
@[simp] theorem truth_t (ds : List D) : (D.tuple ds).truth = .ok (!ds.isEmpty) := rfl
theorem mulOk_l {i j : Int} (h : -(2 ^ 64) < i) (h2 : i < 2 ^ 64) : MulOk i j := .inl ⟨h, h2⟩
theorem mulOk_r' {i j : Int} (h : -(2 ^ 64) < j) (h2 : j < 2 ^ 64) : MulOk i j := .inr (.inl ⟨h, h2⟩)
theorem pow_mono2 {a b : Nat} (h : a ≤ b) : 2 ^ a ≤ 2 ^ b := Nat.pow_le_pow_right (by decide) h
theorem divOk_of {j : Int} {n : Nat} (h : 0 < j) (h2 : j < 2 ^ n) (hn : n ≤ 8000) : DivOk j := by
  refine ⟨h, ?_⟩
  have h3 : j.natAbs < 2 ^ n := by
    have h4 : ((j.natAbs : Nat) : Int) = j := Int.natAbs_of_nonneg (by omega)
    have h5 : ((j.natAbs : Nat) : Int) < ((2 ^ n : Nat) : Int) := by
      rw [h4, Int.natCast_pow]
      exact h2
    exact Int.ofNat_lt.mp h5
  exact Nat.lt_of_lt_of_le h3 (pow_mono2 hn)
end DL

namespace DL
open PySem L2 PyProof.Rows
/-! ### promises by a domain -/
open Classical in
/-- f's answers on the arguments enc x, for the x that P lets in -/
noncomputable def spec {α : Type} (Pr : α → Prop) (enc : α → List Ce) (res : α → Ce × List Ce) : Sf := fun cs => if h : ∃ x, Pr x ∧ cs = enc x then .ok (res h.choose) else .no
open Classical in
theorem spec_inv {α : Type} {Pr : α → Prop} {enc : α → List Ce} {res : α → Ce × List Ce} {cs : List Ce} {r : Ce × List Ce} (h : spec Pr enc res cs = .ok r) : ∃ x, Pr x ∧ cs = enc x ∧ r = res x := by
  unfold spec at h
  by_cases hx : ∃ x, Pr x ∧ cs = enc x
  · rw [dif_pos hx] at h
    exact ⟨hx.choose, hx.choose_spec.1, hx.choose_spec.2, (Rs.ok.inj h).symm⟩
  · rw [dif_neg hx] at h
    cases h
open Classical in
theorem spec_ok {α : Type} {Pr : α → Prop} {enc : α → List Ce} {res : α → Ce × List Ce} {x : α} {cs : List Ce} (he : cs = enc x) (hx : Pr x) (inj : ∀ y, Pr y → enc x = enc y → res y = res x) : spec Pr enc res cs = .ok (res x) := by
  subst he
  unfold spec
  have h : ∃ y, Pr y ∧ enc x = enc y := ⟨x, hx, rfl⟩
  rw [dif_pos h]
  rw [inj h.choose h.choose_spec.1 h.choose_spec.2]
open Classical in
/-- f's answers are what its body m gives, on the arguments of Dm -/
noncomputable def specR (Dm : List Ce → Prop) (n : Nat) (m : En → Out) : Sf := fun cs => if Dm cs then runD n m cs else .no
open Classical in
theorem specR_inv {Dm : List Ce → Prop} {n : Nat} {m : En → Out} {cs : List Ce} {r : Ce × List Ce} (h : specR Dm n m cs = .ok r) : Dm cs ∧ runD n m cs = .ok r := ite_ok h
open Classical in
theorem specR_ok {Dm : List Ce → Prop} {n : Nat} {m : En → Out} {cs : List Ce} (h : Dm cs) : specR Dm n m cs = runD n m cs := if_pos h
theorem specR_sem {Dm : List Ce → Prop} {n l : Nat} {m : En → Out} (hl : ∀ cs, Dm cs → cs.length = l) : ∀ cs c outs, specR Dm n m cs = .ok (c, outs) → cs.length = l ∧ runD n m cs = .ok (c, outs) := fun cs c outs h =>
  ⟨hl cs (specR_inv h).1, (specR_inv h).2⟩
theorem map_int_inj {a b : List Int} (h : a.map D.int = b.map D.int) : a = b := by
  have : Function.Injective D.int := fun x y e => by cases e; rfl
  exact (List.map_inj_right (fun x y e => this e)).mp h
/-! ### loops by an invariant -/
/-- I: what holds ahead of each turn, by what is left; Fi: behind the loop; Re: of what is handed back within it -/
theorem loopL_inv {t : Tg} {b : En → Out} (I : List D → En → Prop) (Fi : En → Prop) (Re : Ce → En → Prop)
    (step : ∀ d ds e, I (d :: ds) e → ∃ e1, t d e = .ok e1 ∧ ((∃ e2, (b e1 = .nx e2 ∨ b e1 = .ct e2) ∧ I ds e2) ∨ (∃ e2, b e1 = .bk e2 ∧ Fi e2) ∨ ∃ c e2, b e1 = .rt c e2 ∧ Re c e2))
    (fin : ∀ e, I [] e → Fi e) : ∀ (ds : List D) (e : En), I ds e → (∃ e', loopL t b ds e = .nx e' ∧ Fi e') ∨ ∃ c e', loopL t b ds e = .rt c e' ∧ Re c e'
  | [], e, h => .inl ⟨e, rfl, fin e h⟩
  | d :: ds, e, h => by
    obtain ⟨e1, h1, h2⟩ := step d ds e h
    rw [loopL_cons, h1]
    rcases h2 with ⟨e2, h3 | h3, h4⟩ | ⟨e2, h3, h4⟩ | ⟨c, e2, h3, h4⟩
    · simp only [h3]
      exact loopL_inv I Fi Re step fin ds e2 h4
    · simp only [h3]
      exact loopL_inv I Fi Re step fin ds e2 h4
    · simp only [h3]
      exact .inl ⟨e2, rfl, h4⟩
    · simp only [h3]
      exact .inr ⟨c, e2, rfl, h4⟩
/-- .. a loop that nothing leaves -/
theorem loopL_nx {t : Tg} {b : En → Out} (I : List D → En → Prop)
    (step : ∀ d ds e, I (d :: ds) e → ∃ e1 e2, t d e = .ok e1 ∧ b e1 = .nx e2 ∧ I ds e2) : ∀ (ds : List D) (e : En), I ds e → ∃ e', loopL t b ds e = .nx e' ∧ I [] e'
  | [], e, h => ⟨e, rfl, h⟩
  | d :: ds, e, h => by
    obtain ⟨e1, e2, h1, h2, h3⟩ := step d ds e h
    rw [loopL_cons, h1]
    simp only [h2]
    exact loopL_nx I step ds e2 h3
/-- a loop as a fold: S tells the environment by a state -/
theorem loopL_fold {α σ : Type} {t : Tg} {b : En → Out} (enc : α → D) (S : σ → En → Prop) (f : σ → α → σ) (P : σ → List α → Prop)
    (step : ∀ x xs s e, P s (x :: xs) → S s e → ∃ e1 e2, t (enc x) e = .ok e1 ∧ b e1 = .nx e2 ∧ S (f s x) e2 ∧ P (f s x) xs) : ∀ (xs : List α) (s : σ) (e : En), P s xs → S s e → ∃ e', loopL t b (xs.map enc) e = .nx e' ∧ S (xs.foldl f s) e' ∧ P (xs.foldl f s) []
  | [], s, e, hp, hs => ⟨e, rfl, hs, hp⟩
  | x :: xs, s, e, hp, hs => by
    obtain ⟨e1, e2, h1, h2, h3, h4⟩ := step x xs s e hp hs
    rw [List.map_cons, loopL_cons, h1]
    simp only [h2]
    exact loopL_fold enc S f P step xs (f s x) e2 h4 h3
theorem rgD_map (lo : Int) : ∀ n : Nat, rgD lo n = (List.range n).map fun (i : Nat) => D.int (lo + (i : Int))
  | 0 => rfl
  | n + 1 => by
    rw [rgD, rgD_map (lo + 1) n, List.range_succ_eq_map, List.map_cons, List.map_map]
    congr 1
    · simp
    · apply List.map_congr_left
      intro i _
      simp only [Function.comp]
      congr 1
      omega
/-- while, by a measure -/
theorem while_inv {t : M Bool} {b : En → Out} (I : Nat → En → Prop) (Fi : En → Prop) (Re : Ce → En → Prop)
    (step : ∀ n e, I n e → ∃ k e1, t e = .ok (k, e1) ∧ (k = false → Fi e1) ∧ (k = true → (∃ e2 m, (b e1 = .nx e2 ∨ b e1 = .ct e2) ∧ m < n ∧ I m e2) ∨ (∃ e2, b e1 = .bk e2 ∧ Fi e2) ∨ ∃ c e2, b e1 = .rt c e2 ∧ Re c e2)) :
    ∀ (n : Nat) (e : En), I n e → (∃ e', sWhile t b e = .nx e' ∧ Fi e') ∨ ∃ c e', sWhile t b e = .rt c e' ∧ Re c e' := by
  intro n
  induction n using Nat.strongRecOn with
  | ind n ih =>
    intro e h
    obtain ⟨k, e1, h1, h2, h3⟩ := step n e h
    rw [sWhile_eq, h1]
    cases k with
    | false => exact .inl ⟨e1, rfl, h2 rfl⟩
    | true =>
      simp only
      rcases h3 rfl with ⟨e2, m, h4 | h4, h5, h6⟩ | ⟨e2, h4, h5⟩ | ⟨c, e2, h4, h5⟩
      · simp only [h4]
        exact ih m h5 e2 h6
      · simp only [h4]
        exact ih m h5 e2 h6
      · simp only [h4]
        exact .inl ⟨e2, rfl, h5⟩
      · simp only [h4]
        exact .inr ⟨c, e2, rfl, h5⟩
/-! ### comprehensions -/
theorem wipeE_idem {e e1 : En} {vs is : List Nat} {t : Tg} {d : D} (to : TgOk t is) (hs : ∀ i ∈ is, i ∈ vs) (h : t d (wipeE e vs) = .ok e1) : wipeE e1 vs = wipeE e vs := by
  apply List.ext_getElem?
  intro j
  have hl : e1.length = e.length := by rw [to.ln _ _ _ h, wipeE_len]
  rw [wipeE_get, wipeE_get]
  by_cases hv : j ∈ vs
  · rw [if_pos hv, if_pos hv]
    by_cases hj : j < e.length
    · rw [List.getElem?_eq_getElem hj, List.getElem?_eq_getElem (by omega)]; rfl
    · rw [List.getElem?_eq_none (Nat.le_of_not_lt hj), List.getElem?_eq_none (by omega)]
  · rw [if_neg hv, if_neg hv, to.ne _ _ _ h j (fun z => hv (hs j z)), wipeE_get, if_neg hv]
theorem tg_fr {e e1 : En} {vs is : List Nat} {t : Tg} {d : D} (to : TgOk t is) (h : t d (wipeE e vs) = .ok e1) : vs.all (frozenAt e1) = true := by
  rw [List.all_eq_true]
  intro j hj
  refine to.fz _ _ _ h j (.inr ?_)
  unfold frozenAt
  rw [wipeE_get, if_pos hj]
  cases e[j]? <;> rfl
theorem restE_same {e e' : En} {vs : List Nat} (h : wipeE e' vs = wipeE e vs) : restE e e' vs = e := by
  have hl : e'.length = e.length := by
    have := congrArg List.length h
    rwa [wipeE_len, wipeE_len] at this
  apply List.ext_getElem?
  intro j
  rw [restE_get e e' hl]
  by_cases hv : j ∈ vs
  · rw [if_pos hv]
  · rw [if_neg hv]
    have := congrArg (fun l => l[j]?) h
    simp only [wipeE_get, if_neg hv] at this
    exact this
theorem cLoop_pure {t : Tg} {vs is : List Nat} {c : M Bool} {m : M D} (to : TgOk t is) (hs : ∀ i ∈ is, i ∈ vs) (f : D → Option D) (e0 : En) : ∀ (ds acc : List D) (e : En), vs.all (frozenAt e) = true → wipeE e vs = wipeE e0 vs → acc.length + ds.length < 16000000 →
    (∀ d ∈ ds, ∃ e1, t d (wipeE e0 vs) = .ok e1 ∧ c e1 = .ok ((f d).isSome, e1) ∧ ∀ x, f d = some x → m e1 = .ok (x, e1)) → ∃ e', cLoop t vs c m ds acc e = .ok (acc ++ ds.filterMap f, e') ∧ wipeE e' vs = wipeE e0 vs
  | [], acc, e, hf, hw, _, _ => ⟨e, by unfold cLoop; rw [if_pos hf]; simp, hw⟩
  | d :: ds, acc, e, hf, hw, hz, h => by
    obtain ⟨e1, h1, h2, h3⟩ := h d List.mem_cons_self
    have hw1 := wipeE_idem to hs h1
    have hf1 := tg_fr to h1
    unfold cLoop
    rw [if_pos hf, hw, h1]
    simp only [Rs.bind_ok, h2]
    cases q : f d with
    | none =>
      simp only [Option.isSome_none, Bool.false_eq_true, if_false]
      obtain ⟨e', g1, g2⟩ := cLoop_pure to hs f e0 ds acc e1 hf1 hw1 (by simp at hz; omega) fun d hd => h d (List.mem_cons_of_mem _ hd)
      exact ⟨e', by rw [g1, List.filterMap_cons_none q], g2⟩
    | some x =>
      simp only [Option.isSome_some, if_true]
      rw [h3 x q]
      simp only [Rs.bind_ok]
      rw [if_pos (show acc.length < 16000000 by omega)]
      obtain ⟨e', g1, g2⟩ := cLoop_pure to hs f e0 ds (acc ++ [x]) e1 hf1 hw1 (by simp at hz ⊢; omega) fun d hd => h d (List.mem_cons_of_mem _ hd)
      exact ⟨e', by rw [g1, List.filterMap_cons_some q]; simp, g2⟩
/-- a comprehension that changes nothing -/
theorem mComp_pure {src : M (List D)} {t : Tg} {vs is : List Nat} {c : M Bool} {m : M D} {e : En} {ds : List D} (f : D → Option D) (hsrc : src e = .ok (ds, e)) (to : TgOk t is) (hs : ∀ i ∈ is, i ∈ vs) (hf : vs.all (frozenAt e) = true) (hz : ds.length < 16000000)
    (h : ∀ d ∈ ds, ∃ e1, t d (wipeE e vs) = .ok e1 ∧ c e1 = .ok ((f d).isSome, e1) ∧ ∀ x, f d = some x → m e1 = .ok (x, e1)) : mComp src t vs c m e = .ok (.l false (ds.filterMap f), e) := by
  obtain ⟨e', h1, h2⟩ := cLoop_pure to hs f e ds [] e hf rfl (by simpa using hz) h
  rw [mComp_r, hsrc]
  simp only [Rs.bind_ok, h1, List.nil_append]
  rw [restE_same h2]
/-- .. without a test -/
theorem mComp_map {src : M (List D)} {t : Tg} {vs is : List Nat} {m : M D} {e : En} {ds : List D} (f : D → D) (hsrc : src e = .ok (ds, e)) (to : TgOk t is) (hs : ∀ i ∈ is, i ∈ vs) (hf : vs.all (frozenAt e) = true) (hz : ds.length < 16000000)
    (h : ∀ d ∈ ds, ∃ e1, t d (wipeE e vs) = .ok e1 ∧ m e1 = .ok (f d, e1)) : mComp src t vs mYes m e = .ok (.l false (ds.map f), e) := by
  rw [mComp_pure (fun d => some (f d)) hsrc to hs hf hz]
  · show Rs.ok (Ce.l false (List.filterMap (some ∘ f) ds), e) = _
    rw [List.filterMap_eq_map]
  · intro d hd
    obtain ⟨e1, h1, h2⟩ := h d hd
    exact ⟨e1, h1, rfl, fun x hx => by cases hx; exact h2⟩
/-- a comprehension by an invariant of what is made and the environment -/
theorem cLoop_inv {t : Tg} {vs : List Nat} {c : M Bool} {m : M D} (I : List D → List D → En → Prop) (hfr : ∀ ds acc e, I ds acc e → vs.all (frozenAt e) = true)
    (step : ∀ d ds acc e, I (d :: ds) acc e → ∃ e1 b e2, t d (wipeE e vs) = .ok e1 ∧ c e1 = .ok (b, e2) ∧ (b = false → I ds acc e2) ∧ (b = true → ∃ x e3, m e2 = .ok (x, e3) ∧ acc.length < 16000000 ∧ I ds (acc ++ [x]) e3)) :
    ∀ (ds acc : List D) (e : En), I ds acc e → ∃ acc' e', cLoop t vs c m ds acc e = .ok (acc', e') ∧ I [] acc' e'
  | [], acc, e, h => ⟨acc, e, by unfold cLoop; rw [if_pos (hfr _ _ _ h)], h⟩
  | d :: ds, acc, e, h => by
    obtain ⟨e1, b, e2, h1, h2, h3, h4⟩ := step d ds acc e h
    unfold cLoop
    rw [if_pos (hfr _ _ _ h), h1]
    simp only [Rs.bind_ok, h2]
    cases b with
    | false =>
      simp only [Bool.false_eq_true, if_false]
      exact cLoop_inv I hfr step ds acc e2 (h3 rfl)
    | true =>
      obtain ⟨x, e3, h5, h6, h7⟩ := h4 rfl
      simp only [if_true, h5, Rs.bind_ok]
      rw [if_pos h6]
      exact cLoop_inv I hfr step ds (acc ++ [x]) e3 h7
theorem powD_i {i j : Int} (h : 0 ≤ j ∧ j ≤ 10000 ∧ i.natAbs < 2 ^ 64) : powD (.int i) (.int j) = .ok (.f (.int (i ^ j.toNat))) := if_pos h
@[simp] theorem powD_10_18 : powD (.int 10) (.int 18) = .ok (.f (.int 1000000000000000000)) := by
  rw [powD_i (by decide)]
  rfl
@[simp] theorem powD_10_9 : powD (.int 10) (.int 9) = .ok (.f (.int 1000000000)) := by
  rw [powD_i (by decide)]
  rfl
@[simp] theorem isT_ii (i : Int) : isT "int" (.int i) = true := by simp [isT, D.ty]
@[simp] theorem isT_ib (b : Bool) : isT "int" (.bool b) = true := by simp [isT, D.ty]
@[simp] theorem isT_in : isT "int" .none = false := by simp [isT, D.ty]
@[simp] theorem isT_is (s : Str) : isT "int" (.str s) = false := by simp [isT, D.ty]
@[simp] theorem isT_it (ds : List D) : isT "int" (.tuple ds) = false := by simp [isT, D.ty]
@[simp] theorem isT_il (ds : List D) : isT "int" (.list ds) = false := by simp [isT, D.ty]
@[simp] theorem isT_bi (i : Int) : isT "bool" (.int i) = false := by simp [isT, D.ty]
@[simp] theorem isT_bb (b : Bool) : isT "bool" (.bool b) = true := by simp [isT, D.ty]
@[simp] theorem isT_bn : isT "bool" .none = false := by simp [isT, D.ty]
@[simp] theorem isT_bs (s : Str) : isT "bool" (.str s) = false := by simp [isT, D.ty]
@[simp] theorem isT_bt (ds : List D) : isT "bool" (.tuple ds) = false := by simp [isT, D.ty]
@[simp] theorem isT_bl (ds : List D) : isT "bool" (.list ds) = false := by simp [isT, D.ty]
@[simp] theorem isT_si (i : Int) : isT "str" (.int i) = false := by simp [isT, D.ty]
@[simp] theorem isT_sb (b : Bool) : isT "str" (.bool b) = false := by simp [isT, D.ty]
@[simp] theorem isT_sn : isT "str" .none = false := by simp [isT, D.ty]
@[simp] theorem isT_ss (s : Str) : isT "str" (.str s) = true := by simp [isT, D.ty]
@[simp] theorem isT_st (ds : List D) : isT "str" (.tuple ds) = false := by simp [isT, D.ty]
@[simp] theorem isT_sl (ds : List D) : isT "str" (.list ds) = false := by simp [isT, D.ty]
@[simp] theorem isT_ti (i : Int) : isT "tuple" (.int i) = false := by simp [isT, D.ty]
@[simp] theorem isT_tb (b : Bool) : isT "tuple" (.bool b) = false := by simp [isT, D.ty]
@[simp] theorem isT_tn : isT "tuple" .none = false := by simp [isT, D.ty]
@[simp] theorem isT_ts (s : Str) : isT "tuple" (.str s) = false := by simp [isT, D.ty]
@[simp] theorem isT_tt (ds : List D) : isT "tuple" (.tuple ds) = true := by simp [isT, D.ty]
@[simp] theorem isT_tl (ds : List D) : isT "tuple" (.list ds) = false := by simp [isT, D.ty]
end DL

namespace DL
open PySem L2 PyProof.Rows
/-! ### lists of ints, loops by the turn -/
def D.isI : D → Bool
  | .int _ => true
  | _ => false
theorem isI_int {d : D} (h : d.isI = true) : ∃ i, d = .int i := by
  cases d <;> first | exact ⟨_, rfl⟩ | cases h
theorem allI_app {xs : List D} {i : Int} (h : xs.all D.isI = true) : (xs ++ [D.int i]).all D.isI = true := by
  rw [List.all_append, h]
  rfl
theorem allI_map {xs : List D} (h : xs.all D.isI = true) : ∃ ds : List Int, xs = ds.map D.int := by
  induction xs with
  | nil => exact ⟨[], rfl⟩
  | cons x xs ih =>
    rw [List.all_cons, Bool.and_eq_true] at h
    obtain ⟨ds, rfl⟩ := ih h.2
    obtain ⟨j, rfl⟩ := isI_int h.1
    exact ⟨j :: ds, rfl⟩
theorem allI_ints (ds : List Int) : (ds.map D.int).all D.isI = true := by
  induction ds with
  | nil => rfl
  | cons a l ih => exact ih
theorem allI_rg (lo : Int) : ∀ n, (rgD lo n).all D.isI = true
  | 0 => rfl
  | n + 1 => allI_rg (lo + 1) n
theorem ioAt_f {e : En} {i : Nat} {a : Option D} (h : e[i]? = some (a.map Ce.f)) : ioAt e i = false := by
  unfold ioAt
  rw [h]
  cases a <;> rfl
theorem tgN_f {e : En} {i : Nat} {a : Option D} {d : D} (h : e[i]? = some (a.map Ce.f)) : tgN i d e = .ok (e.set i (some (.f d))) := by
  rw [tgN_r, ioAt_f h]
  rfl
theorem loop_nx {t : Tg} {b : En → Out} {d : D} {ds : List D} {e e1 e2 : En} (h1 : t d e = .ok e1) (h2 : b e1 = .nx e2) : loopL t b (d :: ds) e = loopL t b ds e2 := by
  rw [loopL_cons, h1]
  simp only [h2]
theorem loop_ct {t : Tg} {b : En → Out} {d : D} {ds : List D} {e e1 e2 : En} (h1 : t d e = .ok e1) (h2 : b e1 = .ct e2) : loopL t b (d :: ds) e = loopL t b ds e2 := by
  rw [loopL_cons, h1]
  simp only [h2]
theorem loop_bk {t : Tg} {b : En → Out} {d : D} {ds : List D} {e e1 e2 : En} (h1 : t d e = .ok e1) (h2 : b e1 = .bk e2) : loopL t b (d :: ds) e = .nx e2 := by
  rw [loopL_cons, h1]
  simp only [h2]
theorem loop_rt {t : Tg} {b : En → Out} {d : D} {ds : List D} {e e1 e2 : En} {c : Ce} (h1 : t d e = .ok e1) (h2 : b e1 = .rt c e2) : loopL t b (d :: ds) e = .rt c e2 := by
  rw [loopL_cons, h1]
  simp only [h2]
theorem seq_nx {a b : En → Out} {e e' : En} (h : a e = .nx e') : sSeq a b e = b e' := by
  rw [sSeq_r, h]
theorem seq_rt {a b : En → Out} {e e' : En} {c : Ce} (h : a e = .rt c e') : sSeq a b e = .rt c e' := by
  rw [sSeq_r, h]
theorem seq_bk {a b : En → Out} {e e' : En} (h : a e = .bk e') : sSeq a b e = .bk e' := by
  rw [sSeq_r, h]
theorem while_t {t : M Bool} {b : En → Out} {e e1 e2 : En} (h1 : t e = .ok (true, e1)) (h2 : b e1 = .nx e2) : sWhile t b e = sWhile t b e2 := by
  rw [sWhile_eq, h1]
  simp only [h2]
theorem while_f {t : M Bool} {b : En → Out} {e e1 : En} (h1 : t e = .ok (false, e1)) : sWhile t b e = .nx e1 := by
  rw [sWhile_eq, h1]
theorem rng1_r {ma : M (List D)} {e e' : En} {n : Int} (h : ma e = .ok ([.int n], e')) (h1 : -(2 ^ 62) ≤ n) (h2 : n < 2 ^ 62) : mRng1 ma e = .ok (rgD 0 n.toNat, e') := by
  rw [mRng1_r, h]
  exact if_pos ⟨h1, h2⟩
theorem ixD_roN {ds : List D} {i : Int} {d : D} (h0 : 0 ≤ i) (h : ds[i.toNat]? = some d) : ixD (.ro ds) (.int i) = .ok (.f d) := by
  have := ixD_rn (n := i.toNat) h
  rwa [Int.toNat_of_nonneg h0] at this
theorem ixD_lN {ds : List D} {i : Int} {d : D} (h0 : 0 ≤ i) (h : ds[i.toNat]? = some d) : ixD (.list ds) (.int i) = .ok (.f d) := by
  have := ixD_ln (n := i.toNat) h
  rwa [Int.toNat_of_nonneg h0] at this
theorem ixD_tN {ds : List D} {i : Int} {d : D} (h0 : 0 ≤ i) (h : ds[i.toNat]? = some d) : ixD (.tuple ds) (.int i) = .ok (.f d) := by
  have := ixD_tn (n := i.toNat) h
  rwa [Int.toNat_of_nonneg h0] at this
end DL

namespace DL
open PySem L2 PyProof.Rows
/-! ### what is never come to; defs joined -/
def sNo : En → Out := fun _ => .no
@[simp] theorem sNo_r (e : En) : sNo e = .no := rfl
theorem pds_no {X : Cx} {sts : List Stmt} : PDs X sts sNo := ⟨fun _ _ _ _ _ _ ⟨_, _, _, _, h⟩ => h.elim⟩
theorem pds_never {X : Cx} {st : Stmt} : PDS X st sNo := ⟨fun _ _ _ _ _ _ ⟨_, _, _, _, h⟩ => h.elim⟩
section
variable {P : Program} {w : World} {K : PySem.W.Frag} {mg : Str → Option Value} {base : Heap}
theorem dfn_no {x : Str} {st : Stmt} {f : Addr} {fd : FuncData} {N ps : List Str} (A : At1 K mg x st ps f fd) (Sc : FnScope N ps (defScope st)) (hN : ps.length ≤ N.length) : DFn P w K mg base x 1 (fun _ => .no) :=
  dfn_ok A Sc hN sNo (fun _ _ _ _ _ _ _ => pds_no) fun _ _ _ h => by cases h
/-- the law's own -/
theorem DFn.law {x : Str} {k : Nat} {S : Sf} {st : Stmt} {f : Addr} {fd : FuncData} {N ps : List Str} (A : At1 K mg x st ps f fd) (Sc : FnScope N ps (defScope st)) (hN : ps.length ≤ N.length) (m : En → Out)
    (hb : ∀ (cdv : Value) (A : Around) (outer : List PySem.Env) (s : Shared) (H : Hp) (E : XK), Room k (A.deeper (envOfC x (defScope st) s.heap.objs.size f cdv)) → PDs (XX P w K mg base N x (defScope st) f cdv A outer s H E) (defBody st) m)
    (hS : ∀ cs c outs, S cs = .ok (c, outs) → cs.length = ps.length ∧ runD N.length m cs = .ok (c, outs)) : FnD P w K mg base (k + 1) f fd ps S := fnD_ok A.fn Sc hN m hb hS
theorem law_sem {n N : Nat} {m : En → Out} (h : ∀ ns : List Int, runD N m [.f (.ro (ns.map .int))] = .ok (.f (.bool true), [])) : ∀ cs c outs, lawS n cs = .ok (c, outs) → cs.length = 1 ∧ runD N m cs = .ok (c, outs) := by
  intro cs c outs hl
  obtain ⟨ns, _, rfl, rfl, rfl⟩ := lawS_ok hl
  exact ⟨rfl, h ns⟩
end
end DL

namespace DL
open PySem L2 PyProof.Rows RT RZ
/-! ### slices -/
def cutD (ds : List D) (lo hi : Option Int) : List D := (ds.drop (HT.sIx ds.length 0 lo)).take (HT.sIx ds.length ds.length hi - HT.sIx ds.length 0 lo)
def slD (x : D) (lo hi : Option Int) : Rs Ce := match x with
  | .tuple ds => .ok (.f (.tuple (cutD ds lo hi)))
  | .list ds => .ok (.l false (cutD ds lo hi))
  | .ro ds => .ok (.l false (cutD ds lo hi))
  | .str s => if s.length ≤ sizeLine then .ok (.f (.str (Txt.slice s lo hi))) else .no
  | _ => .no
def rSlD (K : PySem.W.Frag) : V → Option Int → Option Int → Hp → VK → Prop := fun x lo hi H Q => rSlA K x lo hi H Q ∨ (rSlL K x lo hi H Q ∨ C8.rSlX x lo hi H Q)
theorem sl_all {X : Cx} : SlR X (rSlD X.K) := sl_tupA.or (sl_list.or C8.sl_txt)
section
variable {X : Cx} {tg ex ey ez : Expr} {es : List Expr} {pos p p2 : Pos} {x : Str} {K : PySem.W.Frag} {lo hi : Option Expr}
def tO (K : PySem.W.Frag) (m : M (Option Int)) : TO := fun σ H Q => ∃ G F e d e', R K G F H σ e ∧ m e = .ok (d, e') ∧ ∀ F' H', Nx K G σ F H e F' H' e' → Q d H'
abbrev POd (X : Cx) (e : Option Expr) (m : M (Option Int)) : Prop := PO X e (tO X.K m)
def mO0 : M (Option Int) := fun e => .ok (none, e)
def mO1 (m : M D) : M (Option Int) := fun e => (m e).bind fun p => match p.1 with
  | .int i => .ok (some i, p.2)
  | _ => .no
theorem POimp {t t' : TO} {e : Option Expr} (h : PO X e t) (hi : ∀ σ H Q, t' σ H Q → t σ H Q) : PO X e t' := ⟨fun pins s σ H Q I q => h.run pins s σ H Q I (hi σ H Q q)⟩
theorem pod_none : POd X none mO0 := POimp po_none fun σ H Q ⟨G, F, e, d, e', r, hm, q⟩ => by
  cases hm
  exact q F H (Nx.refl r)
theorem pod_some {m : M D} (h : PF X ex m) : POd X (some ex) (mO1 m) := POimp (po_some h) fun σ H Q ⟨G, F, e, d, e', r, hm, q⟩ => by
  obtain ⟨x, e1, h1, hm⟩ := bind_ok2 hm
  simp only at hm
  split at hm
  · cases hm
    exact ⟨G, F, e, _, _, r, h1, fun v F' H' n hd => ⟨_, hd.int_inv, q F' H' n⟩⟩
  · cases hm
def mSlice (ma : M Hd) (ml mu : M (Option Int)) : M Ce := fun e => (ma e).bind fun p => (ml p.2).bind fun q => (mu q.2).bind fun r => (p.1.get r.2).bind fun x => (slD x q.1 r.1).bind fun c => .ok (c, r.2)
@[simp] theorem mSlice_r (ma : M Hd) (ml mu : M (Option Int)) (e : En) : mSlice ma ml mu e = (ma e).bind fun p => (ml p.2).bind fun q => (mu q.2).bind fun r => (p.1.get r.2).bind fun x => (slD x q.1 r.1).bind fun c => .ok (c, r.2) := rfl
@[simp] theorem mO0_r (e : En) : mO0 e = .ok (none, e) := rfl
@[simp] theorem mO1_r (m : M D) (e : En) : mO1 m e = (m e).bind fun p => match p.1 with
  | .int i => .ok (some i, p.2)
  | _ => .no := rfl
theorem DnA.cut {F : Hp} {xs : List V} {ds : List D} (h : DnA K F xs ds) (lo hi : Option Int) : DnA K F (cutV xs lo hi) (cutD ds lo hi) := by
  unfold cutV cutD
  rw [h.len]
  exact DnA.take _ (DnA.drop _ h)
theorem cutD_whole (ds : List D) (lo hi : Option Int) (h : HT.sIx ds.length 0 lo = 0 ∧ HT.sIx ds.length ds.length hi = ds.length) : cutD ds lo hi = ds := by
  unfold cutD
  rw [h.1, h.2]
  simp
theorem snd_sl (F H : Hp) (x : V) (dx : D) (lo hi : Option Int) (c : Ce) (Q : VK) (fh : Ex F H) (hx : Vw K F H dx x) (hg : slD dx lo hi = .ok c) (q : ∀ v F' H', Go F H F' H' noA → NAt K H F' H' c v → Q v H') : rSlD K x lo hi H Q := by
  cases dx with
  | tuple ds =>
    cases hg
    obtain ⟨a, xs, rfl, h3, h4, h4d⟩ := hx.tuple fh
    refine .inl ⟨a, xs, rfl, h3, fun hw => ?_, fun hw p hp => ?_⟩
    · rw [h4.len] at hw
      rw [cutD_whole ds lo hi hw] at q
      exact ret1 fh h4d rfl q
    · have go : Go F H (upd F p (.tup (cutV xs lo hi))) (upd H p (.tup (cutV xs lo hi))) noA := Go.newF fh hp
      exact q _ _ _ go (.inl ⟨_, rfl, .tup upd_same ((h4.cut lo hi).mono go.ff)⟩)
  | list ds =>
    cases hg
    obtain ⟨a, xs, rfl, h3, h4⟩ := hx.list fh
    refine .inr (.inl ⟨a, xs, rfl, SqL.of h3, fun p hp => ?_⟩)
    exact q _ F _ (Go.newO fh hp) (.inr ⟨rfl, p, _, _, rfl, hp, ex_none fh hp, upd_same, rfl, h4.cut lo hi⟩)
  | ro ds =>
    cases hg
    obtain ⟨a, xs, rfl, h3, h4⟩ := hx.ro fh
    refine .inr (.inl ⟨a, xs, rfl, h3, fun p hp => ?_⟩)
    exact q _ F _ (Go.newO fh hp) (.inr ⟨rfl, p, _, _, rfl, hp, ex_none fh hp, upd_same, rfl, h4.cut lo hi⟩)
  | str s =>
    obtain ⟨h1, hg⟩ := ite_ok hg
    cases hg
    rw [hx.str]
    exact .inr (.inr ⟨s, rfl, h1, ret1 fh (.str _) rfl q⟩)
  | none => cases hg
  | bool b => cases hg
  | int i => cases hg
  | dict t ks vs => cases hg
theorem pn_slice {ma : M Hd} {ml mu : M (Option Int)} (ha : PH X ex ma) (hl : POd X lo ml) (hu : POd X hi mu) : PN X (.Subscript ex (.Slice lo hi none p2) pos) (mSlice ma ml mu) := PEimp (pe_slice sl_all ha hl hu) fun σ H Q ⟨G, F, e, c, e', rr, hm, q⟩ => by
  obtain ⟨x, e1, h1, hm⟩ := bind_ok2 hm
  obtain ⟨l, e2, h2, hm⟩ := bind_ok2 hm
  obtain ⟨u, e3, h3, hm⟩ := bind_ok2 hm
  obtain ⟨dx, h4, hm⟩ := Rs.bind_eq hm
  obtain ⟨c', h5, hm⟩ := Rs.bind_eq hm
  cases hm
  refine ⟨G, F, e, x, e1, rr, h1, fun vx F1 H1 n1 hx => ⟨G, F1, e1, l, e2, n1.r, h2, fun F2 H2 n2 => ⟨G, F2, e2, u, e3, n2.r, h3, fun F3 H3 n3 => ?_⟩⟩⟩
  refine snd_sl F3 H3 vx dx l u c Q n3.r.fh (((hx.nx n2).nx n3).vw n3.r h4) h5 fun v F' H' go nat => ?_
  have n13 := (n1.trans n2).trans n3
  exact q v F' H' (n13.trans (n3.r.step go)) (nat.back n13.go rr.fh)
/-! ### reversed, enumerate, zip -/
def mRev (m : M D) : M (List D) := fun e => (m e).bind fun p => p.1.items.bind fun ds => .ok (ds.reverse, p.2)
@[simp] theorem mRev_r (m : M D) (e : En) : mRev m e = (m e).bind fun p => p.1.items.bind fun ds => .ok (ds.reverse, p.2) := rfl
theorem wk_rev {F : Hp} {a : Addr} {xs : List V} {ds : List D} (h : SqL K F a xs) (hd : DnA K F xs ds) : Wk K (Itv K a xs.length) F ds.reverse := fun i F2 H2 x1 x2 => by
  have hx := x1.trans x2
  have hl := hd.len
  refine ⟨fun d hi => ?_, fun hi => ?_⟩
  · have hlt : i < ds.length := by
      have := (List.getElem?_eq_some_iff.mp hi).1
      simpa using this
    rw [List.getElem?_reverse hlt] at hi
    obtain ⟨w, h1, h2⟩ := hd.get hi
    rw [← hl] at h1
    refine ⟨⟨by omega, xs, w, Evl.ex_l hx h, h1⟩, fun x H3 y => ?_⟩
    obtain ⟨rfl, y⟩ := y
    have := y xs (Evl.ex_l hx h)
    rw [h1] at this
    cases this
    exact ⟨F2, Go.refl x2, h2.mono x1⟩
  · have := List.getElem?_eq_none_iff.mp hi
    rw [List.length_reverse] at this
    show xs.length ≤ i
    omega
theorem wk_revT {F : Hp} {a : Addr} {xs : List V} {ds : List D} (h : SqT K F a xs) (hd : DnA K F xs ds) : Wk K (ItvT K a xs.length) F ds.reverse := fun i F2 H2 x1 x2 => by
  have hx := x1.trans x2
  have hl := hd.len
  refine ⟨fun d hi => ?_, fun hi => ?_⟩
  · have hlt : i < ds.length := by
      have := (List.getElem?_eq_some_iff.mp hi).1
      simpa using this
    rw [List.getElem?_reverse hlt] at hi
    obtain ⟨w, h1, h2⟩ := hd.get hi
    rw [← hl] at h1
    refine ⟨⟨by omega, xs, w, Evl.ex_t hx h, h1⟩, fun x H3 y => ?_⟩
    obtain ⟨rfl, y⟩ := y
    have := y xs (Evl.ex_t hx h)
    rw [h1] at this
    cases this
    exact ⟨F2, Go.refl x2, h2.mono x1⟩
  · have := List.getElem?_eq_none_iff.mp hi
    rw [List.length_reverse] at this
    show xs.length ≤ i
    omega
/-- what is walked stands in the frozen heap: a list, or a tuple -/
theorem items_at {F : Hp} {v : V} {d : D} {ds : List D} (h : Dn K F v d) (hi : d.items = .ok ds) : ∃ a xs, v = .ref a ∧ (SqL K F a xs ∨ SqT K F a xs) ∧ DnA K F xs ds := by
  cases d <;> first
    | (cases hi; done)
    | skip
  · cases hi
    obtain ⟨a, xs, q1, q2, q3⟩ := h.list_inv
    exact ⟨a, xs, q1, .inl (SqL.of q2), q3⟩
  · cases hi
    obtain ⟨a, xs, q1, q2, q3⟩ := h.tuple_inv
    exact ⟨a, xs, q1, .inr q2, q3⟩
  · cases hi
    obtain ⟨a, xs, q1, q2, q3⟩ := h.ro_inv
    exact ⟨a, xs, q1, .inl q2, q3⟩
theorem pid_rev {m : M D} (hg : Gl X "reversed") (hm : X.mg "reversed" = none) (h : PF X ex m) (hs : starEach [ex] X.env = (false, eval ex X.env) :: starEach [] X.env := by rfl) : PId X tg (.Call (.Name "reversed" p) [ex] [] pos) (mRev m) :=
  PIimp (pi_revA hg hm h hs) fun σ H Q ⟨G, F, e, ds, e', r, hm, q⟩ => by
    obtain ⟨d, e1, h1, hm⟩ := bind_ok2 hm
    obtain ⟨ds', h2, hm⟩ := Rs.bind_eq hm
    cases hm
    refine ⟨G, F, e, _, _, r, h1, fun v F' H' n hn => ?_⟩
    obtain ⟨a, xs, rfl, hl | ht, hd⟩ := items_at hn h2
    · exact ⟨a, xs, rfl, .inl ⟨Evl.ex_l n.r.fh hl, q _ F' H' n (wk_rev hl hd)⟩⟩
    · exact ⟨a, xs, rfl, .inr ⟨Evl.ex_t n.r.fh ht, q _ F' H' n (wk_revT ht hd)⟩⟩
def enD (i : Nat) : List D → List D
  | [] => []
  | d :: ds => .tuple [.int (i : Nat), d] :: enD (i + 1) ds
theorem enD_get : ∀ (ds : List D) (k i : Nat), (enD k ds)[i]? = (ds[i]?).map fun d => .tuple [.int ((k + i : Nat) : Int), d]
  | [], _, _ => by simp [enD]
  | d :: ds, k, 0 => by simp [enD]
  | d :: ds, k, i + 1 => by
    rw [enD, List.getElem?_cons_succ, List.getElem?_cons_succ, enD_get ds (k + 1) i, show k + 1 + i = k + (i + 1) by omega]
def mEnum (m : M D) : M (List D) := fun e => (m e).bind fun p => match p.1 with
  | .list ds => .ok (enD 0 ds, p.2)
  | .ro ds => .ok (enD 0 ds, p.2)
  | _ => .no
@[simp] theorem mEnum_r (m : M D) (e : En) : mEnum m e = (m e).bind fun p => match p.1 with
  | .list ds => .ok (enD 0 ds, p.2)
  | .ro ds => .ok (enD 0 ds, p.2)
  | _ => .no := rfl
/-- a pair that a walk has made -/
theorem pair_new {F2 H2 : Hp} {T : Addr} {x y : V} {dx dy : D} (x2 : Ex F2 H2) (hT : H2 T = none) (hx : Dn K F2 x dx) (hy : Dn K F2 y dy) : ∃ F3, Go F2 H2 F3 (upd H2 T (.tup [x, y])) noA ∧ Dn K F3 (.ref T) (.tuple [dx, dy]) := by
  have go : Go F2 H2 (upd F2 T (.tup [x, y])) (upd H2 T (.tup [x, y])) noA := Go.newF x2 hT
  exact ⟨_, go, .tup upd_same (.cons (hx.mono go.ff) (.cons (hy.mono go.ff) .nil))⟩
theorem wk_enum {F : Hp} {a : Addr} {xs : List V} {ds : List D} (h : SqL K F a xs) (hd : DnA K F xs ds) : Wk K (Ite K a) F (enD 0 ds) := fun i F2 H2 x1 x2 => by
  have hx := x1.trans x2
  have hl := hd.len
  refine ⟨fun d hi => ?_, fun hi => ?_⟩
  · rw [enD_get] at hi
    obtain ⟨d0, hi0, rfl⟩ := Option.map_eq_some_iff.mp hi
    replace hi := hi0
    obtain ⟨w, h1, h2⟩ := hd.get hi
    refine ⟨⟨xs, w, Evl.ex_l hx h, h1⟩, fun x H3 y => ?_⟩
    obtain ⟨T, z, rfl, hT, rfl, y⟩ := y
    have := y xs (Evl.ex_l hx h)
    rw [h1] at this
    cases this
    rw [Nat.zero_add]
    exact pair_new x2 hT (.int _) (h2.mono x1)
  · rw [enD_get] at hi
    have := List.getElem?_eq_none_iff.mp (Option.map_eq_none_iff.mp hi)
    exact ⟨xs, Evl.ex_l hx h, by omega⟩
theorem pid_enum {m : M D} {elts : List Expr} {kk : Nat} {tpos : Pos} (hg : Gl X "enumerate") (hm : X.mg "enumerate" = none) (h : PAd X [ex] (aCons m aNil)) (hs : starEach [ex] X.env = [(false, eval ex X.env)] := by rfl) : PId X (.Tuple elts kk tpos) (.Call (.Name "enumerate" p) [ex] [] pos) (mEnum m) :=
  PIimp (pi_enum hg hm h hs) fun σ H Q ⟨G, F, e, ds, e', r, hm, q⟩ => by
    obtain ⟨d, e1, h1, hm⟩ := bind_ok2 hm
    simp only at hm
    have h1' : aCons m aNil e = .ok ([d], e1) := by rw [aCons_r, h1]; rfl
    split at hm
    · rename_i ds'
      cases hm
      refine ⟨G, F, e, _, _, r, h1', fun vs F' H' n hd => ?_⟩
      cases hd with
      | cons g t =>
        cases t
        obtain ⟨a, xs, rfl, hl | ht, hd⟩ := items_at g rfl
        · exact ⟨a, xs, rfl, Evl.ex_l n.r.fh hl, q _ F' H' n (wk_enum hl hd)⟩
        · obtain ⟨a', xs', q1, q2, q3⟩ := g.list_inv
          cases q1
          exact ⟨a, xs', rfl, Evl.ex_l n.r.fh (SqL.of q2), q _ F' H' n (wk_enum (SqL.of q2) q3)⟩
    · rename_i ds'
      cases hm
      refine ⟨G, F, e, _, _, r, h1', fun vs F' H' n hd => ?_⟩
      cases hd with
      | cons g t =>
        cases t
        obtain ⟨a', xs', q1, q2, q3⟩ := g.ro_inv
        cases q1
        exact ⟨a', xs', rfl, Evl.ex_l n.r.fh q2, q _ F' H' n (wk_enum q2 q3)⟩
    · cases hm
def ziD : List D → List D → List D
  | a :: as, b :: bs => .tuple [a, b] :: ziD as bs
  | _, _ => []
theorem ziD_get : ∀ (as bs : List D) (i : Nat), (ziD as bs)[i]? = match as[i]?, bs[i]? with
    | some a, some b => some (.tuple [a, b])
    | _, _ => none
  | [], bs, i => by simp [ziD]
  | a :: as, [], i => by cases i <;> simp [ziD] <;> split <;> simp_all
  | a :: as, b :: bs, 0 => by simp [ziD]
  | a :: as, b :: bs, i + 1 => by
    rw [ziD, List.getElem?_cons_succ, List.getElem?_cons_succ, List.getElem?_cons_succ, ziD_get as bs i]
/-- zip of two lists, or of two tuples -/
def ziA : D → D → Rs (List D)
  | .tuple as, .tuple bs => .ok (ziD as bs)
  | .list as, .list bs => .ok (ziD as bs)
  | .list as, .ro bs => .ok (ziD as bs)
  | .ro as, .list bs => .ok (ziD as bs)
  | .ro as, .ro bs => .ok (ziD as bs)
  | _, _ => .no
def mZip (ma mb : M D) : M (List D) := fun e => (ma e).bind fun p => (mb p.2).bind fun q => (ziA p.1 q.1).bind fun ds => .ok (ds, q.2)
@[simp] theorem mZip_r (ma mb : M D) (e : En) : mZip ma mb e = (ma e).bind fun p => (mb p.2).bind fun q => (ziA p.1 q.1).bind fun ds => .ok (ds, q.2) := rfl
@[simp] theorem ziA_tt (as bs : List D) : ziA (.tuple as) (.tuple bs) = .ok (ziD as bs) := rfl
@[simp] theorem ziA_ll (as bs : List D) : ziA (.list as) (.list bs) = .ok (ziD as bs) := rfl
theorem wk_zip {F : Hp} {a b : Addr} {xs ys : List V} {as bs : List D} (h : SqL K F a xs) (hd : DnA K F xs as) (h' : SqL K F b ys) (hd' : DnA K F ys bs) : Wk K (Itz K a b) F (ziD as bs) := fun i F2 H2 x1 x2 => by
  have hx := x1.trans x2
  have hl := hd.len
  have hl' := hd'.len
  refine ⟨fun d hi => ?_, fun hi => ?_⟩
  · rw [ziD_get] at hi
    split at hi
    · rename_i da db g1 g2
      cases hi
      obtain ⟨w, h1, h2⟩ := hd.get g1
      obtain ⟨w', h1', h2'⟩ := hd'.get g2
      refine ⟨⟨xs, ys, w, w', Evl.ex_l hx h, Evl.ex_l hx h', h1, h1'⟩, fun x H3 y => ?_⟩
      obtain ⟨T, z, z', rfl, hT, rfl, y, y'⟩ := y
      have e1 := y xs (Evl.ex_l hx h)
      have e2 := y' ys (Evl.ex_l hx h')
      rw [h1] at e1
      rw [h1'] at e2
      cases e1
      cases e2
      exact pair_new x2 hT (h2.mono x1) (h2'.mono x1)
    · cases hi
  · rw [ziD_get] at hi
    refine ⟨xs, ys, Evl.ex_l hx h, Evl.ex_l hx h', ?_⟩
    rw [hl, hl']
    by_cases g1 : as.length ≤ i
    · exact .inl g1
    · by_cases g2 : bs.length ≤ i
      · exact .inr g2
      · rw [List.getElem?_eq_getElem (by omega), List.getElem?_eq_getElem (by omega)] at hi
        cases hi
theorem wk_zipT {F : Hp} {a b : Addr} {xs ys : List V} {as bs : List D} (h : SqT K F a xs) (hd : DnA K F xs as) (h' : SqT K F b ys) (hd' : DnA K F ys bs) : Wk K (ItzT K a b) F (ziD as bs) := fun i F2 H2 x1 x2 => by
  have hx := x1.trans x2
  have hl := hd.len
  have hl' := hd'.len
  refine ⟨fun d hi => ?_, fun hi => ?_⟩
  · rw [ziD_get] at hi
    split at hi
    · rename_i da db g1 g2
      cases hi
      obtain ⟨w, h1, h2⟩ := hd.get g1
      obtain ⟨w', h1', h2'⟩ := hd'.get g2
      refine ⟨⟨xs, ys, w, w', Evl.ex_t hx h, Evl.ex_t hx h', h1, h1'⟩, fun x H3 y => ?_⟩
      obtain ⟨T, z, z', rfl, hT, rfl, y, y'⟩ := y
      have e1 := y xs (Evl.ex_t hx h)
      have e2 := y' ys (Evl.ex_t hx h')
      rw [h1] at e1
      rw [h1'] at e2
      cases e1
      cases e2
      exact pair_new x2 hT (h2.mono x1) (h2'.mono x1)
    · cases hi
  · rw [ziD_get] at hi
    refine ⟨xs, ys, Evl.ex_t hx h, Evl.ex_t hx h', ?_⟩
    rw [hl, hl']
    by_cases g1 : as.length ≤ i
    · exact .inl g1
    · by_cases g2 : bs.length ≤ i
      · exact .inr g2
      · rw [List.getElem?_eq_getElem (by omega), List.getElem?_eq_getElem (by omega)] at hi
        cases hi
theorem Dn.sq {F : Hp} {v : V} {ds : List D} (h : Dn K F v (.list ds) ∨ Dn K F v (.ro ds)) : ∃ a xs, v = .ref a ∧ SqL K F a xs ∧ DnA K F xs ds := by
  rcases h with h | h
  · obtain ⟨a, xs, q1, q2, q3⟩ := h.list_inv
    exact ⟨a, xs, q1, SqL.of q2, q3⟩
  · exact h.ro_inv
theorem ziA_at {F : Hp} {v w : V} {d d' : D} {ds : List D} (h : Dn K F v d) (h' : Dn K F w d') (hi : ziA d d' = .ok ds) : ∃ a b xs ys as bs, v = .ref a ∧ w = .ref b ∧ ((SqL K F a xs ∧ SqL K F b ys) ∨ (SqT K F a xs ∧ SqT K F b ys)) ∧ DnA K F xs as ∧ DnA K F ys bs ∧ ds = ziD as bs := by
  unfold ziA at hi
  split at hi <;> first
    | (cases hi; done)
    | skip
  · cases hi
    obtain ⟨a, xs, q1, q2, q3⟩ := h.tuple_inv
    obtain ⟨b, ys, q4, q5, q6⟩ := h'.tuple_inv
    exact ⟨a, b, xs, ys, _, _, q1, q4, .inr ⟨q2, q5⟩, q3, q6, rfl⟩
  · cases hi
    obtain ⟨a, xs, q1, q2, q3⟩ := Dn.sq (.inl h)
    obtain ⟨b, ys, q4, q5, q6⟩ := Dn.sq (.inl h')
    exact ⟨a, b, xs, ys, _, _, q1, q4, .inl ⟨q2, q5⟩, q3, q6, rfl⟩
  · cases hi
    obtain ⟨a, xs, q1, q2, q3⟩ := Dn.sq (.inl h)
    obtain ⟨b, ys, q4, q5, q6⟩ := Dn.sq (.inr h')
    exact ⟨a, b, xs, ys, _, _, q1, q4, .inl ⟨q2, q5⟩, q3, q6, rfl⟩
  · cases hi
    obtain ⟨a, xs, q1, q2, q3⟩ := Dn.sq (.inr h)
    obtain ⟨b, ys, q4, q5, q6⟩ := Dn.sq (.inl h')
    exact ⟨a, b, xs, ys, _, _, q1, q4, .inl ⟨q2, q5⟩, q3, q6, rfl⟩
  · cases hi
    obtain ⟨a, xs, q1, q2, q3⟩ := Dn.sq (.inr h)
    obtain ⟨b, ys, q4, q5, q6⟩ := Dn.sq (.inr h')
    exact ⟨a, b, xs, ys, _, _, q1, q4, .inl ⟨q2, q5⟩, q3, q6, rfl⟩
theorem pid_zip {ma mb : M D} {elts : List Expr} {kk : Nat} {tpos : Pos} (hg : Gl X "zip") (hm : X.mg "zip" = none) (h : PAd X [ex, ey] (aCons ma (aCons mb aNil))) (hs : starEach [ex, ey] X.env = (false, eval ex X.env) :: starEach [ey] X.env := by rfl) (hpl : (backTo pos (starEach [ey] X.env)).any (·.1) = false := by rfl) : PId X (.Tuple elts kk tpos) (.Call (.Name "zip" p) [ex, ey] [] pos) (mZip ma mb) :=
  PIimp (pi_zipA hg hm h hs hpl) fun σ H Q ⟨G, F, e, ds, e', r, hm, q⟩ => by
    obtain ⟨d, e1, h1, hm⟩ := bind_ok2 hm
    obtain ⟨d', e2, h2, hm⟩ := bind_ok2 hm
    obtain ⟨ds', h3, hm⟩ := Rs.bind_eq hm
    cases hm
    have h1' : aCons ma (aCons mb aNil) e = .ok ([d, d'], e2) := by
      simp only [aCons_r, h1, Rs.bind_ok, h2, aNil_r]
    refine ⟨G, F, e, _, _, r, h1', fun vs F' H' n hd => ?_⟩
    cases hd with
    | cons g t =>
      cases t with
      | cons g' t =>
        cases t
        obtain ⟨a, b, xs, ys, as, bs, rfl, rfl, q1 | q1, q2, q3, rfl⟩ := ziA_at g g' h3
        · exact ⟨a, b, xs, ys, rfl, .inl ⟨Evl.ex_l n.r.fh q1.1, Evl.ex_l n.r.fh q1.2, q _ F' H' n (wk_zip q1.1 q2 q1.2 q3)⟩⟩
        · exact ⟨a, b, xs, ys, rfl, .inr ⟨Evl.ex_t n.r.fh q1.1, Evl.ex_t n.r.fh q1.2, q _ F' H' n (wk_zipT q1.1 q2 q1.2 q3)⟩⟩
/-! ### o[i] op= e over a list of one's own -/
theorem get_list : PGet X (rIxL X.K) := by
  intro pins s σ H x y v u Q I rx ry h
  obtain ⟨p, xs, i, z, rfl, rfl, hq, he, q⟩ := h
  cases rx
  obtain ⟨t, rfl⟩ := ry
  obtain ⟨its, r, pl, hz⟩ := I.list hq
  obtain ⟨j, h1, h2, h3, h4, h5⟩ := atI_get he
  obtain ⟨w, ew, rw'⟩ := r.get h2
  have hl := r.length
  have hn := line63
  have fin : EP X pins σ Q w s := ⟨z, H, I, rw', q⟩
  by_cases h0 : 0 ≤ i
  · have hj : i.toNat = j := by
      rw [seqIndex_of h0 h5] at h1
      exact Option.some.inj h1
    exact wpAny_getItem_list pl.isList h0 (by omega) (by rw [hj]; simpa using ew) fin
  · have hj : (i + (its.toArray.size : Int)).toNat = j := by
      rw [seqIndex_neg (by omega) h4] at h1
      rw [List.size_toArray, ← hl]
      exact Option.some.inj h1
    exact wpAny_getItem_list_neg pl.isList (by omega) (by rw [List.size_toArray] <;> omega) (by omega) (by rw [hj]; simpa using ew) fin
/-- xs[j] op= m -/
def sLAug (g : D → D → Rs Ce) (i : Nat) (mj m : M D) : En → Out := fun e => match e[i]? with
  | some (some (.l _ _)) => onR (mj e) fun k e1 => (match e1[i]?, k with
    | some (some (.l _ ds)), .int j => (match atI ds j with
      | some dx => onR (m e1) fun dy e2 => (match g dx dy, e2[i]? with
        | .ok (.f dz), some (some (.l p ds')) => (match ixN ds'.length j with
          | some jj => .nx (e2.set i (some (.l p (ds'.set jj dz))))
          | none => .no)
        | _, _ => .no)
      | none => .no)
    | _, _ => .no)
  | _ => .no
@[simp] theorem sLAug_r (g : D → D → Rs Ce) (i : Nat) (mj m : M D) (e : En) : sLAug g i mj m e = match e[i]? with
  | some (some (.l _ _)) => onR (mj e) fun k e1 => (match e1[i]?, k with
    | some (some (.l _ ds)), .int j => (match atI ds j with
      | some dx => onR (m e1) fun dy e2 => (match g dx dy, e2[i]? with
        | .ok (.f dz), some (some (.l p ds')) => (match ixN ds'.length j with
          | some jj => .nx (e2.set i (some (.l p (ds'.set jj dz))))
          | none => .no)
        | _, _ => .no)
      | none => .no)
    | _, _ => .no)
  | _ => .no := rfl
theorem atI_dn {F : Hp} {xs : List V} {ds : List D} {j : Int} {d : D} (h : DnA K F xs ds) (hj : atI ds j = some d) : ∃ v, atI xs j = some v ∧ Dn K F v d := by
  unfold atI at *
  rw [← h.len] at hj
  obtain ⟨k, h1, h2⟩ := Option.bind_eq_some_iff.mp hj
  obtain ⟨v, h3, h4⟩ := h.get h2
  exact ⟨v, by rw [h1]; exact h3, h4⟩
theorem pds_augS {i : Nat} {op : Operator} {r : R2} {g : D → D → Rs Ce} {mj m : M D} {tpos : Pos} (ho : PE X ex (tVar i)) (hi : PF X ey mj) (he : PF X ez m) (hop : OpR X (inplaceOp op) r) (hsnd : Snd2 X.K r g)
    (ha : ∀ ov iv new, augStore ey ov iv new = (do holding [new, ov, iv] (setItem ov iv new); release [new, ov, iv] []; pure .next) := by intros; rfl) :
    PDS X (.AugAssign (.Subscript ex ey tpos) op ez pos) (sLAug g i mj m) := PSimp (ps_augS ho hi get_list he hop set_list ha) fun E σ H ⟨G, F, e, rr, hp⟩ => by
  unfold sLAug at hp
  split at hp
  · rename_i p00 ds00 q0
    obtain ⟨k, e1, h1, hp⟩ := onR_inv hp
    split at hp
    · rename_i p0 ds j q1
      split at hp
      · rename_i dx q2
        obtain ⟨dy, e2, h2, hp⟩ := onR_inv hp
        split at hp
        · rename_i dz p ds' q3 q4
          split at hp
          · rename_i jj q5
            obtain ⟨a, xs0, s0, _⟩ := lst_at q0 rr rfl
            refine ⟨.ref a, s0, G, F, e, .int j, e1, rr, h1, fun y F1 H1 n1 hdk => ?_⟩
            obtain ⟨a1, xs1, s1, _, y2, y4⟩ := lst_at q1 n1.r rfl
            rw [s0] at s1
            cases s1
            obtain ⟨vx, g1, g2⟩ := atI_dn y4 q2
            refine ⟨a, xs1, j, vx, rfl, hdk.int_inv, SqL.of y2, g1, G, F1, e1, dy, e2, n1.r, h2, fun vy F2 H2 n2 hdy => ?_⟩
            refine hsnd F2 H2 vx vy dx dy _ _ n2.r.fh (.inl (n2.dn g2)) (.inl hdy) q3 fun z F3 H3 go nat => ?_
            have n3 := n2.r.step go
            obtain ⟨a2, xs2, s2, _, w2, w4⟩ := lst_at q4 n3.r rfl
            rw [s0] at s2
            cases s2
            refine ⟨a, xs2, j, jj, rfl, hdk.int_inv, w2, by rw [w4.len]; exact q5, ?_⟩
            have n4 := n3.r.wr (c' := .l p (ds'.set jj dz)) q4 s0 rfl (by cases p <;> rfl) (o' := .lst (xs2.set jj z)) (xs' := xs2.set jj z) rfl (w4.set jj nat.fz)
            exact hp F3 _ σ n4.r (((n1.go.ff.trans n2.go.ff)).trans go.ff)
          · exact hp.elim
        · exact hp.elim
      · exact hp.elim
    · exact hp.elim
  · exact hp.elim
end
end DL

namespace Md
open PySem L2 DL PyProof.Rows
noncomputable def m_law_cell : En → Out :=
  (sSeq (sIf (mBool (m2 ltD (mH (mN (mVar 1))) (mH (mL lenD (aCons (mH (mN (mVar 0))) aNil))))) (sRet (m2 ixD (mH (mN (mVar 0))) (mH (mN (mVar 1))))) sNext)
    (sRet (mN (mC (.int 0)))))
noncomputable def m_law_digits_b1 : En → Out :=
  (sIf (mBool (m2 gtD (mH (mN (mVar 5))) (mH (mN (mC (.int 0)))))) (sSeq (sApp 3 (mZ (m2 modD (mH (mL intD (aCons (mH (mN (mVar 5))) aNil))) (mH (mN (mC (.int 1000)))))))
    (sAsgF 5 (mZ (m2 fdivD (mH (mN (mVar 5))) (mH (mN (mC (.int 1000)))))))) sNext)
noncomputable def m_law_digits_b2 : En → Out :=
  (sSeq (sAsgF 7 (mZ (m2 modD (mH (mL intD (aCons (mH (m2 addD (mH (m2 addD (mH (m2 mulD (mH (mN (mVar 7))) (mH (mN (mC (.int 16807)))))) (mH (m2 mulD (mH (mN (mC (.int 7)))) (mH (mN (mVar 6))))))) (mH (mN (mC (.int 1)))))) aNil))) (mH (mN (mC (.int 2147483647)))))))
    (sApp 3 (mZ (m2 modD (mH (mL intD (aCons (mH (m2 fdivD (mH (mN (mVar 7))) (mH (mN (mC (.int 997)))))) aNil))) (mH (mN (mC (.int 1000))))))))
noncomputable def m_law_digits_b3 (S_law_cell : Sf) : En → Out :=
  (sSeq (sAsgF 5 (mZ (mCall S_law_cell (aCons (aD (mVar 0)) (aCons (aD (mVar 4)) aNil)))))
    (sSeq (sIf (mBool (m2 ltD (mH (mN (mVar 5))) (mH (mN (mC (.int 0)))))) (sAsgF 5 (mZ (m2 subD (mH (mN (mC (.int 1)))) (mH (m2 mulD (mH (mN (mC (.int 2)))) (mH (mN (mVar 5)))))))) sNext)
    (sSeq (sIf (mBool (m2 gtD (mH (mL lenD (aCons (mSl 3) aNil))) (mH (mN (mC (.int 1500)))))) sBreak sNext)
    (sIf (mBool (m2 geD (mH (mN (mVar 5))) (mH (m2 powD (mH (mN (mC (.int 10)))) (mH (mN (mC (.int 18)))))))) (sFor (mRng1 (aCons (mC (.int 60)) aNil)) (tgN 6) m_law_digits_b1) (sSeq (sAsgF 7 (mZ (m2 modD (mH (mL intD (aCons (mH (m2 addD (mH (m2 addD (mH (m2 mulD (mH (mN (mVar 5))) (mH (mN (mC (.int 48271)))))) (mH (m2 mulD (mH (mN (mVar 4))) (mH (mN (mC (.int 69621)))))))) (mH (mN (mC (.int 11)))))) aNil))) (mH (mN (mC (.int 2147483647)))))))
    (sFor (mRng1 (aCons (mC (.int 12)) aNil)) (tgN 6) m_law_digits_b2))))))
noncomputable def m_law_digits (S_law_cell : Sf) : En → Out :=
  (sSeq (sAsg 3 (mLst aNil))
    (sSeq (sFor (mRng2 (aCons (mVar 1) (aCons (mVar 2) aNil))) (tgN 4) (m_law_digits_b3 S_law_cell))
    (sRetS 3)))
noncomputable def m_law_draw : En → Out :=
  (sSeq (sAsgF 2 (mZ (m2 ixD (mSl 0) (mH (mN (mC (.int 1)))))))
    (sSeq (sLPut 0 (mC (.int 1)) (mZ (m2 addD (mH (mN (mVar 2))) (mH (mN (mC (.int 1)))))))
    (sSeq (sIf (mBool (m2 ltD (mH (mN (mVar 2))) (mH (mL lenD (aCons (mH (m2 ixD (mSl 0) (mH (mN (mC (.int 0)))))) aNil))))) (sRet (m2 modD (mH (mL intD (aCons (mH (m2 ixD (mH (m2 ixD (mSl 0) (mH (mN (mC (.int 0)))))) (mH (mN (mVar 2))))) aNil))) (mH (mN (mVar 1))))) sNext)
    (sRet (m2 modD (mH (mL intD (aCons (mH (m2 mulD (mH (mN (mVar 2))) (mH (mN (mC (.int 7)))))) aNil))) (mH (mN (mVar 1))))))))
noncomputable def m_law_like_c1 (S_law_like : Sf) : M Bool :=
  (mNot (mTru (mH (mCall S_law_like (aCons (aD (mZ (m2 ixD (mH (mN (mVar 0))) (mH (mN (mVar 2)))))) (aCons (aD (mZ (m2 ixD (mH (mN (mVar 1))) (mH (mN (mVar 2)))))) aNil))))))
noncomputable def m_law_like_e1 : M D :=
  (mC (.int 1))
noncomputable def m_law_like (S_law_like : Sf) : En → Out :=
  (sSeq (sIf (mTru (mH (mN (mIs "tuple" (mH (mN (mVar 1))))))) (sSeq (sIf (mOr (mNot (mTru (mH (mN (mIs "tuple" (mH (mN (mVar 0)))))))) (mBool (m2 neD (mH (mL lenD (aCons (mH (mN (mVar 0))) aNil))) (mH (mL lenD (aCons (mH (mN (mVar 1))) aNil)))))) (sRet (mN (mC (.bool false)))) sNext)
    (sRet (m2 eqD (mH (mComp (mRng1 (aCons (mZ (mL lenD (aCons (mH (mN (mVar 1))) aNil))) aNil)) (tgN 2) [2] (m_law_like_c1 S_law_like) m_law_like_e1)) (mH (mLst aNil))))) sNext)
    (sSeq (sIf (mBool (m2 isD (mH (mN (mVar 1))) (mH (mN (mC .none))))) (sRet (m2 isD (mH (mN (mVar 0))) (mH (mN (mC .none))))) sNext)
    (sSeq (sIf (mBool (m2 isD (mH (mN (mVar 1))) (mH (mN (mC (.bool true)))))) (sRet (m2 isD (mH (mN (mVar 0))) (mH (mN (mC (.bool true)))))) sNext)
    (sSeq (sIf (mBool (m2 isD (mH (mN (mVar 1))) (mH (mN (mC (.bool false)))))) (sRet (m2 isD (mH (mN (mVar 0))) (mH (mN (mC (.bool false)))))) sNext)
    (sSeq (sIf (mTru (mH (mN (mIs "str" (mH (mN (mVar 1))))))) (sRet (mAndV (mN (mIs "str" (mH (mN (mVar 0))))) (m2 eqD (mH (mJoin (mH (mN (mC (.str "")))) (mH (mLst (aCons (mVar 0) aNil))))) (mH (mN (mVar 1)))))) sNext)
    (sRet (mAndV (mN (mIs "int" (mH (mN (mVar 0))))) (mAndV (mN (mNotV (mN (mIs "bool" (mH (mN (mVar 0))))))) (m2 eqD (mH (mN (mVar 0))) (mH (mN (mVar 1))))))))))))
noncomputable def m_law_number : En → Out :=
  (sRet (mAndV (mN (mIs "int" (mH (mN (mVar 0))))) (mAndV (mN (mNotV (mN (mIs "bool" (mH (mN (mVar 0))))))) (mChain leD leD (mH (mN (mVar 1))) (mH (mN (mVar 0))) (mH (mN (mVar 2)))))))
end Md
namespace Sh
open PySem L2 DL PyProof.Rows Md
/-! ### the laws' own small functions -/
/-- _law_cell -/
noncomputable def S_cell : Sf
  | [.f (.ro xs), .f (.int k)] => if 0 ≤ k then .ok (.f ((xs[k.toNat]?).getD (.int 0)), []) else .no
  | _ => .no
theorem sem_cell : ∀ cs c outs, S_cell cs = .ok (c, outs) → cs.length = 2 ∧ runD 2 m_law_cell cs = .ok (c, outs) := by
  intro cs c outs h
  unfold S_cell at h
  split at h
  · rename_i xs k
    obtain ⟨h1, h⟩ := ite_ok h
    cases h
    refine ⟨rfl, ?_⟩
    by_cases hk : k < (xs.length : Int)
    · have hx : xs[k.toNat]? = some (xs[k.toNat]'(by omega)) := List.getElem?_eq_getElem (by omega)
      simp [runD_r, startE, m_law_cell, hk, hx, ixD_roN h1 hx]
    · have hx : xs[k.toNat]? = none := List.getElem?_eq_none (by omega)
      simp [runD_r, startE, m_law_cell, hk, hx]
  · cases h
/-- the draw behind xs at the place at -/
def dv (xs : List D) (at' many : Int) : Int := match xs[at'.toNat]? with
  | some (.int d) => d % many
  | _ => (at' * 7) % many
theorem dv_nn {xs : List D} {a m : Int} (h : 0 < m) : 0 ≤ dv xs a m := by
  unfold dv
  split <;> exact Int.emod_nonneg _ (by omega)
theorem dv_lt {xs : List D} {a m : Int} (h : 0 < m) : dv xs a m < m := by
  unfold dv
  split <;> exact Int.emod_lt_of_pos _ h
/-- _law_draw -/
noncomputable def S_draw : Sf
  | [.l true [.list xs, .int a], .f (.int m)] => if 0 ≤ a ∧ a < 2 ^ 62 ∧ 0 < m ∧ m < 2 ^ 62 ∧ xs.all D.isI = true then .ok (.f (.int (dv xs a m)), [.l true [.list xs, .int (a + 1)]]) else .no
  | _ => .no
theorem draw_r {xs : List D} {a m : Int} (h : xs.all D.isI = true) (h1 : 0 ≤ a) (h2 : a < 2 ^ 62) (h3 : 0 < m) (h4 : m < 2 ^ 62) : S_draw [.l true [.list xs, .int a], .f (.int m)] = .ok (.f (.int (dv xs a m)), [.l true [.list xs, .int (a + 1)]]) := if_pos ⟨h1, h2, h3, h4, h⟩
theorem sem_draw : ∀ cs c outs, S_draw cs = .ok (c, outs) → cs.length = 2 ∧ runD 3 m_law_draw cs = .ok (c, outs) := by
  intro cs c outs h
  unfold S_draw at h
  split at h
  · rename_i xs a m
    obtain ⟨⟨h1, h2, h3, h4, h5⟩, h⟩ := ite_ok h
    cases h
    refine ⟨rfl, ?_⟩
    by_cases hk : a < (xs.length : Int)
    · have hx : xs[a.toNat]? = some (xs[a.toNat]'(by omega)) := List.getElem?_eq_getElem (by omega)
      have hi : D.isI (xs[a.toNat]'(by omega)) = true := List.all_eq_true.mp h5 _ (List.getElem_mem _)
      generalize xs[a.toNat]'(by omega) = d at hx hi
      cases d <;> simp [D.isI] at hi
      rename_i j
      simp [runD_r, startE, m_law_draw, hk, hx, ixD_lN h1 hx, modD_i h3, dv]
    · have hx : xs[a.toNat]? = none := List.getElem?_eq_none (by omega)
      have hm : MulOk a 7 := mulOk_r' (by decide) (by decide)
      simp [runD_r, startE, m_law_draw, hk, hx, modD_i h3, mulD_i hm, dv]
  · cases h
/-- _law_number -/
noncomputable def S_number : Sf
  | [.f (.int a), .f (.int lo), .f (.int hi)] => .ok (.f (.bool (decide (lo ≤ a) && decide (a ≤ hi))), [])
  | _ => .no
theorem sem_number : ∀ cs c outs, S_number cs = .ok (c, outs) → cs.length = 3 ∧ runD 3 m_law_number cs = .ok (c, outs) := by
  intro cs c outs h
  unfold S_number at h
  split at h
  · cases h
    refine ⟨rfl, ?_⟩
    rename_i a lo hi
    by_cases h1 : lo ≤ a
    · simp [runD_r, startE, m_law_number, h1]
    · simp [runD_r, startE, m_law_number, h1]
  · cases h
end Sh
namespace Sh
open PySem L2 DL PyProof.Rows Md
def eDig (r f l : D) (xs : List D) (a b c d : Option D) : En := [some (.f r), some (.f f), some (.f l), some (.l false xs), a.map .f, b.map .f, c.map .f, d.map .f]
theorem dig_w60 {r f l : D} {a d : Option D} : ∀ (ds xs : List D) (x : Int) (c : Option D), ds.all D.isI = true → xs.all D.isI = true → xs.length + ds.length ≤ 1560 →
    ∃ xs' x' c', loopL (tgN 6) (m_law_digits_b1) ds (eDig r f l xs a (some (.int x)) c d) = .nx (eDig r f l xs' a (some (.int x')) c' d) ∧ xs'.all D.isI = true ∧ xs'.length ≤ 1560
  | [], xs, x, c, _, h, hl => ⟨xs, x, c, rfl, h, by simpa using hl⟩
  | y :: ds, xs, x, c, hd, h, hl => by
    rw [List.all_cons, Bool.and_eq_true] at hd
    simp only [List.length_cons] at hl
    have e1 : tgN 6 y (eDig r f l xs a (some (.int x)) c d) = .ok (eDig r f l xs a (some (.int x)) (some y) d) := tgN_f (a := c) rfl
    have hdv : DivOk (1000 : Int) := divOk_of (n := 10) (by decide) (by decide) (by decide)
    have hlt : xs.length < 16000000 := by omega
    by_cases hx : 0 < x
    · have : m_law_digits_b1 (eDig r f l xs a (some (.int x)) (some y) d) = .nx (eDig r f l (xs ++ [.int (x % 1000)]) a (some (.int (x / 1000))) (some y) d) := by
        simp [m_law_digits_b1, eDig, hx, modD_i, fdivD_i hdv, hlt]
      rw [loop_nx e1 this]
      exact dig_w60 ds _ _ _ hd.2 (allI_app h) (by simp; omega)
    · have : m_law_digits_b1 (eDig r f l xs a (some (.int x)) (some y) d) = .nx (eDig r f l xs a (some (.int x)) (some y) d) := by
        simp [m_law_digits_b1, eDig, hx]
      rw [loop_nx e1 this]
      exact dig_w60 ds _ _ _ hd.2 h (by omega)
theorem dig_w12 {r f l : D} {a b : Option D} : ∀ (ds xs : List D) (x : Int) (c : Option D), ds.all D.isI = true → xs.all D.isI = true → xs.length + ds.length ≤ 1560 →
    ∃ xs' x' c', loopL (tgN 6) (m_law_digits_b2) ds (eDig r f l xs a b c (some (.int x))) = .nx (eDig r f l xs' a b c' (some (.int x'))) ∧ xs'.all D.isI = true ∧ xs'.length ≤ 1560
  | [], xs, x, c, _, h, hl => ⟨xs, x, c, rfl, h, by simpa using hl⟩
  | y :: ds, xs, x, c, hd, h, hl => by
    rw [List.all_cons, Bool.and_eq_true] at hd
    obtain ⟨i, rfl⟩ := isI_int hd.1
    simp only [List.length_cons] at hl
    have e1 : tgN 6 (.int i) (eDig r f l xs a b c (some (.int x))) = .ok (eDig r f l xs a b (some (.int i)) (some (.int x))) := tgN_f (a := c) rfl
    have hdv : DivOk (997 : Int) := divOk_of (n := 10) (by decide) (by decide) (by decide)
    have hlt : xs.length < 16000000 := by omega
    have m1 : MulOk x 16807 := mulOk_r' (by decide) (by decide)
    have m2 : MulOk 7 i := mulOk_l (by decide) (by decide)
    have : m_law_digits_b2 (eDig r f l xs a b (some (.int i)) (some (.int x))) = .nx (eDig r f l (xs ++ [.int ((x * 16807 + 7 * i + 1) % 2147483647 / 997 % 1000)]) a b (some (.int i)) (some (.int ((x * 16807 + 7 * i + 1) % 2147483647)))) := by
      simp [m_law_digits_b2, eDig, modD_i, fdivD_i hdv, hlt, mulD_i m1, mulD_i m2]
    rw [loop_nx e1 this]
    exact dig_w12 ds _ _ _ hd.2 (allI_app h) (by simp; omega)
theorem dig_loop (ns : List Int) : ∀ (ds xs : List D) (a b c d : Option D), ds.all (fun x => match x with | .int i => decide (0 ≤ i) | _ => false) = true → xs.all D.isI = true → xs.length ≤ 1560 → ∃ xs' a' b' c' d', loopL (tgN 4) (m_law_digits_b3 S_cell) ds (eDig (.ro (ns.map .int)) (.int 0) (.int 63) xs a b c d) = .nx (eDig (.ro (ns.map .int)) (.int 0) (.int 63) xs' a' b' c' d') ∧ xs'.all D.isI = true ∧ xs'.length ≤ 1560 := by
  intro ds
  induction ds with
  | nil => exact fun xs a b c d _ h hl => ⟨xs, a, b, c, d, rfl, h, hl⟩
  | cons y ds ih =>
    intro xs a b c d hd h hl
    rw [List.all_cons, Bool.and_eq_true] at hd
    obtain ⟨hy, hd⟩ := hd
    cases y <;> try (simp at hy; done)
    rename_i k
    simp only [decide_eq_true_eq] at hy
    have e1 : tgN 4 (.int k) (eDig (.ro (ns.map .int)) (.int 0) (.int 63) xs a b c d) = .ok (eDig (.ro (ns.map .int)) (.int 0) (.int 63) xs (some (.int k)) b c d) := tgN_f (a := a) rfl
    obtain ⟨i, hi⟩ : ∃ i, S_cell [.f (.ro (ns.map .int)), .f (.int k)] = .ok (.f (.int i), []) := by
      refine ⟨(ns[k.toNat]?).getD 0, ?_⟩
      show (if 0 ≤ k then _ else _) = _
      rw [if_pos hy, List.getElem?_map]
      cases ns[k.toNat]? <;> rfl
    have m : MulOk 2 i := mulOk_l (by decide) (by decide)
    obtain ⟨j, ej⟩ : ∃ j, j = if i < 0 then 1 - 2 * i else i := ⟨_, rfl⟩
    have e2 : ∀ s : En → Out, sSeq (sAsgF 5 (mZ (mCall S_cell (aCons (aD (mVar 0)) (aCons (aD (mVar 4)) aNil))))) s (eDig (.ro (ns.map .int)) (.int 0) (.int 63) xs (some (.int k)) b c d) = s (eDig (.ro (ns.map .int)) (.int 0) (.int 63) xs (some (.int k)) (some (.int i)) c d) := fun s => by
      cases b <;> simp [eDig, hi]
    have e3 : ∀ s : En → Out, sSeq (sIf (mBool (m2 ltD (mH (mN (mVar 5))) (mH (mN (mC (.int 0)))))) (sAsgF 5 (mZ (m2 subD (mH (mN (mC (.int 1)))) (mH (m2 mulD (mH (mN (mC (.int 2)))) (mH (mN (mVar 5)))))))) sNext) s (eDig (.ro (ns.map .int)) (.int 0) (.int 63) xs (some (.int k)) (some (.int i)) c d) = s (eDig (.ro (ns.map .int)) (.int 0) (.int 63) xs (some (.int k)) (some (.int j)) c d) := fun s => by
      by_cases hi : i < 0
      · simp [eDig, ej, hi, mulD_i m]
      · simp [eDig, ej, hi]
    by_cases hb : 1500 < xs.length
    · have : m_law_digits_b3 S_cell (eDig (.ro (ns.map .int)) (.int 0) (.int 63) xs (some (.int k)) b c d) = .bk (eDig (.ro (ns.map .int)) (.int 0) (.int 63) xs (some (.int k)) (some (.int j)) c d) := by
        unfold m_law_digits_b3
        have : (1500 : Int) < (xs.length : Int) := by omega
        rw [e2, e3]
        simp [eDig, this]
      rw [loop_bk e1 this]
      exact ⟨_, _, _, _, _, rfl, h, hl⟩
    · have h15 : ¬ (1500 : Int) < (xs.length : Int) := by omega
      by_cases hj : 1000000000000000000 ≤ j
      · obtain ⟨xs', x', c', g1, g2, g3⟩ := dig_w60 (r := .ro (ns.map .int)) (f := .int 0) (l := .int 63) (a := some (.int k)) (d := d) (rgD 0 60) xs j c (allI_rg 0 60) h (by rw [rgD_len]; omega)
        have : m_law_digits_b3 S_cell (eDig (.ro (ns.map .int)) (.int 0) (.int 63) xs (some (.int k)) b c d) = .nx (eDig (.ro (ns.map .int)) (.int 0) (.int 63) xs' (some (.int k)) (some (.int x')) c' d) := by
          unfold m_law_digits_b3
          rw [e2, e3, ← g1]
          simp [eDig, h15, hj]
        rw [loop_nx e1 this]
        exact ih _ _ _ _ _ hd g2 g3
      · have m1 : MulOk j 48271 := mulOk_r' (by decide) (by decide)
        have m2 : MulOk k 69621 := mulOk_r' (by decide) (by decide)
        obtain ⟨xs', x', c', g1, g2, g3⟩ := dig_w12 (r := .ro (ns.map .int)) (f := .int 0) (l := .int 63) (a := some (.int k)) (b := some (.int j)) (rgD 0 12) xs ((j * 48271 + k * 69621 + 11) % 2147483647) c (allI_rg 0 12) h (by rw [rgD_len]; omega)
        have : m_law_digits_b3 S_cell (eDig (.ro (ns.map .int)) (.int 0) (.int 63) xs (some (.int k)) b c d) = .nx (eDig (.ro (ns.map .int)) (.int 0) (.int 63) xs' (some (.int k)) (some (.int j)) c' (some (.int x'))) := by
          unfold m_law_digits_b3
          rw [e2, e3, ← g1]
          cases d <;> simp [eDig, h15, hj, modD_i, mulD_i m1, mulD_i m2]
        rw [loop_nx e1 this]
        exact ih _ _ _ _ _ hd g2 g3
theorem dig_run (ns : List Int) : ∃ ds : List Int, ds.length ≤ 1560 ∧ runD 8 (m_law_digits S_cell) [.f (.ro (ns.map .int)), .f (.int 0), .f (.int 63)] = .ok (.l false (ds.map .int), []) := by
  obtain ⟨xs', a', b', c', d', g1, g2, g3⟩ := dig_loop ns (rgD 0 63) [] none none none none (by rw [rgD_map]; simp) rfl (by simp)
  obtain ⟨ds, rfl⟩ := allI_map g2
  refine ⟨ds, by simpa using g3, ?_⟩
  have g0 : loopL (tgN 4) (m_law_digits_b3 S_cell) (rgD 0 63) [some (.f (.ro (ns.map .int))), some (.f (.int 0)), some (.f (.int 63)), some (.l false []), none, none, none, none] = .nx [some (.f (.ro (ns.map .int))), some (.f (.int 0)), some (.f (.int 63)), some (.l false (ds.map .int)), a'.map .f, b'.map .f, c'.map .f, d'.map .f] := g1
  simp [runD_r, startE, m_law_digits, g0]
/-- _law_digits -/
noncomputable def S_digits : Sf := specR (fun cs => ∃ ns : List Int, cs = [.f (.ro (ns.map .int)), .f (.int 0), .f (.int 63)]) 8 (m_law_digits S_cell)
theorem sem_digits : ∀ cs c outs, S_digits cs = .ok (c, outs) → cs.length = 3 ∧ runD 8 (m_law_digits S_cell) cs = .ok (c, outs) := specR_sem fun cs ⟨ns, h⟩ => by rw [h]; rfl
theorem digits_r (ns : List Int) : ∃ ds : List Int, ds.length ≤ 1560 ∧ S_digits [.f (.ro (ns.map .int)), .f (.int 0), .f (.int 63)] = .ok (.l false (ds.map .int), []) := by
  obtain ⟨ds, h1, h2⟩ := dig_run ns
  exact ⟨ds, h1, by unfold S_digits; rw [specR_ok ⟨ns, rfl⟩, h2]⟩
end Sh
namespace Sh
open PySem L2 DL PyProof.Rows Md
/-- what _law_like compares, n deep -/
def lk : Nat → D → Bool
  | _, .none => true
  | _, .bool _ => true
  | _, .int _ => true
  | _, .str s => decide (s.length ≤ 16777216)
  | n + 1, .tuple ds => decide (ds.length ≤ 10000000) && ds.all (lk n)
  | _, _ => false
open Classical in
noncomputable def S_like (n : Nat) : Sf
  | [.f a, .f b] => if a = b ∧ lk n b = true then .ok (.f (.bool true), []) else .no
  | _ => .no
theorem like_r {n : Nat} {b : D} (h : lk n b = true) : S_like n [.f b, .f b] = .ok (.f (.bool true), []) := if_pos ⟨rfl, h⟩
noncomputable def S_likeP : Nat → Sf
  | 0 => fun _ => .no
  | n + 1 => S_like n
theorem mem_rg {d : D} {n : Nat} (h : d ∈ rgD 0 n) : ∃ i : Nat, i < n ∧ d = .int (i : Int) := by
  rw [rgD_map] at h
  obtain ⟨i, hi, rfl⟩ := List.mem_map.mp h
  exact ⟨i, List.mem_range.mp hi, by simp⟩
@[simp] theorem eqD_nil : eqD (.list []) (.list []) = .ok (.f (.bool true)) := rfl
theorem lk_str {n : Nat} {s : Str} (h : lk n (.str s) = true) : s.length ≤ 16777216 := by
  cases n <;> exact of_decide_eq_true h
theorem lk_tup {n : Nat} {ds : List D} (h : lk (n + 1) (.tuple ds) = true) : ds.length ≤ 10000000 ∧ ds.all (lk n) = true := by
  have h' := Bool.and_eq_true _ _ ▸ h
  exact ⟨of_decide_eq_true h'.1, h'.2⟩
theorem sl_none (n : Nat) : runD 3 (m_law_like (S_likeP n)) [.f .none, .f .none] = .ok (.f (.bool true), []) := by simp [runD_r, startE, m_law_like]
theorem sl_bool (n : Nat) (b : Bool) : runD 3 (m_law_like (S_likeP n)) [.f (.bool b), .f (.bool b)] = .ok (.f (.bool true), []) := by cases b <;> simp [runD_r, startE, m_law_like]
theorem sl_int (n : Nat) (i : Int) : runD 3 (m_law_like (S_likeP n)) [.f (.int i), .f (.int i)] = .ok (.f (.bool true), []) := by simp [runD_r, startE, m_law_like]
theorem sl_str (n : Nat) (s : Str) (h : s.length ≤ 16777216) : runD 3 (m_law_like (S_likeP n)) [.f (.str s), .f (.str s)] = .ok (.f (.bool true), []) := by
  have hj : joinD (.str "") (.list [.str s]) = .ok (.f (.str s)) := by
    show (if ([s].map (·.length)).sum + [s].length * (Str.ofString "").length ≤ 16777216 then _ else _) = _
    rw [if_pos]
    · rfl
    · show s.length + 0 + 1 * 0 ≤ _
      omega
  simp [runD_r, startE, m_law_like, hj]
theorem sl_tup (n : Nat) (ds : List D) (hl : ds.length ≤ 10000000) (ha : ds.all (lk n) = true) : runD 3 (m_law_like (S_likeP (n + 1))) [.f (.tuple ds), .f (.tuple ds)] = .ok (.f (.bool true), []) := by
  have hc : mComp (mRng1 (aCons (mZ (mL lenD (aCons (mH (mN (mVar 1))) aNil))) aNil)) (tgN 2) [2] (m_law_like_c1 (S_likeP (n + 1))) m_law_like_e1 [some (.f (.tuple ds)), some (.f (.tuple ds)), none] = .ok (.l false [], [some (.f (.tuple ds)), some (.f (.tuple ds)), none]) := by
    have h0 : mRng1 (aCons (mZ (mL lenD (aCons (mH (mN (mVar 1))) aNil))) aNil) [some (.f (.tuple ds)), some (.f (.tuple ds)), none] = .ok (rgD 0 ds.length, [some (.f (.tuple ds)), some (.f (.tuple ds)), none]) := by
      have := rng1_r (ma := aCons (mZ (mL lenD (aCons (mH (mN (mVar 1))) aNil))) aNil) (e := [some (.f (.tuple ds)), some (.f (.tuple ds)), none]) (n := ds.length) (by simp; rfl) (by omega) (by omega)
      rw [this]
      simp
    rw [mComp_pure (fun _ => none) h0 (tgOk_n 2) (by simp) (by simp) (by rw [rgD_len]; omega) ?_]
    · simp
    · intro d hd
      obtain ⟨i, hi, rfl⟩ := mem_rg hd
      have hx : ds[i]? = some ds[i] := List.getElem?_eq_getElem hi
      have hk := like_r (List.all_eq_true.mp ha ds[i] (List.getElem_mem hi))
      refine ⟨[some (.f (.tuple ds)), some (.f (.tuple ds)), some (.f (.int i))], ?_, ?_, fun x hx => by cases hx⟩
      · simp [wipeE]
      · simp [m_law_like_c1, ixD_tn hx, S_likeP, hk]
  simp [runD_r, startE, m_law_like, hc]
open Classical in
theorem sem_like (n : Nat) : ∀ cs c outs, S_like n cs = .ok (c, outs) → cs.length = 2 ∧ runD 3 (m_law_like (S_likeP n)) cs = .ok (c, outs) := by
  intro cs c outs h
  unfold S_like at h
  split at h
  · rename_i a b
    by_cases hc : a = b ∧ lk n b = true
    case neg =>
      rw [if_neg hc] at h
      cases h
    rw [if_pos hc] at h
    obtain ⟨rfl, h2⟩ := hc
    cases h
    refine ⟨rfl, ?_⟩
    cases a with
    | none => exact sl_none n
    | bool b => exact sl_bool n b
    | int i => exact sl_int n i
    | str s => exact sl_str n s (lk_str h2)
    | tuple ds =>
      cases n with
      | zero => cases h2
      | succ n => exact sl_tup n ds (lk_tup h2).1 (lk_tup h2).2
    | list ds => cases n <;> cases h2
    | dict t ks vs => cases n <;> cases h2
    | ro ds => cases n <;> cases h2
  · cases h
end Sh

namespace Md
open PySem L2 DL PyProof.Rows
noncomputable def m_ratio : En → Out :=
  (sSeq (sAsgF 2 (mZ (mL gcdD (aCons (mH (mN (mVar 0))) (aCons (mH (mN (mVar 1))) aNil)))))
    (sSeq (sIf (mBool (m2 ltD (mH (mN (mVar 1))) (mH (mN (mC (.int 0)))))) (sAsgF 2 (mZ (m1 negD (mH (mN (mVar 2)))))) sNext)
    (sRet (mN (mTup (aCons (mZ (m2 fdivD (mH (mN (mVar 0))) (mH (mN (mVar 2))))) (aCons (mZ (m2 fdivD (mH (mN (mVar 1))) (mH (mN (mVar 2))))) aNil)))))))
noncomputable def m_law_gcd_b1 : En → Out :=
  (sSeq (sIf (mBool (m2 eqD (mH (mN (mVar 1))) (mH (mN (mC (.int 0)))))) sBreak sNext)
    (sParN 0 1 (mN (mVar 1)) (mN (mZ (m2 modD (mH (mL intD (aCons (mH (mN (mVar 0))) aNil))) (mH (mN (mVar 1))))))))
noncomputable def m_law_gcd : En → Out :=
  (sSeq (sFor (mRng1 (aCons (mC (.int 300)) aNil)) (tgN 2) m_law_gcd_b1)
    (sRet (mN (mVar 0))))
noncomputable def m_law_ratio (S_law_gcd : Sf) : En → Out :=
  (sSeq (sAsgF 2 (mZ (mCall S_law_gcd (aCons (aD (mZ (mL absD (aCons (mH (mN (mVar 0))) aNil)))) (aCons (aD (mVar 1)) aNil)))))
    (sRet (mN (mTup (aCons (mZ (m2 fdivD (mH (mN (mVar 0))) (mH (mN (mVar 2))))) (aCons (mZ (m2 fdivD (mH (mN (mVar 1))) (mH (mN (mVar 2))))) aNil))))))
end Md
namespace Sh
open PySem L2 DL PyProof.Rows Md
/-! ### gcd and ratio -/
theorem divOk_dvd {g b : Int} {n : Nat} (hg : 0 < g) (hd : g ∣ b) (h : 0 < b) (h2 : b < 2 ^ n) (hn : n ≤ 8000) : DivOk g :=
  divOk_of hg (Int.lt_of_le_of_lt (Int.le_of_dvd h hd) h2) hn
theorem gcd_pos_r {a b : Int} (h : 0 < b) : 0 < (Int.gcd a b : Int) := by
  have := Int.gcd_pos_of_ne_zero_right a (show b ≠ 0 by omega)
  omega
/-- a / b in its lowest terms -/
def redI (a b : Int) : Int × Int := (a / (Int.gcd a b : Int), b / (Int.gcd a b : Int))
def qD (p : Int × Int) : D := .tuple [.int p.1, .int p.2]
noncomputable def S_ratio : Sf
  | [.f (.int a), .f (.int b)] => if 0 < b ∧ b < 2 ^ 4000 then .ok (.f (qD (redI a b)), []) else .no
  | _ => .no
theorem ratio_r {a b : Int} (h : 0 < b) (h2 : b < 2 ^ 4000) : S_ratio [.f (.int a), .f (.int b)] = .ok (.f (qD (redI a b)), []) := if_pos ⟨h, h2⟩
theorem sem_ratio : ∀ cs c outs, S_ratio cs = .ok (c, outs) → cs.length = 2 ∧ runD 3 m_ratio cs = .ok (c, outs) := by
  intro cs c outs h
  unfold S_ratio at h
  split at h
  · rename_i a b
    obtain ⟨⟨h1, h2⟩, h⟩ := ite_ok h
    cases h
    have hg : DivOk (Int.gcd a b : Int) := divOk_dvd (gcd_pos_r h1) (Int.gcd_dvd_right a b) h1 h2 (by decide)
    refine ⟨rfl, ?_⟩
    have hb : decide (b < 0) = false := decide_eq_false (by omega)
    have hg' : DivOk ((a.natAbs.gcd b.natAbs : Nat) : Int) := hg
    simp [runD_r, startE, m_ratio, hb, fdivD_i hg', Int.gcd, qD, redI]
  · cases h
/-- _law_gcd's walk -/
theorem gcd_loop : ∀ (m : Nat) (ds : List D) (a b : Nat) (t : Option D), b < 2 ^ m → 2 * m ≤ ds.length →
    ∃ (b' : Int) (t' : Option D), loopL (tgN 2) m_law_gcd_b1 ds [some (.f (.int (a : Int))), some (.f (.int (b : Int))), t.map .f] = .nx [some (.f (.int ((Nat.gcd a b : Nat) : Int))), some (.f (.int b')), t'.map .f] := by
  have st : ∀ (d : D) (ds : List D) (a b : Nat) (t : Option D), 0 < b → loopL (tgN 2) m_law_gcd_b1 (d :: ds) [some (.f (.int (a : Int))), some (.f (.int (b : Int))), t.map .f] = loopL (tgN 2) m_law_gcd_b1 ds [some (.f (.int (b : Int))), some (.f (.int ((a % b : Nat) : Int))), some (.f d)] := by
    intro d ds a b t hb
    have hb0 : ¬ (b : Int) = 0 := by omega
    have hb1 : (0 : Int) < (b : Int) := by omega
    have hb2 : ¬ b = 0 := by omega
    exact loop_nx (tgN_f (a := t) rfl) (by simp [m_law_gcd_b1, hb0, hb2, modD_i hb1])
  have z : ∀ (ds : List D) (a : Nat) (t : Option D), ∃ (b' : Int) (t' : Option D), loopL (tgN 2) m_law_gcd_b1 ds [some (.f (.int (a : Int))), some (.f (.int ((0 : Nat) : Int))), t.map .f] = .nx [some (.f (.int ((Nat.gcd a 0 : Nat) : Int))), some (.f (.int b')), t'.map .f] := by
    intro ds a t
    rw [Nat.gcd_zero_right]
    cases ds with
    | nil => exact ⟨_, t, rfl⟩
    | cons d ds => exact ⟨0, some d, loop_bk (tgN_f (a := t) rfl) (by simp [m_law_gcd_b1])⟩
  intro m
  induction m with
  | zero =>
    intro ds a b t hb _
    have : b = 0 := by
      have : b < 1 := by simpa using hb
      omega
    subst this
    exact z ds a t
  | succ m ih =>
    intro ds a b t hb hl
    by_cases h0 : b = 0
    · subst h0
      exact z ds a t
    · match ds, hl with
      | d :: d2 :: ds, hl =>
        have hr := Nat.mod_lt a (show b > 0 by omega)
        have e1 : Nat.gcd a b = Nat.gcd b (a % b) := by
          rw [Nat.gcd_comm a b, Nat.gcd_rec b a, Nat.gcd_comm]
        rw [st d _ a b t (by omega), e1]
        by_cases h1 : a % b = 0
        · rw [h1]
          exact z _ b (some d)
        · have e2 : Nat.gcd b (a % b) = Nat.gcd (a % b) (b % (a % b)) := by
            rw [Nat.gcd_comm b, Nat.gcd_rec (a % b) b, Nat.gcd_comm]
          have hr2 := Nat.mod_lt b (show a % b > 0 by omega)
          have hd := Nat.div_add_mod b (a % b)
          have hq : 1 ≤ b / (a % b) := (Nat.le_div_iff_mul_le (by omega)).mpr (by omega)
          have hm : a % b ≤ (a % b) * (b / (a % b)) := Nat.le_mul_of_pos_right _ hq
          have := st d2 ds b (a % b) (some d) (by omega)
          rw [show (some d).map Ce.f = some (.f d) from rfl] at this
          rw [this, e2]
          exact ih ds (a % b) (b % (a % b)) (some d2) (by rw [Nat.pow_succ] at hb; omega) (by simp at hl; omega)
      | [_], hl => simp at hl; omega
      | [], hl => simp at hl
noncomputable def S_gcd : Sf
  | [.f (.int a), .f (.int b)] => if 0 ≤ a ∧ 0 ≤ b ∧ b < 2 ^ 150 then .ok (.f (.int (Int.gcd a b : Int)), []) else .no
  | _ => .no
theorem gcd_r {a b : Int} (h : 0 ≤ a) (h1 : 0 ≤ b) (h2 : b < 2 ^ 150) : S_gcd [.f (.int a), .f (.int b)] = .ok (.f (.int (Int.gcd a b : Int)), []) := if_pos ⟨h, h1, h2⟩
theorem sem_gcd : ∀ cs c outs, S_gcd cs = .ok (c, outs) → cs.length = 2 ∧ runD 3 m_law_gcd cs = .ok (c, outs) := by
  intro cs c outs h
  unfold S_gcd at h
  split at h
  · rename_i a b
    obtain ⟨⟨h0, h1, h2⟩, h⟩ := ite_ok h
    cases h
    refine ⟨rfl, ?_⟩
    obtain ⟨x, rfl⟩ := Int.eq_ofNat_of_zero_le h0
    obtain ⟨y, rfl⟩ := Int.eq_ofNat_of_zero_le h1
    obtain ⟨b', t', g⟩ := gcd_loop 150 (rgD 0 300) x y none (by exact_mod_cast h2) (by rw [rgD_len]; decide)
    rw [show (none : Option D).map Ce.f = none from rfl] at g
    simp [runD_r, startE, m_law_gcd, g]
  · cases h
noncomputable def S_lratio : Sf
  | [.f (.int a), .f (.int b)] => if 0 < b ∧ b < 2 ^ 150 then .ok (.f (qD (redI a b)), []) else .no
  | _ => .no
theorem lratio_r {a b : Int} (h : 0 < b) (h2 : b < 2 ^ 150) : S_lratio [.f (.int a), .f (.int b)] = .ok (.f (qD (redI a b)), []) := if_pos ⟨h, h2⟩
theorem sem_lratio : ∀ cs c outs, S_lratio cs = .ok (c, outs) → cs.length = 2 ∧ runD 3 (m_law_ratio S_gcd) cs = .ok (c, outs) := by
  intro cs c outs h
  unfold S_lratio at h
  split at h
  · rename_i a b
    obtain ⟨⟨h1, h2⟩, h⟩ := ite_ok h
    cases h
    have hg : DivOk (Int.gcd a b : Int) := divOk_dvd (gcd_pos_r h1) (Int.gcd_dvd_right a b) h1 h2 (by decide)
    refine ⟨rfl, ?_⟩
    have e : Int.gcd (if a < 0 then -a else a) b = Int.gcd a b := by
      split
      · exact Int.neg_gcd
      · rfl
    have hc := gcd_r (a := if a < 0 then -a else a) (b := b) (by split <;> omega) (by omega) h2
    rw [e] at hc
    simp [runD_r, startE, m_law_ratio, hc, fdivD_i hg, qD, redI]
  · cases h
end Sh

namespace Md
open PySem L2 DL PyProof.Rows
noncomputable def m_plus (S_ratio : Sf) : En → Out :=
  (sRet (mCall S_ratio (aCons (aD (mZ (m2 addD (mH (m2 mulD (mH (m2 ixD (mH (mN (mVar 0))) (mH (mN (mC (.int 0)))))) (mH (m2 ixD (mH (mN (mVar 1))) (mH (mN (mC (.int 1)))))))) (mH (m2 mulD (mH (m2 ixD (mH (mN (mVar 1))) (mH (mN (mC (.int 0)))))) (mH (m2 ixD (mH (mN (mVar 0))) (mH (mN (mC (.int 1))))))))))) (aCons (aD (mZ (m2 mulD (mH (m2 ixD (mH (mN (mVar 0))) (mH (mN (mC (.int 1)))))) (mH (m2 ixD (mH (mN (mVar 1))) (mH (mN (mC (.int 1))))))))) aNil))))
noncomputable def m_minus (S_ratio : Sf) : En → Out :=
  (sRet (mCall S_ratio (aCons (aD (mZ (m2 subD (mH (m2 mulD (mH (m2 ixD (mH (mN (mVar 0))) (mH (mN (mC (.int 0)))))) (mH (m2 ixD (mH (mN (mVar 1))) (mH (mN (mC (.int 1)))))))) (mH (m2 mulD (mH (m2 ixD (mH (mN (mVar 1))) (mH (mN (mC (.int 0)))))) (mH (m2 ixD (mH (mN (mVar 0))) (mH (mN (mC (.int 1))))))))))) (aCons (aD (mZ (m2 mulD (mH (m2 ixD (mH (mN (mVar 0))) (mH (mN (mC (.int 1)))))) (mH (m2 ixD (mH (mN (mVar 1))) (mH (mN (mC (.int 1))))))))) aNil))))
noncomputable def m_compare : En → Out :=
  (sSeq (sAsgF 2 (mZ (m2 subD (mH (m2 mulD (mH (m2 ixD (mH (mN (mVar 0))) (mH (mN (mC (.int 0)))))) (mH (m2 ixD (mH (mN (mVar 1))) (mH (mN (mC (.int 1)))))))) (mH (m2 mulD (mH (m2 ixD (mH (mN (mVar 1))) (mH (mN (mC (.int 0)))))) (mH (m2 ixD (mH (mN (mVar 0))) (mH (mN (mC (.int 1)))))))))))
    (sSeq (sIf (mBool (m2 eqD (mH (mN (mVar 2))) (mH (mN (mC (.int 0)))))) (sRet (mN (mC (.int 0)))) sNext)
    (sRet (mIf (mBool (m2 gtD (mH (mN (mVar 2))) (mH (mN (mC (.int 0)))))) (mN (mC (.int 1))) (m1 negD (mH (mN (mC (.int 1)))))))))
noncomputable def m_law_plus (S_law_ratio : Sf) : En → Out :=
  (sRet (mCall S_law_ratio (aCons (aD (mZ (m2 addD (mH (m2 mulD (mH (m2 ixD (mH (mN (mVar 0))) (mH (mN (mC (.int 0)))))) (mH (m2 ixD (mH (mN (mVar 1))) (mH (mN (mC (.int 1)))))))) (mH (m2 mulD (mH (m2 ixD (mH (mN (mVar 1))) (mH (mN (mC (.int 0)))))) (mH (m2 ixD (mH (mN (mVar 0))) (mH (mN (mC (.int 1))))))))))) (aCons (aD (mZ (m2 mulD (mH (m2 ixD (mH (mN (mVar 0))) (mH (mN (mC (.int 1)))))) (mH (m2 ixD (mH (mN (mVar 1))) (mH (mN (mC (.int 1))))))))) aNil))))
noncomputable def m_law_minus (S_law_ratio : Sf) : En → Out :=
  (sRet (mCall S_law_ratio (aCons (aD (mZ (m2 subD (mH (m2 mulD (mH (m2 ixD (mH (mN (mVar 0))) (mH (mN (mC (.int 0)))))) (mH (m2 ixD (mH (mN (mVar 1))) (mH (mN (mC (.int 1)))))))) (mH (m2 mulD (mH (m2 ixD (mH (mN (mVar 1))) (mH (mN (mC (.int 0)))))) (mH (m2 ixD (mH (mN (mVar 0))) (mH (mN (mC (.int 1))))))))))) (aCons (aD (mZ (m2 mulD (mH (m2 ixD (mH (mN (mVar 0))) (mH (mN (mC (.int 1)))))) (mH (m2 ixD (mH (mN (mVar 1))) (mH (mN (mC (.int 1))))))))) aNil))))
noncomputable def m_law_less : En → Out :=
  (sRet (m2 ltD (mH (m2 mulD (mH (m2 ixD (mH (mN (mVar 0))) (mH (mN (mC (.int 0)))))) (mH (m2 ixD (mH (mN (mVar 1))) (mH (mN (mC (.int 1)))))))) (mH (m2 mulD (mH (m2 ixD (mH (mN (mVar 1))) (mH (mN (mC (.int 0)))))) (mH (m2 ixD (mH (mN (mVar 0))) (mH (mN (mC (.int 1))))))))))
end Md
namespace Sh
open PySem L2 DL PyProof.Rows Md
/-! ### ratios reckoned -/
def Bg (i : Int) : Prop := i.natAbs < 2 ^ 1500
noncomputable instance (i : Int) : Decidable (Bg i) := Classical.propDecidable _
theorem bg_mul {i j : Int} (h : Bg i) (h2 : Bg j) : MulOk i j := .inr (.inr ⟨Nat.lt_of_lt_of_le h (pow_mono2 (by decide)), Nat.lt_of_lt_of_le h2 (pow_mono2 (by decide))⟩)
theorem bg_le {i : Int} {n : Nat} (h : i.natAbs < 2 ^ n) (hn : n ≤ 1500) : Bg i := Nat.lt_of_lt_of_le h (pow_mono2 hn)
theorem bg_small {i : Int} (h : i.natAbs < 2 ^ 64) : Bg i := bg_le h (by decide)
theorem mul_lt3000 {b d : Int} (h : Bg b) (h2 : Bg d) : b * d < 2 ^ 4000 := by
  have h3 : (b * d).natAbs < 2 ^ 4000 := by
    rw [Int.natAbs_mul]
    have h4 : b.natAbs * d.natAbs ≤ 2 ^ 1500 * 2 ^ 1500 := Nat.mul_le_mul (Nat.le_of_lt h) (Nat.le_of_lt h2)
    rw [← Nat.pow_add] at h4
    exact Nat.lt_of_le_of_lt h4 (Nat.pow_lt_pow_right (by decide) (by decide))
  have h5 : b * d ≤ ((b * d).natAbs : Int) := Int.le_natAbs
  have h6 : (((b * d).natAbs : Nat) : Int) < ((2 ^ 4000 : Nat) : Int) := Int.ofNat_lt.mpr h3
  rw [Int.natCast_pow] at h6
  exact Int.lt_of_le_of_lt h5 h6
noncomputable def S_plus : Sf
  | [.f (.tuple [.int a, .int b]), .f (.tuple [.int c, .int d])] => if 0 < b * d ∧ Bg a ∧ Bg b ∧ Bg c ∧ Bg d then .ok (.f (qD (redI (a * d + c * b) (b * d))), []) else .no
  | _ => .no
noncomputable def S_minus : Sf
  | [.f (.tuple [.int a, .int b]), .f (.tuple [.int c, .int d])] => if 0 < b * d ∧ Bg a ∧ Bg b ∧ Bg c ∧ Bg d then .ok (.f (qD (redI (a * d - c * b) (b * d))), []) else .no
  | _ => .no
noncomputable def S_lplus : Sf
  | [.f (.tuple [.int a, .int b]), .f (.tuple [.int c, .int d])] => if 0 < b * d ∧ b * d < 2 ^ 150 ∧ Bg a ∧ Bg b ∧ Bg c ∧ Bg d then .ok (.f (qD (redI (a * d + c * b) (b * d))), []) else .no
  | _ => .no
noncomputable def S_lminus : Sf
  | [.f (.tuple [.int a, .int b]), .f (.tuple [.int c, .int d])] => if 0 < b * d ∧ b * d < 2 ^ 150 ∧ Bg a ∧ Bg b ∧ Bg c ∧ Bg d then .ok (.f (qD (redI (a * d - c * b) (b * d))), []) else .no
  | _ => .no
noncomputable def S_less : Sf
  | [.f (.tuple [.int a, .int b]), .f (.tuple [.int c, .int d])] => if Bg a ∧ Bg b ∧ Bg c ∧ Bg d then .ok (.f (.bool (decide (a * d < c * b))), []) else .no
  | _ => .no
noncomputable def S_compare : Sf
  | [.f (.tuple [.int a, .int b]), .f (.tuple [.int c, .int d])] => if Bg a ∧ Bg b ∧ Bg c ∧ Bg d then .ok (.f (.int (if a * d - c * b = 0 then 0 else if 0 < a * d - c * b then 1 else -1)), []) else .no
  | _ => .no
theorem sem_plus : ∀ cs c outs, S_plus cs = .ok (c, outs) → cs.length = 2 ∧ runD 2 (m_plus S_ratio) cs = .ok (c, outs) := by
  intro cs c outs h
  unfold S_plus at h
  split at h
  · rename_i a b c d
    obtain ⟨⟨h1, h2, h3, h4, h5⟩, h⟩ := ite_ok h
    cases h
    have hr := ratio_r (a := a * d + c * b) h1 (mul_lt3000 h3 h5)
    exact ⟨rfl, by simp [runD_r, startE, m_plus, mulD_i (bg_mul h2 h5), mulD_i (bg_mul h4 h3), mulD_i (bg_mul h3 h5), hr]⟩
  · cases h
theorem sem_minus : ∀ cs c outs, S_minus cs = .ok (c, outs) → cs.length = 2 ∧ runD 2 (m_minus S_ratio) cs = .ok (c, outs) := by
  intro cs c outs h
  unfold S_minus at h
  split at h
  · rename_i a b c d
    obtain ⟨⟨h1, h2, h3, h4, h5⟩, h⟩ := ite_ok h
    cases h
    have hr := ratio_r (a := a * d - c * b) h1 (mul_lt3000 h3 h5)
    exact ⟨rfl, by simp [runD_r, startE, m_minus, mulD_i (bg_mul h2 h5), mulD_i (bg_mul h4 h3), mulD_i (bg_mul h3 h5), hr]⟩
  · cases h
theorem sem_lplus : ∀ cs c outs, S_lplus cs = .ok (c, outs) → cs.length = 2 ∧ runD 2 (m_law_plus S_lratio) cs = .ok (c, outs) := by
  intro cs c outs h
  unfold S_lplus at h
  split at h
  · rename_i a b c d
    obtain ⟨⟨h1, h0, h2, h3, h4, h5⟩, h⟩ := ite_ok h
    cases h
    have hr := lratio_r (a := a * d + c * b) h1 h0
    exact ⟨rfl, by simp [runD_r, startE, m_law_plus, mulD_i (bg_mul h2 h5), mulD_i (bg_mul h4 h3), mulD_i (bg_mul h3 h5), hr]⟩
  · cases h
theorem sem_lminus : ∀ cs c outs, S_lminus cs = .ok (c, outs) → cs.length = 2 ∧ runD 2 (m_law_minus S_lratio) cs = .ok (c, outs) := by
  intro cs c outs h
  unfold S_lminus at h
  split at h
  · rename_i a b c d
    obtain ⟨⟨h1, h0, h2, h3, h4, h5⟩, h⟩ := ite_ok h
    cases h
    have hr := lratio_r (a := a * d - c * b) h1 h0
    exact ⟨rfl, by simp [runD_r, startE, m_law_minus, mulD_i (bg_mul h2 h5), mulD_i (bg_mul h4 h3), mulD_i (bg_mul h3 h5), hr]⟩
  · cases h
theorem sem_less : ∀ cs c outs, S_less cs = .ok (c, outs) → cs.length = 2 ∧ runD 2 m_law_less cs = .ok (c, outs) := by
  intro cs c outs h
  unfold S_less at h
  split at h
  · rename_i a b c d
    obtain ⟨⟨h2, h3, h4, h5⟩, h⟩ := ite_ok h
    cases h
    exact ⟨rfl, by simp [runD_r, startE, m_law_less, mulD_i (bg_mul h2 h5), mulD_i (bg_mul h4 h3)]⟩
  · cases h
theorem sem_compare : ∀ cs c outs, S_compare cs = .ok (c, outs) → cs.length = 2 ∧ runD 3 m_compare cs = .ok (c, outs) := by
  intro cs c outs h
  unfold S_compare at h
  split at h
  · rename_i a b c d
    obtain ⟨⟨h2, h3, h4, h5⟩, h⟩ := ite_ok h
    cases h
    refine ⟨rfl, ?_⟩
    by_cases h0 : a * d - c * b = 0
    · simp [runD_r, startE, m_compare, mulD_i (bg_mul h2 h5), mulD_i (bg_mul h4 h3), h0]
    · by_cases h1 : c * b < a * d
      · simp [runD_r, startE, m_compare, mulD_i (bg_mul h2 h5), mulD_i (bg_mul h4 h3), h0, h1]
      · simp [runD_r, startE, m_compare, mulD_i (bg_mul h2 h5), mulD_i (bg_mul h4 h3), h0, h1]
  · cases h
end Sh

namespace Md
open PySem L2 DL PyProof.Rows
noncomputable def m_terms_t1 : M Bool :=
  (mBool (m2 gtD (mH (mN (mVar 2))) (mH (mN (mC (.int 0))))))
noncomputable def m_terms_w1 : En → Out :=
  (sSeq (sApp 3 (mZ (m2 fdivD (mH (mN (mVar 1))) (mH (mN (mVar 2))))))
    (sParN 1 2 (mN (mVar 2)) (mN (mZ (m2 subD (mH (mN (mVar 1))) (mH (m2 mulD (mH (m2 fdivD (mH (mN (mVar 1))) (mH (mN (mVar 2))))) (mH (mN (mVar 2))))))))))
noncomputable def m_terms : En → Out :=
  (sSeq (sTgt (tgT [(tgN 1), (tgN 2)]) (mVar 0))
    (sSeq (sAsg 3 (mLst aNil))
    (sSeq (sWhile m_terms_t1 m_terms_w1)
    (sRet (mL tupleD (aCons (mSl 3) aNil))))))
noncomputable def m_from_terms_b1 : En → Out :=
  (sParN 1 2 (mN (mZ (m2 addD (mH (m2 mulD (mH (mN (mVar 3))) (mH (mN (mVar 1))))) (mH (mN (mVar 2)))))) (mN (mVar 1)))
noncomputable def m_from_terms : En → Out :=
  (sSeq (sTgt (tgT [(tgN 1), (tgN 2)]) (mTup (aCons (mC (.int 1)) (aCons (mC (.int 0)) aNil))))
    (sSeq (sFor (mRev (mVar 0)) (tgN 3) m_from_terms_b1)
    (sRet (mN (mTup (aCons (mVar 1) (aCons (mVar 2) aNil)))))))
noncomputable def m_steps_e1 : M D :=
  (mTup (aCons (mZ (mIf (mBool (m2 eqD (mH (m2 modD (mH (mN (mVar 2))) (mH (mN (mC (.int 2)))))) (mH (mN (mC (.int 1)))))) (mN (mC (.str "L"))) (mN (mC (.str "R"))))) (aCons (mVar 3) aNil)))
noncomputable def m_steps (S_terms : Sf) : En → Out :=
  (sSeq (sAsg 1 (mL listD (aCons (mH (mCall S_terms (aCons (aD (mVar 0)) aNil))) aNil)))
    (sSeq (sLAug subD 1 (mZ (m1 negD (mH (mN (mC (.int 1)))))) (mC (.int 1)))
    (sFrz 1 (sRet (mL tupleD (aCons (mH (mComp (mEnum (mVar 1)) (tgT [(tgN 2), (tgN 3)]) [2, 3] mYes m_steps_e1)) aNil))))))
noncomputable def m_simplest_t1 : M Bool :=
  (mBool (m2 gtD (mH (m2 mulD (mH (m1 negD (mH (m2 fdivD (mH (m1 negD (mH (mN (mVar 2))))) (mH (mN (mVar 3))))))) (mH (mN (mVar 5))))) (mH (mN (mVar 4)))))
noncomputable def m_simplest_w1 : En → Out :=
  (sSeq (sAsgF 7 (mZ (m2 fdivD (mH (mN (mVar 2))) (mH (mN (mVar 3))))))
    (sSeq (sApp 6 (mVar 7))
    (sTgt (tgT [(tgN 2), (tgN 3), (tgN 4), (tgN 5)]) (mTup (aCons (mVar 5) (aCons (mZ (m2 subD (mH (mN (mVar 4))) (mH (m2 mulD (mH (mN (mVar 7))) (mH (mN (mVar 5))))))) (aCons (mVar 3) (aCons (mZ (m2 subD (mH (mN (mVar 2))) (mH (m2 mulD (mH (mN (mVar 7))) (mH (mN (mVar 3))))))) aNil))))))))
noncomputable def m_simplest (S_compare S_minus S_plus S_from_terms : Sf) : En → Out :=
  (sSeq (sIf (mBool (m2 leD (mH (mCall S_compare (aCons (aD (mVar 0)) (aCons (aD (mVar 1)) aNil)))) (mH (mN (mC (.int 0)))))) (sRet (mN (mTup (aCons (mC (.int 0)) (aCons (mC (.int 1)) aNil))))) sNext)
    (sSeq (sTgt (tgT [(tgN 2), (tgN 3)]) (mZ (mCall S_minus (aCons (aD (mVar 0)) (aCons (aD (mVar 1)) aNil)))))
    (sSeq (sTgt (tgT [(tgN 4), (tgN 5)]) (mZ (mCall S_plus (aCons (aD (mVar 0)) (aCons (aD (mVar 1)) aNil)))))
    (sSeq (sAsg 6 (mLst aNil))
    (sSeq (sWhile m_simplest_t1 m_simplest_w1)
    (sSeq (sApp 6 (mZ (m1 negD (mH (m2 fdivD (mH (m1 negD (mH (mN (mVar 2))))) (mH (mN (mVar 3))))))))
    (sFrz 6 (sRet (mCall S_from_terms (aCons (aD (mVar 6)) aNil))))))))))
noncomputable def m_law_terms_t1 : M Bool :=
  (mBool (m2 neD (mH (mN (mVar 3))) (mH (mN (mC (.int 0))))))
noncomputable def m_law_terms_w1 : En → Out :=
  (sSeq (sApp 1 (mZ (m2 fdivD (mH (mN (mVar 2))) (mH (mN (mVar 3))))))
    (sParN 2 3 (mN (mVar 3)) (mN (mZ (m2 subD (mH (mN (mVar 2))) (mH (m2 mulD (mH (m2 fdivD (mH (mN (mVar 2))) (mH (mN (mVar 3))))) (mH (mN (mVar 3))))))))))
noncomputable def m_law_terms : En → Out :=
  (sSeq (sAsg 1 (mLst aNil))
    (sSeq (sTgt (tgT [(tgN 2), (tgN 3)]) (mVar 0))
    (sSeq (sWhile m_law_terms_t1 m_law_terms_w1)
    (sRet (mL tupleD (aCons (mSl 1) aNil))))))
noncomputable def m_law_steps_t1 : M Bool :=
  (mBool (m2 neD (mH (mN (mVar 4))) (mH (mN (mVar 0)))))
noncomputable def m_law_steps_w1 : En → Out :=
  (sSeq (sIf (mBool (m2 ltD (mH (m2 mulD (mH (m2 ixD (mH (mN (mVar 4))) (mH (mN (mC (.int 0)))))) (mH (m2 ixD (mH (mN (mVar 0))) (mH (mN (mC (.int 1)))))))) (mH (m2 mulD (mH (m2 ixD (mH (mN (mVar 0))) (mH (mN (mC (.int 0)))))) (mH (m2 ixD (mH (mN (mVar 4))) (mH (mN (mC (.int 1)))))))))) (sSeq (sApp 3 (mC (.str "R")))
    (sAsgF 1 (mVar 4))) (sSeq (sApp 3 (mC (.str "L")))
    (sAsgF 2 (mVar 4))))
    (sAsgF 4 (mTup (aCons (mZ (m2 addD (mH (m2 ixD (mH (mN (mVar 1))) (mH (mN (mC (.int 0)))))) (mH (m2 ixD (mH (mN (mVar 2))) (mH (mN (mC (.int 0)))))))) (aCons (mZ (m2 addD (mH (m2 ixD (mH (mN (mVar 1))) (mH (mN (mC (.int 1)))))) (mH (m2 ixD (mH (mN (mVar 2))) (mH (mN (mC (.int 1)))))))) aNil)))))
noncomputable def m_law_steps_b1 : En → Out :=
  (sIf (mBool (m2 eqD (mH (m2 ixD (mH (m2 ixD (mSl 5) (mH (m1 negD (mH (mN (mC (.int 1)))))))) (mH (mN (mC (.int 0)))))) (mH (mN (mVar 6))))) (sLPut 5 (mZ (m1 negD (mH (mN (mC (.int 1)))))) (mTup (aCons (mVar 6) (aCons (mZ (m2 addD (mH (m2 ixD (mH (m2 ixD (mSl 5) (mH (m1 negD (mH (mN (mC (.int 1)))))))) (mH (mN (mC (.int 1)))))) (mH (mN (mC (.int 1)))))) aNil)))) (sApp 5 (mTup (aCons (mVar 6) (aCons (mC (.int 1)) aNil)))))
noncomputable def m_law_steps : En → Out :=
  (sSeq (sTgt (tgT [(tgN 1), (tgN 2)]) (mTup (aCons (mTup (aCons (mC (.int 0)) (aCons (mC (.int 1)) aNil))) (aCons (mTup (aCons (mC (.int 1)) (aCons (mC (.int 0)) aNil))) aNil))))
    (sSeq (sAsg 3 (mLst aNil))
    (sSeq (sAsgF 4 (mTup (aCons (mC (.int 1)) (aCons (mC (.int 1)) aNil))))
    (sSeq (sWhile m_law_steps_t1 m_law_steps_w1)
    (sSeq (sAsg 5 (mLst (aCons (mTup (aCons (mC (.str "R")) (aCons (mC (.int 0)) aNil))) aNil)))
    (sFrz 3 (sSeq (sFor (mSeqA (mVar 3)) (tgN 6) m_law_steps_b1)
    (sRet (mL tupleD (aCons (mSl 5) aNil))))))))))
noncomputable def m_law_simplest_b1 (S_law_less S_law_ratio : Sf) : En → Out :=
  (sSeq (sAsgF 5 (mZ (m2 subD (mH (mN (mC (.int 0)))) (mH (m2 fdivD (mH (m2 subD (mH (mN (mC (.int 0)))) (mH (m2 mulD (mH (m2 ixD (mH (mN (mVar 2))) (mH (mN (mC (.int 0)))))) (mH (mN (mVar 4))))))) (mH (m2 ixD (mH (mN (mVar 2))) (mH (mN (mC (.int 1)))))))))))
    (sIf (mNot (mTru (mH (mCall S_law_less (aCons (aD (mVar 3)) (aCons (aD (mTup (aCons (mVar 5) (aCons (mVar 4) aNil)))) aNil)))))) (sRet (mCall S_law_ratio (aCons (aD (mVar 5)) (aCons (aD (mVar 4)) aNil)))) sNext))
noncomputable def m_law_simplest (S_law_minus S_law_plus S_law_less S_law_ratio : Sf) : En → Out :=
  (sSeq (sParN 2 3 (mN (mZ (mCall S_law_minus (aCons (aD (mVar 0)) (aCons (aD (mVar 1)) aNil))))) (mN (mZ (mCall S_law_plus (aCons (aD (mVar 0)) (aCons (aD (mVar 1)) aNil))))))
    (sSeq (sIf (mBool (m2 ltD (mH (m2 ixD (mH (mN (mVar 2))) (mH (mN (mC (.int 0)))))) (mH (mN (mC (.int 0)))))) (sAsgF 2 (mTup (aCons (mC (.int 0)) (aCons (mC (.int 1)) aNil)))) sNext)
    (sSeq (sFor (mRng2 (aCons (mC (.int 1)) (aCons (mC (.int 2000)) aNil))) (tgN 4) (m_law_simplest_b1 S_law_less S_law_ratio))
    (sRet (mN (mC .none))))))
noncomputable def m_law_4c3d87_b1 (S_law_ratio S_law_draw S_law_terms S_law_like S_terms S_from_terms S_steps S_law_steps S_simplest S_law_simplest : Sf) : En → Out :=
  (sSeq (sAsgF 3 (mZ (mCall S_law_ratio (aCons (aD (mZ (m2 addD (mH (mN (mC (.int 1)))) (mH (mCall S_law_draw (aCons (aS 1) (aCons (aD (mC (.int 90))) aNil))))))) (aCons (aD (mZ (m2 addD (mH (mN (mC (.int 1)))) (mH (mCall S_law_draw (aCons (aS 1) (aCons (aD (mC (.int 90))) aNil))))))) aNil)))))
    (sSeq (sAsgF 4 (mZ (mCall S_law_terms (aCons (aD (mVar 3)) aNil))))
    (sSeq (sIf (mOr (mNot (mTru (mH (mCall S_law_like (aCons (aD (mZ (mCall S_terms (aCons (aD (mVar 3)) aNil)))) (aCons (aD (mVar 4)) aNil)))))) (mOr (mNot (mTru (mH (mCall S_law_like (aCons (aD (mZ (mCall S_from_terms (aCons (aD (mVar 4)) aNil)))) (aCons (aD (mVar 3)) aNil)))))) (mNot (mTru (mH (mCall S_law_like (aCons (aD (mZ (mCall S_steps (aCons (aD (mVar 3)) aNil)))) (aCons (aD (mZ (mCall S_law_steps (aCons (aD (mVar 3)) aNil)))) aNil)))))))) (sRet (mN (mC (.bool false)))) sNext)
    (sSeq (sIf (mAnd (mBool (m2 gtD (mH (m2 ixD (mH (mN (mVar 4))) (mH (m1 negD (mH (mN (mC (.int 1)))))))) (mH (mN (mC (.int 1)))))) (mNot (mTru (mH (mCall S_law_like (aCons (aD (mZ (mCall S_from_terms (aCons (aD (mZ (m2 addD (mH (mSlice (mH (mN (mVar 4))) mO0 (mO1 (mZ (m1 negD (mH (mN (mC (.int 1))))))))) (mH (mN (mTup (aCons (mZ (m2 subD (mH (m2 ixD (mH (mN (mVar 4))) (mH (m1 negD (mH (mN (mC (.int 1)))))))) (mH (mN (mC (.int 1)))))) (aCons (mC (.int 1)) aNil)))))))) aNil)))) (aCons (aD (mVar 3)) aNil))))))) (sRet (mN (mC (.bool false)))) sNext)
    (sSeq (sAsgF 5 (mZ (mCall S_law_ratio (aCons (aD (mZ (m2 addD (mH (mN (mC (.int 1)))) (mH (mCall S_law_draw (aCons (aS 1) (aCons (aD (mC (.int 20))) aNil))))))) (aCons (aD (mZ (m2 addD (mH (mN (mC (.int 1)))) (mH (mCall S_law_draw (aCons (aS 1) (aCons (aD (mC (.int 900))) aNil))))))) aNil)))))
    (sIf (mNot (mTru (mH (mCall S_law_like (aCons (aD (mZ (mCall S_simplest (aCons (aD (mVar 3)) (aCons (aD (mVar 5)) aNil))))) (aCons (aD (mZ (mCall S_law_simplest (aCons (aD (mVar 3)) (aCons (aD (mVar 5)) aNil))))) aNil)))))) (sRet (mN (mC (.bool false)))) sNext))))))
noncomputable def m_law_4c3d87_e1 (S_law_draw : Sf) : M D :=
  (mZ (m2 addD (mH (mN (mC (.int 1)))) (mH (mCall S_law_draw (aCons (aS 1) (aCons (aD (mC (.int 60))) aNil))))))
noncomputable def m_law_4c3d87_e2 : M D :=
  (mTup (aCons (mZ (m2 ixD (mH (mLst (aCons (mC (.str "R")) (aCons (mC (.str "L")) aNil)))) (mH (m2 modD (mH (mL intD (aCons (mH (mN (mVar 8))) aNil))) (mH (mN (mC (.int 2)))))))) (aCons (mZ (m2 ixD (mH (mN (mVar 6))) (mH (mN (mVar 8))))) aNil)))
noncomputable def m_law_4c3d87 (S_law_digits S_law_ratio S_law_draw S_law_terms S_law_like S_terms S_from_terms S_steps S_law_steps S_simplest S_law_simplest : Sf) : En → Out :=
  (sSeq (sAsg 1 (mLst (aCons (mZ (mCall S_law_digits (aCons (aD (mVar 0)) (aCons (aD (mC (.int 0))) (aCons (aD (mC (.int 63))) aNil))))) (aCons (mC (.int 0)) aNil))))
    (sSeq (sFor (mRng1 (aCons (mC (.int 4)) aNil)) (tgN 2) (m_law_4c3d87_b1 S_law_ratio S_law_draw S_law_terms S_law_like S_terms S_from_terms S_steps S_law_steps S_simplest S_law_simplest))
    (sSeq (sIf (mNot (mTru (mH (mCall S_law_like (aCons (aD (mTup (aCons (mZ (mCall S_terms (aCons (aD (mTup (aCons (mC (.int 0)) (aCons (mC (.int 1)) aNil)))) aNil))) (aCons (mZ (mCall S_terms (aCons (aD (mTup (aCons (mC (.int 7)) (aCons (mC (.int 1)) aNil)))) aNil))) (aCons (mZ (mCall S_steps (aCons (aD (mTup (aCons (mC (.int 1)) (aCons (mC (.int 1)) aNil)))) aNil))) (aCons (mZ (mCall S_simplest (aCons (aD (mTup (aCons (mC (.int 5)) (aCons (mC (.int 7)) aNil)))) (aCons (aD (mTup (aCons (mC (.int 1)) (aCons (mC (.int 1)) aNil)))) aNil)))) aNil)))))) (aCons (aD (mTup (aCons (mTup (aCons (mC (.int 0)) aNil)) (aCons (mTup (aCons (mC (.int 7)) aNil)) (aCons (mTup (aCons (mTup (aCons (mC (.str "R")) (aCons (mC (.int 0)) aNil))) aNil)) (aCons (mTup (aCons (mC (.int 0)) (aCons (mC (.int 1)) aNil))) aNil)))))) aNil)))))) (sRet (mN (mC (.bool false)))) sNext)
    (sSeq (sAsgF 6 (mZ (mL tupleD (aCons (mH (m2 addD (mH (m2 addD (mH (mLst (aCons (mZ (mCall S_law_draw (aCons (aS 1) (aCons (aD (mC (.int 9))) aNil)))) aNil))) (mH (mComp (mRng1 (aCons (mZ (mCall S_law_draw (aCons (aS 1) (aCons (aD (mC (.int 12))) aNil)))) aNil)) (tgN 8) [8] mYes (m_law_4c3d87_e1 S_law_draw))))) (mH (mLst (aCons (mZ (m2 addD (mH (mN (mC (.int 2)))) (mH (mCall S_law_draw (aCons (aS 1) (aCons (aD (mC (.int 9))) aNil)))))) aNil))))) aNil))))
    (sSeq (sAsgF 3 (mZ (mCall S_from_terms (aCons (aD (mVar 6)) aNil))))
    (sSeq (sIf (mOr (mNot (mTru (mH (mN (mIs "tuple" (mH (mN (mVar 3)))))))) (mOr (mBool (m2 neD (mH (mL lenD (aCons (mH (mN (mVar 3))) aNil))) (mH (mN (mC (.int 2)))))) (mNot (mTru (mH (mCall S_law_like (aCons (aD (mZ (mCall S_terms (aCons (aD (mVar 3)) aNil)))) (aCons (aD (mVar 6)) aNil)))))))) (sRet (mN (mC (.bool false)))) sNext)
    (sSeq (sIf (mAnd (mBool (m2 eqD (mH (m2 ixD (mH (mN (mVar 6))) (mH (mN (mC (.int 0)))))) (mH (mN (mC (.int 0)))))) (mBool (m2 eqD (mH (mL lenD (aCons (mH (mN (mVar 6))) aNil))) (mH (mN (mC (.int 1))))))) (sRet (mN (mC (.bool true)))) sNext)
    (sSeq (sAsg 7 (mComp (mRng1 (aCons (mZ (mL lenD (aCons (mH (mN (mVar 6))) aNil))) aNil)) (tgN 8) [8] mYes m_law_4c3d87_e2))
    (sSeq (sLPut 7 (mZ (m1 negD (mH (mN (mC (.int 1)))))) (mTup (aCons (mZ (m2 ixD (mH (m2 ixD (mSl 7) (mH (m1 negD (mH (mN (mC (.int 1)))))))) (mH (mN (mC (.int 0)))))) (aCons (mZ (m2 subD (mH (m2 ixD (mH (m2 ixD (mSl 7) (mH (m1 negD (mH (mN (mC (.int 1)))))))) (mH (mN (mC (.int 1)))))) (mH (mN (mC (.int 1)))))) aNil))))
    (sRet (mCall S_law_like (aCons (aD (mZ (mCall S_steps (aCons (aD (mVar 3)) aNil)))) (aCons (aD (mZ (mL tupleD (aCons (mSl 7) aNil)))) aNil)))))))))))))
end Md
namespace Lk14
open PySem L2 DL PyProof.Rows Md
def topS (i : Nat) : Stmt := PySem.Challenge.pw_truewheel_k14_nearest_steps.main.body.getD i (.Pass ⟨0, 0, 0, 0⟩)
structure Txt (mg : Str → Option Value) : Prop where
  b_abs : mg "abs" = none
  b_bool : mg "bool" = none
  b_enumerate : mg "enumerate" = none
  i_gcd : mg "gcd" = some (.builtin "math.gcd")
  b_int : mg "int" = none
  b_isinstance : mg "isinstance" = none
  b_len : mg "len" = none
  b_list : mg "list" = none
  b_range : mg "range" = none
  b_reversed : mg "reversed" = none
  b_str : mg "str" = none
  b_tuple : mg "tuple" = none
/-! ratio -/
abbrev s_ratio : Stmt := topS 2
abbrev N_ratio : List Str := ["a", "b", "common"]
abbrev p_ratio : List Str := ["a", "b"]
theorem sc_ratio : FnScope N_ratio p_ratio (defScope s_ratio) := ⟨rfl, rfl, rfl, by decide +kernel, rfl, by decide +kernel, by decide +kernel⟩
/-! plus -/
abbrev s_plus : Stmt := topS 3
abbrev N_plus : List Str := ["one", "other"]
abbrev p_plus : List Str := ["one", "other"]
theorem sc_plus : FnScope N_plus p_plus (defScope s_plus) := ⟨rfl, rfl, rfl, by decide +kernel, rfl, by decide +kernel, by decide +kernel⟩
/-! minus -/
abbrev s_minus : Stmt := topS 4
abbrev N_minus : List Str := ["one", "other"]
abbrev p_minus : List Str := ["one", "other"]
theorem sc_minus : FnScope N_minus p_minus (defScope s_minus) := ⟨rfl, rfl, rfl, by decide +kernel, rfl, by decide +kernel, by decide +kernel⟩
/-! compare -/
abbrev s_compare : Stmt := topS 5
abbrev N_compare : List Str := ["one", "other", "apart"]
abbrev p_compare : List Str := ["one", "other"]
theorem sc_compare : FnScope N_compare p_compare (defScope s_compare) := ⟨rfl, rfl, rfl, by decide +kernel, rfl, by decide +kernel, by decide +kernel⟩
/-! terms -/
abbrev s_terms : Stmt := topS 7
abbrev N_terms : List Str := ["x", "p", "q", "row"]
abbrev p_terms : List Str := ["x"]
theorem sc_terms : FnScope N_terms p_terms (defScope s_terms) := ⟨rfl, rfl, rfl, by decide +kernel, rfl, by decide +kernel, by decide +kernel⟩
/-! from_terms -/
abbrev s_from_terms : Stmt := topS 8
abbrev N_from_terms : List Str := ["row", "p", "q", "term"]
abbrev p_from_terms : List Str := ["row"]
theorem sc_from_terms : FnScope N_from_terms p_from_terms (defScope s_from_terms) := ⟨rfl, rfl, rfl, by decide +kernel, rfl, by decide +kernel, by decide +kernel⟩
/-! steps -/
abbrev s_steps : Stmt := topS 9
abbrev N_steps : List Str := ["x", "row", "place", "number"]
abbrev p_steps : List Str := ["x"]
theorem sc_steps : FnScope N_steps p_steps (defScope s_steps) := ⟨rfl, rfl, rfl, by decide +kernel, rfl, by decide +kernel, by decide +kernel⟩
/-! simplest -/
abbrev s_simplest : Stmt := topS 10
abbrev N_simplest : List Str := ["x", "e", "a", "b", "c", "d", "row", "term"]
abbrev p_simplest : List Str := ["x", "e"]
theorem sc_simplest : FnScope N_simplest p_simplest (defScope s_simplest) := ⟨rfl, rfl, rfl, by decide +kernel, rfl, by decide +kernel, by decide +kernel⟩
/-! _law_cell -/
abbrev s_law_cell : Stmt := topS 12
abbrev N_law_cell : List Str := ["script", "k"]
abbrev p_law_cell : List Str := ["script", "k"]
theorem sc_law_cell : FnScope N_law_cell p_law_cell (defScope s_law_cell) := ⟨rfl, rfl, rfl, by decide +kernel, rfl, by decide +kernel, by decide +kernel⟩
/-! _law_digits -/
abbrev s_law_digits : Stmt := topS 13
abbrev N_law_digits : List Str := ["script", "first", "last", "digits", "k", "cell", "turn", "seed"]
abbrev p_law_digits : List Str := ["script", "first", "last"]
theorem sc_law_digits : FnScope N_law_digits p_law_digits (defScope s_law_digits) := ⟨rfl, rfl, rfl, by decide +kernel, rfl, by decide +kernel, by decide +kernel⟩
/-! _law_draw -/
abbrev s_law_draw : Stmt := topS 14
abbrev N_law_draw : List Str := ["box", "many", "at"]
abbrev p_law_draw : List Str := ["box", "many"]
theorem sc_law_draw : FnScope N_law_draw p_law_draw (defScope s_law_draw) := ⟨rfl, rfl, rfl, by decide +kernel, rfl, by decide +kernel, by decide +kernel⟩
/-! _law_like -/
abbrev s_law_like : Stmt := topS 15
abbrev N_law_like : List Str := ["told", "due", "k"]
abbrev p_law_like : List Str := ["told", "due"]
theorem sc_law_like : FnScope N_law_like p_law_like (defScope s_law_like) := ⟨rfl, rfl, rfl, by decide +kernel, rfl, by decide +kernel, by decide +kernel⟩
/-! _law_gcd -/
abbrev s_law_gcd : Stmt := topS 16
abbrev N_law_gcd : List Str := ["one", "other", "turn"]
abbrev p_law_gcd : List Str := ["one", "other"]
theorem sc_law_gcd : FnScope N_law_gcd p_law_gcd (defScope s_law_gcd) := ⟨rfl, rfl, rfl, by decide +kernel, rfl, by decide +kernel, by decide +kernel⟩
/-! _law_ratio -/
abbrev s_law_ratio : Stmt := topS 17
abbrev N_law_ratio : List Str := ["a", "b", "step"]
abbrev p_law_ratio : List Str := ["a", "b"]
theorem sc_law_ratio : FnScope N_law_ratio p_law_ratio (defScope s_law_ratio) := ⟨rfl, rfl, rfl, by decide +kernel, rfl, by decide +kernel, by decide +kernel⟩
/-! _law_plus -/
abbrev s_law_plus : Stmt := topS 18
abbrev N_law_plus : List Str := ["one", "other"]
abbrev p_law_plus : List Str := ["one", "other"]
theorem sc_law_plus : FnScope N_law_plus p_law_plus (defScope s_law_plus) := ⟨rfl, rfl, rfl, by decide +kernel, rfl, by decide +kernel, by decide +kernel⟩
/-! _law_minus -/
abbrev s_law_minus : Stmt := topS 19
abbrev N_law_minus : List Str := ["one", "other"]
abbrev p_law_minus : List Str := ["one", "other"]
theorem sc_law_minus : FnScope N_law_minus p_law_minus (defScope s_law_minus) := ⟨rfl, rfl, rfl, by decide +kernel, rfl, by decide +kernel, by decide +kernel⟩
/-! _law_less -/
abbrev s_law_less : Stmt := topS 20
abbrev N_law_less : List Str := ["one", "other"]
abbrev p_law_less : List Str := ["one", "other"]
theorem sc_law_less : FnScope N_law_less p_law_less (defScope s_law_less) := ⟨rfl, rfl, rfl, by decide +kernel, rfl, by decide +kernel, by decide +kernel⟩
/-! _law_terms -/
abbrev s_law_terms : Stmt := topS 21
abbrev N_law_terms : List Str := ["x", "found", "p", "q"]
abbrev p_law_terms : List Str := ["x"]
theorem sc_law_terms : FnScope N_law_terms p_law_terms (defScope s_law_terms) := ⟨rfl, rfl, rfl, by decide +kernel, rfl, by decide +kernel, by decide +kernel⟩
/-! _law_steps -/
abbrev s_law_steps : Stmt := topS 22
abbrev N_law_steps : List Str := ["x", "left", "right", "word", "middle", "runs", "sign"]
abbrev p_law_steps : List Str := ["x"]
theorem sc_law_steps : FnScope N_law_steps p_law_steps (defScope s_law_steps) := ⟨rfl, rfl, rfl, by decide +kernel, rfl, by decide +kernel, by decide +kernel⟩
/-! _law_simplest -/
abbrev s_law_simplest : Stmt := topS 23
abbrev N_law_simplest : List Str := ["x", "e", "low", "high", "q", "p"]
abbrev p_law_simplest : List Str := ["x", "e"]
theorem sc_law_simplest : FnScope N_law_simplest p_law_simplest (defScope s_law_simplest) := ⟨rfl, rfl, rfl, by decide +kernel, rfl, by decide +kernel, by decide +kernel⟩
/-! law -/
abbrev s_law : Stmt := topS 24
abbrev N_law : List Str := ["script", "box", "turn", "x", "row", "e", "drawn", "runs", "k"]
abbrev p_law : List Str := ["script"]
theorem sc_law : FnScope N_law p_law (defScope s_law) := ⟨rfl, rfl, rfl, by decide +kernel, rfl, by decide +kernel, by decide +kernel⟩
section
variable {P : Program} {w : World} {K : PySem.W.Frag} {mg : Str → Option Value} {base : Heap}
theorem der_ratio {f : Addr} {fd : FuncData} (A : At1 K mg "ratio" s_ratio p_ratio f fd) (T : Txt mg) {k : Nat} {S : Sf} (hS : ∀ cs c outs, S cs = .ok (c, outs) → cs.length = 2 ∧ runD 3 m_ratio cs = .ok (c, outs)) : DFn P w K mg base "ratio" (k + 1) S :=
  dfn_ok A sc_ratio (by decide) m_ratio (fun cdv A outer s H E hr =>
    (pds_cons (pds_setF (i := 2) sc_ratio.nd rfl (.inl rfl) (pf_n (pn_fun cr_gcd snd_gcd (by rfl) T.i_gcd (pah_cons (ph_f (pf_var (pv 0))) (pah_cons (ph_f (pf_var (pv 1))) pah_nil)))))
    (pds_cons (pds_if (ptd_cmp op_ltA snd_lt (nomark _) (ph_f (pf_var (pv 1))) (ph_n (pn_f pf_int))) (pds_one (pds_setF (i := 2) sc_ratio.nd rfl (.inl rfl) (pf_n (pn_un un_neg snd_neg (ph_f (pf_var (pv 2))))))) pds_nil)
    (pds_one (pds_ret (pn_f (pf_tup (pad_cons (pf_n (pn_op op_fdivA snd_fdiv (ph_f (pf_var (pv 0))) (ph_f (pf_var (pv 2))))) (pad_cons (pf_n (pn_op op_fdivA snd_fdiv (ph_f (pf_var (pv 1))) (ph_f (pf_var (pv 2))))) pad_nil))))))))) hS
theorem der_plus {f : Addr} {fd : FuncData} (A : At1 K mg "plus" s_plus p_plus f fd) (T : Txt mg) {S_ratio : Sf} {j_ratio : Nat} (c_ratio : DFn P w K mg base "ratio" j_ratio S_ratio) {k : Nat} (h_ratio : j_ratio ≤ k) {S : Sf} (hS : ∀ cs c outs, S cs = .ok (c, outs) → cs.length = 2 ∧ runD 2 (m_plus S_ratio) cs = .ok (c, outs)) : DFn P w K mg base "plus" (k + 1) S :=
  dfn_ok A sc_plus (by decide) (m_plus S_ratio) (fun cdv A outer s H E hr =>
    (pds_one (pds_ret (pn_cd c_ratio hr h_ratio (by rfl) (pag_cons (pf_n (pn_op op_addA snd_add (ph_n (pn_op op_mulA snd_mul (ph_n (pn_ix ix_seq snd_ix (ph_f (pf_var (pv 0))) (ph_n (pn_f pf_int)) (fun _ _ => rfl))) (ph_n (pn_ix ix_seq snd_ix (ph_f (pf_var (pv 1))) (ph_n (pn_f pf_int)) (fun _ _ => rfl))))) (ph_n (pn_op op_mulA snd_mul (ph_n (pn_ix ix_seq snd_ix (ph_f (pf_var (pv 1))) (ph_n (pn_f pf_int)) (fun _ _ => rfl))) (ph_n (pn_ix ix_seq snd_ix (ph_f (pf_var (pv 0))) (ph_n (pn_f pf_int)) (fun _ _ => rfl))))))) (pag_cons (pf_n (pn_op op_mulA snd_mul (ph_n (pn_ix ix_seq snd_ix (ph_f (pf_var (pv 0))) (ph_n (pn_f pf_int)) (fun _ _ => rfl))) (ph_n (pn_ix ix_seq snd_ix (ph_f (pf_var (pv 1))) (ph_n (pn_f pf_int)) (fun _ _ => rfl))))) pag_nil)))))) hS
theorem der_minus {f : Addr} {fd : FuncData} (A : At1 K mg "minus" s_minus p_minus f fd) (T : Txt mg) {S_ratio : Sf} {j_ratio : Nat} (c_ratio : DFn P w K mg base "ratio" j_ratio S_ratio) {k : Nat} (h_ratio : j_ratio ≤ k) {S : Sf} (hS : ∀ cs c outs, S cs = .ok (c, outs) → cs.length = 2 ∧ runD 2 (m_minus S_ratio) cs = .ok (c, outs)) : DFn P w K mg base "minus" (k + 1) S :=
  dfn_ok A sc_minus (by decide) (m_minus S_ratio) (fun cdv A outer s H E hr =>
    (pds_one (pds_ret (pn_cd c_ratio hr h_ratio (by rfl) (pag_cons (pf_n (pn_op op_sub snd_sub (ph_n (pn_op op_mulA snd_mul (ph_n (pn_ix ix_seq snd_ix (ph_f (pf_var (pv 0))) (ph_n (pn_f pf_int)) (fun _ _ => rfl))) (ph_n (pn_ix ix_seq snd_ix (ph_f (pf_var (pv 1))) (ph_n (pn_f pf_int)) (fun _ _ => rfl))))) (ph_n (pn_op op_mulA snd_mul (ph_n (pn_ix ix_seq snd_ix (ph_f (pf_var (pv 1))) (ph_n (pn_f pf_int)) (fun _ _ => rfl))) (ph_n (pn_ix ix_seq snd_ix (ph_f (pf_var (pv 0))) (ph_n (pn_f pf_int)) (fun _ _ => rfl))))))) (pag_cons (pf_n (pn_op op_mulA snd_mul (ph_n (pn_ix ix_seq snd_ix (ph_f (pf_var (pv 0))) (ph_n (pn_f pf_int)) (fun _ _ => rfl))) (ph_n (pn_ix ix_seq snd_ix (ph_f (pf_var (pv 1))) (ph_n (pn_f pf_int)) (fun _ _ => rfl))))) pag_nil)))))) hS
theorem der_compare {f : Addr} {fd : FuncData} (A : At1 K mg "compare" s_compare p_compare f fd) (T : Txt mg) {k : Nat} {S : Sf} (hS : ∀ cs c outs, S cs = .ok (c, outs) → cs.length = 2 ∧ runD 3 m_compare cs = .ok (c, outs)) : DFn P w K mg base "compare" (k + 1) S :=
  dfn_ok A sc_compare (by decide) m_compare (fun cdv A outer s H E hr =>
    (pds_cons (pds_setF (i := 2) sc_compare.nd rfl (.inl rfl) (pf_n (pn_op op_sub snd_sub (ph_n (pn_op op_mulA snd_mul (ph_n (pn_ix ix_seq snd_ix (ph_f (pf_var (pv 0))) (ph_n (pn_f pf_int)) (fun _ _ => rfl))) (ph_n (pn_ix ix_seq snd_ix (ph_f (pf_var (pv 1))) (ph_n (pn_f pf_int)) (fun _ _ => rfl))))) (ph_n (pn_op op_mulA snd_mul (ph_n (pn_ix ix_seq snd_ix (ph_f (pf_var (pv 1))) (ph_n (pn_f pf_int)) (fun _ _ => rfl))) (ph_n (pn_ix ix_seq snd_ix (ph_f (pf_var (pv 0))) (ph_n (pn_f pf_int)) (fun _ _ => rfl))))))))
    (pds_cons (pds_if (ptd_cmp (op_eqA (hu64 hr)) snd_eq (nomark _) (ph_f (pf_var (pv 2))) (ph_n (pn_f pf_int))) (pds_one (pds_ret (pn_f pf_int))) pds_nil)
    (pds_one (pds_ret (pn_if (ptd_cmp op_gt snd_gt (nomark _) (ph_f (pf_var (pv 2))) (ph_n (pn_f pf_int))) (pn_f pf_int) (pn_un un_neg snd_neg (ph_n (pn_f pf_int))))))))) hS
theorem der_terms {f : Addr} {fd : FuncData} (A : At1 K mg "terms" s_terms p_terms f fd) (T : Txt mg) {k : Nat} {S : Sf} (hS : ∀ cs c outs, S cs = .ok (c, outs) → cs.length = 1 ∧ runD 4 m_terms cs = .ok (c, outs)) : DFn P w K mg base "terms" (k + 1) S :=
  dfn_ok A sc_terms (by decide) m_terms (fun cdv A outer s H E hr =>
    (pds_cons (pds_asg (pf_var (pv 0)) (pgd_tup rfl (pgds_cons (pgd_name (i := 1) sc_terms.nd rfl (.inl rfl)) (pgds_cons (pgd_name (i := 2) sc_terms.nd rfl (.inl rfl)) pgds_nil)) rfl))
    (pds_cons (pds_set (i := 3) sc_terms.nd rfl (.inl rfl) (pn_lst pad_nil))
    (pds_cons (pds_while PassesOwn.never (ptd_cmp op_gt snd_gt (nomark _) (ph_f (pf_var (pv 2))) (ph_n (pn_f pf_int))) (pds_cons (pds_app (i := 3) (pv 3) (pf_n (pn_op op_fdivA snd_fdiv (ph_f (pf_var (pv 1))) (ph_f (pf_var (pv 2))))))
    (pds_one (pds_parN (i := 1) (j := 2) rfl sc_terms.nd rfl rfl (by decide) rfl rfl (pn_f (pf_var (pv 2))) (pn_f (pf_n (pn_op op_sub snd_sub (ph_f (pf_var (pv 1))) (ph_n (pn_op op_mulA snd_mul (ph_n (pn_op op_fdivA snd_fdiv (ph_f (pf_var (pv 1))) (ph_f (pf_var (pv 2))))) (ph_f (pf_var (pv 2)))))))) (by rfl)))))
    (pds_one (pds_ret (pn_ty call_tuple_of snd_tuple (by rfl) T.b_tuple bt_tuple (pah_cons (ph_var (pv 3)) pah_nil)))))))) hS
theorem der_from_terms {f : Addr} {fd : FuncData} (A : At1 K mg "from_terms" s_from_terms p_from_terms f fd) (T : Txt mg) {k : Nat} {S : Sf} (hS : ∀ cs c outs, S cs = .ok (c, outs) → cs.length = 1 ∧ runD 4 m_from_terms cs = .ok (c, outs)) : DFn P w K mg base "from_terms" (k + 1) S :=
  dfn_ok A sc_from_terms (by decide) m_from_terms (fun cdv A outer s H E hr =>
    (pds_cons (pds_asg (pf_tup (pad_cons pf_int (pad_cons pf_int pad_nil))) (pgd_tup rfl (pgds_cons (pgd_name (i := 1) sc_from_terms.nd rfl (.inl rfl)) (pgds_cons (pgd_name (i := 2) sc_from_terms.nd rfl (.inl rfl)) pgds_nil)) rfl))
    (pds_cons (pds_for PassesOwn.never rfl (pid_rev (by rfl) T.b_reversed (pf_var (pv 0))) (pgd_name (i := 3) sc_from_terms.nd rfl (.inl rfl)) (pds_one (pds_parN (i := 1) (j := 2) rfl sc_from_terms.nd rfl rfl (by decide) rfl rfl (pn_f (pf_n (pn_op op_addA snd_add (ph_n (pn_op op_mulA snd_mul (ph_f (pf_var (pv 3))) (ph_f (pf_var (pv 1))))) (ph_f (pf_var (pv 2)))))) (pn_f (pf_var (pv 1))) (by rfl))))
    (pds_one (pds_ret (pn_f (pf_tup (pad_cons (pf_var (pv 1)) (pad_cons (pf_var (pv 2)) pad_nil))))))))) hS
theorem der_steps {f : Addr} {fd : FuncData} (A : At1 K mg "steps" s_steps p_steps f fd) (T : Txt mg) {S_terms : Sf} {j_terms : Nat} (c_terms : DFn P w K mg base "terms" j_terms S_terms) {k : Nat} (h_terms : j_terms ≤ k) {S : Sf} (hS : ∀ cs c outs, S cs = .ok (c, outs) → cs.length = 1 ∧ runD 4 (m_steps S_terms) cs = .ok (c, outs)) : DFn P w K mg base "steps" (k + 1) S :=
  dfn_ok A sc_steps (by decide) (m_steps S_terms) (fun cdv A outer s H E hr =>
    (pds_cons (pds_set (i := 1) sc_steps.nd rfl (.inl rfl) (pn_ty call_list_of snd_list (by rfl) T.b_list bt_list (pah_cons (ph_n (pn_cd c_terms hr h_terms (by rfl) (pag_cons (pf_var (pv 0)) pag_nil))) pah_nil)))
    (pds_cons (pds_augS (i := 1) (pv 1) (pf_n (pn_un un_neg snd_neg (ph_n (pn_f pf_int)))) pf_int iop_sub snd_sub)
    (pds_frz 1 (pds_one (pds_ret (pn_ty call_tuple_of snd_tuple (by rfl) T.b_tuple bt_tuple (pah_cons (ph_n (pn_lc (own := [("place", 2), ("number", 3)]) rfl sc_steps.nd (pid_enum (by rfl) T.b_enumerate (pad_cons (pf_var (pv 1)) pad_nil)) (blkOk_by (N := N_steps) (sc := defScope s_steps) (by decide +kernel)) (tgOk_t (.cons (tgOk_n 2) (.cons (tgOk_n 3) .nil))) (by decide) (fun _ _ _ _ _ => (pgd_tup rfl (pgds_cons (pgd_name (i := 2) sc_steps.nd rfl (.inl rfl)) (pgds_cons (pgd_name (i := 3) sc_steps.nd rfl (.inl rfl)) pgds_nil)) rfl)) (fun _ _ _ _ _ => ptsd_nil) (fun _ _ _ _ _ => (pf_tup (pad_cons (pf_n (pn_if (ptd_cmp (op_eqA (hu64 hr)) snd_eq (nomark _) (ph_n (pn_op op_modA snd_mod (ph_f (pf_var (pv 2))) (ph_n (pn_f pf_int)))) (ph_n (pn_f pf_int))) (pn_f pf_str) (pn_f pf_str))) (pad_cons (pf_var (pv 3)) pad_nil)))))) pah_nil)))))))) hS
theorem der_simplest {f : Addr} {fd : FuncData} (A : At1 K mg "simplest" s_simplest p_simplest f fd) (T : Txt mg) {S_compare : Sf} {j_compare : Nat} (c_compare : DFn P w K mg base "compare" j_compare S_compare) {S_minus : Sf} {j_minus : Nat} (c_minus : DFn P w K mg base "minus" j_minus S_minus) {S_plus : Sf} {j_plus : Nat} (c_plus : DFn P w K mg base "plus" j_plus S_plus) {S_from_terms : Sf} {j_from_terms : Nat} (c_from_terms : DFn P w K mg base "from_terms" j_from_terms S_from_terms) {k : Nat} (h_compare : j_compare ≤ k) (h_minus : j_minus ≤ k) (h_plus : j_plus ≤ k) (h_from_terms : j_from_terms ≤ k) {S : Sf} (hS : ∀ cs c outs, S cs = .ok (c, outs) → cs.length = 2 ∧ runD 8 (m_simplest S_compare S_minus S_plus S_from_terms) cs = .ok (c, outs)) : DFn P w K mg base "simplest" (k + 1) S :=
  dfn_ok A sc_simplest (by decide) (m_simplest S_compare S_minus S_plus S_from_terms) (fun cdv A outer s H E hr =>
    (pds_cons (pds_if (ptd_cmp op_le snd_le (nomark _) (ph_n (pn_cd c_compare hr h_compare (by rfl) (pag_cons (pf_var (pv 0)) (pag_cons (pf_var (pv 1)) pag_nil)))) (ph_n (pn_f pf_int))) (pds_one (pds_ret (pn_f (pf_tup (pad_cons pf_int (pad_cons pf_int pad_nil)))))) pds_nil)
    (pds_cons (pds_asg (pf_n (pn_cd c_minus hr h_minus (by rfl) (pag_cons (pf_var (pv 0)) (pag_cons (pf_var (pv 1)) pag_nil)))) (pgd_tup rfl (pgds_cons (pgd_name (i := 2) sc_simplest.nd rfl (.inl rfl)) (pgds_cons (pgd_name (i := 3) sc_simplest.nd rfl (.inl rfl)) pgds_nil)) rfl))
    (pds_cons (pds_asg (pf_n (pn_cd c_plus hr h_plus (by rfl) (pag_cons (pf_var (pv 0)) (pag_cons (pf_var (pv 1)) pag_nil)))) (pgd_tup rfl (pgds_cons (pgd_name (i := 4) sc_simplest.nd rfl (.inl rfl)) (pgds_cons (pgd_name (i := 5) sc_simplest.nd rfl (.inl rfl)) pgds_nil)) rfl))
    (pds_cons (pds_set (i := 6) sc_simplest.nd rfl (.inl rfl) (pn_lst pad_nil))
    (pds_cons (pds_while PassesOwn.never (ptd_cmp op_gt snd_gt (nomark _) (ph_n (pn_op op_mulA snd_mul (ph_n (pn_un un_neg snd_neg (ph_n (pn_op op_fdivA snd_fdiv (ph_n (pn_un un_neg snd_neg (ph_f (pf_var (pv 2))))) (ph_f (pf_var (pv 3))))))) (ph_f (pf_var (pv 5))))) (ph_f (pf_var (pv 4)))) (pds_cons (pds_setF (i := 7) sc_simplest.nd rfl (.inl rfl) (pf_n (pn_op op_fdivA snd_fdiv (ph_f (pf_var (pv 2))) (ph_f (pf_var (pv 3))))))
    (pds_cons (pds_app (i := 6) (pv 6) (pf_var (pv 7)))
    (pds_one (pds_asg (pf_tup (pad_cons (pf_var (pv 5)) (pad_cons (pf_n (pn_op op_sub snd_sub (ph_f (pf_var (pv 4))) (ph_n (pn_op op_mulA snd_mul (ph_f (pf_var (pv 7))) (ph_f (pf_var (pv 5))))))) (pad_cons (pf_var (pv 3)) (pad_cons (pf_n (pn_op op_sub snd_sub (ph_f (pf_var (pv 2))) (ph_n (pn_op op_mulA snd_mul (ph_f (pf_var (pv 7))) (ph_f (pf_var (pv 3))))))) pad_nil))))) (pgd_tup rfl (pgds_cons (pgd_name (i := 2) sc_simplest.nd rfl (.inl rfl)) (pgds_cons (pgd_name (i := 3) sc_simplest.nd rfl (.inl rfl)) (pgds_cons (pgd_name (i := 4) sc_simplest.nd rfl (.inl rfl)) (pgds_cons (pgd_name (i := 5) sc_simplest.nd rfl (.inl rfl)) pgds_nil)))) rfl))))))
    (pds_cons (pds_app (i := 6) (pv 6) (pf_n (pn_un un_neg snd_neg (ph_n (pn_op op_fdivA snd_fdiv (ph_n (pn_un un_neg snd_neg (ph_f (pf_var (pv 2))))) (ph_f (pf_var (pv 3))))))))
    (pds_frz 6 (pds_one (pds_ret (pn_cd c_from_terms hr h_from_terms (by rfl) (pag_cons (pf_var (pv 6)) pag_nil)))))))))))) hS
theorem der_law_cell {f : Addr} {fd : FuncData} (A : At1 K mg "_law_cell" s_law_cell p_law_cell f fd) (T : Txt mg) {k : Nat} {S : Sf} (hS : ∀ cs c outs, S cs = .ok (c, outs) → cs.length = 2 ∧ runD 2 m_law_cell cs = .ok (c, outs)) : DFn P w K mg base "_law_cell" (k + 1) S :=
  dfn_ok A sc_law_cell (by decide) m_law_cell (fun cdv A outer s H E hr =>
    (pds_cons (pds_if (ptd_cmp op_ltA snd_lt (nomark _) (ph_f (pf_var (pv 1))) (ph_n (pn_bi call_lenA snd_len (by rfl) T.b_len bt_len (pah_cons (ph_f (pf_var (pv 0))) pah_nil)))) (pds_one (pds_ret (pn_ix ix_seq snd_ix (ph_f (pf_var (pv 0))) (ph_f (pf_var (pv 1))) (fun _ _ => rfl)))) pds_nil)
    (pds_one (pds_ret (pn_f pf_int))))) hS
theorem der_law_digits {f : Addr} {fd : FuncData} (A : At1 K mg "_law_digits" s_law_digits p_law_digits f fd) (T : Txt mg) {S_law_cell : Sf} {j_law_cell : Nat} (c_law_cell : DFn P w K mg base "_law_cell" j_law_cell S_law_cell) {k : Nat} (h_law_cell : j_law_cell ≤ k) {S : Sf} (hS : ∀ cs c outs, S cs = .ok (c, outs) → cs.length = 3 ∧ runD 8 (m_law_digits S_law_cell) cs = .ok (c, outs)) : DFn P w K mg base "_law_digits" (k + 1) S :=
  dfn_ok A sc_law_digits (by decide) (m_law_digits S_law_cell) (fun cdv A outer s H E hr =>
    (pds_cons (pds_set (i := 3) sc_law_digits.nd rfl (.inl rfl) (pn_lst pad_nil))
    (pds_cons (pds_for PassesOwn.never rfl (pid_rng2 (by rfl) T.b_range (pad_cons (pf_var (pv 1)) (pad_cons (pf_var (pv 2)) pad_nil))) (pgd_name (i := 4) sc_law_digits.nd rfl (.inl rfl)) (pds_cons (pds_setF (i := 5) sc_law_digits.nd rfl (.inl rfl) (pf_n (pn_cd c_law_cell hr h_law_cell (by rfl) (pag_cons (pf_var (pv 0)) (pag_cons (pf_var (pv 4)) pag_nil)))))
    (pds_cons (pds_if (ptd_cmp op_ltA snd_lt (nomark _) (ph_f (pf_var (pv 5))) (ph_n (pn_f pf_int))) (pds_one (pds_setF (i := 5) sc_law_digits.nd rfl (.inl rfl) (pf_n (pn_op op_sub snd_sub (ph_n (pn_f pf_int)) (ph_n (pn_op op_mulA snd_mul (ph_n (pn_f pf_int)) (ph_f (pf_var (pv 5))))))))) pds_nil)
    (pds_cons (pds_if (ptd_cmp op_gt snd_gt (nomark _) (ph_n (pn_bi call_lenA snd_len (by rfl) T.b_len bt_len (pah_cons (ph_var (pv 3)) pah_nil))) (ph_n (pn_f pf_int))) (pds_one pds_break) pds_nil)
    (pds_one (pds_if (ptd_cmp op_ge snd_ge (nomark _) (ph_f (pf_var (pv 5))) (ph_n (pn_op op_pow snd_pow (ph_n (pn_f pf_int)) (ph_n (pn_f pf_int))))) (pds_one (pds_for PassesOwn.never rfl (pid_rng1 (by rfl) T.b_range (pad_cons pf_int pad_nil)) (pgd_name (i := 6) sc_law_digits.nd rfl (.inl rfl)) (pds_one (pds_if (ptd_cmp op_gt snd_gt (nomark _) (ph_f (pf_var (pv 5))) (ph_n (pn_f pf_int))) (pds_cons (pds_app (i := 3) (pv 3) (pf_n (pn_op op_modA snd_mod (ph_n (pn_ty call_int1 snd_int (by rfl) T.b_int bt_int (pah_cons (ph_f (pf_var (pv 5))) pah_nil))) (ph_n (pn_f pf_int)))))
    (pds_one (pds_setF (i := 5) sc_law_digits.nd rfl (.inl rfl) (pf_n (pn_op op_fdivA snd_fdiv (ph_f (pf_var (pv 5))) (ph_n (pn_f pf_int))))))) pds_nil)))) (pds_cons (pds_setF (i := 7) sc_law_digits.nd rfl (.inl rfl) (pf_n (pn_op op_modA snd_mod (ph_n (pn_ty call_int1 snd_int (by rfl) T.b_int bt_int (pah_cons (ph_n (pn_op op_addA snd_add (ph_n (pn_op op_addA snd_add (ph_n (pn_op op_mulA snd_mul (ph_f (pf_var (pv 5))) (ph_n (pn_f pf_int)))) (ph_n (pn_op op_mulA snd_mul (ph_f (pf_var (pv 4))) (ph_n (pn_f pf_int)))))) (ph_n (pn_f pf_int)))) pah_nil))) (ph_n (pn_f pf_int)))))
    (pds_one (pds_for PassesOwn.never rfl (pid_rng1 (by rfl) T.b_range (pad_cons pf_int pad_nil)) (pgd_name (i := 6) sc_law_digits.nd rfl (.inl rfl)) (pds_cons (pds_setF (i := 7) sc_law_digits.nd rfl (.inl rfl) (pf_n (pn_op op_modA snd_mod (ph_n (pn_ty call_int1 snd_int (by rfl) T.b_int bt_int (pah_cons (ph_n (pn_op op_addA snd_add (ph_n (pn_op op_addA snd_add (ph_n (pn_op op_mulA snd_mul (ph_f (pf_var (pv 7))) (ph_n (pn_f pf_int)))) (ph_n (pn_op op_mulA snd_mul (ph_n (pn_f pf_int)) (ph_f (pf_var (pv 6))))))) (ph_n (pn_f pf_int)))) pah_nil))) (ph_n (pn_f pf_int)))))
    (pds_one (pds_app (i := 3) (pv 3) (pf_n (pn_op op_modA snd_mod (ph_n (pn_ty call_int1 snd_int (by rfl) T.b_int bt_int (pah_cons (ph_n (pn_op op_fdivA snd_fdiv (ph_f (pf_var (pv 7))) (ph_n (pn_f pf_int)))) pah_nil))) (ph_n (pn_f pf_int))))))))))))))))
    (pds_one (pds_retS 3 (pv 3)))))) hS
theorem der_law_draw {f : Addr} {fd : FuncData} (A : At1 K mg "_law_draw" s_law_draw p_law_draw f fd) (T : Txt mg) {k : Nat} {S : Sf} (hS : ∀ cs c outs, S cs = .ok (c, outs) → cs.length = 2 ∧ runD 3 m_law_draw cs = .ok (c, outs)) : DFn P w K mg base "_law_draw" (k + 1) S :=
  dfn_ok A sc_law_draw (by decide) m_law_draw (fun cdv A outer s H E hr =>
    (pds_cons (pds_setF (i := 2) sc_law_draw.nd rfl (.inl rfl) (pf_n (pn_ix ix_seq snd_ix (ph_var (pv 0)) (ph_n (pn_f pf_int)) (fun _ _ => rfl))))
    (pds_cons (pds_lput (i := 0) (pv 0) pf_int (pf_n (pn_op op_addA snd_add (ph_f (pf_var (pv 2))) (ph_n (pn_f pf_int)))))
    (pds_cons (pds_if (ptd_cmp op_ltA snd_lt (nomark _) (ph_f (pf_var (pv 2))) (ph_n (pn_bi call_lenA snd_len (by rfl) T.b_len bt_len (pah_cons (ph_n (pn_ix ix_seq snd_ix (ph_var (pv 0)) (ph_n (pn_f pf_int)) (fun _ _ => rfl))) pah_nil)))) (pds_one (pds_ret (pn_op op_modA snd_mod (ph_n (pn_ty call_int1 snd_int (by rfl) T.b_int bt_int (pah_cons (ph_n (pn_ix ix_seq snd_ix (ph_n (pn_ix ix_seq snd_ix (ph_var (pv 0)) (ph_n (pn_f pf_int)) (fun _ _ => rfl))) (ph_f (pf_var (pv 2))) (fun _ _ => rfl))) pah_nil))) (ph_f (pf_var (pv 1)))))) pds_nil)
    (pds_one (pds_ret (pn_op op_modA snd_mod (ph_n (pn_ty call_int1 snd_int (by rfl) T.b_int bt_int (pah_cons (ph_n (pn_op op_mulA snd_mul (ph_f (pf_var (pv 2))) (ph_n (pn_f pf_int)))) pah_nil))) (ph_f (pf_var (pv 1)))))))))) hS
theorem der_law_like {f : Addr} {fd : FuncData} (A : At1 K mg "_law_like" s_law_like p_law_like f fd) (T : Txt mg) {S_law_like : Sf} {j_law_like : Nat} (c_law_like : DFn P w K mg base "_law_like" j_law_like S_law_like) {k : Nat} (h_law_like : j_law_like ≤ k) {S : Sf} (hS : ∀ cs c outs, S cs = .ok (c, outs) → cs.length = 2 ∧ runD 3 (m_law_like S_law_like) cs = .ok (c, outs)) : DFn P w K mg base "_law_like" (k + 1) S :=
  dfn_ok A sc_law_like (by decide) (m_law_like S_law_like) (fun cdv A outer s H E hr =>
    (pds_cons (pds_if (ptd_tru (ph_n (pn_f (pf_isi tyOk_tuple (by rfl) T.b_isinstance (ph_f (pf_var (pv 1))) (by rfl) T.b_tuple bt_tuple)))) (pds_cons (pds_if (ptd_w (pwd_or (ptd_not (ptd_tru (ph_n (pn_f (pf_isi tyOk_tuple (by rfl) T.b_isinstance (ph_f (pf_var (pv 0))) (by rfl) T.b_tuple bt_tuple))))) (pwd_or1 (ptd_cmp (op_neA (hu64 hr)) snd_ne (nomark _) (ph_n (pn_bi call_lenA snd_len (by rfl) T.b_len bt_len (pah_cons (ph_f (pf_var (pv 0))) pah_nil))) (ph_n (pn_bi call_lenA snd_len (by rfl) T.b_len bt_len (pah_cons (ph_f (pf_var (pv 1))) pah_nil))))))) (pds_one (pds_ret (pn_f pf_bl))) pds_nil)
    (pds_one (pds_ret (pn_cmp (op_eqA (hu64 hr)) snd_eq (nomark _) (ph_n (pn_lc (own := [("k", 2)]) rfl sc_law_like.nd (pid_rng1 (by rfl) T.b_range (pad_cons (pf_n (pn_bi call_lenA snd_len (by rfl) T.b_len bt_len (pah_cons (ph_f (pf_var (pv 1))) pah_nil))) pad_nil)) (blkOk_by (N := N_law_like) (sc := defScope s_law_like) (by decide +kernel)) (tgOk_n 2) (by decide) (fun _ _ _ _ _ => (pgd_name (i := 2) sc_law_like.nd rfl (.inl rfl))) (fun _ _ _ _ _ => (ptsd_one (ptd_not (ptd_tru (ph_n (pn_cd c_law_like hr h_law_like (by rfl) (pag_cons (pf_n (pn_ix ix_seq snd_ix (ph_f (pf_var (pv 0))) (ph_f (pf_var (pv 2))) (fun _ _ => rfl))) (pag_cons (pf_n (pn_ix ix_seq snd_ix (ph_f (pf_var (pv 1))) (ph_f (pf_var (pv 2))) (fun _ _ => rfl))) pag_nil)))))))) (fun _ _ _ _ _ => pf_int))) (ph_n (pn_lst pad_nil)))))) pds_nil)
    (pds_cons (pds_if (ptd_cmp op_isA snd_is (nomark _) (ph_f (pf_var (pv 1))) (ph_n (pn_f pf_non))) (pds_one (pds_ret (pn_cmp op_isA snd_is (nomark _) (ph_f (pf_var (pv 0))) (ph_n (pn_f pf_non))))) pds_nil)
    (pds_cons (pds_if (ptd_cmp op_isA snd_is (nomark _) (ph_f (pf_var (pv 1))) (ph_n (pn_f pf_bl))) (pds_one (pds_ret (pn_cmp op_isA snd_is (nomark _) (ph_f (pf_var (pv 0))) (ph_n (pn_f pf_bl))))) pds_nil)
    (pds_cons (pds_if (ptd_cmp op_isA snd_is (nomark _) (ph_f (pf_var (pv 1))) (ph_n (pn_f pf_bl))) (pds_one (pds_ret (pn_cmp op_isA snd_is (nomark _) (ph_f (pf_var (pv 0))) (ph_n (pn_f pf_bl))))) pds_nil)
    (pds_cons (pds_if (ptd_tru (ph_n (pn_f (pf_isi tyOk_str (by rfl) T.b_isinstance (ph_f (pf_var (pv 1))) (by rfl) T.b_str bt_str)))) (pds_one (pds_ret (pn_and (pn_f (pf_isi tyOk_str (by rfl) T.b_isinstance (ph_f (pf_var (pv 0))) (by rfl) T.b_str bt_str)) (pn_one (pn_cmp (op_eqA (hu64 hr)) snd_eq (nomark _) (ph_n (pn_join (ph_n (pn_f pf_str)) (ph_n (pn_lst (pad_cons (pf_var (pv 0)) pad_nil))))) (ph_f (pf_var (pv 1)))))))) pds_nil)
    (pds_one (pds_ret (pn_and (pn_f (pf_isi tyOk_int (by rfl) T.b_isinstance (ph_f (pf_var (pv 0))) (by rfl) T.b_int bt_int)) (pn_and (pn_f (pf_not (pn_f (pf_isi tyOk_bool (by rfl) T.b_isinstance (ph_f (pf_var (pv 0))) (by rfl) T.b_bool bt_bool)))) (pn_one (pn_cmp (op_eqA (hu64 hr)) snd_eq (nomark _) (ph_f (pf_var (pv 0))) (ph_f (pf_var (pv 1))))))))))))))) hS
theorem der_law_gcd {f : Addr} {fd : FuncData} (A : At1 K mg "_law_gcd" s_law_gcd p_law_gcd f fd) (T : Txt mg) {k : Nat} {S : Sf} (hS : ∀ cs c outs, S cs = .ok (c, outs) → cs.length = 2 ∧ runD 3 m_law_gcd cs = .ok (c, outs)) : DFn P w K mg base "_law_gcd" (k + 1) S :=
  dfn_ok A sc_law_gcd (by decide) m_law_gcd (fun cdv A outer s H E hr =>
    (pds_cons (pds_for PassesOwn.never rfl (pid_rng1 (by rfl) T.b_range (pad_cons pf_int pad_nil)) (pgd_name (i := 2) sc_law_gcd.nd rfl (.inl rfl)) (pds_cons (pds_if (ptd_cmp (op_eqA (hu64 hr)) snd_eq (nomark _) (ph_f (pf_var (pv 1))) (ph_n (pn_f pf_int))) (pds_one pds_break) pds_nil)
    (pds_one (pds_parN (i := 0) (j := 1) rfl sc_law_gcd.nd rfl rfl (by decide) rfl rfl (pn_f (pf_var (pv 1))) (pn_f (pf_n (pn_op op_modA snd_mod (ph_n (pn_ty call_int1 snd_int (by rfl) T.b_int bt_int (pah_cons (ph_f (pf_var (pv 0))) pah_nil))) (ph_f (pf_var (pv 1)))))) (by rfl)))))
    (pds_one (pds_ret (pn_f (pf_var (pv 0))))))) hS
theorem der_law_ratio {f : Addr} {fd : FuncData} (A : At1 K mg "_law_ratio" s_law_ratio p_law_ratio f fd) (T : Txt mg) {S_law_gcd : Sf} {j_law_gcd : Nat} (c_law_gcd : DFn P w K mg base "_law_gcd" j_law_gcd S_law_gcd) {k : Nat} (h_law_gcd : j_law_gcd ≤ k) {S : Sf} (hS : ∀ cs c outs, S cs = .ok (c, outs) → cs.length = 2 ∧ runD 3 (m_law_ratio S_law_gcd) cs = .ok (c, outs)) : DFn P w K mg base "_law_ratio" (k + 1) S :=
  dfn_ok A sc_law_ratio (by decide) (m_law_ratio S_law_gcd) (fun cdv A outer s H E hr =>
    (pds_cons (pds_setF (i := 2) sc_law_ratio.nd rfl (.inl rfl) (pf_n (pn_cd c_law_gcd hr h_law_gcd (by rfl) (pag_cons (pf_n (pn_bi call_abs snd_abs (by rfl) T.b_abs bt_abs (pah_cons (ph_f (pf_var (pv 0))) pah_nil))) (pag_cons (pf_var (pv 1)) pag_nil)))))
    (pds_one (pds_ret (pn_f (pf_tup (pad_cons (pf_n (pn_op op_fdivA snd_fdiv (ph_f (pf_var (pv 0))) (ph_f (pf_var (pv 2))))) (pad_cons (pf_n (pn_op op_fdivA snd_fdiv (ph_f (pf_var (pv 1))) (ph_f (pf_var (pv 2))))) pad_nil)))))))) hS
theorem der_law_plus {f : Addr} {fd : FuncData} (A : At1 K mg "_law_plus" s_law_plus p_law_plus f fd) (T : Txt mg) {S_law_ratio : Sf} {j_law_ratio : Nat} (c_law_ratio : DFn P w K mg base "_law_ratio" j_law_ratio S_law_ratio) {k : Nat} (h_law_ratio : j_law_ratio ≤ k) {S : Sf} (hS : ∀ cs c outs, S cs = .ok (c, outs) → cs.length = 2 ∧ runD 2 (m_law_plus S_law_ratio) cs = .ok (c, outs)) : DFn P w K mg base "_law_plus" (k + 1) S :=
  dfn_ok A sc_law_plus (by decide) (m_law_plus S_law_ratio) (fun cdv A outer s H E hr =>
    (pds_one (pds_ret (pn_cd c_law_ratio hr h_law_ratio (by rfl) (pag_cons (pf_n (pn_op op_addA snd_add (ph_n (pn_op op_mulA snd_mul (ph_n (pn_ix ix_seq snd_ix (ph_f (pf_var (pv 0))) (ph_n (pn_f pf_int)) (fun _ _ => rfl))) (ph_n (pn_ix ix_seq snd_ix (ph_f (pf_var (pv 1))) (ph_n (pn_f pf_int)) (fun _ _ => rfl))))) (ph_n (pn_op op_mulA snd_mul (ph_n (pn_ix ix_seq snd_ix (ph_f (pf_var (pv 1))) (ph_n (pn_f pf_int)) (fun _ _ => rfl))) (ph_n (pn_ix ix_seq snd_ix (ph_f (pf_var (pv 0))) (ph_n (pn_f pf_int)) (fun _ _ => rfl))))))) (pag_cons (pf_n (pn_op op_mulA snd_mul (ph_n (pn_ix ix_seq snd_ix (ph_f (pf_var (pv 0))) (ph_n (pn_f pf_int)) (fun _ _ => rfl))) (ph_n (pn_ix ix_seq snd_ix (ph_f (pf_var (pv 1))) (ph_n (pn_f pf_int)) (fun _ _ => rfl))))) pag_nil)))))) hS
theorem der_law_minus {f : Addr} {fd : FuncData} (A : At1 K mg "_law_minus" s_law_minus p_law_minus f fd) (T : Txt mg) {S_law_ratio : Sf} {j_law_ratio : Nat} (c_law_ratio : DFn P w K mg base "_law_ratio" j_law_ratio S_law_ratio) {k : Nat} (h_law_ratio : j_law_ratio ≤ k) {S : Sf} (hS : ∀ cs c outs, S cs = .ok (c, outs) → cs.length = 2 ∧ runD 2 (m_law_minus S_law_ratio) cs = .ok (c, outs)) : DFn P w K mg base "_law_minus" (k + 1) S :=
  dfn_ok A sc_law_minus (by decide) (m_law_minus S_law_ratio) (fun cdv A outer s H E hr =>
    (pds_one (pds_ret (pn_cd c_law_ratio hr h_law_ratio (by rfl) (pag_cons (pf_n (pn_op op_sub snd_sub (ph_n (pn_op op_mulA snd_mul (ph_n (pn_ix ix_seq snd_ix (ph_f (pf_var (pv 0))) (ph_n (pn_f pf_int)) (fun _ _ => rfl))) (ph_n (pn_ix ix_seq snd_ix (ph_f (pf_var (pv 1))) (ph_n (pn_f pf_int)) (fun _ _ => rfl))))) (ph_n (pn_op op_mulA snd_mul (ph_n (pn_ix ix_seq snd_ix (ph_f (pf_var (pv 1))) (ph_n (pn_f pf_int)) (fun _ _ => rfl))) (ph_n (pn_ix ix_seq snd_ix (ph_f (pf_var (pv 0))) (ph_n (pn_f pf_int)) (fun _ _ => rfl))))))) (pag_cons (pf_n (pn_op op_mulA snd_mul (ph_n (pn_ix ix_seq snd_ix (ph_f (pf_var (pv 0))) (ph_n (pn_f pf_int)) (fun _ _ => rfl))) (ph_n (pn_ix ix_seq snd_ix (ph_f (pf_var (pv 1))) (ph_n (pn_f pf_int)) (fun _ _ => rfl))))) pag_nil)))))) hS
theorem der_law_less {f : Addr} {fd : FuncData} (A : At1 K mg "_law_less" s_law_less p_law_less f fd) (T : Txt mg) {k : Nat} {S : Sf} (hS : ∀ cs c outs, S cs = .ok (c, outs) → cs.length = 2 ∧ runD 2 m_law_less cs = .ok (c, outs)) : DFn P w K mg base "_law_less" (k + 1) S :=
  dfn_ok A sc_law_less (by decide) m_law_less (fun cdv A outer s H E hr =>
    (pds_one (pds_ret (pn_cmp op_ltA snd_lt (nomark _) (ph_n (pn_op op_mulA snd_mul (ph_n (pn_ix ix_seq snd_ix (ph_f (pf_var (pv 0))) (ph_n (pn_f pf_int)) (fun _ _ => rfl))) (ph_n (pn_ix ix_seq snd_ix (ph_f (pf_var (pv 1))) (ph_n (pn_f pf_int)) (fun _ _ => rfl))))) (ph_n (pn_op op_mulA snd_mul (ph_n (pn_ix ix_seq snd_ix (ph_f (pf_var (pv 1))) (ph_n (pn_f pf_int)) (fun _ _ => rfl))) (ph_n (pn_ix ix_seq snd_ix (ph_f (pf_var (pv 0))) (ph_n (pn_f pf_int)) (fun _ _ => rfl))))))))) hS
theorem der_law_terms {f : Addr} {fd : FuncData} (A : At1 K mg "_law_terms" s_law_terms p_law_terms f fd) (T : Txt mg) {k : Nat} {S : Sf} (hS : ∀ cs c outs, S cs = .ok (c, outs) → cs.length = 1 ∧ runD 4 m_law_terms cs = .ok (c, outs)) : DFn P w K mg base "_law_terms" (k + 1) S :=
  dfn_ok A sc_law_terms (by decide) m_law_terms (fun cdv A outer s H E hr =>
    (pds_cons (pds_set (i := 1) sc_law_terms.nd rfl (.inl rfl) (pn_lst pad_nil))
    (pds_cons (pds_asg (pf_var (pv 0)) (pgd_tup rfl (pgds_cons (pgd_name (i := 2) sc_law_terms.nd rfl (.inl rfl)) (pgds_cons (pgd_name (i := 3) sc_law_terms.nd rfl (.inl rfl)) pgds_nil)) rfl))
    (pds_cons (pds_while PassesOwn.never (ptd_cmp (op_neA (hu64 hr)) snd_ne (nomark _) (ph_f (pf_var (pv 3))) (ph_n (pn_f pf_int))) (pds_cons (pds_app (i := 1) (pv 1) (pf_n (pn_op op_fdivA snd_fdiv (ph_f (pf_var (pv 2))) (ph_f (pf_var (pv 3))))))
    (pds_one (pds_parN (i := 2) (j := 3) rfl sc_law_terms.nd rfl rfl (by decide) rfl rfl (pn_f (pf_var (pv 3))) (pn_f (pf_n (pn_op op_sub snd_sub (ph_f (pf_var (pv 2))) (ph_n (pn_op op_mulA snd_mul (ph_n (pn_op op_fdivA snd_fdiv (ph_f (pf_var (pv 2))) (ph_f (pf_var (pv 3))))) (ph_f (pf_var (pv 3)))))))) (by rfl)))))
    (pds_one (pds_ret (pn_ty call_tuple_of snd_tuple (by rfl) T.b_tuple bt_tuple (pah_cons (ph_var (pv 1)) pah_nil)))))))) hS
theorem der_law_steps {f : Addr} {fd : FuncData} (A : At1 K mg "_law_steps" s_law_steps p_law_steps f fd) (T : Txt mg) {k : Nat} {S : Sf} (hS : ∀ cs c outs, S cs = .ok (c, outs) → cs.length = 1 ∧ runD 7 m_law_steps cs = .ok (c, outs)) : DFn P w K mg base "_law_steps" (k + 1) S :=
  dfn_ok A sc_law_steps (by decide) m_law_steps (fun cdv A outer s H E hr =>
    (pds_cons (pds_asg (pf_tup (pad_cons (pf_tup (pad_cons pf_int (pad_cons pf_int pad_nil))) (pad_cons (pf_tup (pad_cons pf_int (pad_cons pf_int pad_nil))) pad_nil))) (pgd_tup rfl (pgds_cons (pgd_name (i := 1) sc_law_steps.nd rfl (.inl rfl)) (pgds_cons (pgd_name (i := 2) sc_law_steps.nd rfl (.inl rfl)) pgds_nil)) rfl))
    (pds_cons (pds_set (i := 3) sc_law_steps.nd rfl (.inl rfl) (pn_lst pad_nil))
    (pds_cons (pds_setF (i := 4) sc_law_steps.nd rfl (.inl rfl) (pf_tup (pad_cons pf_int (pad_cons pf_int pad_nil))))
    (pds_cons (pds_while PassesOwn.never (ptd_cmp (op_neA (hu64 hr)) snd_ne (nomark _) (ph_f (pf_var (pv 4))) (ph_f (pf_var (pv 0)))) (pds_cons (pds_if (ptd_cmp op_ltA snd_lt (nomark _) (ph_n (pn_op op_mulA snd_mul (ph_n (pn_ix ix_seq snd_ix (ph_f (pf_var (pv 4))) (ph_n (pn_f pf_int)) (fun _ _ => rfl))) (ph_n (pn_ix ix_seq snd_ix (ph_f (pf_var (pv 0))) (ph_n (pn_f pf_int)) (fun _ _ => rfl))))) (ph_n (pn_op op_mulA snd_mul (ph_n (pn_ix ix_seq snd_ix (ph_f (pf_var (pv 0))) (ph_n (pn_f pf_int)) (fun _ _ => rfl))) (ph_n (pn_ix ix_seq snd_ix (ph_f (pf_var (pv 4))) (ph_n (pn_f pf_int)) (fun _ _ => rfl)))))) (pds_cons (pds_app (i := 3) (pv 3) pf_str)
    (pds_one (pds_setF (i := 1) sc_law_steps.nd rfl (.inl rfl) (pf_var (pv 4))))) (pds_cons (pds_app (i := 3) (pv 3) pf_str)
    (pds_one (pds_setF (i := 2) sc_law_steps.nd rfl (.inl rfl) (pf_var (pv 4))))))
    (pds_one (pds_setF (i := 4) sc_law_steps.nd rfl (.inl rfl) (pf_tup (pad_cons (pf_n (pn_op op_addA snd_add (ph_n (pn_ix ix_seq snd_ix (ph_f (pf_var (pv 1))) (ph_n (pn_f pf_int)) (fun _ _ => rfl))) (ph_n (pn_ix ix_seq snd_ix (ph_f (pf_var (pv 2))) (ph_n (pn_f pf_int)) (fun _ _ => rfl))))) (pad_cons (pf_n (pn_op op_addA snd_add (ph_n (pn_ix ix_seq snd_ix (ph_f (pf_var (pv 1))) (ph_n (pn_f pf_int)) (fun _ _ => rfl))) (ph_n (pn_ix ix_seq snd_ix (ph_f (pf_var (pv 2))) (ph_n (pn_f pf_int)) (fun _ _ => rfl))))) pad_nil)))))))
    (pds_cons (pds_set (i := 5) sc_law_steps.nd rfl (.inl rfl) (pn_lst (pad_cons (pf_tup (pad_cons pf_str (pad_cons pf_int pad_nil))) pad_nil)))
    (pds_frz 3 (pds_cons (pds_for PassesOwn.never rfl (pid_seq (pf_var (pv 3))) (pgd_name (i := 6) sc_law_steps.nd rfl (.inl rfl)) (pds_one (pds_if (ptd_cmp (op_eqA (hu64 hr)) snd_eq (nomark _) (ph_n (pn_ix ix_seq snd_ix (ph_n (pn_ix ix_seq snd_ix (ph_var (pv 5)) (ph_n (pn_un un_neg snd_neg (ph_n (pn_f pf_int)))) (fun _ _ => rfl))) (ph_n (pn_f pf_int)) (fun _ _ => rfl))) (ph_f (pf_var (pv 6)))) (pds_one (pds_lput (i := 5) (pv 5) (pf_n (pn_un un_neg snd_neg (ph_n (pn_f pf_int)))) (pf_tup (pad_cons (pf_var (pv 6)) (pad_cons (pf_n (pn_op op_addA snd_add (ph_n (pn_ix ix_seq snd_ix (ph_n (pn_ix ix_seq snd_ix (ph_var (pv 5)) (ph_n (pn_un un_neg snd_neg (ph_n (pn_f pf_int)))) (fun _ _ => rfl))) (ph_n (pn_f pf_int)) (fun _ _ => rfl))) (ph_n (pn_f pf_int)))) pad_nil))))) (pds_one (pds_app (i := 5) (pv 5) (pf_tup (pad_cons (pf_var (pv 6)) (pad_cons pf_int pad_nil))))))))
    (pds_one (pds_ret (pn_ty call_tuple_of snd_tuple (by rfl) T.b_tuple bt_tuple (pah_cons (ph_var (pv 5)) pah_nil)))))))))))) hS
theorem der_law_simplest {f : Addr} {fd : FuncData} (A : At1 K mg "_law_simplest" s_law_simplest p_law_simplest f fd) (T : Txt mg) {S_law_minus : Sf} {j_law_minus : Nat} (c_law_minus : DFn P w K mg base "_law_minus" j_law_minus S_law_minus) {S_law_plus : Sf} {j_law_plus : Nat} (c_law_plus : DFn P w K mg base "_law_plus" j_law_plus S_law_plus) {S_law_less : Sf} {j_law_less : Nat} (c_law_less : DFn P w K mg base "_law_less" j_law_less S_law_less) {S_law_ratio : Sf} {j_law_ratio : Nat} (c_law_ratio : DFn P w K mg base "_law_ratio" j_law_ratio S_law_ratio) {k : Nat} (h_law_minus : j_law_minus ≤ k) (h_law_plus : j_law_plus ≤ k) (h_law_less : j_law_less ≤ k) (h_law_ratio : j_law_ratio ≤ k) {S : Sf} (hS : ∀ cs c outs, S cs = .ok (c, outs) → cs.length = 2 ∧ runD 6 (m_law_simplest S_law_minus S_law_plus S_law_less S_law_ratio) cs = .ok (c, outs)) : DFn P w K mg base "_law_simplest" (k + 1) S :=
  dfn_ok A sc_law_simplest (by decide) (m_law_simplest S_law_minus S_law_plus S_law_less S_law_ratio) (fun cdv A outer s H E hr =>
    (pds_cons (pds_parN (i := 2) (j := 3) rfl sc_law_simplest.nd rfl rfl (by decide) rfl rfl (pn_f (pf_n (pn_cd c_law_minus hr h_law_minus (by rfl) (pag_cons (pf_var (pv 0)) (pag_cons (pf_var (pv 1)) pag_nil))))) (pn_f (pf_n (pn_cd c_law_plus hr h_law_plus (by rfl) (pag_cons (pf_var (pv 0)) (pag_cons (pf_var (pv 1)) pag_nil))))) (by rfl))
    (pds_cons (pds_if (ptd_cmp op_ltA snd_lt (nomark _) (ph_n (pn_ix ix_seq snd_ix (ph_f (pf_var (pv 2))) (ph_n (pn_f pf_int)) (fun _ _ => rfl))) (ph_n (pn_f pf_int))) (pds_one (pds_setF (i := 2) sc_law_simplest.nd rfl (.inl rfl) (pf_tup (pad_cons pf_int (pad_cons pf_int pad_nil))))) pds_nil)
    (pds_cons (pds_for PassesOwn.never rfl (pid_rng2 (by rfl) T.b_range (pad_cons pf_int (pad_cons pf_int pad_nil))) (pgd_name (i := 4) sc_law_simplest.nd rfl (.inl rfl)) (pds_cons (pds_setF (i := 5) sc_law_simplest.nd rfl (.inl rfl) (pf_n (pn_op op_sub snd_sub (ph_n (pn_f pf_int)) (ph_n (pn_op op_fdivA snd_fdiv (ph_n (pn_op op_sub snd_sub (ph_n (pn_f pf_int)) (ph_n (pn_op op_mulA snd_mul (ph_n (pn_ix ix_seq snd_ix (ph_f (pf_var (pv 2))) (ph_n (pn_f pf_int)) (fun _ _ => rfl))) (ph_f (pf_var (pv 4))))))) (ph_n (pn_ix ix_seq snd_ix (ph_f (pf_var (pv 2))) (ph_n (pn_f pf_int)) (fun _ _ => rfl))))))))
    (pds_one (pds_if (ptd_not (ptd_tru (ph_n (pn_cd c_law_less hr h_law_less (by rfl) (pag_cons (pf_var (pv 3)) (pag_cons (pf_tup (pad_cons (pf_var (pv 5)) (pad_cons (pf_var (pv 4)) pad_nil))) pag_nil)))))) (pds_one (pds_ret (pn_cd c_law_ratio hr h_law_ratio (by rfl) (pag_cons (pf_var (pv 5)) (pag_cons (pf_var (pv 4)) pag_nil))))) pds_nil))))
    (pds_one (pds_ret (pn_f pf_non))))))) hS
theorem der_law {f : Addr} {fd : FuncData} (A : At1 K mg "law" s_law p_law f fd) (T : Txt mg) {S_law_digits : Sf} {j_law_digits : Nat} (c_law_digits : DFn P w K mg base "_law_digits" j_law_digits S_law_digits) {S_law_ratio : Sf} {j_law_ratio : Nat} (c_law_ratio : DFn P w K mg base "_law_ratio" j_law_ratio S_law_ratio) {S_law_draw : Sf} {j_law_draw : Nat} (c_law_draw : DFn P w K mg base "_law_draw" j_law_draw S_law_draw) {S_law_terms : Sf} {j_law_terms : Nat} (c_law_terms : DFn P w K mg base "_law_terms" j_law_terms S_law_terms) {S_law_like : Sf} {j_law_like : Nat} (c_law_like : DFn P w K mg base "_law_like" j_law_like S_law_like) {S_terms : Sf} {j_terms : Nat} (c_terms : DFn P w K mg base "terms" j_terms S_terms) {S_from_terms : Sf} {j_from_terms : Nat} (c_from_terms : DFn P w K mg base "from_terms" j_from_terms S_from_terms) {S_steps : Sf} {j_steps : Nat} (c_steps : DFn P w K mg base "steps" j_steps S_steps) {S_law_steps : Sf} {j_law_steps : Nat} (c_law_steps : DFn P w K mg base "_law_steps" j_law_steps S_law_steps) {S_simplest : Sf} {j_simplest : Nat} (c_simplest : DFn P w K mg base "simplest" j_simplest S_simplest) {S_law_simplest : Sf} {j_law_simplest : Nat} (c_law_simplest : DFn P w K mg base "_law_simplest" j_law_simplest S_law_simplest) {k : Nat} (h_law_digits : j_law_digits ≤ k) (h_law_ratio : j_law_ratio ≤ k) (h_law_draw : j_law_draw ≤ k) (h_law_terms : j_law_terms ≤ k) (h_law_like : j_law_like ≤ k) (h_terms : j_terms ≤ k) (h_from_terms : j_from_terms ≤ k) (h_steps : j_steps ≤ k) (h_law_steps : j_law_steps ≤ k) (h_simplest : j_simplest ≤ k) (h_law_simplest : j_law_simplest ≤ k) {S : Sf} (hS : ∀ cs c outs, S cs = .ok (c, outs) → cs.length = 1 ∧ runD 9 (m_law_4c3d87 S_law_digits S_law_ratio S_law_draw S_law_terms S_law_like S_terms S_from_terms S_steps S_law_steps S_simplest S_law_simplest) cs = .ok (c, outs)) : FnD P w K mg base (k + 1) f fd p_law S :=
  DFn.law A sc_law (by decide) (m_law_4c3d87 S_law_digits S_law_ratio S_law_draw S_law_terms S_law_like S_terms S_from_terms S_steps S_law_steps S_simplest S_law_simplest) (fun cdv A outer s H E hr =>
    (pds_cons (pds_set (i := 1) sc_law.nd rfl (.inr rfl) (pn_lst (pad_cons (pf_n (pn_cd c_law_digits hr h_law_digits (by rfl) (pag_cons (pf_var (pv 0)) (pag_cons pf_int (pag_cons pf_int pag_nil))))) (pad_cons pf_int pad_nil))))
    (pds_cons (pds_for PassesOwn.never rfl (pid_rng1 (by rfl) T.b_range (pad_cons pf_int pad_nil)) (pgd_name (i := 2) sc_law.nd rfl (.inl rfl)) (pds_cons (pds_setF (i := 3) sc_law.nd rfl (.inl rfl) (pf_n (pn_cd c_law_ratio hr h_law_ratio (by rfl) (pag_cons (pf_n (pn_op op_addA snd_add (ph_n (pn_f pf_int)) (ph_n (pn_cd c_law_draw hr h_law_draw (by rfl) (pag_conS (pv 1) (pag_cons pf_int pag_nil)))))) (pag_cons (pf_n (pn_op op_addA snd_add (ph_n (pn_f pf_int)) (ph_n (pn_cd c_law_draw hr h_law_draw (by rfl) (pag_conS (pv 1) (pag_cons pf_int pag_nil)))))) pag_nil)))))
    (pds_cons (pds_setF (i := 4) sc_law.nd rfl (.inl rfl) (pf_n (pn_cd c_law_terms hr h_law_terms (by rfl) (pag_cons (pf_var (pv 3)) pag_nil))))
    (pds_cons (pds_if (ptd_w (pwd_or (ptd_not (ptd_tru (ph_n (pn_cd c_law_like hr h_law_like (by rfl) (pag_cons (pf_n (pn_cd c_terms hr h_terms (by rfl) (pag_cons (pf_var (pv 3)) pag_nil))) (pag_cons (pf_var (pv 4)) pag_nil)))))) (pwd_or (ptd_not (ptd_tru (ph_n (pn_cd c_law_like hr h_law_like (by rfl) (pag_cons (pf_n (pn_cd c_from_terms hr h_from_terms (by rfl) (pag_cons (pf_var (pv 4)) pag_nil))) (pag_cons (pf_var (pv 3)) pag_nil)))))) (pwd_or1 (ptd_not (ptd_tru (ph_n (pn_cd c_law_like hr h_law_like (by rfl) (pag_cons (pf_n (pn_cd c_steps hr h_steps (by rfl) (pag_cons (pf_var (pv 3)) pag_nil))) (pag_cons (pf_n (pn_cd c_law_steps hr h_law_steps (by rfl) (pag_cons (pf_var (pv 3)) pag_nil))) pag_nil)))))))))) (pds_one (pds_ret (pn_f pf_bl))) pds_nil)
    (pds_cons (pds_if (ptd_w (pwd_and (ptd_cmp op_gt snd_gt (nomark _) (ph_n (pn_ix ix_seq snd_ix (ph_f (pf_var (pv 4))) (ph_n (pn_un un_neg snd_neg (ph_n (pn_f pf_int)))) (fun _ _ => rfl))) (ph_n (pn_f pf_int))) (pwd_and1 (ptd_not (ptd_tru (ph_n (pn_cd c_law_like hr h_law_like (by rfl) (pag_cons (pf_n (pn_cd c_from_terms hr h_from_terms (by rfl) (pag_cons (pf_n (pn_op op_addA snd_add (ph_n (pn_slice (ph_f (pf_var (pv 4))) pod_none (pod_some (pf_n (pn_un un_neg snd_neg (ph_n (pn_f pf_int))))))) (ph_n (pn_f (pf_tup (pad_cons (pf_n (pn_op op_sub snd_sub (ph_n (pn_ix ix_seq snd_ix (ph_f (pf_var (pv 4))) (ph_n (pn_un un_neg snd_neg (ph_n (pn_f pf_int)))) (fun _ _ => rfl))) (ph_n (pn_f pf_int)))) (pad_cons pf_int pad_nil))))))) pag_nil))) (pag_cons (pf_var (pv 3)) pag_nil))))))))) (pds_one (pds_ret (pn_f pf_bl))) pds_nil)
    (pds_cons (pds_setF (i := 5) sc_law.nd rfl (.inl rfl) (pf_n (pn_cd c_law_ratio hr h_law_ratio (by rfl) (pag_cons (pf_n (pn_op op_addA snd_add (ph_n (pn_f pf_int)) (ph_n (pn_cd c_law_draw hr h_law_draw (by rfl) (pag_conS (pv 1) (pag_cons pf_int pag_nil)))))) (pag_cons (pf_n (pn_op op_addA snd_add (ph_n (pn_f pf_int)) (ph_n (pn_cd c_law_draw hr h_law_draw (by rfl) (pag_conS (pv 1) (pag_cons pf_int pag_nil)))))) pag_nil)))))
    (pds_one (pds_if (ptd_not (ptd_tru (ph_n (pn_cd c_law_like hr h_law_like (by rfl) (pag_cons (pf_n (pn_cd c_simplest hr h_simplest (by rfl) (pag_cons (pf_var (pv 3)) (pag_cons (pf_var (pv 5)) pag_nil)))) (pag_cons (pf_n (pn_cd c_law_simplest hr h_law_simplest (by rfl) (pag_cons (pf_var (pv 3)) (pag_cons (pf_var (pv 5)) pag_nil)))) pag_nil)))))) (pds_one (pds_ret (pn_f pf_bl))) pds_nil))))))))
    (pds_cons (pds_if (ptd_not (ptd_tru (ph_n (pn_cd c_law_like hr h_law_like (by rfl) (pag_cons (pf_tup (pad_cons (pf_n (pn_cd c_terms hr h_terms (by rfl) (pag_cons (pf_tup (pad_cons pf_int (pad_cons pf_int pad_nil))) pag_nil))) (pad_cons (pf_n (pn_cd c_terms hr h_terms (by rfl) (pag_cons (pf_tup (pad_cons pf_int (pad_cons pf_int pad_nil))) pag_nil))) (pad_cons (pf_n (pn_cd c_steps hr h_steps (by rfl) (pag_cons (pf_tup (pad_cons pf_int (pad_cons pf_int pad_nil))) pag_nil))) (pad_cons (pf_n (pn_cd c_simplest hr h_simplest (by rfl) (pag_cons (pf_tup (pad_cons pf_int (pad_cons pf_int pad_nil))) (pag_cons (pf_tup (pad_cons pf_int (pad_cons pf_int pad_nil))) pag_nil)))) pad_nil))))) (pag_cons (pf_tup (pad_cons (pf_tup (pad_cons pf_int pad_nil)) (pad_cons (pf_tup (pad_cons pf_int pad_nil)) (pad_cons (pf_tup (pad_cons (pf_tup (pad_cons pf_str (pad_cons pf_int pad_nil))) pad_nil)) (pad_cons (pf_tup (pad_cons pf_int (pad_cons pf_int pad_nil))) pad_nil))))) pag_nil)))))) (pds_one (pds_ret (pn_f pf_bl))) pds_nil)
    (pds_cons (pds_setF (i := 6) sc_law.nd rfl (.inr rfl) (pf_n (pn_ty call_tuple_of snd_tuple (by rfl) T.b_tuple bt_tuple (pah_cons (ph_n (pn_op op_addA snd_add (ph_n (pn_op op_addA snd_add (ph_n (pn_lst (pad_cons (pf_n (pn_cd c_law_draw hr h_law_draw (by rfl) (pag_conS (pv 1) (pag_cons pf_int pag_nil)))) pad_nil))) (ph_n (pn_lc (own := [("k", 8)]) rfl sc_law.nd (pid_rng1 (by rfl) T.b_range (pad_cons (pf_n (pn_cd c_law_draw hr h_law_draw (by rfl) (pag_conS (pv 1) (pag_cons pf_int pag_nil)))) pad_nil)) (blkOk_by (N := N_law) (sc := defScope s_law) (by decide +kernel)) (tgOk_n 8) (by decide) (fun _ _ _ _ _ => (pgd_name (i := 8) sc_law.nd rfl (.inl rfl))) (fun _ _ _ _ _ => ptsd_nil) (fun _ _ _ _ _ => (pf_n (pn_op op_addA snd_add (ph_n (pn_f pf_int)) (ph_n (pn_cd c_law_draw hr h_law_draw (by rfl) (pag_conS (pv 1) (pag_cons pf_int pag_nil))))))))))) (ph_n (pn_lst (pad_cons (pf_n (pn_op op_addA snd_add (ph_n (pn_f pf_int)) (ph_n (pn_cd c_law_draw hr h_law_draw (by rfl) (pag_conS (pv 1) (pag_cons pf_int pag_nil)))))) pad_nil))))) pah_nil))))
    (pds_cons (pds_setF (i := 3) sc_law.nd rfl (.inl rfl) (pf_n (pn_cd c_from_terms hr h_from_terms (by rfl) (pag_cons (pf_var (pv 6)) pag_nil))))
    (pds_cons (pds_if (ptd_w (pwd_or (ptd_not (ptd_tru (ph_n (pn_f (pf_isi tyOk_tuple (by rfl) T.b_isinstance (ph_f (pf_var (pv 3))) (by rfl) T.b_tuple bt_tuple))))) (pwd_or (ptd_cmp (op_neA (hu64 hr)) snd_ne (nomark _) (ph_n (pn_bi call_lenA snd_len (by rfl) T.b_len bt_len (pah_cons (ph_f (pf_var (pv 3))) pah_nil))) (ph_n (pn_f pf_int))) (pwd_or1 (ptd_not (ptd_tru (ph_n (pn_cd c_law_like hr h_law_like (by rfl) (pag_cons (pf_n (pn_cd c_terms hr h_terms (by rfl) (pag_cons (pf_var (pv 3)) pag_nil))) (pag_cons (pf_var (pv 6)) pag_nil)))))))))) (pds_one (pds_ret (pn_f pf_bl))) pds_nil)
    (pds_cons (pds_if (ptd_w (pwd_and (ptd_cmp (op_eqA (hu64 hr)) snd_eq (nomark _) (ph_n (pn_ix ix_seq snd_ix (ph_f (pf_var (pv 6))) (ph_n (pn_f pf_int)) (fun _ _ => rfl))) (ph_n (pn_f pf_int))) (pwd_and1 (ptd_cmp (op_eqA (hu64 hr)) snd_eq (nomark _) (ph_n (pn_bi call_lenA snd_len (by rfl) T.b_len bt_len (pah_cons (ph_f (pf_var (pv 6))) pah_nil))) (ph_n (pn_f pf_int)))))) (pds_one (pds_ret (pn_f pf_bl))) pds_nil)
    (pds_cons (pds_setLc (i := 7) (own := [("k", 8)]) rfl sc_law.nd rfl rfl (sw_true rfl rfl rfl (by decide +kernel)) (pid_rng1 (by rfl) T.b_range (pad_cons (pf_n (pn_bi call_lenA snd_len (by rfl) T.b_len bt_len (pah_cons (ph_f (pf_var (pv 6))) pah_nil))) pad_nil)) (blkOk_by (N := N_law) (sc := defScope s_law) (by decide +kernel)) (tgOk_n 8) (by decide) (fun _ _ _ _ _ => (pgd_name (i := 8) sc_law.nd rfl (.inl rfl))) (fun _ _ _ _ _ => ptsd_nil) (fun _ _ _ _ _ => (pf_tup (pad_cons (pf_n (pn_ix ix_seq snd_ix (ph_n (pn_lst (pad_cons pf_str (pad_cons pf_str pad_nil)))) (ph_n (pn_op op_modA snd_mod (ph_n (pn_ty call_int1 snd_int (by rfl) T.b_int bt_int (pah_cons (ph_f (pf_var (pv 8))) pah_nil))) (ph_n (pn_f pf_int)))) (fun _ _ => rfl))) (pad_cons (pf_n (pn_ix ix_seq snd_ix (ph_f (pf_var (pv 6))) (ph_f (pf_var (pv 8))) (fun _ _ => rfl))) pad_nil)))))
    (pds_cons (pds_lput (i := 7) (pv 7) (pf_n (pn_un un_neg snd_neg (ph_n (pn_f pf_int)))) (pf_tup (pad_cons (pf_n (pn_ix ix_seq snd_ix (ph_n (pn_ix ix_seq snd_ix (ph_var (pv 7)) (ph_n (pn_un un_neg snd_neg (ph_n (pn_f pf_int)))) (fun _ _ => rfl))) (ph_n (pn_f pf_int)) (fun _ _ => rfl))) (pad_cons (pf_n (pn_op op_sub snd_sub (ph_n (pn_ix ix_seq snd_ix (ph_n (pn_ix ix_seq snd_ix (ph_var (pv 7)) (ph_n (pn_un un_neg snd_neg (ph_n (pn_f pf_int)))) (fun _ _ => rfl))) (ph_n (pn_f pf_int)) (fun _ _ => rfl))) (ph_n (pn_f pf_int)))) pad_nil))))
    (pds_one (pds_ret (pn_cd c_law_like hr h_law_like (by rfl) (pag_cons (pf_n (pn_cd c_steps hr h_steps (by rfl) (pag_cons (pf_var (pv 3)) pag_nil))) (pag_cons (pf_n (pn_ty call_tuple_of snd_tuple (by rfl) T.b_tuple bt_tuple (pah_cons (ph_var (pv 7)) pah_nil))) pag_nil))))))))))))))) hS
end
end Lk14

namespace Lk14
open PySem L2 DL PyProof.Rows Md Sh
/-! ### continued fractions -/
def cf (p q : Nat) : List Nat := if h : q = 0 then [] else (p / q) :: cf q (p % q)
termination_by q
decreasing_by exact Nat.mod_lt _ (Nat.pos_of_ne_zero h)
theorem cf_0 (p : Nat) : cf p 0 = [] := by rw [cf]; rfl
theorem cf_s {p q : Nat} (h : 0 < q) : cf p q = (p / q) :: cf q (p % q) := by
  rw [cf, dif_neg (by omega)]
theorem cf_ne {p q : Nat} (h : 0 < q) : cf p q ≠ [] := by rw [cf_s h]; exact List.cons_ne_nil _ _
theorem cf_len : ∀ (m p q : Nat), q < 2 ^ m → (cf p q).length ≤ 2 * m
  | 0, p, q, h => by
    have : q = 0 := by
      have : q < 1 := by simpa using h
      omega
    subst this
    rw [cf_0]
    simp
  | m + 1, p, q, h => by
    by_cases h0 : q = 0
    · subst h0; rw [cf_0]; simp
    · rw [cf_s (by omega)]
      by_cases h1 : p % q = 0
      · rw [h1, cf_0]
        simp
        omega
      · rw [cf_s (by omega)]
        have hr := Nat.mod_lt p (show q > 0 by omega)
        have hr2 := Nat.mod_lt q (show p % q > 0 by omega)
        have hd := Nat.div_add_mod q (p % q)
        have hq : 1 ≤ q / (p % q) := (Nat.le_div_iff_mul_le (by omega)).mpr (by omega)
        have hm : p % q ≤ (p % q) * (q / (p % q)) := Nat.le_mul_of_pos_right _ hq
        have := cf_len m (p % q) (q % (p % q)) (by rw [Nat.pow_succ] at h; omega)
        simp only [List.length_cons]
        omega
theorem cf_le : ∀ (q p M : Nat), p ≤ M → q ≤ M → ∀ t ∈ cf p q, t ≤ M := by
  intro q
  induction q using Nat.strongRecOn with
  | ind q ih =>
    intro p M hp hq t ht
    by_cases h0 : q = 0
    · subst h0; rw [cf_0] at ht; cases ht
    · rw [cf_s (by omega)] at ht
      rcases List.mem_cons.mp ht with rfl | ht
      · exact Nat.le_trans (Nat.div_le_self _ _) hp
      · have hr := Nat.mod_lt p (show q > 0 by omega)
        exact ih (p % q) hr q M hq (by omega) t ht
def ft : List Nat → Nat × Nat
  | [] => (1, 0)
  | t :: r => (t * (ft r).1 + (ft r).2, (ft r).1)
theorem ft_cf : ∀ (q p : Nat), p = Nat.gcd p q * (ft (cf p q)).1 ∧ q = Nat.gcd p q * (ft (cf p q)).2 := by
  intro q
  induction q using Nat.strongRecOn with
  | ind q ih =>
    intro p
    by_cases h0 : q = 0
    · subst h0; rw [cf_0, Nat.gcd_zero_right]; exact ⟨by simp [ft], by simp [ft]⟩
    · have hr := Nat.mod_lt p (show q > 0 by omega)
      obtain ⟨h1, h2⟩ := ih (p % q) hr q
      have e : Nat.gcd p q = Nat.gcd q (p % q) := by rw [Nat.gcd_comm p q, Nat.gcd_rec q p, Nat.gcd_comm]
      rw [cf_s (by omega), e]
      refine ⟨?_, h1⟩
      show p = Nat.gcd q (p % q) * (p / q * (ft (cf q (p % q))).1 + (ft (cf q (p % q))).2)
      rw [Nat.mul_add, ← h2, Nat.mul_left_comm, ← h1]
      have := Nat.div_add_mod p q
      rw [Nat.mul_comm] at this
      exact this.symm
theorem ft_cop {p q : Nat} (h : Nat.gcd p q = 1) : ft (cf p q) = (p, q) := by
  obtain ⟨h1, h2⟩ := ft_cf q p
  rw [h, Nat.one_mul] at h1 h2
  exact Prod.ext h1.symm h2.symm
theorem ft_app (a : List Nat) {s s' : List Nat} (h : ft s = ft s') : ft (a ++ s) = ft (a ++ s') := by
  induction a with
  | nil => exact h
  | cons t r ih => rw [List.cons_append, List.cons_append, ft, ft, ih]
theorem ft_le : ∀ row : List Nat, (∀ t ∈ row, t ≤ 60) → (ft row).1 ≤ 61 ^ row.length ∧ (ft row).2 ≤ 61 ^ row.length
  | [], _ => by simp [ft]
  | t :: r, h => by
    obtain ⟨h1, h2⟩ := ft_le r fun x hx => h x (List.mem_cons_of_mem _ hx)
    have ht := h t List.mem_cons_self
    have : t * (ft r).1 ≤ 60 * 61 ^ r.length := Nat.mul_le_mul ht h1
    rw [List.length_cons, Nat.pow_succ]
    refine ⟨?_, ?_⟩
    · show t * (ft r).1 + (ft r).2 ≤ _
      omega
    · show (ft r).1 ≤ _
      omega
/-- a row whose last is 2 or more, the rest 1 or more -/
def Row : List Nat → Prop
  | [] => False
  | [t] => 2 ≤ t
  | t :: r => 1 ≤ t ∧ Row r
theorem row_ft : ∀ r : List Nat, Row r → 1 ≤ (ft r).2 ∧ (ft r).2 < (ft r).1 ∧ cf (ft r).1 (ft r).2 = r
  | [t], h => by
    have h : 2 ≤ t := h
    refine ⟨by simp [ft], by simp [ft]; omega, ?_⟩
    show cf (t * 1 + 0) 1 = [t]
    rw [cf_s (by decide), Nat.mod_one, cf_0]
    simp
  | t :: u :: r, h => by
    have h1 : 1 ≤ t := h.1
    obtain ⟨h2, h3, h4⟩ := row_ft (u :: r) h.2
    generalize hr : ft (u :: r) = f at *
    have e : ft (t :: u :: r) = (t * f.1 + f.2, f.1) := by rw [← hr]; rfl
    rw [e]
    have ht : f.1 ≤ t * f.1 := Nat.le_mul_of_pos_left _ h1
    refine ⟨by show 1 ≤ f.1; omega, by show f.1 < t * f.1 + f.2; omega, ?_⟩
    show cf (t * f.1 + f.2) f.1 = t :: u :: r
    rw [cf_s (by omega), Nat.mul_comm, Nat.mul_add_div (by omega), Nat.mul_add_mod, Nat.div_eq_of_lt h3, Nat.mod_eq_of_lt h3, h4, Nat.add_zero]
theorem row_ft0 {t : Nat} {r : List Nat} (h : Row r) : cf (ft (t :: r)).1 (ft (t :: r)).2 = t :: r ∧ 1 ≤ (ft (t :: r)).2 := by
  obtain ⟨h2, h3, h4⟩ := row_ft r h
  refine ⟨?_, by show 1 ≤ (ft r).1; omega⟩
  show cf (t * (ft r).1 + (ft r).2) (ft r).1 = t :: r
  rw [cf_s (by omega), Nat.mul_comm, Nat.mul_add_div (by omega), Nat.mul_add_mod, Nat.div_eq_of_lt h3, Nat.mod_eq_of_lt h3, h4, Nat.add_zero]
/-! ### steps -/
def decL : List Nat → List Nat
  | [] => []
  | [t] => [t - 1]
  | t :: u :: r => t :: decL (u :: r)
def addF (n : Nat) : List Nat → List Nat
  | [] => []
  | t :: r => (n + t) :: r
def alt (c : Bool) : List Nat → List (Bool × Nat)
  | [] => []
  | t :: r => (c, t) :: alt (!c) r
def sw (a b : Nat) : List Bool := if h : 0 < a ∧ 0 < b ∧ a ≠ b then (if a > b then true :: sw (a - b) b else false :: sw a (b - a)) else []
termination_by a + b
def rl (c : Bool) (n : Nat) : List Bool → List (Bool × Nat)
  | [] => [(c, n)]
  | s :: w => if s = c then rl c (n + 1) w else (c, n) :: rl s 1 w
theorem cf_sub {a b : Nat} (hb : 0 < b) (h : b < a) : cf a b = addF 1 (cf (a - b) b) := by
  rw [cf_s hb, cf_s hb, Nat.mod_eq_sub_mod (Nat.le_of_lt h)]
  show _ = (1 + (a - b) / b) :: _
  rw [Nat.div_eq_sub_div hb (Nat.le_of_lt h), Nat.add_comm]
theorem decL_cons {t : Nat} {r : List Nat} (h : r ≠ []) : decL (t :: r) = t :: decL r := by
  cases r with
  | nil => exact absurd rfl h
  | cons u r => rfl
theorem addF_addF (m n : Nat) (l : List Nat) : addF n (addF m l) = addF (n + m) l := by
  cases l with
  | nil => rfl
  | cons t r => show (n + (m + t)) :: r = (n + m + t) :: r; rw [Nat.add_assoc]
theorem addF_ne {n : Nat} {l : List Nat} (h : l ≠ []) : addF n l ≠ [] := by
  cases l with
  | nil => exact absurd rfl h
  | cons t r => exact List.cons_ne_nil _ _
theorem rl_sw : ∀ (m a b : Nat), a + b ≤ m → 0 < a → 0 < b → Nat.gcd a b = 1 → ∀ n, rl true n (sw a b) = alt true (decL (addF n (cf a b))) ∧ rl false n (sw a b) = alt false (decL (addF n (cf b a))) := by
  intro m
  induction m with
  | zero => intro a b h ha; omega
  | succ m ih =>
    intro a b hm ha hb hg n
    by_cases he : a = b
    · subst he
      rw [Nat.gcd_self] at hg
      subst hg
      have : sw 1 1 = [] := by rw [sw]; simp
      have c : cf 1 1 = [1] := by rw [cf_s (by decide), Nat.mod_one, cf_0]
      rw [this, c]
      exact ⟨rfl, rfl⟩
    · by_cases hab : a > b
      · have e : sw a b = true :: sw (a - b) b := by rw [sw, dif_pos ⟨ha, hb, he⟩, if_pos hab]
        have hg' : Nat.gcd (a - b) b = 1 := by rw [Nat.gcd_sub_self_left (Nat.le_of_lt hab)]; exact hg
        obtain ⟨h1, h2⟩ := ih (a - b) b (by omega) (by omega) hb hg' (n + 1)
        obtain ⟨h3, h4⟩ := ih (a - b) b (by omega) (by omega) hb hg' 1
        rw [e]
        refine ⟨?_, ?_⟩
        · show rl true (n + 1) (sw (a - b) b) = _
          rw [h1, cf_sub hb hab, addF_addF]
        · show (false, n) :: rl true 1 (sw (a - b) b) = _
          rw [h3]
          have e2 : cf b a = 0 :: cf a b := by
            rw [cf_s ha, Nat.div_eq_of_lt hab, Nat.mod_eq_of_lt hab]
          rw [e2, ← cf_sub hb hab]
          show _ = alt false (decL ((n + 0) :: cf a b))
          rw [decL_cons (cf_ne hb)]
          rfl
      · have e : sw a b = false :: sw a (b - a) := by rw [sw, dif_pos ⟨ha, hb, he⟩, if_neg hab]
        have hg' : Nat.gcd a (b - a) = 1 := by rw [Nat.gcd_sub_self_right (by omega)]; exact hg
        obtain ⟨h1, h2⟩ := ih a (b - a) (by omega) ha (by omega) hg' (n + 1)
        obtain ⟨h3, h4⟩ := ih a (b - a) (by omega) ha (by omega) hg' 1
        have hba : a < b := by omega
        rw [e]
        refine ⟨?_, ?_⟩
        · show (true, n) :: rl false 1 (sw a (b - a)) = _
          rw [h4]
          have e2 : cf a b = 0 :: cf b a := by
            rw [cf_s hb, Nat.div_eq_of_lt hba, Nat.mod_eq_of_lt hba]
          rw [e2, ← cf_sub ha hba]
          show _ = alt true (decL ((n + 0) :: cf b a))
          rw [decL_cons (cf_ne ha)]
          rfl
        · show rl false (n + 1) (sw a (b - a)) = _
          rw [h2, cf_sub ha hba, addF_addF]
theorem steps_eq {a b : Nat} (ha : 0 < a) (hb : 0 < b) (hg : Nat.gcd a b = 1) : rl true 0 (sw a b) = alt true (decL (cf a b)) := by
  rw [(rl_sw (a + b) a b (Nat.le_refl _) ha hb hg 0).1]
  rw [cf_s hb]
  show alt true (decL ((0 + a / b) :: _)) = _
  rw [Nat.zero_add]
theorem sw_len : ∀ (m a b : Nat), a + b ≤ m → (sw a b).length ≤ a + b := by
  intro m
  induction m with
  | zero => intro a b h; rw [sw, dif_neg (by omega)]; simp
  | succ m ih =>
    intro a b h
    rw [sw]
    split
    · rename_i h0
      split
      · have := ih (a - b) b (by omega)
        simp
        omega
      · have := ih a (b - a) (by omega)
        simp
        omega
    · simp
/-! ### the simplest -/
def ceilN (a b : Nat) : Nat := (a + b - 1) / b
theorem ceil_le {a b u : Nat} (hb : 0 < b) : ceilN a b ≤ u ↔ a ≤ u * b := by
  unfold ceilN
  rw [Nat.div_le_iff_le_mul_add_pred hb, Nat.mul_comm]
  omega
theorem ceil_le1 {a b : Nat} (hb : 0 < b) : ceilN a b ≤ a / b + 1 := by
  rw [ceil_le hb]
  have := Nat.lt_div_mul_add (a := a) hb
  rw [Nat.add_mul]
  omega
def sp (a b c d : Nat) : List Nat := if h : 0 < b ∧ 0 < d ∧ c < ceilN a b * d then (a / b) :: sp d (c - a / b * d) b (a % b) else [ceilN a b]
termination_by b + d
decreasing_by
  have h1 := Nat.mod_lt a h.1
  have h2 := ceil_le1 (a := a) h.1
  have h3 : ceilN a b * d ≤ (a / b + 1) * d := Nat.mul_le_mul_right _ h2
  rw [Nat.add_mul] at h3
  omega
structure Inn (a b c d u v : Nat) : Prop where
  pv : 0 < v
  lo : a * v ≤ u * b
  hi : u * d ≤ c * v
structure Sml (a b c d u v : Nat) : Prop where
  inn : Inn a b c d u v
  pu : 0 < u
  mn : ∀ u' v', Inn a b c d u' v' → u ≤ u' ∧ v ≤ v'
theorem sml_step {t b r d s u v : Nat} (ht : 0 < b) (hr : 0 < r) (I : Sml d s b r u v) : Sml (b * t + r) b (t * d + s) d (t * u + v) u := by
  obtain ⟨⟨pv, lo, hi⟩, pu, mn⟩ := I
  refine ⟨⟨pu, ?_, ?_⟩, by omega, fun u' v' ⟨pv', lo', hi'⟩ => ?_⟩
  · simp only [Nat.add_mul, Nat.mul_add, Nat.mul_assoc, Nat.mul_comm, Nat.mul_left_comm] at *
    omega
  · simp only [Nat.add_mul, Nat.mul_add, Nat.mul_assoc, Nat.mul_comm, Nat.mul_left_comm] at *
    omega
  · have hlt : t * v' < u' := by
      have h1 : 0 < r * v' := Nat.mul_pos hr pv'
      have h2 : b * (t * v') < b * u' := by
        simp only [Nat.add_mul, Nat.mul_add, Nat.mul_assoc, Nat.mul_comm, Nat.mul_left_comm] at *
        omega
      exact Nat.lt_of_mul_lt_mul_left h2
    obtain ⟨w, hw⟩ : ∃ w, u' = t * v' + w := ⟨u' - t * v', by omega⟩
    have hw0 : 0 < w := by omega
    subst hw
    obtain ⟨g1, g2⟩ := mn v' w ⟨hw0, by
      simp only [Nat.add_mul, Nat.mul_add, Nat.mul_assoc, Nat.mul_comm, Nat.mul_left_comm] at *
      omega, by
      simp only [Nat.add_mul, Nat.mul_add, Nat.mul_assoc, Nat.mul_comm, Nat.mul_left_comm] at *
      omega⟩
    have := Nat.mul_le_mul_left t g1
    exact ⟨by omega, g1⟩
theorem sp_simp : ∀ (m a b c d : Nat), b + d ≤ m → 0 < a → 0 < b → 0 < d → a * d ≤ c * b → Sml a b c d (ft (sp a b c d)).1 (ft (sp a b c d)).2 := by
  intro m
  induction m with
  | zero => intro a b c d h _ hb; omega
  | succ m ih =>
    intro a b c d hm ha hb hd hac
    rw [sp]
    split
    · rename_i h
      obtain ⟨_, _, h⟩ := h
      have c1 := ceil_le1 (a := a) hb
      have h3 : ceilN a b * d ≤ (a / b + 1) * d := Nat.mul_le_mul_right _ c1
      rw [Nat.add_mul] at h3
      have hdm := Nat.div_add_mod a b
      have hr := Nat.mod_lt a hb
      -- b does not divide a
      have hr0 : 0 < a % b := by
        by_cases h0 : a % b = 0
        · exfalso
          have : ceilN a b ≤ a / b := by
            rw [ceil_le hb, Nat.mul_comm]
            omega
          have h4 : ceilN a b * d ≤ a / b * d := Nat.mul_le_mul_right _ this
          have h5 : c * b < a / b * d * b := Nat.mul_lt_mul_of_pos_right (by omega) hb
          have h6 : a / b * d * b = a * d := by
            rw [Nat.mul_right_comm]
            congr 1
            rw [Nat.mul_comm]
            omega
          omega
        · omega
      have hcd : a / b * d < c := by
        have h5 : a / b * d * b < c * b := by
          have h6 : a / b * d * b = (b * (a / b)) * d := by
            rw [Nat.mul_right_comm, Nat.mul_comm (a / b) b]
          have h7 : b * (a / b) * d < a * d := Nat.mul_lt_mul_of_pos_right (by omega) hd
          omega
        exact Nat.lt_of_mul_lt_mul_right h5
      generalize a / b = t at *
      generalize hrr : a % b = r at *
      have e1 : a = b * t + r := by omega
      obtain ⟨s, hs⟩ : ∃ s, c = t * d + s := ⟨c - t * d, by omega⟩
      have hs0 : 0 < s := by omega
      have e2 : c - t * d = s := by omega
      rw [e2]
      have hrs : d * r ≤ b * s := by
        rw [hs, e1] at hac
        simp only [Nat.add_mul, Nat.mul_add] at hac
        have a1 : b * t * d = t * d * b := by rw [Nat.mul_comm b t, Nat.mul_right_comm]
        have a2 : r * d = d * r := Nat.mul_comm _ _
        have a3 : s * b = b * s := Nat.mul_comm _ _
        omega
      have I := ih d s b r (by omega) hd hs0 hr0 hrs
      show Sml a b c d (t * (ft (sp d s b r)).1 + (ft (sp d s b r)).2) (ft (sp d s b r)).1
      rw [e1, hs]
      exact sml_step hb hr0 I
    · rename_i h
      have hc : ceilN a b * d ≤ c := by
        have : ¬ c < ceilN a b * d := fun z => h ⟨hb, hd, z⟩
        omega
      have hn : a ≤ ceilN a b * b := (ceil_le hb).mp (Nat.le_refl _)
      show Sml a b c d (ceilN a b * 1 + 0) 1
      rw [Nat.mul_one, Nat.add_zero]
      refine ⟨⟨by decide, by omega, by omega⟩, ?_, fun u' v' ⟨pv', lo', hi'⟩ => ⟨?_, pv'⟩⟩
      · by_cases h0 : ceilN a b = 0
        · rw [h0] at hn; omega
        · omega
      · rw [ceil_le hb]
        have : a * 1 ≤ a * v' := Nat.mul_le_mul_left a pv'
        omega
theorem sp_len : ∀ (m a b c d : Nat), b + d ≤ m → (sp a b c d).length ≤ b + d + 1 := by
  intro m
  induction m with
  | zero => intro a b c d h; rw [sp, dif_neg (by omega)]; simp
  | succ m ih =>
    intro a b c d hm
    rw [sp]
    split
    · rename_i h
      obtain ⟨hb, hd, h⟩ := h
      have c1 := ceil_le1 (a := a) hb
      have h3 : ceilN a b * d ≤ (a / b + 1) * d := Nat.mul_le_mul_right _ c1
      rw [Nat.add_mul] at h3
      have hr := Nat.mod_lt a hb
      have := ih d (c - a / b * d) b (a % b) (by omega)
      simp
      omega
    · simp
theorem sp_le : ∀ (m a b c d M : Nat), b + d ≤ m → a ≤ M → b ≤ M → c ≤ M → d ≤ M → ∀ t ∈ sp a b c d, t ≤ 2 * M := by
  intro m
  induction m with
  | zero =>
    intro a b c d M h ha hb hc hd t ht
    rw [sp, dif_neg (by omega)] at ht
    rw [List.mem_singleton.mp ht]
    have : ceilN a b ≤ a + b - 1 := Nat.div_le_self _ _
    omega
  | succ m ih =>
    intro a b c d M hm ha hb hc hd t ht
    rw [sp] at ht
    split at ht
    · rename_i h
      obtain ⟨hb', hd', h⟩ := h
      have c1 := ceil_le1 (a := a) hb'
      have h3 : ceilN a b * d ≤ (a / b + 1) * d := Nat.mul_le_mul_right _ c1
      rw [Nat.add_mul] at h3
      have hr := Nat.mod_lt a hb'
      rcases List.mem_cons.mp ht with rfl | ht
      · have := Nat.div_le_self a b
        omega
      · exact ih d (c - a / b * d) b (a % b) M (by omega) hd (by omega) hb (by omega) t ht
    · rw [List.mem_singleton.mp ht]
      have : ceilN a b ≤ a + b - 1 := Nat.div_le_self _ _
      omega
theorem Sml.cop {a b c d u v : Nat} (h : Sml a b c d u v) : Nat.gcd u v = 1 := by
  have hg : 0 < Nat.gcd u v := Nat.gcd_pos_of_pos_left v h.pu
  obtain ⟨x, hx⟩ := Nat.gcd_dvd_left u v
  obtain ⟨y, hy⟩ := Nat.gcd_dvd_right u v
  generalize Nat.gcd u v = g at hg hx hy ⊢
  have hy0 : 0 < y := by
    rcases Nat.eq_zero_or_pos y with z | z
    · rw [z] at hy; have := h.inn.pv; omega
    · exact z
  have hi : Inn a b c d x y := by
    refine ⟨hy0, ?_, ?_⟩
    · have := h.inn.lo
      rw [hx, hy] at this
      have h2 : g * (a * y) ≤ g * (x * b) := by
        simp only [Nat.mul_assoc, Nat.mul_comm, Nat.mul_left_comm] at *
        omega
      exact Nat.le_of_mul_le_mul_left h2 hg
    · have := h.inn.hi
      rw [hx, hy] at this
      have h2 : g * (x * d) ≤ g * (c * y) := by
        simp only [Nat.mul_assoc, Nat.mul_comm, Nat.mul_left_comm] at *
        omega
      exact Nat.le_of_mul_le_mul_left h2 hg
  have h3 := (h.mn x y hi).2
  have h4 : y * g ≤ y * 1 := by rw [Nat.mul_comm, ← hy]; omega
  have := Nat.le_of_mul_le_mul_left h4 hy0
  omega
end Lk14

namespace Lk14
open PySem L2 DL PyProof.Rows Md Sh
def nD (l : List Nat) : List D := l.map fun n : Nat => D.int (n : Int)
/-- a number well within reach -/
def lim : Nat := 2 ^ 900
theorem nD_len (l : List Nat) : (nD l).length = l.length := by simp [nD]
theorem nD_app (a b : List Nat) : nD (a ++ b) = nD a ++ nD b := by simp [nD]
def qN (p : Nat × Nat) : D := qD ((p.1 : Int), (p.2 : Int))
theorem big {n : Nat} (h : n < lim) : Bg (n : Int) := bg_le (n := 900) (by rw [Int.natAbs_natCast]; exact h) (by decide)
theorem divOk_n {q : Nat} (h : 0 < q) (h2 : q < lim) : DivOk (q : Int) := ⟨by omega, Nat.lt_of_lt_of_le (by rw [Int.natAbs_natCast]; exact h2) (pow_mono2 (a := 900) (by decide))⟩
theorem mod_n (p q : Nat) : (p : Int) - (p : Int) / (q : Int) * (q : Int) = (p : Int) % (q : Int) := by
  rw [Int.emod_def, Int.mul_comm]
/-! ### terms -/
theorem terms_while {x : D} : ∀ (q p : Nat) (acc : List D), acc.length + (cf p q).length < 16000000 → p < lim → q < lim →
    ∃ p' : Int, sWhile m_terms_t1 m_terms_w1 [some (.f x), some (.f (.int (p : Int))), some (.f (.int (q : Int))), some (.l false acc)] = .nx [some (.f x), some (.f (.int p')), some (.f (.int 0)), some (.l false (acc ++ nD (cf p q)))] := by
  intro q
  induction q using Nat.strongRecOn with
  | ind q ih =>
    intro p acc hl hp hq
    by_cases h0 : q = 0
    · subst h0
      refine ⟨p, ?_⟩
      rw [cf_0]
      exact while_f (by simp [m_terms_t1, nD])
    · have hr := Nat.mod_lt p (show q > 0 by omega)
      have hq0 : (0 : Int) < (q : Int) := by omega
      have hpq : p / q < lim := Nat.lt_of_le_of_lt (Nat.div_le_self _ _) hp
      have hm : MulOk ((p : Int) / (q : Int)) (q : Int) := by
        have := bg_mul (big hpq) (big hq)
        rwa [Int.natCast_ediv] at this
      have hd := divOk_n (show 0 < q by omega) hq
      rw [cf_s (by omega)] at hl ⊢
      simp only [List.length_cons] at hl
      obtain ⟨p', g⟩ := ih (p % q) hr q (acc ++ [.int ((p / q : Nat) : Int)]) (by simp; omega) hq (by omega)
      refine ⟨p', ?_⟩
      have hl2 : acc.length < 16000000 := by omega
      rw [while_t (e1 := [some (.f x), some (.f (.int (p : Int))), some (.f (.int (q : Int))), some (.l false acc)]) (e2 := [some (.f x), some (.f (.int (q : Int))), some (.f (.int ((p % q : Nat) : Int))), some (.l false (acc ++ [.int ((p / q : Nat) : Int)]))]) (by simp [m_terms_t1]; omega) (by simp [m_terms_w1, fdivD_i hd, hl2, mulD_i hm, mod_n])]
      rw [g]
      simp [nD]
noncomputable def S_terms : Sf
  | [.f (.tuple [.int p, .int q])] => if 0 ≤ p ∧ p < (lim : Int) ∧ 0 ≤ q ∧ q < (lim : Int) then .ok (.f (.tuple (nD (cf p.toNat q.toNat))), []) else .no
  | _ => .no
theorem terms_r {p q : Nat} (hp : p < lim) (hq : q < lim) : S_terms [.f (.tuple [.int (p : Int), .int (q : Int)])] = .ok (.f (.tuple (nD (cf p q))), []) := by
  unfold S_terms
  dsimp only
  rw [if_pos ⟨by omega, by omega, by omega, by omega⟩, Int.toNat_natCast, Int.toNat_natCast]
theorem cf_short {p q : Nat} (hq : q < lim) : (cf p q).length ≤ 1800 := cf_len 900 p q hq
theorem sem_terms : ∀ cs c outs, S_terms cs = .ok (c, outs) → cs.length = 1 ∧ runD 4 m_terms cs = .ok (c, outs) := by
  intro cs c outs h
  unfold S_terms at h
  split at h
  · rename_i p q
    obtain ⟨⟨h0, h1, h2, h3⟩, h⟩ := ite_ok h
    cases h
    obtain ⟨p, rfl⟩ := Int.eq_ofNat_of_zero_le h0
    obtain ⟨q, rfl⟩ := Int.eq_ofNat_of_zero_le h2
    have hp : p < lim := by omega
    have hq : q < lim := by omega
    refine ⟨rfl, ?_⟩
    have := cf_short (p := p) hq
    obtain ⟨p', g⟩ := terms_while (x := .tuple [.int (p : Int), .int (q : Int)]) q p [] (by simp; omega) hp hq
    simp [runD_r, startE, m_terms, g]
  · cases h
theorem lterms_while {x : D} : ∀ (q p : Nat) (acc : List D), acc.length + (cf p q).length < 16000000 → p < lim → q < lim →
    ∃ p' : Int, sWhile m_law_terms_t1 m_law_terms_w1 [some (.f x), some (.l false acc), some (.f (.int (p : Int))), some (.f (.int (q : Int)))] = .nx [some (.f x), some (.l false (acc ++ nD (cf p q))), some (.f (.int p')), some (.f (.int 0))] := by
  intro q
  induction q using Nat.strongRecOn with
  | ind q ih =>
    intro p acc hl hp hq
    by_cases h0 : q = 0
    · subst h0
      refine ⟨p, ?_⟩
      rw [cf_0]
      exact while_f (by simp [m_law_terms_t1, nD])
    · have hr := Nat.mod_lt p (show q > 0 by omega)
      have hq0 : (0 : Int) < (q : Int) := by omega
      have hpq : p / q < lim := Nat.lt_of_le_of_lt (Nat.div_le_self _ _) hp
      have hm : MulOk ((p : Int) / (q : Int)) (q : Int) := by
        have := bg_mul (big hpq) (big hq)
        rwa [Int.natCast_ediv] at this
      have hd := divOk_n (show 0 < q by omega) hq
      rw [cf_s (by omega)] at hl ⊢
      simp only [List.length_cons] at hl
      obtain ⟨p', g⟩ := ih (p % q) hr q (acc ++ [.int ((p / q : Nat) : Int)]) (by simp; omega) hq (by omega)
      refine ⟨p', ?_⟩
      have hl2 : acc.length < 16000000 := by omega
      rw [while_t (e1 := [some (.f x), some (.l false acc), some (.f (.int (p : Int))), some (.f (.int (q : Int)))]) (e2 := [some (.f x), some (.l false (acc ++ [.int ((p / q : Nat) : Int)])), some (.f (.int (q : Int))), some (.f (.int ((p % q : Nat) : Int)))]) (by simp [m_law_terms_t1]; omega) (by simp [m_law_terms_w1, fdivD_i hd, hl2, mulD_i hm, mod_n])]
      rw [g]
      simp [nD]
theorem sem_law_terms : ∀ cs c outs, S_terms cs = .ok (c, outs) → cs.length = 1 ∧ runD 4 m_law_terms cs = .ok (c, outs) := by
  intro cs c outs h
  unfold S_terms at h
  split at h
  · rename_i p q
    obtain ⟨⟨h0, h1, h2, h3⟩, h⟩ := ite_ok h
    cases h
    obtain ⟨p, rfl⟩ := Int.eq_ofNat_of_zero_le h0
    obtain ⟨q, rfl⟩ := Int.eq_ofNat_of_zero_le h2
    have hp : p < lim := by omega
    have hq : q < lim := by omega
    refine ⟨rfl, ?_⟩
    have := cf_short (p := p) hq
    obtain ⟨p', g⟩ := lterms_while (x := .tuple [.int (p : Int), .int (q : Int)]) q p [] (by simp; omega) hp hq
    simp [runD_r, startE, m_law_terms, g]
  · cases h
/-! ### from_terms -/
def dN : D → Nat
  | .int i => i.toNat
  | _ => 0
theorem nD_dN (l : List Nat) : (nD l).map dN = l := by
  unfold nD
  rw [List.map_map]
  have : (dN ∘ fun n : Nat => D.int (n : Int)) = id := by funext n; rfl
  rw [this, List.map_id]
open Classical in
noncomputable def fromA (ds : List D) : Rs (Ce × List Ce) := if ds = nD (ds.map dN) ∧ ∀ t ∈ ds.map dN, t < 2 ^ 64 then .ok (.f (qN (ft (ds.map dN))), []) else .no
noncomputable def S_from_terms : Sf
  | [.f (.tuple ds)] => fromA ds
  | [.f (.list ds)] => fromA ds
  | _ => .no
theorem fromA_r {l : List Nat} (h : ∀ t ∈ l, t < 2 ^ 64) : fromA (nD l) = .ok (.f (qN (ft l)), []) := by
  unfold fromA
  rw [nD_dN]
  exact if_pos ⟨rfl, h⟩
theorem fromA_inv {ds : List D} {r : Ce × List Ce} (h : fromA ds = .ok r) : ∃ l, ds = nD l ∧ (∀ t ∈ l, t < 2 ^ 64) ∧ r = (.f (qN (ft l)), []) := by
  unfold fromA at h
  by_cases hc : ds = nD (ds.map dN) ∧ ∀ t ∈ ds.map dN, t < 2 ^ 64
  · rw [if_pos hc] at h
    cases h
    exact ⟨_, hc.1, hc.2, rfl⟩
  · rw [if_neg hc] at h
    cases h
def ftS (s : Nat × Nat) (t : Nat) : Nat × Nat := (t * s.1 + s.2, s.1)
theorem ft_fold (l : List Nat) : l.reverse.foldl ftS (1, 0) = ft l := by
  rw [List.foldl_reverse]
  induction l with
  | nil => rfl
  | cons t r ih => rw [List.foldr_cons, ih]; rfl
theorem from_loop {x : D} {l : List Nat} (h : ∀ t ∈ l, t < 2 ^ 64) : ∃ o : Option D, loopL (tgN 3) m_from_terms_b1 (nD l).reverse [some (.f x), some (.f (.int 1)), some (.f (.int 0)), none] = .nx [some (.f x), some (.f (.int ((ft l).1 : Int))), some (.f (.int ((ft l).2 : Int))), o.map .f] := by
  obtain ⟨e', g1, ⟨o, rfl⟩, g3⟩ := loopL_fold (t := tgN 3) (b := m_from_terms_b1) (fun n : Nat => D.int (n : Int)) (fun s e => ∃ o : Option D, e = [some (.f x), some (.f (.int (s.1 : Int))), some (.f (.int (s.2 : Int))), o.map .f]) ftS (fun _ xs => ∀ t ∈ xs, t < 2 ^ 64) (by
    rintro t xs s e hp ⟨o, rfl⟩
    have ht := hp t List.mem_cons_self
    have m : MulOk (t : Int) (s.1 : Int) := mulOk_l (by omega) (by omega)
    exact ⟨[some (.f x), some (.f (.int (s.1 : Int))), some (.f (.int (s.2 : Int))), some (.f (.int (t : Int)))], [some (.f x), some (.f (.int (((t * s.1 + s.2 : Nat)) : Int))), some (.f (.int (s.1 : Int))), some (.f (.int (t : Int)))], by simp, by simp [m_from_terms_b1, mulD_i m], ⟨some (.int (t : Int)), rfl⟩, fun u hu => hp u (List.mem_cons_of_mem _ hu)⟩) l.reverse (1, 0) [some (.f x), some (.f (.int 1)), some (.f (.int 0)), none] (fun t ht => h t (List.mem_reverse.mp ht)) ⟨none, rfl⟩
  rw [ft_fold] at g1
  refine ⟨o, ?_⟩
  rw [← g1]
  unfold nD
  rw [List.map_reverse]
theorem sem_from_terms : ∀ cs c outs, S_from_terms cs = .ok (c, outs) → cs.length = 1 ∧ runD 4 m_from_terms cs = .ok (c, outs) := by
  intro cs c outs h
  unfold S_from_terms at h
  split at h
  · obtain ⟨l, rfl, h2, h3⟩ := fromA_inv h
    cases h3
    obtain ⟨o, g⟩ := from_loop (x := .tuple (nD l)) h2
    exact ⟨rfl, by simp [runD_r, startE, m_from_terms, g, qN, qD]⟩
  · obtain ⟨l, rfl, h2, h3⟩ := fromA_inv h
    cases h3
    obtain ⟨o, g⟩ := from_loop (x := .list (nD l)) h2
    exact ⟨rfl, by simp [runD_r, startE, m_from_terms, g, qN, qD]⟩
  · cases h
/-! ### steps -/
def aD' (p : Bool × Nat) : D := .tuple [.str (if p.1 then "R" else "L"), .int (p.2 : Int)]
theorem cf_last : ∀ (q p : Nat), 0 < q → 0 < p → ∃ ini t, cf p q = ini ++ [t] ∧ 1 ≤ t := by
  intro q
  induction q using Nat.strongRecOn with
  | ind q ih =>
    intro p hq hp
    rw [cf_s hq]
    by_cases h0 : p % q = 0
    · rw [h0, cf_0]
      have hd := Nat.div_add_mod p q
      refine ⟨[], p / q, rfl, ?_⟩
      rcases Nat.eq_zero_or_pos (p / q) with z | z
      · rw [z] at hd; omega
      · exact z
    · obtain ⟨ini, t, h1, h2⟩ := ih (p % q) (Nat.mod_lt p hq) q (by omega) hq
      exact ⟨p / q :: ini, t, by rw [h1]; rfl, h2⟩
theorem decL_last (ini : List Nat) (t : Nat) : decL (ini ++ [t]) = ini ++ [t - 1] := by
  induction ini with
  | nil => rfl
  | cons a r ih =>
    rw [List.cons_append, decL_cons (by simp), ih]
    rfl
theorem atI_last (ds : List D) (d : D) : atI (ds ++ [d]) (-1) = some d := by
  unfold atI ixN
  rw [if_neg (by decide), if_pos (by simp; omega), Option.bind_some]
  have : ((-1 : Int) + ((ds ++ [d]).length : Int)).toNat = ds.length := by simp; omega
  rw [this]
  simp
theorem ixN_last (n : Nat) : ixN (n + 1) (-1) = some n := by
  unfold ixN
  rw [if_neg (by decide), if_pos (by omega)]
  congr 1
  omega
theorem ixD_last (ds : List D) (d : D) : ixD (.list (ds ++ [d])) (.int (-1)) = .ok (.f d) := by rw [ixD_l, atI_last]
theorem ixD_lastT (ds : List D) (d : D) : ixD (.tuple (ds ++ [d])) (.int (-1)) = .ok (.f d) := by rw [ixD_t, atI_last]
def lab : D → D
  | .tuple [.int i, n] => .tuple [.str (if i % 2 = 1 then "L" else "R"), n]
  | d => d
theorem lab_en : ∀ (l : List Nat) (k : Nat), (enD k (nD l)).map lab = (alt (k % 2 == 0) l).map aD'
  | [], _ => rfl
  | t :: r, k => by
    show lab (.tuple [.int (k : Int), .int (t : Int)]) :: (enD (k + 1) (nD r)).map lab = aD' (k % 2 == 0, t) :: (alt (!(k % 2 == 0)) r).map aD'
    rw [lab_en r (k + 1)]
    congr 1
    · show D.tuple [.str (if (k : Int) % 2 = 1 then "L" else "R"), _] = D.tuple [.str (if (k % 2 == 0) = true then "R" else "L"), _]
      rcases Nat.mod_two_eq_zero_or_one k with h | h
      · rw [if_neg (by omega), h]; rfl
      · rw [if_pos (by omega), h]; rfl
    · rcases Nat.mod_two_eq_zero_or_one k with h | h
      · rw [h, show (k + 1) % 2 = 1 by omega]; rfl
      · rw [h, show (k + 1) % 2 = 0 by omega]; rfl
theorem mem_en : ∀ (ds : List D) (k : Nat) (d : D), d ∈ enD k ds → ∃ (i : Nat) (x : D), d = .tuple [.int (i : Int), x] ∧ x ∈ ds
  | [], _, _, h => by cases h
  | a :: ds, k, d, h => by
    rcases List.mem_cons.mp h with rfl | h
    · exact ⟨k, a, rfl, List.mem_cons_self⟩
    · obtain ⟨i, x, h1, h2⟩ := mem_en ds (k + 1) d h
      exact ⟨i, x, h1, List.mem_cons_of_mem _ h2⟩
theorem enD_len : ∀ (ds : List D) (k : Nat), (enD k ds).length = ds.length
  | [], _ => rfl
  | _ :: ds, k => congrArg (· + 1) (enD_len ds (k + 1))
noncomputable def S_steps : Sf
  | [.f (.tuple [.int p, .int q])] => if 0 < p ∧ p < (lim : Int) ∧ 0 < q ∧ q < (lim : Int) then .ok (.f (.tuple ((alt true (decL (cf p.toNat q.toNat))).map aD')), []) else .no
  | _ => .no
theorem steps_r {p q : Nat} (hp0 : 0 < p) (hp : p < lim) (hq0 : 0 < q) (hq : q < lim) : S_steps [.f (.tuple [.int (p : Int), .int (q : Int)])] = .ok (.f (.tuple ((alt true (decL (cf p q))).map aD')), []) := by
  unfold S_steps
  dsimp only
  rw [if_pos ⟨by omega, by omega, by omega, by omega⟩, Int.toNat_natCast, Int.toNat_natCast]
theorem hz_of {n : Nat} (h : n ≤ 1800) : n < 16000000 := by omega
theorem steps_comp {x : D} {l : List Nat} (hl : l.length ≤ 1800) : mComp (mEnum (mVar 1)) (tgT [tgN 2, tgN 3]) [2, 3] mYes m_steps_e1 [some (.f x), some (.f (.list (nD l))), none, none] = .ok (.l false ((alt true l).map aD'), [some (.f x), some (.f (.list (nD l))), none, none]) := by
  rw [mComp_map lab (ds := enD 0 (nD l)) (is := [2, 3]) (by simp) (tgOk_t (.cons (tgOk_n 2) (.cons (tgOk_n 3) .nil))) (by simp) (by simp) (hz_of (by rw [enD_len, nD_len]; exact hl)), lab_en]
  · rfl
  · intro d hd
    obtain ⟨i, y, rfl, hx⟩ := mem_en _ _ _ hd
    refine ⟨[some (.f x), some (.f (.list (nD l))), some (.f (.int (i : Int))), some (.f y)], by simp [wipeE], ?_⟩
    by_cases hi : (i : Int) % 2 = 1
    · simp [m_steps_e1, lab, hi, modD_i]
    · simp [m_steps_e1, lab, hi, modD_i]
theorem steps_fin {x : D} {ini : List Nat} {t : Nat} (e2 : 1 ≤ t) (hl : (ini ++ [t]).length ≤ 1800) (ht : S_terms [.f x] = .ok (.f (.tuple (nD ini ++ nD [t])), [])) : runD 4 (m_steps S_terms) [.f x] = .ok (.f (.tuple ((alt true (ini ++ [t - 1])).map aD')), []) := by
  have ht1 : (t : Int) - 1 = ((t - 1 : Nat) : Int) := by omega
  have hat : atI (nD ini ++ nD [t]) (-1) = some (.int (t : Int)) := atI_last _ _
  have hix : ixN ((nD ini).length + (nD [t]).length) (-1) = some (nD ini).length := ixN_last _
  have hset : (nD ini ++ nD [t]).set (nD ini).length (.int ((t : Int) - 1)) = nD (ini ++ [t - 1]) := by
    rw [List.set_append_right _ _ (Nat.le_refl _), Nat.sub_self, nD_app, ht1]
    rfl
  have hl2 : (ini ++ [t - 1]).length ≤ 1800 := by
    rw [List.length_append] at *
    exact hl
  have hc := steps_comp (x := x) hl2
  simp [runD_r, startE, m_steps, ht, hat, hix, hset, hc]
theorem sem_steps : ∀ cs c outs, S_steps cs = .ok (c, outs) → cs.length = 1 ∧ runD 4 (m_steps S_terms) cs = .ok (c, outs) := by
  intro cs c outs h
  unfold S_steps at h
  split at h
  · rename_i p q
    obtain ⟨⟨h0, h1, h2, h3⟩, h⟩ := ite_ok h
    cases h
    obtain ⟨p, rfl⟩ := Int.eq_ofNat_of_zero_le (Int.le_of_lt h0)
    obtain ⟨q, rfl⟩ := Int.eq_ofNat_of_zero_le (Int.le_of_lt h2)
    have hp : p < lim := by omega
    have hq : q < lim := by omega
    refine ⟨rfl, ?_⟩
    have hl := cf_short (p := p) hq
    have ht := terms_r hp hq
    obtain ⟨ini, t, e1, e2⟩ := cf_last q p (by omega) (by omega)
    rw [e1, nD_app] at ht
    rw [e1] at hl
    rw [Int.toNat_natCast, Int.toNat_natCast, e1, decL_last]
    exact steps_fin e2 hl ht
  · cases h
end Lk14

namespace Lk14
open PySem L2 DL PyProof.Rows Md Sh
theorem neD_q (a b c d : Int) : neD (.tuple [.int a, .int b]) (.tuple [.int c, .int d]) = .ok (.f (.bool (!((a == c) && (b == d))))) := by
  have : D.eqb (.tuple [.int a, .int b]) (.tuple [.int c, .int d]) = ((a == c) && (b == d)) := by simp [D.eqb, D.eqbA]
  unfold neD
  rw [this]
  rfl
/-! ### the law's steps -/
def wD (w : List Bool) : List D := w.map fun c => D.str (if c then "R" else "L")
def pN (a b : Nat) : D := .tuple [.int (a : Int), .int (b : Int)]
/-- left, right, what is left of the walk: the fraction p/q -/
structure SB (p q l0 l1 r0 r1 a b : Nat) : Prop where
  pp : p = l0 * b + r0 * a
  qq : q = l1 * b + r1 * a
  un : r0 * l1 = l0 * r1 + 1
  pa : 0 < a
  pb : 0 < b
  co : Nat.gcd a b = 1
theorem SB.right {p q l0 l1 r0 r1 a b : Nat} (h : SB p q l0 l1 r0 r1 a b) (hab : a > b) : SB p q (l0 + r0) (l1 + r1) r0 r1 (a - b) b := by
  obtain ⟨pp, qq, un, pa, pb, co⟩ := h
  obtain ⟨c, rfl⟩ : ∃ c, a = b + c := ⟨a - b, by omega⟩
  rw [Nat.add_sub_cancel_left]
  refine ⟨?_, ?_, ?_, by omega, pb, ?_⟩
  · simp only [Nat.add_mul, Nat.mul_add] at *; omega
  · simp only [Nat.add_mul, Nat.mul_add] at *; omega
  · simp only [Nat.add_mul, Nat.mul_add, Nat.mul_comm r0 r1] at *; omega
  · have := Nat.gcd_sub_self_left (show b ≤ b + c by omega)
    rw [Nat.add_sub_cancel_left] at this
    rw [this]; exact co
theorem SB.left {p q l0 l1 r0 r1 a b : Nat} (h : SB p q l0 l1 r0 r1 a b) (hab : a < b) : SB p q l0 l1 (l0 + r0) (l1 + r1) a (b - a) := by
  obtain ⟨pp, qq, un, pa, pb, co⟩ := h
  obtain ⟨c, rfl⟩ : ∃ c, b = a + c := ⟨b - a, by omega⟩
  rw [Nat.add_sub_cancel_left]
  refine ⟨?_, ?_, ?_, pa, by omega, ?_⟩
  · simp only [Nat.add_mul, Nat.mul_add] at *; omega
  · simp only [Nat.add_mul, Nat.mul_add] at *; omega
  · simp only [Nat.add_mul, Nat.mul_add, Nat.mul_comm l0 l1] at *; omega
  · have := Nat.gcd_sub_self_right (show a ≤ a + c by omega)
    rw [Nat.add_sub_cancel_left] at this
    rw [this]; exact co
/-- the walk stands at the fraction -/
theorem SB.at {p q l0 l1 r0 r1 a b : Nat} (h : SB p q l0 l1 r0 r1 a b) : (l0 + r0 = p ∧ l1 + r1 = q) ↔ a = b := by
  obtain ⟨pp, qq, un, pa, pb, co⟩ := h
  constructor
  · rintro ⟨h1, h2⟩
    have r00 : 0 < r0 := by
      rcases Nat.eq_zero_or_pos r0 with z | z
      · rw [z, Nat.zero_mul] at un; omega
      · exact z
    have l10 : 0 < l1 := by
      rcases Nat.eq_zero_or_pos l1 with z | z
      · rw [z, Nat.mul_zero] at un; omega
      · exact z
    have e1 : l0 ≤ l0 * b := Nat.le_mul_of_pos_right _ pb
    have e2 : r0 ≤ r0 * a := Nat.le_mul_of_pos_right _ pa
    have e3 : l1 ≤ l1 * b := Nat.le_mul_of_pos_right _ pb
    have e4 : r1 ≤ r1 * a := Nat.le_mul_of_pos_right _ pa
    have a1 : a = 1 := by
      have : r0 * a ≤ r0 * 1 := by omega
      have := Nat.le_of_mul_le_mul_left this r00
      omega
    have b1 : b = 1 := by
      have : l1 * b ≤ l1 * 1 := by omega
      have := Nat.le_of_mul_le_mul_left this l10
      omega
    omega
  · rintro rfl
    rw [Nat.gcd_self] at co
    subst co
    omega
/-- the comparison with the middle -/
theorem SB.cmp {p q l0 l1 r0 r1 a b : Nat} (h : SB p q l0 l1 r0 r1 a b) : (l0 + r0) * q < p * (l1 + r1) ↔ b < a := by
  obtain ⟨pp, qq, un, pa, pb, co⟩ := h
  have e : (l0 + r0) * q + a = p * (l1 + r1) + b := by
    rw [pp, qq]
    have u1 : r0 * l1 * b = l0 * r1 * b + b := by rw [un, Nat.add_mul, Nat.one_mul]
    have u2 : r0 * l1 * a = l0 * r1 * a + a := by rw [un, Nat.add_mul, Nat.one_mul]
    simp only [Nat.add_mul, Nat.mul_add, Nat.mul_assoc, Nat.mul_comm, Nat.mul_left_comm] at *
    omega
  omega
theorem lsteps_while {p q : Nat} : ∀ (m l0 l1 r0 r1 a b : Nat) (acc : List D), a + b ≤ m → SB p q l0 l1 r0 r1 a b → acc.length + (a + b) < 16000000 → p < 2 ^ 40 → q < 2 ^ 40 →
    ∃ (c d e : D), sWhile m_law_steps_t1 m_law_steps_w1 [some (.f (pN p q)), some (.f (pN l0 l1)), some (.f (pN r0 r1)), some (.l false acc), some (.f (pN (l0 + r0) (l1 + r1))), none, none] = .nx [some (.f (pN p q)), some (.f c), some (.f d), some (.l false (acc ++ wD (sw a b))), some (.f e), none, none] := by
  intro m
  induction m with
  | zero => intro l0 l1 r0 r1 a b acc h S; have := S.pa; omega
  | succ m ih =>
    intro l0 l1 r0 r1 a b acc hm S hl hp hq
    by_cases he : a = b
    · obtain ⟨h1, h2⟩ := S.at.mpr he
      rw [sw, dif_neg (by omega), h1, h2]
      exact ⟨pN l0 l1, pN r0 r1, pN p q, while_f (by simp [m_law_steps_t1, pN, neD_q, wD])⟩
    · have hne : ¬ (l0 + r0 = p ∧ l1 + r1 = q) := fun z => he (S.at.mp z)
      have m1 : MulOk (((l0 + r0 : Nat)) : Int) (q : Int) := mulOk_r' (by omega) (by omega)
      have m2 : MulOk (p : Int) (((l1 + r1 : Nat)) : Int) := mulOk_l (by omega) (by omega)
      have hcmp := S.cmp
      have hcI : ((((l0 + r0 : Nat)) : Int) * (q : Int) < (p : Int) * (((l1 + r1 : Nat)) : Int)) ↔ b < a := by
        rw [← hcmp]
        exact_mod_cast Iff.rfl
      have hneI : ((((l0 + r0 : Nat)) : Int) == (p : Int) && (((l1 + r1 : Nat)) : Int) == (q : Int)) = false := by
        rw [Bool.and_eq_false_iff, beq_eq_false_iff_ne, beq_eq_false_iff_ne]
        omega
      have hl2 : acc.length < 16000000 := by omega
      have ht : m_law_steps_t1 [some (.f (pN p q)), some (.f (pN l0 l1)), some (.f (pN r0 r1)), some (.l false acc), some (.f (pN (l0 + r0) (l1 + r1))), none, none] = .ok (true, [some (.f (pN p q)), some (.f (pN l0 l1)), some (.f (pN r0 r1)), some (.l false acc), some (.f (pN (l0 + r0) (l1 + r1))), none, none]) := by
        unfold pN
        simp [m_law_steps_t1, neD_q, -Int.natCast_add, hneI]
      by_cases hab : a > b
      · have e : sw a b = true :: sw (a - b) b := by rw [sw, dif_pos ⟨S.pa, S.pb, he⟩, if_pos hab]
        have hb := hcI.mpr hab
        obtain ⟨c, d, x, g⟩ := ih (l0 + r0) (l1 + r1) r0 r1 (a - b) b (acc ++ [.str "R"]) (by have := S.pb; omega) (S.right hab) (by have := S.pb; simp; omega) hp hq
        refine ⟨c, d, x, ?_⟩
        have hw : m_law_steps_w1 [some (.f (pN p q)), some (.f (pN l0 l1)), some (.f (pN r0 r1)), some (.l false acc), some (.f (pN (l0 + r0) (l1 + r1))), none, none] = .nx [some (.f (pN p q)), some (.f (pN (l0 + r0) (l1 + r1))), some (.f (pN r0 r1)), some (.l false (acc ++ [.str "R"])), some (.f (pN (l0 + r0 + r0) (l1 + r1 + r1))), none, none] := by
          unfold pN
          simp [m_law_steps_w1, -Int.natCast_add, mulD_i m1, mulD_i m2, hb, hl2]
          omega
        rw [while_t ht hw, g, e]
        simp [wD]
      · have hlt : a < b := by omega
        have e : sw a b = false :: sw a (b - a) := by rw [sw, dif_pos ⟨S.pa, S.pb, he⟩, if_neg hab]
        have hb := mt hcI.mp hab
        obtain ⟨c, d, x, g⟩ := ih l0 l1 (l0 + r0) (l1 + r1) a (b - a) (acc ++ [.str "L"]) (by have := S.pa; omega) (S.left hlt) (by have := S.pa; simp; omega) hp hq
        refine ⟨c, d, x, ?_⟩
        have hw : m_law_steps_w1 [some (.f (pN p q)), some (.f (pN l0 l1)), some (.f (pN r0 r1)), some (.l false acc), some (.f (pN (l0 + r0) (l1 + r1))), none, none] = .nx [some (.f (pN p q)), some (.f (pN l0 l1)), some (.f (pN (l0 + r0) (l1 + r1))), some (.l false (acc ++ [.str "L"])), some (.f (pN (l0 + (l0 + r0)) (l1 + (l1 + r1)))), none, none] := by
          unfold pN
          simp [m_law_steps_w1, -Int.natCast_add, mulD_i m1, mulD_i m2, hb, hl2]
          omega
        rw [while_t ht hw, g, e]
        simp [wD]
theorem b1_same {x c d f wl : D} {I : List D} {s : Bool} {n : Nat} : m_law_steps_b1 [some (.f x), some (.f c), some (.f d), some (.f wl), some (.f f), some (.l false (I ++ [aD' (s, n)])), some (.f (.str (if s then "R" else "L")))] = .nx [some (.f x), some (.f c), some (.f d), some (.f wl), some (.f f), some (.l false (I ++ [aD' (s, n + 1)])), some (.f (.str (if s then "R" else "L")))] := by
  have hix := ixD_last I (aD' (s, n))
  have hxn := ixN_last I.length
  have hset : ∀ v : D, (I ++ [aD' (s, n)]).set I.length v = I ++ [v] := fun v => by
    rw [List.set_append_right _ _ (Nat.le_refl _), Nat.sub_self]
    rfl
  have h1 : aD' (s, n) = .tuple [.str (if s then "R" else "L"), .int (n : Int)] := rfl
  have h2 : aD' (s, n + 1) = .tuple [.str (if s then "R" else "L"), .int ((n + 1 : Nat) : Int)] := rfl
  rw [h1] at hix hset
  rw [h1, h2]
  generalize (if s = true then ("R" : Str) else "L") = z at *
  have hset' := hset (.tuple [.str z, .int ((n : Int) + 1)])
  simp [m_law_steps_b1, hix, hxn, hset']
theorem b1_new {x c d f wl : D} {I : List D} {s t : Bool} {n : Nat} (hl3 : I.length + 1 < 16000000) (hs : ¬ t = s) : m_law_steps_b1 [some (.f x), some (.f c), some (.f d), some (.f wl), some (.f f), some (.l false (I ++ [aD' (s, n)])), some (.f (.str (if t then "R" else "L")))] = .nx [some (.f x), some (.f c), some (.f d), some (.f wl), some (.f f), some (.l false (I ++ [aD' (s, n)] ++ [aD' (t, 1)])), some (.f (.str (if t then "R" else "L")))] := by
  have hix := ixD_last I (aD' (s, n))
  have hne1 : (("R" : Str) == "L") = false := by decide
  have hne2 : (("L" : Str) == "R") = false := by decide
  unfold aD' at *
  have hl4 : I.length < 15999999 := by omega
  cases t <;> cases s <;> simp at hs <;> try simp only [Bool.false_eq_true, if_true, if_false] at hix
  · simp [m_law_steps_b1, hix, hl3, hl4, hne1, hne2]
  · simp [m_law_steps_b1, hix, hl3, hl4, hne1, hne2]
theorem rls_loop {x c d f : D} {wl : D} : ∀ (w : List Bool) (ini : List (Bool × Nat)) (s : Bool) (n : Nat) (o : Option D), ini.length + w.length + 1 < 16000000 →
    ∃ o' : Option D, loopL (tgN 6) m_law_steps_b1 (wD w) [some (.f x), some (.f c), some (.f d), some (.f wl), some (.f f), some (.l false (ini.map aD' ++ [aD' (s, n)])), o.map .f] = .nx [some (.f x), some (.f c), some (.f d), some (.f wl), some (.f f), some (.l false (ini.map aD' ++ (rl s n w).map aD')), o'.map .f]
  | [], ini, s, n, o, _ => ⟨o, rfl⟩
  | t :: w, ini, s, n, o, hl => by
    simp only [List.length_cons] at hl
    have e1 : tgN 6 (.str (if t then "R" else "L")) [some (.f x), some (.f c), some (.f d), some (.f wl), some (.f f), some (.l false (ini.map aD' ++ [aD' (s, n)])), o.map .f] = .ok [some (.f x), some (.f c), some (.f d), some (.f wl), some (.f f), some (.l false (ini.map aD' ++ [aD' (s, n)])), some (.f (.str (if t then "R" else "L")))] := tgN_f (a := o) rfl
    show ∃ o' : Option D, loopL (tgN 6) m_law_steps_b1 (.str (if t then "R" else "L") :: wD w) _ = _
    by_cases hs : t = s
    · subst hs
      obtain ⟨o', g⟩ := rls_loop (x := x) (c := c) (d := d) (f := f) (wl := wl) w ini t (n + 1) (some (.str (if t then "R" else "L"))) (by omega)
      refine ⟨o', ?_⟩
      rw [loop_nx e1 b1_same]
      have e2 : rl t n (t :: w) = rl t (n + 1) w := by show (if t = t then _ else _) = _; rw [if_pos rfl]
      rw [e2]
      exact g
    · obtain ⟨o', g⟩ := rls_loop (x := x) (c := c) (d := d) (f := f) (wl := wl) w (ini ++ [(s, n)]) t 1 (some (.str (if t then "R" else "L"))) (by simp; omega)
      refine ⟨o', ?_⟩
      rw [loop_nx e1 (b1_new (by rw [List.length_map]; omega) hs)]
      have e2 : rl s n (t :: w) = (s, n) :: rl t 1 w := by show (if t = s then _ else _) = _; rw [if_neg hs]
      rw [e2]
      simp only [List.map_append, List.map_cons, List.map_nil] at g ⊢
      rw [show (some (Ce.f (D.str (if t = true then "R" else "L"))) : Option Ce) = Option.map Ce.f (some (.str (if t then "R" else "L"))) from rfl, g]
      simp
theorem lsteps_fin {p q : Nat} (hp0 : 0 < p) (hp : p < 2 ^ 20) (hq0 : 0 < q) (hq : q < 2 ^ 20) (hg : Nat.gcd p q = 1) : runD 7 m_law_steps [.f (pN p q)] = .ok (.f (.tuple ((alt true (decL (cf p q))).map aD')), []) := by
  have hsb : SB p q 0 1 1 0 p q := ⟨by omega, by omega, by decide, hp0, hq0, hg⟩
  obtain ⟨c, d, e, g⟩ := lsteps_while (p := p) (q := q) (p + q) 0 1 1 0 p q [] (Nat.le_refl _) hsb (by simp; omega) (by omega) (by omega)
  have hl := sw_len (p + q) p q (Nat.le_refl _)
  obtain ⟨o, g2⟩ := rls_loop (x := pN p q) (c := c) (d := d) (f := e) (wl := .list (wD (sw p q))) (sw p q) [] true 0 none (by simp; omega)
  rw [steps_eq hp0 hq0 hg] at g2
  have g' : sWhile m_law_steps_t1 m_law_steps_w1 [some (.f (pN p q)), some (.f (.tuple [.int 0, .int 1])), some (.f (.tuple [.int 1, .int 0])), some (.l false []), some (.f (.tuple [.int 1, .int 1])), none, none] = _ := g
  have g2' : loopL (tgN 6) m_law_steps_b1 (wD (sw p q)) [some (.f (pN p q)), some (.f c), some (.f d), some (.f (.list (wD (sw p q)))), some (.f e), some (.l false [.tuple [.str "R", .int 0]]), none] = _ := g2
  simp [runD_r, startE, m_law_steps, g', g2']
noncomputable def S_law_steps : Sf := spec (fun x : Nat × Nat => 0 < x.1 ∧ x.1 < 2 ^ 20 ∧ 0 < x.2 ∧ x.2 < 2 ^ 20 ∧ Nat.gcd x.1 x.2 = 1) (fun x => [.f (pN x.1 x.2)]) fun x => (.f (.tuple ((alt true (decL (cf x.1 x.2))).map aD')), [])
theorem pN_inj {a b c d : Nat} (h : [Ce.f (pN a b)] = [Ce.f (pN c d)]) : a = c ∧ b = d := by
  simp only [List.cons.injEq, Ce.f.injEq, and_true, pN, D.tuple.injEq, D.int.injEq] at h
  omega
theorem law_steps_r {p q : Nat} (hp0 : 0 < p) (hp : p < 2 ^ 20) (hq0 : 0 < q) (hq : q < 2 ^ 20) (hg : Nat.gcd p q = 1) : S_law_steps [.f (pN p q)] = .ok (.f (.tuple ((alt true (decL (cf p q))).map aD')), []) :=
  spec_ok (x := (p, q)) rfl ⟨hp0, hp, hq0, hq, hg⟩ fun y _ e => by obtain ⟨h1, h2⟩ := pN_inj e; simp only at h1 h2; rw [h1, h2]
theorem sem_law_steps : ∀ cs c outs, S_law_steps cs = .ok (c, outs) → cs.length = 1 ∧ runD 7 m_law_steps cs = .ok (c, outs) := by
  intro cs c outs h
  obtain ⟨⟨p, q⟩, ⟨h1, h2, h3, h4, h5⟩, rfl, e⟩ := spec_inv h
  cases e
  exact ⟨rfl, lsteps_fin h1 h2 h3 h4 h5⟩
end Lk14

namespace Lk14
open PySem L2 DL PyProof.Rows Md Sh
/-! ### the simplest ratio -/
theorem ceil_int {a b : Nat} (hb : 0 < b) : -((-(a : Int)) / (b : Int)) = ((ceilN a b : Nat) : Int) := by
  have hb' : (0 : Int) < (b : Int) := by omega
  have h1 : a ≤ ceilN a b * b := (ceil_le hb).mp (Nat.le_refl _)
  have h1' : (a : Int) ≤ ((ceilN a b : Nat) : Int) * (b : Int) := by exact_mod_cast h1
  have h2 : -((ceilN a b : Nat) : Int) ≤ (-(a : Int)) / (b : Int) := by
    rw [Int.le_ediv_iff_mul_le hb', Int.neg_mul]
    omega
  have h3 : (-(a : Int)) / (b : Int) < -((ceilN a b : Nat) : Int) + 1 := by
    rw [Int.ediv_lt_iff_lt_mul hb', Int.add_mul, Int.neg_mul, Int.one_mul]
    by_cases h0 : ceilN a b = 0
    · rw [h0] at h1
      have hle := (ceil_le (a := a) (u := 0) hb).mp (by omega)
      rw [h0]
      omega
    · have : ¬ ceilN a b ≤ ceilN a b - 1 := by omega
      rw [ceil_le hb] at this
      obtain ⟨n, hn⟩ : ∃ n, ceilN a b = n + 1 := ⟨ceilN a b - 1, by omega⟩
      rw [hn] at this ⊢
      rw [Nat.add_sub_cancel] at this
      have h4 : (n : Int) * (b : Int) < (a : Int) := by
        have : n * b < a := by omega
        exact_mod_cast this
      have e : ((n + 1 : Nat) : Int) * (b : Int) = (n : Int) * (b : Int) + (b : Int) := by
        rw [Int.natCast_add, Int.add_mul]
        simp
      rw [e]
      omega
  omega
theorem sp_next {a b c d : Nat} (ha : 0 < a) (hb : 0 < b) (hd : 0 < d) (hac : a * d ≤ c * b) (h : c < ceilN a b * d) : 0 < a % b ∧ a / b * d < c ∧ d * (a % b) ≤ (c - a / b * d) * b ∧ c - a / b * d < d := by
  have c1 := ceil_le1 (a := a) hb
  have h3 : ceilN a b * d ≤ (a / b + 1) * d := Nat.mul_le_mul_right _ c1
  rw [Nat.add_mul] at h3
  have hdm := Nat.div_add_mod a b
  have hr := Nat.mod_lt a hb
  have hr0 : 0 < a % b := by
    by_cases h0 : a % b = 0
    · exfalso
      have : ceilN a b ≤ a / b := by
        rw [ceil_le hb, Nat.mul_comm]
        omega
      have h4 : ceilN a b * d ≤ a / b * d := Nat.mul_le_mul_right _ this
      have h5 : c * b < a / b * d * b := Nat.mul_lt_mul_of_pos_right (by omega) hb
      have h6 : a / b * d * b = a * d := by
        rw [Nat.mul_right_comm]
        congr 1
        rw [Nat.mul_comm]
        omega
      omega
    · omega
  have hcd : a / b * d < c := by
    have h5 : a / b * d * b < c * b := by
      have h6 : a / b * d * b = (b * (a / b)) * d := by
        rw [Nat.mul_right_comm, Nat.mul_comm (a / b) b]
      have h7 : b * (a / b) * d < a * d := Nat.mul_lt_mul_of_pos_right (by omega) hd
      omega
    exact Nat.lt_of_mul_lt_mul_right h5
  refine ⟨hr0, hcd, ?_, by omega⟩
  generalize a / b = t at *
  generalize a % b = r at *
  have e1 : a = b * t + r := by omega
  obtain ⟨s, hs⟩ : ∃ s, c = t * d + s := ⟨c - t * d, by omega⟩
  have e2 : c - t * d = s := by omega
  rw [e2]
  rw [hs, e1] at hac
  simp only [Nat.add_mul, Nat.mul_add] at hac
  have a1 : b * t * d = t * d * b := by rw [Nat.mul_comm b t, Nat.mul_right_comm]
  have a2 : r * d = d * r := Nat.mul_comm _ _
  omega
def eS (x e : D) (a b c d : Int) (acc : List D) (o : Option D) : En := [some (.f x), some (.f e), some (.f (.int a)), some (.f (.int b)), some (.f (.int c)), some (.f (.int d)), some (.l false acc), o.map .f]
theorem sp_while {x e : D} : ∀ (m a b c d : Nat) (acc : List D) (o : Option D), b + d ≤ m → 0 < a → 0 < b → 0 < d → a * d ≤ c * b → a < 2 ^ 40 → b < 2 ^ 40 → c < 2 ^ 40 → d < 2 ^ 40 → acc.length + (b + d + 1) < 16000000 →
    ∃ (a' b' : Nat) (c' d' : Int) (acc' : List D) (o' : Option D), sWhile m_simplest_t1 m_simplest_w1 (eS x e a b c d acc o) = .nx (eS x e a' b' c' d' acc' o') ∧ acc' ++ nD [ceilN a' b'] = acc ++ nD (sp a b c d) ∧ 0 < b' ∧ b' < 2 ^ 40 ∧ acc'.length < 16000000 := by
  intro m
  induction m with
  | zero => intro a b c d acc o h ha hb; omega
  | succ m ih =>
    intro a b c d acc o hm ha hb hd hac la lb lc ld hl
    have hdv : DivOk (b : Int) := divOk_of (n := 40) (by omega) (by omega) (by decide)
    have hce := ceil_int (a := a) hb
    have mce : MulOk (((ceilN a b : Nat)) : Int) (d : Int) := mulOk_r' (by omega) (by omega)
    have ht : m_simplest_t1 (eS x e a b c d acc o) = .ok (decide (c < ceilN a b * d), eS x e a b c d acc o) := by
      have : decide ((c : Int) < ((ceilN a b : Nat) : Int) * (d : Int)) = decide (c < ceilN a b * d) := by
        congr 1
        exact propext (by exact_mod_cast Iff.rfl)
      simp only [m_simplest_t1, eS, mBool_r, m2_r, mH_r, m1_r, mN_r, mVar_r, List.getElem?_cons_succ, List.getElem?_cons_zero, Rs.bind_ok, get_v, ce_d_f, negD_i, fdivD_i hdv, hce, mulD_i mce, gtD_i, this]
    by_cases h : c < ceilN a b * d
    · rw [decide_eq_true h] at ht
      obtain ⟨n1, n2, n3, n4⟩ := sp_next ha hb hd hac h
      have hr := Nat.mod_lt a hb
      have hl2 : acc.length < 16000000 := by omega
      have m1 : MulOk (((a / b : Nat)) : Int) (d : Int) := mulOk_r' (by omega) (by omega)
      have m2 : MulOk (((a / b : Nat)) : Int) (b : Int) := mulOk_r' (by omega) (by omega)
      have e1 : (c : Int) - (((a / b : Nat)) : Int) * (d : Int) = ((c - a / b * d : Nat) : Int) := by
        have : (((a / b * d : Nat)) : Int) = (((a / b : Nat)) : Int) * (d : Int) := Int.natCast_mul _ _
        omega
      have e2 : (a : Int) - (((a / b : Nat)) : Int) * (b : Int) = ((a % b : Nat) : Int) := by
        have h1 : (((a / b * b : Nat)) : Int) = (((a / b : Nat)) : Int) * (b : Int) := Int.natCast_mul _ _
        have h2 := Nat.div_add_mod a b
        rw [Nat.mul_comm] at h2
        omega
      have e3 : (a : Int) / (b : Int) = (((a / b : Nat)) : Int) := (Int.natCast_ediv _ _).symm
      have hw : m_simplest_w1 (eS x e a b c d acc o) = .nx (eS x e d ((c - a / b * d : Nat) : Int) b ((a % b : Nat) : Int) (acc ++ [.int ((a / b : Nat) : Int)]) (some (.int ((a / b : Nat) : Int)))) := by
        simp [m_simplest_w1, eS, fdivD_i hdv, e3, -Int.natCast_ediv, -Int.natCast_emod, hl2, mulD_i m1, mulD_i m2, e1, e2]
      obtain ⟨a', b', c', d', acc', o', g1, g2, g3⟩ := ih d (c - a / b * d) b (a % b) (acc ++ [.int ((a / b : Nat) : Int)]) (some (.int ((a / b : Nat) : Int))) (by omega) hd (by omega) n1 (by rw [Nat.mul_comm b]; exact n3) ld (by omega) lb (by omega) (by simp; omega)
      refine ⟨a', b', c', d', acc', o', ?_, ?_, g3⟩
      · rw [while_t ht hw, g1]
      · rw [g2]
        have : sp a b c d = (a / b) :: sp d (c - a / b * d) b (a % b) := by
          conv => lhs; rw [sp]
          rw [dif_pos ⟨hb, hd, h⟩]
        rw [this]
        simp [nD]
    · rw [decide_eq_false h] at ht
      have : sp a b c d = [ceilN a b] := by
        rw [sp, dif_neg (fun z => h z.2.2)]
      rw [this]
      exact ⟨a, b, c, d, acc, o, while_f ht, rfl, hb, lb, by omega⟩
theorem red_nat {A B : Nat} (hB : 0 < B) : ∃ a b g : Nat, redI (A : Int) (B : Int) = ((a : Int), (b : Int)) ∧ A = g * a ∧ B = g * b ∧ 0 < g ∧ 0 < b := by
  have hg : 0 < Nat.gcd A B := Nat.gcd_pos_of_pos_right A hB
  obtain ⟨a, ha⟩ := Nat.gcd_dvd_left A B
  obtain ⟨b, hb⟩ := Nat.gcd_dvd_right A B
  refine ⟨a, b, Nat.gcd A B, ?_, ha, hb, hg, ?_⟩
  · unfold redI
    rw [Int.gcd_natCast_natCast]
    have e1 : A / Nat.gcd A B = a := Nat.div_eq_of_eq_mul_right hg ha
    have e2 : B / Nat.gcd A B = b := Nat.div_eq_of_eq_mul_right hg hb
    rw [← Int.natCast_ediv, ← Int.natCast_ediv, e1, e2]
  · rcases Nat.eq_zero_or_pos b with z | z
    · rw [z] at hb; omega
    · exact z
/-- the two fractions of which all is made -/
structure Dom (p q u v : Nat) : Prop where
  hp : 0 < p
  p2 : p < 1000
  hq : 0 < q
  q2 : q < 1000
  hu : 0 < u
  u2 : u < 1000
  hv : 0 < v
  v2 : v < 1000
theorem mul_lt {a b : Nat} (h : a < 1000) (h2 : b < 1000) : a * b < 1000000 := by
  have : a * b ≤ 999 * 999 := Nat.mul_le_mul (by omega) (by omega)
  omega
theorem bgs {n : Nat} (h : n < 1000) : Bg (n : Int) := bg_small (by rw [Int.natAbs_natCast]; omega)
noncomputable abbrev mS := m_simplest S_compare S_minus S_plus S_from_terms
noncomputable abbrev mL' := m_law_simplest S_lminus S_lplus S_less S_lratio
theorem cmp_r {p q u v : Nat} (h : Dom p q u v) : S_compare [.f (.tuple [.int p, .int q]), .f (.tuple [.int u, .int v])] = .ok (.f (.int (if (p : Int) * v - u * q = 0 then 0 else if 0 < (p : Int) * v - u * q then 1 else -1)), []) := if_pos ⟨bgs h.p2, bgs h.q2, bgs h.u2, bgs h.v2⟩
theorem simp_low {p q u v : Nat} (h : Dom p q u v) (hx : p * v ≤ u * q) : runD 8 mS [.f (pN p q), .f (pN u v)] = .ok (.f (pN 0 1), []) := by
  have hc := cmp_r h
  have hx' : (p : Int) * v ≤ u * q := by exact_mod_cast hx
  have e : ∀ z : Int, (if (p : Int) * v - u * q = 0 then (0 : Int) else if 0 < (p : Int) * v - u * q then 1 else -1) ≤ 0 := by
    intro z
    split
    · decide
    · split
      · omega
      · decide
  have e := e 0
  generalize (if (p : Int) * v - u * q = 0 then (0 : Int) else if 0 < (p : Int) * v - u * q then 1 else -1) = z at *
  unfold pN
  simp [runD_r, startE, mS, m_simplest, hc, e]
theorem simp_high {p q u v a b c d : Nat} (h : Dom p q u v) (hx : u * q < p * v) (h1 : redI ((p : Int) * v - u * q) ((q : Int) * v) = ((a : Int), (b : Int))) (h2 : redI ((p : Int) * v + u * q) ((q : Int) * v) = ((c : Int), (d : Int)))
    (ha : 0 < a) (hb : 0 < b) (hd : 0 < d) (hac : a * d ≤ c * b) (la : a < 2 ^ 22) (lb : b < 2 ^ 22) (lc : c < 2 ^ 22) (ld : d < 2 ^ 22) : runD 8 mS [.f (pN p q), .f (pN u v)] = .ok (.f (qN (ft (sp a b c d))), []) := by
  have hc := cmp_r h
  have hx' : (u : Int) * q < p * v := by exact_mod_cast hx
  have e : (if (p : Int) * v - u * q = 0 then (0 : Int) else if 0 < (p : Int) * v - u * q then 1 else -1) = 1 := by
    rw [if_neg (by omega), if_pos (by omega)]
  rw [e] at hc
  have hqv : (0 : Int) < (q : Int) * v := Int.mul_pos (by have := h.hq; omega) (by have := h.hv; omega)
  have hmi : S_minus [.f (.tuple [.int p, .int q]), .f (.tuple [.int u, .int v])] = .ok (.f (qD ((a : Int), (b : Int))), []) := by
    rw [← h1]
    exact if_pos ⟨hqv, bgs h.p2, bgs h.q2, bgs h.u2, bgs h.v2⟩
  have hpl : S_plus [.f (.tuple [.int p, .int q]), .f (.tuple [.int u, .int v])] = .ok (.f (qD ((c : Int), (d : Int))), []) := by
    rw [← h2]
    exact if_pos ⟨hqv, bgs h.p2, bgs h.q2, bgs h.u2, bgs h.v2⟩
  obtain ⟨a', b', c', d', acc', o', g1, g2, g3, g4, g5⟩ := sp_while (x := pN p q) (e := pN u v) (b + d) a b c d [] none (Nat.le_refl _) ha hb hd hac (by omega) (by omega) (by omega) (by omega) (by simp; omega)
  have hdv : DivOk (b' : Int) := divOk_of (n := 40) (by omega) (by omega) (by decide)
  have hce := ceil_int (a := a') g3
  have hcm := sp_le (b + d) a b c d (2 ^ 22) (Nat.le_refl _) (by omega) (by omega) (by omega) (by omega)
  have hf := fromA_r (l := sp a b c d) fun t ht => by have := hcm t ht; omega
  rw [List.nil_append] at g2
  rw [← g2] at hf
  have hf' : S_from_terms [.f (.list (acc' ++ nD [ceilN a' b']))] = _ := hf
  have g1' : sWhile m_simplest_t1 m_simplest_w1 [some (.f (.tuple [.int p, .int q])), some (.f (.tuple [.int u, .int v])), some (.f (.int a)), some (.f (.int b)), some (.f (.int c)), some (.f (.int d)), some (.l false []), none] = .nx [some (.f (.tuple [.int p, .int q])), some (.f (.tuple [.int u, .int v])), some (.f (.int a')), some (.f (.int b')), some (.f (.int c')), some (.f (.int d')), some (.l false acc'), o'.map .f] := g1
  unfold pN
  unfold nD at hf'
  simp only [List.map_cons, List.map_nil] at hf'
  simp [runD_r, startE, mS, m_simplest, hc, hmi, hpl, qD, g1', fdivD_i hdv, hce, g5, hf']
/-- the law's trying: at each q the least p that is not below low -/
theorem lsp_loop {x e : D} {a b c d U V : Nat} (hb : 0 < b) (lb : b < 2 ^ 40) (la : a < 2 ^ 40) (lc : c < 2 ^ 40) (ld : d < 2 ^ 40) (lU : U < 2 ^ 40) (co : Nat.gcd U V = 1) (inn : Inn a b c d U V) (mn : ∀ u' v', Inn a b c d u' v' → U ≤ u' ∧ V ≤ v') :
    ∀ (k n q : Nat) (o1 o2 : Option D), 0 < q → q + k = V → V < 2000 → k < n → ∃ e', loopL (tgN 4) (m_law_simplest_b1 S_less S_lratio) (rgD (q : Int) n) [some (.f x), some (.f e), some (.f (.tuple [.int a, .int b])), some (.f (.tuple [.int c, .int d])), o1.map .f, o2.map .f] = .rt (.f (pN U V)) e' := by
  have hdv : DivOk (b : Int) := divOk_of (n := 40) (by omega) (by omega) (by decide)
  have step : ∀ (q : Nat) (o2 : Option D), 0 < q → q < 2000 → ∃ e1, m_law_simplest_b1 S_less S_lratio [some (.f x), some (.f e), some (.f (.tuple [.int a, .int b])), some (.f (.tuple [.int c, .int d])), some (.f (.int (q : Int))), o2.map .f] = if c * q < ceilN (a * q) b * d then .nx [some (.f x), some (.f e), some (.f (.tuple [.int a, .int b])), some (.f (.tuple [.int c, .int d])), some (.f (.int (q : Int))), some (.f (.int ((ceilN (a * q) b : Nat) : Int)))] else .rt (.f (qD (redI ((ceilN (a * q) b : Nat) : Int) (q : Int)))) e1 := by
    intro q o2 hq hq2
    have m1 : MulOk (a : Int) (q : Int) := mulOk_r' (by omega) (by omega)
    have hce := ceil_int (a := a * q) hb
    have hl : ceilN (a * q) b ≤ a * q := by
      rw [ceil_le hb]
      exact Nat.le_mul_of_pos_right _ hb
    have haq : a * q < 2 ^ 60 := by
      have : a * q ≤ 2 ^ 40 * 2000 := Nat.mul_le_mul (by omega) (by omega)
      omega
    have hls : S_less [.f (.tuple [.int c, .int d]), .f (.tuple [.int ((ceilN (a * q) b : Nat) : Int), .int (q : Int)])] = .ok (.f (.bool (decide (c * q < ceilN (a * q) b * d))), []) := by
      have e1 : S_less [.f (.tuple [.int c, .int d]), .f (.tuple [.int ((ceilN (a * q) b : Nat) : Int), .int (q : Int)])] = .ok (.f (.bool (decide ((c : Int) * (q : Int) < ((ceilN (a * q) b : Nat) : Int) * (d : Int)))), []) := if_pos ⟨bg_small (by rw [Int.natAbs_natCast]; omega), bg_small (by rw [Int.natAbs_natCast]; omega), bg_small (by rw [Int.natAbs_natCast]; omega), bg_small (by rw [Int.natAbs_natCast]; omega)⟩
      rw [e1]
      congr 5
      exact propext (by exact_mod_cast Iff.rfl)
    have hlr := lratio_r (a := ((ceilN (a * q) b : Nat) : Int)) (b := (q : Int)) (by omega) (by omega)
    rw [Int.natCast_mul] at hce
    have hce' : (0 : Int) - (0 - (a : Int) * (q : Int)) / (b : Int) = ((ceilN (a * q) b : Nat) : Int) := by rw [← hce]; simp
    generalize ceilN (a * q) b = p at *
    by_cases hc : c * q < p * d
    · refine ⟨[], ?_⟩
      rw [if_pos hc]
      rw [decide_eq_true hc] at hls
      cases o2 <;> simp [m_law_simplest_b1, mulD_i m1, fdivD_i hdv] at hce' ⊢ <;> simp [hce', hls]
    · rw [decide_eq_false hc] at hls
      refine ⟨[some (.f x), some (.f e), some (.f (.tuple [.int a, .int b])), some (.f (.tuple [.int c, .int d])), some (.f (.int (q : Int))), some (.f (.int (p : Int)))], ?_⟩
      rw [if_neg hc]
      cases o2 <;> simp [m_law_simplest_b1, mulD_i m1, fdivD_i hdv] at hce' ⊢ <;> simp [hce', hls, hlr]
  intro k
  induction k with
  | zero =>
    intro n q o1 o2 hq hk hV hn
    obtain ⟨n, rfl⟩ : ∃ m, n = m + 1 := ⟨n - 1, by omega⟩
    have : q = V := by omega
    subst this
    obtain ⟨e1, he⟩ := step q o2 hq hV
    have hp1 : ceilN (a * q) b ≤ U := (ceil_le hb).mpr inn.lo
    have hp2 : ceilN (a * q) b * d ≤ c * q := Nat.le_trans (Nat.mul_le_mul_right _ hp1) inn.hi
    have hp3 : U ≤ ceilN (a * q) b := (mn _ q ⟨hq, (ceil_le hb).mp (Nat.le_refl _), hp2⟩).1
    have hp : ceilN (a * q) b = U := by omega
    rw [if_neg (by omega), hp] at he
    have hr : redI (U : Int) (q : Int) = ((U : Int), (q : Int)) := by
      unfold redI
      rw [Int.gcd_natCast_natCast, co]
      simp
    rw [hr] at he
    exact ⟨e1, loop_rt (tgN_f (a := o1) rfl) he⟩
  | succ k ih =>
    intro n q o1 o2 hq hk hV hn
    obtain ⟨n, rfl⟩ : ∃ m, n = m + 1 := ⟨n - 1, by omega⟩
    obtain ⟨e1, he⟩ := step q o2 hq (by omega)
    have hlt : c * q < ceilN (a * q) b * d := by
      by_cases hc : c * q < ceilN (a * q) b * d
      · exact hc
      · exfalso
        have := (mn (ceilN (a * q) b) q ⟨hq, (ceil_le hb).mp (Nat.le_refl _), by omega⟩).2
        omega
    rw [if_pos hlt] at he
    obtain ⟨e', g⟩ := ih n (q + 1) (some (.int (q : Int))) (some (.int ((ceilN (a * q) b : Nat) : Int))) (by omega) (by omega) hV (by omega)
    refine ⟨e', ?_⟩
    have e2 : rgD (q : Int) (n + 1) = .int (q : Int) :: rgD ((q : Int) + 1) n := rfl
    have e3 : tgN 4 (.int (q : Int)) [some (.f x), some (.f e), some (.f (.tuple [.int a, .int b])), some (.f (.tuple [.int c, .int d])), o1.map .f, o2.map .f] = .ok [some (.f x), some (.f e), some (.f (.tuple [.int a, .int b])), some (.f (.tuple [.int c, .int d])), some (.f (.int (q : Int))), o2.map .f] := tgN_f (a := o1) rfl
    rw [e2, loop_nx e3 he]
    exact g
end Lk14

namespace Lk14
open PySem L2 DL PyProof.Rows Md Sh
theorem lsimp_fin {x y : D} {a b c d : Nat} {e' : En} {U V : Nat} (hl : S_lminus [.f x, .f y] = .ok (.f (.tuple [.int (a : Int), .int (b : Int)]), [])) (hh : S_lplus [.f x, .f y] = .ok (.f (.tuple [.int (c : Int), .int (d : Int)]), []))
    (g : loopL (tgN 4) (m_law_simplest_b1 S_less S_lratio) (rgD 1 1999) [some (.f x), some (.f y), some (.f (.tuple [.int a, .int b])), some (.f (.tuple [.int c, .int d])), none, none] = .rt (.f (pN U V)) e') : runD 6 mL' [.f x, .f y] = .ok (.f (pN U V), []) := by
  have ha : ¬ (a : Int) < 0 := by omega
  simp [runD_r, startE, mL', m_law_simplest, hl, hh, ha, g]
theorem lsimp_low {x y : D} {a b : Int} {c d : Nat} {e' : En} {U V : Nat} (ha : a < 0) (hl : S_lminus [.f x, .f y] = .ok (.f (.tuple [.int a, .int b]), [])) (hh : S_lplus [.f x, .f y] = .ok (.f (.tuple [.int (c : Int), .int (d : Int)]), []))
    (g : loopL (tgN 4) (m_law_simplest_b1 S_less S_lratio) (rgD 1 1999) [some (.f x), some (.f y), some (.f (.tuple [.int 0, .int 1])), some (.f (.tuple [.int c, .int d])), none, none] = .rt (.f (pN U V)) e') : runD 6 mL' [.f x, .f y] = .ok (.f (pN U V), []) := by
  simp [runD_r, startE, mL', m_law_simplest, hl, hh, ha, g]
theorem red_lt {A a g n : Nat} (h : A = g * a) (hg : 0 < g) (hA : A < n) : a < n := by
  have : a ≤ g * a := Nat.le_mul_of_pos_left a hg
  omega
theorem simp_run {p q u v : Nat} (h : Dom p q u v) : ∃ U V : Nat, runD 8 mS [.f (pN p q), .f (pN u v)] = .ok (.f (pN U V), []) ∧ runD 6 mL' [.f (pN p q), .f (pN u v)] = .ok (.f (pN U V), []) := by
  have hqv : 0 < q * v := Nat.mul_pos h.hq h.hv
  have hqvI : (0 : Int) < (q : Int) * (v : Int) := by exact_mod_cast hqv
  have b1 := mul_lt h.p2 h.v2
  have b2 := mul_lt h.u2 h.q2
  have b3 := mul_lt h.q2 h.v2
  have eB : (q : Int) * (v : Int) = ((q * v : Nat) : Int) := by rw [Int.natCast_mul]
  have eC : (p : Int) * (v : Int) + (u : Int) * (q : Int) = ((p * v + u * q : Nat) : Int) := by rw [Int.natCast_add, Int.natCast_mul, Int.natCast_mul]
  obtain ⟨c, d, g', h2, hc, hd, hg', hd0⟩ := red_nat (A := p * v + u * q) hqv
  have lc := red_lt hc hg' (n := 2000000) (by omega)
  have ld := red_lt hd hg' (n := 1000000) b3
  have hlt150 : (q : Int) * (v : Int) < 2 ^ 150 := Int.lt_trans (b := 1000000) (by rw [eB]; omega) (by decide)
  have hlp : S_lplus [.f (pN p q), .f (pN u v)] = .ok (.f (.tuple [.int (c : Int), .int (d : Int)]), []) := by
    have e : S_lplus [.f (pN p q), .f (pN u v)] = .ok (.f (qD (redI ((p : Int) * v + u * q) ((q : Int) * v))), []) := if_pos ⟨hqvI, hlt150, bgs h.p2, bgs h.q2, bgs h.u2, bgs h.v2⟩
    rw [e, eB, eC, h2]
    rfl
  have hlm : S_lminus [.f (pN p q), .f (pN u v)] = .ok (.f (qD (redI ((p : Int) * v - u * q) ((q : Int) * v))), []) := if_pos ⟨hqvI, hlt150, bgs h.p2, bgs h.q2, bgs h.u2, bgs h.v2⟩
  by_cases hx : p * v ≤ u * q
  · refine ⟨0, 1, simp_low h hx, ?_⟩
    obtain ⟨e', g⟩ := lsp_loop (x := pN p q) (e := pN u v) (a := 0) (b := 1) (c := c) (d := d) (U := 0) (V := 1) (by decide) (by decide) (by decide) (by omega) (by omega) (by decide) (by decide) ⟨by decide, by omega, by omega⟩ (fun u' v' hi => ⟨Nat.zero_le _, hi.pv⟩) 0 1999 1 none none (by decide) (by decide) (by decide) (by decide)
    by_cases h0 : p * v = u * q
    · have eA : (p : Int) * (v : Int) - (u : Int) * (q : Int) = 0 := by
        have : (p : Int) * (v : Int) = (u : Int) * (q : Int) := by exact_mod_cast h0
        omega
      have hr : redI 0 ((q : Int) * v) = (0, 1) := by
        unfold redI
        rw [Int.gcd_zero_left]
        have : ((((q : Int) * v).natAbs : Nat) : Int) = (q : Int) * v := Int.natAbs_of_nonneg (by omega)
        rw [this, Int.ediv_self (by omega), Int.zero_ediv]
      rw [eA, hr] at hlm
      exact lsimp_fin (a := 0) (b := 1) hlm hlp g
    · have hneg : (p : Int) * (v : Int) - (u : Int) * (q : Int) < 0 := by
        have : (p : Int) * (v : Int) < (u : Int) * (q : Int) := by exact_mod_cast (show p * v < u * q by omega)
        omega
      have hr : (redI ((p : Int) * (v : Int) - (u : Int) * (q : Int)) ((q : Int) * v)).1 < 0 :=
        Int.ediv_neg_of_neg_of_pos hneg (gcd_pos_r hqvI)
      exact lsimp_low hr hlm hlp g
  · have eA : (p : Int) * (v : Int) - (u : Int) * (q : Int) = ((p * v - u * q : Nat) : Int) := by
      have e1 : ((p * v : Nat) : Int) = (p : Int) * (v : Int) := Int.natCast_mul _ _
      have e2 : ((u * q : Nat) : Int) = (u : Int) * (q : Int) := Int.natCast_mul _ _
      omega
    obtain ⟨a, b, g, h1, ha, hb, hg, hb0⟩ := red_nat (A := p * v - u * q) hqv
    have la := red_lt ha hg (n := 1000000) (by omega)
    have lb := red_lt hb hg (n := 1000000) b3
    have ha0 : 0 < a := by
      rcases Nat.eq_zero_or_pos a with z | z
      · rw [z] at ha; omega
      · exact z
    have hac : a * d ≤ c * b := by
      have h3 : g * g' * (a * d) ≤ g * g' * (c * b) := by
        have e1 : g * g' * (a * d) = (p * v - u * q) * (q * v) := by
          rw [ha]; rw [hd]
          simp only [Nat.mul_assoc, Nat.mul_comm, Nat.mul_left_comm]
        have e2 : g * g' * (c * b) = (p * v + u * q) * (q * v) := by
          rw [hc]; rw [hb]
          simp only [Nat.mul_assoc, Nat.mul_comm, Nat.mul_left_comm]
        rw [e1, e2]
        exact Nat.mul_le_mul_right _ (by omega)
      exact Nat.le_of_mul_le_mul_left h3 (Nat.mul_pos hg hg')
    have I := sp_simp (b + d) a b c d (Nat.le_refl _) ha0 hb0 hd0 hac
    have hin : Inn a b c d p q := by
      refine ⟨h.hq, ?_, ?_⟩
      · have h3 : g * (a * q) ≤ g * (p * b) := by
          have e1 : g * (a * q) = (p * v - u * q) * q := by rw [ha, Nat.mul_assoc]
          have e2 : g * (p * b) = p * v * q := by
            rw [Nat.mul_left_comm, ← hb]
            simp only [Nat.mul_assoc, Nat.mul_comm, Nat.mul_left_comm]
          rw [e1, e2]
          exact Nat.mul_le_mul_right _ (by omega)
        exact Nat.le_of_mul_le_mul_left h3 hg
      · have h3 : g' * (p * d) ≤ g' * (c * q) := by
          have e1 : g' * (p * d) = p * v * q := by
            rw [Nat.mul_left_comm, ← hd]
            simp only [Nat.mul_assoc, Nat.mul_comm, Nat.mul_left_comm]
          have e2 : g' * (c * q) = (p * v + u * q) * q := by rw [hc, Nat.mul_assoc]
          rw [e1, e2]
          exact Nat.mul_le_mul_right _ (by omega)
        exact Nat.le_of_mul_le_mul_left h3 hg'
    obtain ⟨m1, m2⟩ := I.mn p q hin
    have r1 := simp_high h (by omega) (by rw [eA, eB]; exact h1) (by rw [eC, eB]; exact h2) ha0 hb0 hd0 hac (by omega) (by omega) (by omega) (by omega)
    have co := I.cop
    refine ⟨(ft (sp a b c d)).1, (ft (sp a b c d)).2, r1, ?_⟩
    have p2 := h.p2
    have q2 := h.q2
    have pv := I.inn.pv
    obtain ⟨e', g4⟩ := lsp_loop (x := pN p q) (e := pN u v) (a := a) (b := b) (c := c) (d := d) hb0 (by omega) (by omega) (by omega) (by omega) (by omega) co I.inn I.mn ((ft (sp a b c d)).2 - 1) 1999 1 none none (by decide) (by omega) (by omega) (by omega)
    rw [eA, eB, h1] at hlm
    exact lsimp_fin hlm hlp g4
noncomputable def S_simplest : Sf := specR (fun cs => ∃ p q u v, Dom p q u v ∧ cs = [.f (pN p q), .f (pN u v)]) 8 mS
noncomputable def S_law_simplest : Sf := specR (fun cs => ∃ p q u v, Dom p q u v ∧ cs = [.f (pN p q), .f (pN u v)]) 6 mL'
theorem sem_simplest : ∀ cs c outs, S_simplest cs = .ok (c, outs) → cs.length = 2 ∧ runD 8 mS cs = .ok (c, outs) := specR_sem fun cs ⟨p, q, u, v, _, h⟩ => by rw [h]; rfl
theorem sem_law_simplest : ∀ cs c outs, S_law_simplest cs = .ok (c, outs) → cs.length = 2 ∧ runD 6 mL' cs = .ok (c, outs) := specR_sem fun cs ⟨p, q, u, v, _, h⟩ => by rw [h]; rfl
theorem simp_r {p q u v : Nat} (h : Dom p q u v) : ∃ U V : Nat, S_simplest [.f (pN p q), .f (pN u v)] = .ok (.f (pN U V), []) ∧ S_law_simplest [.f (pN p q), .f (pN u v)] = .ok (.f (pN U V), []) := by
  obtain ⟨U, V, h1, h2⟩ := simp_run h
  exact ⟨U, V, by unfold S_simplest; rw [specR_ok ⟨p, q, u, v, h, rfl⟩, h1], by unfold S_law_simplest; rw [specR_ok ⟨p, q, u, v, h, rfl⟩, h2]⟩
theorem simp_r0 {p q u v : Nat} (h : Dom p q u v) (hx : p * v ≤ u * q) : S_simplest [.f (pN p q), .f (pN u v)] = .ok (.f (pN 0 1), []) := by
  unfold S_simplest
  rw [specR_ok ⟨p, q, u, v, h, rfl⟩, simp_low h hx]
end Lk14

namespace Lk14
open PySem L2 DL PyProof.Rows Md Sh
theorem lk_nD {l : List Nat} (h : l.length ≤ 10000000) : lk 3 (.tuple (nD l)) = true := by
  show (decide ((nD l).length ≤ 10000000) && (nD l).all (lk 2)) = true
  rw [nD_len, decide_eq_true h, Bool.true_and, List.all_eq_true]
  intro d hd
  obtain ⟨n, _, rfl⟩ := List.mem_map.mp hd
  rfl
theorem alt_len : ∀ (l : List Nat) (c : Bool), (alt c l).length = l.length
  | [], _ => rfl
  | _ :: r, c => congrArg (· + 1) (alt_len r (!c))
theorem decL_len : ∀ l : List Nat, (decL l).length = l.length
  | [] => rfl
  | [_] => rfl
  | t :: u :: r => congrArg (· + 1) (decL_len (u :: r))
theorem lk_alt {l : List Nat} {c : Bool} (h : l.length ≤ 10000000) : lk 3 (.tuple ((alt c l).map aD')) = true := by
  show (decide (((alt c l).map aD').length ≤ 10000000) && ((alt c l).map aD').all (lk 2)) = true
  rw [List.length_map, alt_len, decide_eq_true h, Bool.true_and, List.all_eq_true]
  intro d hd
  obtain ⟨⟨b, n⟩, _, rfl⟩ := List.mem_map.mp hd
  cases b <;> rfl
theorem ratio_nat {s t : Int} (h1 : 1 ≤ s) (h2 : s < 1000) (h3 : 1 ≤ t) (h4 : t < 1000) : ∃ P Q : Nat, S_lratio [.f (.int s), .f (.int t)] = .ok (.f (pN P Q), []) ∧ 0 < P ∧ P < 1000 ∧ 0 < Q ∧ Q < 1000 ∧ Nat.gcd P Q = 1 := by
  obtain ⟨A, rfl⟩ := Int.eq_ofNat_of_zero_le (show 0 ≤ s by omega)
  obtain ⟨B, rfl⟩ := Int.eq_ofNat_of_zero_le (show 0 ≤ t by omega)
  obtain ⟨a, b, g, e1, e2, e3, e4, e5⟩ := red_nat (A := A) (B := B) (by omega)
  have hco : Int.gcd ((a : Int)) ((b : Int)) = 1 := by
    have := Int.gcd_ediv_gcd_ediv_gcd (i := (A : Int)) (j := (B : Int)) (Int.gcd_pos_of_ne_zero_right _ (by omega))
    have e : redI (A : Int) (B : Int) = ((A : Int) / (Int.gcd (A : Int) (B : Int) : Int), (B : Int) / (Int.gcd (A : Int) (B : Int) : Int)) := rfl
    rw [e1] at e
    obtain ⟨ea, eb⟩ := Prod.mk.inj e
    rw [← ea, ← eb] at this
    exact this
  have ha : 0 < a := by
    rcases Nat.eq_zero_or_pos a with z | z
    · rw [z] at e2; omega
    · exact z
  refine ⟨a, b, ?_, ha, red_lt e2 e4 (by omega), e5, red_lt e3 e4 (by omega), ?_⟩
  · rw [lratio_r (by omega) (by omega), e1]
    rfl
  · rwa [Int.gcd_natCast_natCast] at hco
theorem cut_last (ds : List D) (d : D) : DL.cutD (ds ++ [d]) none (some (-1)) = ds := by
  unfold DL.cutD HT.sIx
  simp only [Int.reduceLT, if_true, List.drop_zero]
  have : ((-1 : Int) + ((ds ++ [d]).length : Int)).toNat = ds.length := by simp; omega
  rw [this, Nat.sub_zero, List.take_left]
def eG (r : D) (xs : List D) (t : Int) (c2 c3 c4 c5 : Option D) : En := [some (.f r), some (.l false [.list xs, .int t]), c2.map .f, c3.map .f, c4.map .f, c5.map .f, none, none, none]
noncomputable abbrev b1 := m_law_4c3d87_b1 S_lratio S_draw S_terms (S_like 3) S_terms S_from_terms S_steps S_law_steps S_simplest S_law_simplest
theorem lim_1000 {n : Nat} (h : n < 1000) : n < lim := Nat.lt_trans h (by decide)
theorem b1_fin {r : D} {xs : List D} {t : Int} {c2 c3 c4 c5 : Option D} {w1 w2 w3 w4 : Int} {X Y W R R0 R2 S : D} {z : Int}
    (d1 : S_draw [.l true [.list xs, .int t], .f (.int 90)] = .ok (.f (.int w1), [.l true [.list xs, .int (t + 1)]]))
    (d2 : S_draw [.l true [.list xs, .int (t + 1)], .f (.int 90)] = .ok (.f (.int w2), [.l true [.list xs, .int (t + 1 + 1)]]))
    (d3 : S_draw [.l true [.list xs, .int (t + 1 + 1)], .f (.int 20)] = .ok (.f (.int w3), [.l true [.list xs, .int (t + 1 + 1 + 1)]]))
    (d4 : S_draw [.l true [.list xs, .int (t + 1 + 1 + 1)], .f (.int 900)] = .ok (.f (.int w4), [.l true [.list xs, .int (t + 1 + 1 + 1 + 1)]]))
    (r1 : S_lratio [.f (.int (1 + w1)), .f (.int (1 + w2))] = .ok (.f X, [])) (r2 : S_lratio [.f (.int (1 + w3)), .f (.int (1 + w4))] = .ok (.f Y, []))
    (k1 : S_terms [.f X] = .ok (.f R, [])) (k2 : S_from_terms [.f R] = .ok (.f X, [])) (k3 : S_steps [.f X] = .ok (.f S, [])) (k4 : S_law_steps [.f X] = .ok (.f S, []))
    (k5 : S_simplest [.f X, .f Y] = .ok (.f W, [])) (k6 : S_law_simplest [.f X, .f Y] = .ok (.f W, [])) (k7 : S_from_terms [.f R2] = .ok (.f X, []))
    (q : ∀ d, d = X ∨ d = R ∨ d = S ∨ d = W → S_like 3 [.f d, .f d] = .ok (.f (.bool true), []))
    (hix : ixD R (.int (-1)) = .ok (.f (.int z))) (hsl : slD R none (some (-1)) = .ok (.f R0)) (hadd : addD R0 (.tuple [.int (z - 1), .int 1]) = .ok (.f R2)) :
    b1 (eG r xs t c2 c3 c4 c5) = .nx (eG r xs (t + 1 + 1 + 1 + 1) c2 (some X) (some R) (some Y)) := by
  have q1 := q X (.inl rfl)
  have q2 := q R (.inr (.inl rfl))
  have q3 := q S (.inr (.inr (.inl rfl)))
  have q4 := q W (.inr (.inr (.inr rfl)))
  by_cases hz : (1 : Int) < z
  · simp [b1, m_law_4c3d87_b1, eG, d1, d2, d3, d4, r1, r2, k1, k2, k3, k4, k5, k6, k7, q1, q2, q3, q4, hix, hsl, hadd, hz]
  · simp [b1, m_law_4c3d87_b1, eG, d1, d2, d3, d4, r1, r2, k1, k2, k3, k4, k5, k6, k7, q1, q2, q3, q4, hix, hsl, hadd, hz]
theorem part_from {P Q z : Nat} {ini : List Nat} (P1 : P < 1000) (Q1 : Q < 1000) (co : Nat.gcd P Q = 1) (e1 : cf P Q = ini ++ [z]) (e2 : 1 ≤ z) : S_from_terms [.f (.tuple (nD (ini ++ [z - 1, 1])))] = .ok (.f (pN P Q), []) := by
  have hle := cf_le Q P 1000 (by omega) (by omega)
  have hall : ∀ y ∈ ini ++ [z - 1, 1], y < 2 ^ 64 := by
    intro y hy
    rcases List.mem_append.mp hy with hy | hy
    · have := hle y (by rw [e1]; exact List.mem_append_left _ hy); omega
    · have := hle z (by rw [e1]; simp)
      simp at hy
      omega
  have e0 : ft [z - 1, 1] = ft [z] := by
    show ((z - 1) * 1 + 1, 1) = (z * 1 + 0, 1)
    rw [show (z - 1) * 1 + 1 = z * 1 + 0 by omega]
  have e : ft (ini ++ [z - 1, 1]) = (P, Q) := by
    rw [← ft_cop co, e1]
    exact ft_app ini e0
  have := fromA_r hall
  rw [e] at this
  exact this
theorem part_add {z : Nat} {ini : List Nat} (hl : ini.length + 1 ≤ 1800) (e2 : 1 ≤ z) : addD (.tuple (nD ini)) (.tuple [.int ((z : Int) - 1), .int 1]) = .ok (.f (.tuple (nD (ini ++ [z - 1, 1])))) := by
  have hz1 : (z : Int) - 1 = ((z - 1 : Nat) : Int) := by omega
  have hsz : (nD ini).length + [D.int ((z : Int) - 1), D.int 1].length ≤ sizeLine := by
    rw [nD_len, sizeLine_eq]
    simp
    omega
  show (if (nD ini).length + [D.int ((z : Int) - 1), D.int 1].length ≤ sizeLine then _ else _) = _
  rw [if_pos hsz, nD_app, hz1]
  rfl
theorem part_x {P Q : Nat} (P0 : 0 < P) (P1 : P < 1000) (Q0 : 0 < Q) (Q1 : Q < 1000) (co : Nat.gcd P Q = 1) : ∃ R R0 R2 S z, S_terms [.f (pN P Q)] = .ok (.f R, []) ∧ S_from_terms [.f R] = .ok (.f (pN P Q), []) ∧ S_steps [.f (pN P Q)] = .ok (.f S, []) ∧ S_law_steps [.f (pN P Q)] = .ok (.f S, []) ∧ S_from_terms [.f R2] = .ok (.f (pN P Q), []) ∧ lk 3 R = true ∧ lk 3 S = true ∧ ixD R (.int (-1)) = .ok (.f (.int z)) ∧ slD R none (some (-1)) = .ok (.f R0) ∧ addD R0 (.tuple [.int (z - 1), .int 1]) = .ok (.f R2) := by
  have hlen := cf_short (p := P) (lim_1000 Q1)
  have hle := cf_le Q P 1000 (by omega) (by omega)
  have hall : ∀ t ∈ cf P Q, t < 2 ^ 64 := fun z hz => by have := hle z hz; omega
  have k2 := fromA_r hall
  rw [ft_cop co] at k2
  obtain ⟨ini, z, e1, e2⟩ := cf_last Q P Q0 P0
  have hl3 : ini.length + 1 ≤ 1800 := by
    rw [e1, List.length_append] at hlen
    exact hlen
  refine ⟨.tuple (nD (cf P Q)), .tuple (nD ini), .tuple (nD (ini ++ [z - 1, 1])), .tuple ((alt true (decL (cf P Q))).map aD'), z, terms_r (lim_1000 P1) (lim_1000 Q1), k2, steps_r P0 (lim_1000 P1) Q0 (lim_1000 Q1), law_steps_r P0 (by omega) Q0 (by omega) co, part_from P1 Q1 co e1 e2, lk_nD (by omega), lk_alt (by rw [decL_len]; omega), ?_, ?_, part_add hl3 e2⟩
  · rw [e1, nD_app]
    exact ixD_lastT _ _
  · rw [e1, nD_app]
    show Rs.ok (Ce.f (.tuple (DL.cutD (nD ini ++ [.int (z : Int)]) none (some (-1))))) = _
    rw [cut_last]
theorem b1_nx {r : D} {xs : List D} (hx : xs.all D.isI = true) {t : Int} (h0 : 0 ≤ t) (h1 : t < 1000) (c2 c3 c4 c5 : Option D) : ∃ x row e, b1 (eG r xs t c2 c3 c4 c5) = .nx (eG r xs (t + 1 + 1 + 1 + 1) c2 (some x) (some row) (some e)) := by
  have d1 := draw_r hx h0 (by omega) (m := 90) (by decide) (by decide)
  have d2 := draw_r hx (a := t + 1) (by omega) (by omega) (m := 90) (by decide) (by decide)
  have d3 := draw_r hx (a := t + 1 + 1) (by omega) (by omega) (m := 20) (by decide) (by decide)
  have d4 := draw_r hx (a := t + 1 + 1 + 1) (by omega) (by omega) (m := 900) (by decide) (by decide)
  have n1 := dv_nn (xs := xs) (a := t) (m := 90) (by decide)
  have l1 := dv_lt (xs := xs) (a := t) (m := 90) (by decide)
  have n2 := dv_nn (xs := xs) (a := t + 1) (m := 90) (by decide)
  have l2 := dv_lt (xs := xs) (a := t + 1) (m := 90) (by decide)
  have n3 := dv_nn (xs := xs) (a := t + 1 + 1) (m := 20) (by decide)
  have l3 := dv_lt (xs := xs) (a := t + 1 + 1) (m := 20) (by decide)
  have n4 := dv_nn (xs := xs) (a := t + 1 + 1 + 1) (m := 900) (by decide)
  have l4 := dv_lt (xs := xs) (a := t + 1 + 1 + 1) (m := 900) (by decide)
  obtain ⟨P, Q, r1, P0, P1, Q0, Q1, co⟩ := ratio_nat (s := 1 + dv xs t 90) (t := 1 + dv xs (t + 1) 90) (by omega) (by omega) (by omega) (by omega)
  obtain ⟨U, V, r2, U0, U1, V0, V1, co2⟩ := ratio_nat (s := 1 + dv xs (t + 1 + 1) 20) (t := 1 + dv xs (t + 1 + 1 + 1) 900) (by omega) (by omega) (by omega) (by omega)
  have dom : Dom P Q U V := ⟨P0, P1, Q0, Q1, U0, U1, V0, V1⟩
  obtain ⟨R, R0, R2, S, z, k1, k2, k3, k4, k7, e1, e2, hix, hsl, hadd⟩ := part_x P0 P1 Q0 Q1 co
  obtain ⟨a, b, k5, k6⟩ := simp_r dom
  refine ⟨pN P Q, R, pN U V, b1_fin d1 d2 d3 d4 r1 r2 k1 k2 k3 k4 k5 k6 k7 (fun d hd => like_r ?_) hix hsl hadd⟩
  rcases hd with rfl | rfl | rfl | rfl
  · rfl
  · exact e1
  · exact e2
  · rfl
end Lk14

namespace Lk14
open PySem L2 DL PyProof.Rows Md Sh
theorem st_loop {r : D} {xs : List D} (hx : xs.all D.isI = true) : ∃ c2 c3 c4 c5 : Option D, loopL (tgN 2) b1 (rgD 0 4) (eG r xs 0 none none none none) = .nx (eG r xs 16 c2 c3 c4 c5) := by
  have s1 : ∀ d t c2 c3 c4 c5, tgN 2 d (eG r xs t c2 c3 c4 c5) = .ok (eG r xs t (some d) c3 c4 c5) := fun d t c2 c3 c4 c5 => tgN_f (a := c2) rfl
  obtain ⟨a1, b1', d1, g1⟩ := b1_nx (r := r) hx (t := 0) (by decide) (by decide) (some (.int 0)) none none none
  obtain ⟨a2, b2', d2, g2⟩ := b1_nx (r := r) hx (t := 4) (by decide) (by decide) (some (.int 1)) (some a1) (some b1') (some d1)
  obtain ⟨a3, b3', d3, g3⟩ := b1_nx (r := r) hx (t := 8) (by decide) (by decide) (some (.int 2)) (some a2) (some b2') (some d2)
  obtain ⟨a4, b4', d4, g4⟩ := b1_nx (r := r) hx (t := 12) (by decide) (by decide) (some (.int 3)) (some a3) (some b3') (some d3)
  refine ⟨some (.int 3), some a4, some b4', some d4, ?_⟩
  have g1' : b1 (eG r xs 0 (some (.int 0)) none none none) = .nx (eG r xs 4 (some (.int 0)) (some a1) (some b1') (some d1)) := g1
  have g2' : b1 (eG r xs 4 (some (.int 1)) (some a1) (some b1') (some d1)) = .nx (eG r xs 8 (some (.int 1)) (some a2) (some b2') (some d2)) := g2
  have g3' : b1 (eG r xs 8 (some (.int 2)) (some a2) (some b2') (some d2)) = .nx (eG r xs 12 (some (.int 2)) (some a3) (some b3') (some d3)) := g3
  have g4' : b1 (eG r xs 12 (some (.int 3)) (some a3) (some b3') (some d3)) = .nx (eG r xs 16 (some (.int 3)) (some a4) (some b4') (some d4)) := g4
  show loopL (tgN 2) b1 [.int 0, .int 1, .int 2, .int 3] _ = _
  rw [loop_nx (s1 _ _ _ _ _ _) g1', loop_nx (s1 _ _ _ _ _ _) g2', loop_nx (s1 _ _ _ _ _ _) g3', loop_nx (s1 _ _ _ _ _ _) g4']
  rfl
/-! the fixed cases -/
theorem fix_terms0 : S_terms [.f (.tuple [.int 0, .int 1])] = .ok (.f (.tuple [.int 0]), []) := by
  have h := terms_r (p := 0) (q := 1) (lim_1000 (by decide)) (lim_1000 (by decide))
  rw [cf_s (by decide), Nat.mod_one, cf_0] at h
  exact h
theorem fix_terms7 : S_terms [.f (.tuple [.int 7, .int 1])] = .ok (.f (.tuple [.int 7]), []) := by
  have h := terms_r (p := 7) (q := 1) (lim_1000 (by decide)) (lim_1000 (by decide))
  rw [cf_s (by decide), Nat.mod_one, cf_0] at h
  exact h
theorem fix_steps1 : S_steps [.f (.tuple [.int 1, .int 1])] = .ok (.f (.tuple [.tuple [.str "R", .int 0]]), []) := by
  have h := steps_r (p := 1) (q := 1) (by decide) (lim_1000 (by decide)) (by decide) (lim_1000 (by decide))
  rw [cf_s (by decide), Nat.mod_one, cf_0] at h
  exact h
theorem fix_simp : S_simplest [.f (.tuple [.int 5, .int 7]), .f (.tuple [.int 1, .int 1])] = .ok (.f (.tuple [.int 0, .int 1]), []) :=
  simp_r0 (p := 5) (q := 7) (u := 1) (v := 1) ⟨by decide, by decide, by decide, by decide, by decide, by decide, by decide, by decide⟩ (by decide)
theorem fix_like : S_like 3 [.f (.tuple [.tuple [.int 0], .tuple [.int 7], .tuple [.tuple [.str "R", .int 0]], .tuple [.int 0, .int 1]]), .f (.tuple [.tuple [.int 0], .tuple [.int 7], .tuple [.tuple [.str "R", .int 0]], .tuple [.int 0, .int 1]])] = .ok (.f (.bool true), []) := like_r rfl
/-! the drawn row -/
def eH (r : D) (xs : List D) (t : Int) (c2 c3 c4 c5 k : Option D) : En := [some (.f r), some (.l false [.list xs, .int t]), c2.map .f, c3.map .f, c4.map .f, c5.map .f, none, none, k.map .f]
theorem st_mid {r : D} {xs : List D} (hx : xs.all D.isI = true) (c2 c3 c4 c5 : Option D) : ∃ (l : List Nat) (t : Int), l.length ≤ 11 ∧ (∀ n ∈ l, 1 ≤ n ∧ n ≤ 60) ∧ 0 ≤ t ∧ t ≤ 100 ∧ mComp (mRng1 (aCons (mZ (mCall S_draw (aCons (aS 1) (aCons (aD (mC (.int 12))) aNil)))) aNil)) (tgN 8) [8] mYes (m_law_4c3d87_e1 S_draw) (eG r xs 17 c2 c3 c4 c5) = .ok (.l false (nD l), eG r xs t c2 c3 c4 c5) := by
  have d1 := draw_r hx (a := 17) (by decide) (by decide) (m := 12) (by decide) (by decide)
  have n1 := dv_nn (xs := xs) (a := 17) (m := 12) (by decide)
  have l1 := dv_lt (xs := xs) (a := 17) (m := 12) (by decide)
  generalize dv xs 17 12 = n at *
  have hs : mRng1 (aCons (mZ (mCall S_draw (aCons (aS 1) (aCons (aD (mC (.int 12))) aNil)))) aNil) (eG r xs 17 c2 c3 c4 c5) = .ok (rgD 0 n.toNat, eG r xs (17 + 1) c2 c3 c4 c5) :=
    rng1_r (by simp [eG, d1]) (by omega) (by omega)
  obtain ⟨acc, e', g1, g2⟩ := cLoop_inv (t := tgN 8) (vs := [8]) (c := mYes) (m := m_law_4c3d87_e1 S_draw) (fun ds acc e => ∃ (t : Int) (l : List Nat) (o : Option D), e = eH r xs t c2 c3 c4 c5 o ∧ acc = nD l ∧ (∀ n ∈ l, 1 ≤ n ∧ n ≤ 60) ∧ acc.length + ds.length ≤ 11 ∧ 0 ≤ t ∧ t + ds.length ≤ 100)
    (by rintro ds acc e ⟨t, ps, o, rfl, _⟩; simp [eH])
    (by
      rintro d ds acc e ⟨t, l, o, rfl, rfl, hp, hl, t0, t1⟩
      simp only [List.length_cons] at hl t1
      have d1 := draw_r hx t0 (by omega) (m := 60) (by decide) (by decide)
      have n1 := dv_nn (xs := xs) (a := t) (m := 60) (by decide)
      have l1 := dv_lt (xs := xs) (a := t) (m := 60) (by decide)
      generalize dv xs t 60 = x at *
      obtain ⟨y, rfl⟩ := Int.eq_ofNat_of_zero_le n1
      refine ⟨eH r xs t c2 c3 c4 c5 (some d), true, eH r xs t c2 c3 c4 c5 (some d), ?_, rfl, fun h => (by cases h), fun _ => ⟨.int (1 + (y : Int)), eH r xs (t + 1) c2 c3 c4 c5 (some d), ?_, by omega, t + 1, l ++ [1 + y], some d, rfl, by simp [nD], ?_, by simp at hl ⊢; omega, by omega, by omega⟩⟩
      · simp [eH, wipeE]
      · simp [eH, m_law_4c3d87_e1, d1]
      · intro p hm
        rcases List.mem_append.mp hm with hm | hm
        · exact hp p hm
        · rw [List.mem_singleton] at hm
          subst hm
          omega)
    (rgD 0 n.toNat) [] (eG r xs (17 + 1) c2 c3 c4 c5) ⟨18, [], none, rfl, rfl, by simp, by rw [rgD_len]; simp; omega, by decide, by rw [rgD_len]; omega⟩
  obtain ⟨t, l, o, rfl, rfl, hp, hl, t0, t1⟩ := g2
  refine ⟨l, t, by simpa [nD] using hl, hp, t0, by simpa using t1, ?_⟩
  rw [mComp_r, hs]
  simp only [Rs.bind_ok, g1]
  rfl
/-! its labels -/
def lab2 (l : List Nat) : D → D
  | .int i => .tuple [.str (if i % 2 = 1 then "L" else "R"), ((nD l)[i.toNat]?).getD .none]
  | d => d
theorem lab2_rg (l : List Nat) : (rgD 0 l.length).map (lab2 l) = (alt true l).map aD' := by
  have h := lab_en l 0
  have h0 : (0 % 2 == 0) = true := rfl
  rw [h0] at h
  rw [← h]
  apply List.ext_getElem?
  intro i
  rw [List.getElem?_map, List.getElem?_map, enD_get, rgD_map, List.getElem?_map]
  by_cases hi : i < l.length
  · have h1 : (List.range l.length)[i]? = some i := by simp [hi]
    have h2 : (nD l)[i]? = some (.int ((l[i]) : Int)) := by simp [nD, hi]
    rw [h1, h2]
    show some (lab2 l (.int (0 + (i : Int)))) = some (lab (.tuple [.int ((0 + i : Nat) : Int), _]))
    rw [Int.zero_add, Nat.zero_add]
    show some (D.tuple [.str (if (i : Int) % 2 = 1 then "L" else "R"), ((nD l)[(i : Int).toNat]?).getD .none]) = some (.tuple [.str (if (i : Int) % 2 = 1 then "L" else "R"), _])
    rw [Int.toNat_natCast, h2]
    rfl
  · have h1 : (List.range l.length)[i]? = none := by simp; omega
    have h2 : (nD l)[i]? = none := by simp [nD]; omega
    rw [h1, h2]
    rfl
theorem st_lab {r x : D} {xs : List D} {t : Int} {c2 c4 c5 : Option D} {l : List Nat} (hl : l.length ≤ 1800) : mComp (mRng1 (aCons (mZ (mL lenD (aCons (mH (mN (mVar 6))) aNil))) aNil)) (tgN 8) [8] mYes m_law_4c3d87_e2 [some (.f r), some (.l false [.list xs, .int t]), c2.map .f, some (.f x), c4.map .f, c5.map .f, some (.f (.tuple (nD l))), none, none] = .ok (.l false ((alt true l).map aD'), [some (.f r), some (.l false [.list xs, .int t]), c2.map .f, some (.f x), c4.map .f, c5.map .f, some (.f (.tuple (nD l))), none, none]) := by
  have hs : mRng1 (aCons (mZ (mL lenD (aCons (mH (mN (mVar 6))) aNil))) aNil) [some (.f r), some (.l false [.list xs, .int t]), c2.map .f, some (.f x), c4.map .f, c5.map .f, some (.f (.tuple (nD l))), none, none] = .ok (rgD 0 l.length, [some (.f r), some (.l false [.list xs, .int t]), c2.map .f, some (.f x), c4.map .f, c5.map .f, some (.f (.tuple (nD l))), none, none]) := by
    have := rng1_r (ma := (aCons (mZ (mL lenD (aCons (mH (mN (mVar 6))) aNil))) aNil)) (n := ((nD l).length : Int)) (e := [some (.f r), some (.l false [.list xs, .int t]), c2.map .f, some (.f x), c4.map .f, c5.map .f, some (.f (.tuple (nD l))), none, none]) (by simp; rfl) (by omega) (by rw [nD_len]; omega)
    rw [this, nD_len]
    rfl
  rw [mComp_map (lab2 l) hs (tgOk_n 8) (by simp) (by simp) (hz_of (by rw [rgD_len]; exact hl)), lab2_rg]
  intro d hd
  obtain ⟨i, hi, rfl⟩ := mem_rg hd
  have hx : (nD l)[i]? = some (.int (l[i] : Int)) := by simp [nD, hi]
  refine ⟨[some (.f r), some (.l false [.list xs, .int t]), c2.map .f, some (.f x), c4.map .f, c5.map .f, some (.f (.tuple (nD l))), none, some (.f (.int (i : Int)))], by simp [wipeE], ?_⟩
  have hlab : lab2 l (.int (i : Int)) = .tuple [.str (if (i : Int) % 2 = 1 then "L" else "R"), .int (l[i] : Int)] := by
    unfold lab2
    dsimp only
    rw [Int.toNat_natCast, hx]
    rfl
  rw [hlab]
  rcases Int.emod_two_eq (i : Int) with h | h
  · simp [m_law_4c3d87_e2, modD_i, h, ixD_tn hx]
  · simp [m_law_4c3d87_e2, modD_i, h, ixD_tn hx]
theorem alt_app : ∀ (ini : List Nat) (b : Bool), ∃ c, ∀ t, alt b (ini ++ [t]) = alt b ini ++ [(c, t)]
  | [], b => ⟨b, fun t => rfl⟩
  | a :: r, b => by
    obtain ⟨c, h⟩ := alt_app r (!b)
    exact ⟨c, fun t => by show (b, a) :: alt (!b) (r ++ [t]) = _; rw [h]; rfl⟩
theorem row_app : ∀ (m : List Nat) (z : Nat), (∀ n ∈ m, 1 ≤ n) → 2 ≤ z → Row (m ++ [z])
  | [], z, _, h => h
  | [a], z, h, hz => ⟨h a List.mem_cons_self, hz⟩
  | a :: b :: m, z, h, hz => ⟨h a List.mem_cons_self, row_app (b :: m) z (fun n hn => h n (List.mem_cons_of_mem _ hn)) hz⟩
/-- the last part: of the drawn row dr = a :: mid ++ [z] -/
theorem part_row {a z : Nat} {mid : List Nat} (ha : a ≤ 8) (hm : mid.length ≤ 11) (hb : ∀ n ∈ mid, 1 ≤ n ∧ n ≤ 60) (hz : 2 ≤ z) (hz2 : z ≤ 10) : ∃ P Q : Nat, S_from_terms [.f (.tuple (nD (a :: (mid ++ [z]))))] = .ok (.f (pN P Q), []) ∧ S_terms [.f (pN P Q)] = .ok (.f (.tuple (nD (a :: (mid ++ [z])))), []) ∧ S_steps [.f (pN P Q)] = .ok (.f (.tuple ((alt true (a :: mid ++ [z - 1])).map aD')), []) := by
  have hrow := row_app mid z (fun n hn => (hb n hn).1) hz
  obtain ⟨h1, h2⟩ := row_ft0 (t := a) hrow
  obtain ⟨h3, h4, _⟩ := row_ft _ hrow
  have hall : ∀ t ∈ a :: (mid ++ [z]), t ≤ 60 := by
    intro t ht
    rcases List.mem_cons.mp ht with rfl | ht
    · omega
    · rcases List.mem_append.mp ht with ht | ht
      · exact (hb t ht).2
      · rw [List.mem_singleton.mp ht]; omega
  obtain ⟨h5, h6⟩ := ft_le _ hall
  have hlen : (a :: (mid ++ [z])).length ≤ 13 := by simp; omega
  have hpow : 61 ^ (a :: (mid ++ [z])).length ≤ 61 ^ 13 := Nat.pow_le_pow_right (by decide) hlen
  have hlim : 61 ^ 13 < lim := by decide
  have hP : (ft (a :: (mid ++ [z]))).1 < lim := by omega
  have hQ : (ft (a :: (mid ++ [z]))).2 < lim := by omega
  have hP0 : 0 < (ft (a :: (mid ++ [z]))).1 := by
    show 0 < a * (ft (mid ++ [z])).1 + (ft (mid ++ [z])).2
    omega
  have k1 := fromA_r (l := a :: (mid ++ [z])) fun t ht => by have := hall t ht; omega
  have k2 := terms_r hP hQ
  have k3 := steps_r hP0 hP (show 0 < (ft (a :: (mid ++ [z]))).2 by omega) hQ
  rw [h1] at k2 k3
  have e : a :: (mid ++ [z]) = (a :: mid) ++ [z] := rfl
  rw [e, decL_last] at k3
  exact ⟨_, _, k1, k2, k3⟩
noncomputable abbrev ML := m_law_4c3d87 S_digits S_lratio S_draw S_terms (S_like 3) S_terms S_from_terms S_steps S_law_steps S_simplest S_law_simplest
theorem st_if {X r : D} {xs : List D} {t : Int} {c2 c4 c5 : Option D} {l2 : List D} (it : isT "tuple" X = true) (ln : lenD [X] = .ok (.f (.int 2))) (k2 : S_terms [.f X] = .ok (.f (.tuple l2), [])) (q1 : S_like 3 [.f (.tuple l2), .f (.tuple l2)] = .ok (.f (.bool true), [])) : 
   (sIf (mOr (mNot (mTru (mH (mN (mIs "tuple" (mH (mN (mVar 3)))))))) (mOr (mBool (m2 neD (mH (mL lenD (aCons (mH (mN (mVar 3))) aNil))) (mH (mN (mC (.int 2)))))) (mNot (mTru (mH (mCall (S_like 3) (aCons (aD (mZ (mCall S_terms (aCons (aD (mVar 3)) aNil)))) (aCons (aD (mVar 6)) aNil)))))))) (sRet (mN (mC (.bool false)))) sNext) [some (.f r), some (.l false [.list xs, .int (t + 1)]), c2.map .f, some (.f X), c4.map .f, c5.map .f, some (.f (.tuple l2)), none, none] = .nx [some (.f r), some (.l false [.list xs, .int (t + 1)]), c2.map .f, some (.f X), c4.map .f, c5.map .f, some (.f (.tuple l2)), none, none] := by
  simp [it, ln, k2, q1]
theorem law_fin {r : D} {xs : List D} {t : Int} {c2 c3 c4 c5 : Option D} {P Q : Nat} {w0 w1 : Int} {l1 l2 pre : List D} {c : Str} {z : Int} {ST : D} {k : Nat}
    (hd : S_digits [.f r, .f (.int 0), .f (.int 63)] = .ok (.l false xs, []))
    (g1 : loopL (tgN 2) b1 (rgD 0 4) [some (.f r), some (.l false [.list xs, .int 0]), none, none, none, none, none, none, none] = .nx [some (.f r), some (.l false [.list xs, .int 16]), c2.map .f, c3.map .f, c4.map .f, c5.map .f, none, none, none])
    (d1 : S_draw [.l true [.list xs, .int 16], .f (.int 9)] = .ok (.f (.int w0), [.l true [.list xs, .int 17]]))
    (g2 : mComp (mRng1 (aCons (mZ (mCall S_draw (aCons (aS 1) (aCons (aD (mC (.int 12))) aNil)))) aNil)) (tgN 8) [8] mYes (m_law_4c3d87_e1 S_draw) [some (.f r), some (.l false [.list xs, .int 17]), c2.map .f, c3.map .f, c4.map .f, c5.map .f, none, none, none] = .ok (.l false l1, [some (.f r), some (.l false [.list xs, .int t]), c2.map .f, c3.map .f, c4.map .f, c5.map .f, none, none, none]))
    (d2 : S_draw [.l true [.list xs, .int t], .f (.int 9)] = .ok (.f (.int w1), [.l true [.list xs, .int (t + 1)]]))
    (ha1 : addD (.list [.int w0]) (.list l1) = .ok (.l false (.int w0 :: l1))) (ha2 : addD (.list (.int w0 :: l1)) (.list [.int (2 + w1)]) = .ok (.l false l2))
    (k1 : S_from_terms [.f (.tuple l2)] = .ok (.f (pN P Q), [])) (k2 : S_terms [.f (pN P Q)] = .ok (.f (.tuple l2), [])) (k3 : S_steps [.f (pN P Q)] = .ok (.f ST, []))
    (q1 : S_like 3 [.f (.tuple l2), .f (.tuple l2)] = .ok (.f (.bool true), [])) (hl2 : l2.length = k + 2)
    (hi0 : ixD (.tuple l2) (.int 0) = .ok (.f (.int w0)))
    (g3 : mComp (mRng1 (aCons (mZ (mL lenD (aCons (mH (mN (mVar 6))) aNil))) aNil)) (tgN 8) [8] mYes m_law_4c3d87_e2 [some (.f r), some (.l false [.list xs, .int (t + 1)]), c2.map .f, some (.f (pN P Q)), c4.map .f, c5.map .f, some (.f (.tuple l2)), none, none] = .ok (.l false (pre ++ [.tuple [.str c, .int z]]), [some (.f r), some (.l false [.list xs, .int (t + 1)]), c2.map .f, some (.f (pN P Q)), c4.map .f, c5.map .f, some (.f (.tuple l2)), none, none]))
    (q2 : S_like 3 [.f ST, .f (.tuple (pre ++ [.tuple [.str c, .int (z - 1)]]))] = .ok (.f (.bool true), [])) : runD 9 ML [.f r] = .ok (.f (.bool true), []) := by
  have f1 := fix_terms0
  have f2 := fix_terms7
  have f3 := fix_steps1
  have f4 := fix_simp
  have f5 := fix_like
  have hix : ixD (.list (pre ++ [.tuple [.str c, .int z]])) (.int (-1)) = .ok (.f (.tuple [.str c, .int z])) := ixD_last _ _
  have hxn : ixN (pre.length + 1) (-1) = some pre.length := ixN_last _
  have hset : ∀ v : D, (pre ++ [D.tuple [.str c, .int z]]).set pre.length v = pre ++ [v] := fun v => by
    rw [List.set_append_right _ _ (Nat.le_refl _), Nat.sub_self]
    rfl
  have hset' := hset (.tuple [.str c, .int (z - 1)])
  have hk1 : ¬ (k : Int) + 2 = 1 := by omega
  have hk2 : ¬ ((k + 2 : Nat) : Int) = 1 := by omega
  have hk3 : ¬ k + 2 = 1 := by omega
  unfold pN at *
  generalize hXX : D.tuple [.int (P : Int), .int (Q : Int)] = X at *
  have it : isT "tuple" X = true := by rw [← hXX]; exact isT_tt _
  have ln : lenD [X] = .ok (.f (.int 2)) := by rw [← hXX]; exact lenD_t _
  have key : ML [some (.f r), none, none, none, none, none, none, none, none] = .rt (.f (.bool true)) [some (.f r), some (.l false [.list xs, .int (t + 1)]), c2.map .f, some (.f X), c4.map .f, c5.map .f, some (.f (.tuple l2)), some (.l false (pre ++ [.tuple [.str c, .int (z - 1)]])), none] := by
    unfold ML m_law_4c3d87
    refine (seq_nx (e' := [some (.f r), some (.l false [.list xs, .int 0]), none, none, none, none, none, none, none]) (by simp [hd])).trans ?_
    refine (seq_nx (e' := [some (.f r), some (.l false [.list xs, .int 16]), c2.map .f, c3.map .f, c4.map .f, c5.map .f, none, none, none]) (by simp [g1])).trans ?_
    refine (seq_nx (e' := [some (.f r), some (.l false [.list xs, .int 16]), c2.map .f, c3.map .f, c4.map .f, c5.map .f, none, none, none]) (by simp [f1, f2, f3, f4, f5])).trans ?_
    refine (seq_nx (e' := [some (.f r), some (.l false [.list xs, .int (t + 1)]), c2.map .f, c3.map .f, c4.map .f, c5.map .f, some (.f (.tuple l2)), none, none]) (by simp [d1, g2, d2, ha1, ha2])).trans ?_
    refine (seq_nx (e' := [some (.f r), some (.l false [.list xs, .int (t + 1)]), c2.map .f, some (.f X), c4.map .f, c5.map .f, some (.f (.tuple l2)), none, none]) (by simp [k1])).trans ?_
    refine (seq_nx (e' := [some (.f r), some (.l false [.list xs, .int (t + 1)]), c2.map .f, some (.f X), c4.map .f, c5.map .f, some (.f (.tuple l2)), none, none]) (st_if it ln k2 q1)).trans ?_
    refine (seq_nx (e' := [some (.f r), some (.l false [.list xs, .int (t + 1)]), c2.map .f, some (.f X), c4.map .f, c5.map .f, some (.f (.tuple l2)), none, none]) (by
      by_cases hw : w0 = 0
      · subst hw
        simp [hi0, hl2, hk1, hk2, hk3]
      · simp [hi0, hw])).trans ?_
    refine (seq_nx (e' := [some (.f r), some (.l false [.list xs, .int (t + 1)]), c2.map .f, some (.f X), c4.map .f, c5.map .f, some (.f (.tuple l2)), some (.l false (pre ++ [.tuple [.str c, .int z]])), none]) (by simp [g3])).trans ?_
    refine (seq_nx (e' := [some (.f r), some (.l false [.list xs, .int (t + 1)]), c2.map .f, some (.f X), c4.map .f, c5.map .f, some (.f (.tuple l2)), some (.l false (pre ++ [.tuple [.str c, .int (z - 1)]])), none]) (by simp [hix, hxn, hset'])).trans ?_
    simp [k3, q2]
  simp [runD_r, startE, key]
end Lk14

namespace Lk14
open PySem L2 DL PyProof.Rows Md Sh
theorem add_ll {a b : List D} (h : a.length + b.length ≤ 1000) : addD (.list a) (.list b) = .ok (.l false (a ++ b)) := by
  show (if a.length + b.length ≤ sizeLine then _ else _) = _
  exact if_pos (sizeLine_ge _ h)
theorem alt_split (a : Nat) (mid : List Nat) : ∃ (pre : List D) (c : Str), ∀ z : Nat, (alt true (a :: mid ++ [z])).map aD' = pre ++ [.tuple [.str c, .int (z : Int)]] := by
  obtain ⟨c, h⟩ := alt_app (a :: mid) true
  exact ⟨(alt true (a :: mid)).map aD', if c then "R" else "L", fun z => by rw [h, List.map_append]; rfl⟩
theorem law_run (ns : List Int) : runD 9 ML [.f (.ro (ns.map .int))] = .ok (.f (.bool true), []) := by
  obtain ⟨ds, dl, hd⟩ := digits_r ns
  have hx := allI_ints ds
  obtain ⟨c2, c3, c4, c5, g1⟩ := st_loop (r := .ro (ns.map .int)) hx
  have d1 := draw_r hx (a := 16) (by decide) (by decide) (m := 9) (by decide) (by decide)
  have n1 := dv_nn (xs := ds.map .int) (a := 16) (m := 9) (by decide)
  have l1 := dv_lt (xs := ds.map .int) (a := 16) (m := 9) (by decide)
  generalize dv (ds.map .int) 16 9 = w0 at *
  obtain ⟨mid, t, hm, hb, t0, t1, g2⟩ := st_mid (r := .ro (ns.map .int)) hx c2 c3 c4 c5
  have d2 := draw_r hx (a := t) (by omega) (by omega) (m := 9) (by decide) (by decide)
  have n2 := dv_nn (xs := ds.map .int) (a := t) (m := 9) (by decide)
  have l2 := dv_lt (xs := ds.map .int) (a := t) (m := 9) (by decide)
  generalize dv (ds.map .int) t 9 = w1 at *
  obtain ⟨a, rfl⟩ := Int.eq_ofNat_of_zero_le n1
  obtain ⟨y, rfl⟩ := Int.eq_ofNat_of_zero_le n2
  have e0 : (2 : Int) + (y : Int) = ((2 + y : Nat) : Int) := by omega
  obtain ⟨P, Q, k1, k2, k3⟩ := part_row (a := a) (z := 2 + y) (mid := mid) (by omega) hm hb (by omega) (by omega)
  obtain ⟨pre, c, hal⟩ := alt_split a mid
  have hlen : (a :: (mid ++ [2 + y])).length ≤ 1800 := by simp; omega
  have hlen2 : (a :: mid ++ [2 + y - 1]).length ≤ 10000000 := by simp; omega
  have g3 := st_lab (r := .ro (ns.map .int)) (x := pN P Q) (xs := ds.map .int) (t := t + 1) (c2 := c2) (c4 := c4) (c5 := c5) hlen
  have e1 : a :: (mid ++ [2 + y]) = a :: mid ++ [2 + y] := rfl
  rw [e1, hal] at g3
  have q1 : S_like 3 [.f (.tuple (nD (a :: (mid ++ [2 + y])))), .f (.tuple (nD (a :: (mid ++ [2 + y]))))] = .ok (.f (.bool true), []) := like_r (lk_nD (by omega))
  have q2 : S_like 3 [.f (.tuple ((alt true (a :: mid ++ [2 + y - 1])).map aD')), .f (.tuple ((alt true (a :: mid ++ [2 + y - 1])).map aD'))] = .ok (.f (.bool true), []) := like_r (lk_alt hlen2)
  have e2 : ((2 + y - 1 : Nat) : Int) = ((2 + y : Nat) : Int) - 1 := by omega
  have ha1 : addD (.list [.int (a : Int)]) (.list (nD mid)) = .ok (.l false (.int (a : Int) :: nD mid)) := add_ll (by rw [nD_len]; simp; omega)
  have ha2 : addD (.list (.int (a : Int) :: nD mid)) (.list [.int (2 + (y : Int))]) = .ok (.l false (nD (a :: (mid ++ [2 + y])))) := by
    rw [add_ll (by rw [List.length_cons, nD_len]; simp; omega), e0]
    show _ = Rs.ok (Ce.l false (D.int (a : Int) :: nD (mid ++ [2 + y])))
    rw [nD_app]
    rfl
  rw [hal, e2] at q2 k3
  exact law_fin (k := mid.length) (pre := pre) (c := c) (z := ((2 + y : Nat) : Int)) hd g1 d1 g2 d2 ha1 ha2 k1 k2 k3 q1 (by rw [nD_len]; simp) (ixD_t0 _ _) g3 q2
end Lk14

namespace Lk14
open PySem L2 DL PyProof.Rows Md Sh
theorem all_mk {l : PySem.W.OpenLaw} {w : World} {K : PySem.W.Frag} {h : Heap} {mg : Str → Option Value} {fa f0 f1 f2 f3 f4 f5 f6 f7 f8 f9 f10 f11 f12 f13 f14 f15 f16 f17 f18 f19 f20 : Addr} (X : K.In h) (G : h.Ns mainGlobals mg) (hfa : mg "law" = some (.ref fa))
    {od0 an0 od1 an1 od2 an2 od3 an3 od4 an4 od5 an5 od6 an6 od7 an7 od8 an8 od9 an9 od10 an10 od11 an11 od12 an12 od13 an13 od14 an14 od15 an15 od16 an16 od17 an17 od18 an18 od19 an19 od20 an20 : Option Addr} {sl0 sl1 sl2 sl3 sl4 sl5 sl6 sl7 sl8 sl9 sl10 sl11 sl12 sl13 sl14 sl15 sl16 sl17 sl18 sl19 sl20 : Array (Option Value)} {oc0 kV0 dc0 pm0 cd0 ct0 oc1 kV1 dc1 pm1 cd1 ct1 oc2 kV2 dc2 pm2 cd2 ct2 oc3 kV3 dc3 pm3 cd3 ct3 oc4 kV4 dc4 pm4 cd4 ct4 oc5 kV5 dc5 pm5 cd5 ct5 oc6 kV6 dc6 pm6 cd6 ct6 oc7 kV7 dc7 pm7 cd7 ct7 oc8 kV8 dc8 pm8 cd8 ct8 oc9 kV9 dc9 pm9 cd9 ct9 oc10 kV10 dc10 pm10 cd10 ct10 oc11 kV11 dc11 pm11 cd11 ct11 oc12 kV12 dc12 pm12 cd12 ct12 oc13 kV13 dc13 pm13 cd13 ct13 oc14 kV14 dc14 pm14 cd14 ct14 oc15 kV15 dc15 pm15 cd15 ct15 oc16 kV16 dc16 pm16 cd16 ct16 oc17 kV17 dc17 pm17 cd17 ct17 oc18 kV18 dc18 pm18 cd18 ct18 oc19 kV19 dc19 pm19 cd19 ct19 oc20 kV20 dc20 pm20 cd20 ct20 : Value}
    (a0 : PySem.W.nsIn K mainGlobals "_law_cell" = some (some (.ref f0))) (l0 : K.lookup f0 = some ⟨oc0, od0, .func (PySem.W.fnOf "_law_cell" "_law_cell" (defArgs s_law_cell) (defBody s_law_cell) (defScope s_law_cell) .none kV0 dc0 pm0 an0 cd0 ct0), sl0⟩) (c0 : PySem.W.codeIn K cd0 "_law_cell" = true) (k0 : PySem.W.keepIn K (.ref f0) = true)
    (a1 : PySem.W.nsIn K mainGlobals "_law_digits" = some (some (.ref f1))) (l1 : K.lookup f1 = some ⟨oc1, od1, .func (PySem.W.fnOf "_law_digits" "_law_digits" (defArgs s_law_digits) (defBody s_law_digits) (defScope s_law_digits) .none kV1 dc1 pm1 an1 cd1 ct1), sl1⟩) (c1 : PySem.W.codeIn K cd1 "_law_digits" = true) (k1 : PySem.W.keepIn K (.ref f1) = true)
    (a2 : PySem.W.nsIn K mainGlobals "_law_gcd" = some (some (.ref f2))) (l2 : K.lookup f2 = some ⟨oc2, od2, .func (PySem.W.fnOf "_law_gcd" "_law_gcd" (defArgs s_law_gcd) (defBody s_law_gcd) (defScope s_law_gcd) .none kV2 dc2 pm2 an2 cd2 ct2), sl2⟩) (c2 : PySem.W.codeIn K cd2 "_law_gcd" = true) (k2 : PySem.W.keepIn K (.ref f2) = true)
    (a3 : PySem.W.nsIn K mainGlobals "_law_ratio" = some (some (.ref f3))) (l3 : K.lookup f3 = some ⟨oc3, od3, .func (PySem.W.fnOf "_law_ratio" "_law_ratio" (defArgs s_law_ratio) (defBody s_law_ratio) (defScope s_law_ratio) .none kV3 dc3 pm3 an3 cd3 ct3), sl3⟩) (c3 : PySem.W.codeIn K cd3 "_law_ratio" = true) (k3 : PySem.W.keepIn K (.ref f3) = true)
    (a4 : PySem.W.nsIn K mainGlobals "_law_draw" = some (some (.ref f4))) (l4 : K.lookup f4 = some ⟨oc4, od4, .func (PySem.W.fnOf "_law_draw" "_law_draw" (defArgs s_law_draw) (defBody s_law_draw) (defScope s_law_draw) .none kV4 dc4 pm4 an4 cd4 ct4), sl4⟩) (c4 : PySem.W.codeIn K cd4 "_law_draw" = true) (k4 : PySem.W.keepIn K (.ref f4) = true)
    (a5 : PySem.W.nsIn K mainGlobals "_law_terms" = some (some (.ref f5))) (l5 : K.lookup f5 = some ⟨oc5, od5, .func (PySem.W.fnOf "_law_terms" "_law_terms" (defArgs s_law_terms) (defBody s_law_terms) (defScope s_law_terms) .none kV5 dc5 pm5 an5 cd5 ct5), sl5⟩) (c5 : PySem.W.codeIn K cd5 "_law_terms" = true) (k5 : PySem.W.keepIn K (.ref f5) = true)
    (a6 : PySem.W.nsIn K mainGlobals "_law_like" = some (some (.ref f6))) (l6 : K.lookup f6 = some ⟨oc6, od6, .func (PySem.W.fnOf "_law_like" "_law_like" (defArgs s_law_like) (defBody s_law_like) (defScope s_law_like) .none kV6 dc6 pm6 an6 cd6 ct6), sl6⟩) (c6 : PySem.W.codeIn K cd6 "_law_like" = true) (k6 : PySem.W.keepIn K (.ref f6) = true)
    (a7 : PySem.W.nsIn K mainGlobals "terms" = some (some (.ref f7))) (l7 : K.lookup f7 = some ⟨oc7, od7, .func (PySem.W.fnOf "terms" "terms" (defArgs s_terms) (defBody s_terms) (defScope s_terms) .none kV7 dc7 pm7 an7 cd7 ct7), sl7⟩) (c7 : PySem.W.codeIn K cd7 "terms" = true) (k7 : PySem.W.keepIn K (.ref f7) = true)
    (a8 : PySem.W.nsIn K mainGlobals "from_terms" = some (some (.ref f8))) (l8 : K.lookup f8 = some ⟨oc8, od8, .func (PySem.W.fnOf "from_terms" "from_terms" (defArgs s_from_terms) (defBody s_from_terms) (defScope s_from_terms) .none kV8 dc8 pm8 an8 cd8 ct8), sl8⟩) (c8 : PySem.W.codeIn K cd8 "from_terms" = true) (k8 : PySem.W.keepIn K (.ref f8) = true)
    (a9 : PySem.W.nsIn K mainGlobals "steps" = some (some (.ref f9))) (l9 : K.lookup f9 = some ⟨oc9, od9, .func (PySem.W.fnOf "steps" "steps" (defArgs s_steps) (defBody s_steps) (defScope s_steps) .none kV9 dc9 pm9 an9 cd9 ct9), sl9⟩) (c9 : PySem.W.codeIn K cd9 "steps" = true) (k9 : PySem.W.keepIn K (.ref f9) = true)
    (a10 : PySem.W.nsIn K mainGlobals "_law_steps" = some (some (.ref f10))) (l10 : K.lookup f10 = some ⟨oc10, od10, .func (PySem.W.fnOf "_law_steps" "_law_steps" (defArgs s_law_steps) (defBody s_law_steps) (defScope s_law_steps) .none kV10 dc10 pm10 an10 cd10 ct10), sl10⟩) (c10 : PySem.W.codeIn K cd10 "_law_steps" = true) (k10 : PySem.W.keepIn K (.ref f10) = true)
    (a11 : PySem.W.nsIn K mainGlobals "compare" = some (some (.ref f11))) (l11 : K.lookup f11 = some ⟨oc11, od11, .func (PySem.W.fnOf "compare" "compare" (defArgs s_compare) (defBody s_compare) (defScope s_compare) .none kV11 dc11 pm11 an11 cd11 ct11), sl11⟩) (c11 : PySem.W.codeIn K cd11 "compare" = true) (k11 : PySem.W.keepIn K (.ref f11) = true)
    (a12 : PySem.W.nsIn K mainGlobals "ratio" = some (some (.ref f12))) (l12 : K.lookup f12 = some ⟨oc12, od12, .func (PySem.W.fnOf "ratio" "ratio" (defArgs s_ratio) (defBody s_ratio) (defScope s_ratio) .none kV12 dc12 pm12 an12 cd12 ct12), sl12⟩) (c12 : PySem.W.codeIn K cd12 "ratio" = true) (k12 : PySem.W.keepIn K (.ref f12) = true)
    (a13 : PySem.W.nsIn K mainGlobals "minus" = some (some (.ref f13))) (l13 : K.lookup f13 = some ⟨oc13, od13, .func (PySem.W.fnOf "minus" "minus" (defArgs s_minus) (defBody s_minus) (defScope s_minus) .none kV13 dc13 pm13 an13 cd13 ct13), sl13⟩) (c13 : PySem.W.codeIn K cd13 "minus" = true) (k13 : PySem.W.keepIn K (.ref f13) = true)
    (a14 : PySem.W.nsIn K mainGlobals "plus" = some (some (.ref f14))) (l14 : K.lookup f14 = some ⟨oc14, od14, .func (PySem.W.fnOf "plus" "plus" (defArgs s_plus) (defBody s_plus) (defScope s_plus) .none kV14 dc14 pm14 an14 cd14 ct14), sl14⟩) (c14 : PySem.W.codeIn K cd14 "plus" = true) (k14 : PySem.W.keepIn K (.ref f14) = true)
    (a15 : PySem.W.nsIn K mainGlobals "simplest" = some (some (.ref f15))) (l15 : K.lookup f15 = some ⟨oc15, od15, .func (PySem.W.fnOf "simplest" "simplest" (defArgs s_simplest) (defBody s_simplest) (defScope s_simplest) .none kV15 dc15 pm15 an15 cd15 ct15), sl15⟩) (c15 : PySem.W.codeIn K cd15 "simplest" = true) (k15 : PySem.W.keepIn K (.ref f15) = true)
    (a16 : PySem.W.nsIn K mainGlobals "_law_minus" = some (some (.ref f16))) (l16 : K.lookup f16 = some ⟨oc16, od16, .func (PySem.W.fnOf "_law_minus" "_law_minus" (defArgs s_law_minus) (defBody s_law_minus) (defScope s_law_minus) .none kV16 dc16 pm16 an16 cd16 ct16), sl16⟩) (c16 : PySem.W.codeIn K cd16 "_law_minus" = true) (k16 : PySem.W.keepIn K (.ref f16) = true)
    (a17 : PySem.W.nsIn K mainGlobals "_law_plus" = some (some (.ref f17))) (l17 : K.lookup f17 = some ⟨oc17, od17, .func (PySem.W.fnOf "_law_plus" "_law_plus" (defArgs s_law_plus) (defBody s_law_plus) (defScope s_law_plus) .none kV17 dc17 pm17 an17 cd17 ct17), sl17⟩) (c17 : PySem.W.codeIn K cd17 "_law_plus" = true) (k17 : PySem.W.keepIn K (.ref f17) = true)
    (a18 : PySem.W.nsIn K mainGlobals "_law_less" = some (some (.ref f18))) (l18 : K.lookup f18 = some ⟨oc18, od18, .func (PySem.W.fnOf "_law_less" "_law_less" (defArgs s_law_less) (defBody s_law_less) (defScope s_law_less) .none kV18 dc18 pm18 an18 cd18 ct18), sl18⟩) (c18 : PySem.W.codeIn K cd18 "_law_less" = true) (k18 : PySem.W.keepIn K (.ref f18) = true)
    (a19 : PySem.W.nsIn K mainGlobals "_law_simplest" = some (some (.ref f19))) (l19 : K.lookup f19 = some ⟨oc19, od19, .func (PySem.W.fnOf "_law_simplest" "_law_simplest" (defArgs s_law_simplest) (defBody s_law_simplest) (defScope s_law_simplest) .none kV19 dc19 pm19 an19 cd19 ct19), sl19⟩) (c19 : PySem.W.codeIn K cd19 "_law_simplest" = true) (k19 : PySem.W.keepIn K (.ref f19) = true)
    (a20 : PySem.W.nsIn K mainGlobals "law" = some (some (.ref f20))) (l20 : K.lookup f20 = some ⟨oc20, od20, .func (PySem.W.fnOf "law" "law" (defArgs s_law) (defBody s_law) (defScope s_law) .none kV20 dc20 pm20 an20 cd20 ct20), sl20⟩) (c20 : PySem.W.codeIn K cd20 "law" = true) (k20 : PySem.W.keepIn K (.ref f20) = true)
    (z0 : PySem.W.nsIn K mainGlobals "abs" = some none)
    (z1 : PySem.W.nsIn K mainGlobals "bool" = some none)
    (z2 : PySem.W.nsIn K mainGlobals "enumerate" = some none)
    (z3 : PySem.W.nsIn K mainGlobals "gcd" = some (some (.builtin "math.gcd")))
    (z4 : PySem.W.nsIn K mainGlobals "int" = some none)
    (z5 : PySem.W.nsIn K mainGlobals "isinstance" = some none)
    (z6 : PySem.W.nsIn K mainGlobals "len" = some none)
    (z7 : PySem.W.nsIn K mainGlobals "list" = some none)
    (z8 : PySem.W.nsIn K mainGlobals "range" = some none)
    (z9 : PySem.W.nsIn K mainGlobals "reversed" = some none)
    (z10 : PySem.W.nsIn K mainGlobals "str" = some none)
    (z11 : PySem.W.nsIn K mainGlobals "tuple" = some none) :
    ∃ fd : FuncData, (∀ (s : Shared) (v : Value), BindsTo s fd ⟨[v], []⟩ [("script", v)]) ∧ ∀ base : Heap, K.In base → base.Ns mainGlobals mg → FnOk l.prog w K mg base CX0 6 fa fd ["script"] (spD K (lawS 63)) := by
  have e := hfa.symm.trans (PySem.W.mg_of X G a20)
  cases e
  have A0 : At1 K mg "_law_cell" s_law_cell p_law_cell f0 (PySem.W.fnOf "_law_cell" "_law_cell" (defArgs s_law_cell) (defBody s_law_cell) (defScope s_law_cell) .none kV0 dc0 pm0 an0 cd0 ct0) := ⟨fun_mk (st := s_law_cell) l0 c0 k0, PySem.W.mg_of X G a0, (fun_mk (st := s_law_cell) l0 c0 k0).binds (ps := p_law_cell) fun _ _ _ _ _ _ us hl => match us, hl with | [_, _], _ => rfl⟩
  have A1 : At1 K mg "_law_digits" s_law_digits p_law_digits f1 (PySem.W.fnOf "_law_digits" "_law_digits" (defArgs s_law_digits) (defBody s_law_digits) (defScope s_law_digits) .none kV1 dc1 pm1 an1 cd1 ct1) := ⟨fun_mk (st := s_law_digits) l1 c1 k1, PySem.W.mg_of X G a1, (fun_mk (st := s_law_digits) l1 c1 k1).binds (ps := p_law_digits) fun _ _ _ _ _ _ us hl => match us, hl with | [_, _, _], _ => rfl⟩
  have A2 : At1 K mg "_law_gcd" s_law_gcd p_law_gcd f2 (PySem.W.fnOf "_law_gcd" "_law_gcd" (defArgs s_law_gcd) (defBody s_law_gcd) (defScope s_law_gcd) .none kV2 dc2 pm2 an2 cd2 ct2) := ⟨fun_mk (st := s_law_gcd) l2 c2 k2, PySem.W.mg_of X G a2, (fun_mk (st := s_law_gcd) l2 c2 k2).binds (ps := p_law_gcd) fun _ _ _ _ _ _ us hl => match us, hl with | [_, _], _ => rfl⟩
  have A3 : At1 K mg "_law_ratio" s_law_ratio p_law_ratio f3 (PySem.W.fnOf "_law_ratio" "_law_ratio" (defArgs s_law_ratio) (defBody s_law_ratio) (defScope s_law_ratio) .none kV3 dc3 pm3 an3 cd3 ct3) := ⟨fun_mk (st := s_law_ratio) l3 c3 k3, PySem.W.mg_of X G a3, (fun_mk (st := s_law_ratio) l3 c3 k3).binds (ps := p_law_ratio) fun _ _ _ _ _ _ us hl => match us, hl with | [_, _], _ => rfl⟩
  have A4 : At1 K mg "_law_draw" s_law_draw p_law_draw f4 (PySem.W.fnOf "_law_draw" "_law_draw" (defArgs s_law_draw) (defBody s_law_draw) (defScope s_law_draw) .none kV4 dc4 pm4 an4 cd4 ct4) := ⟨fun_mk (st := s_law_draw) l4 c4 k4, PySem.W.mg_of X G a4, (fun_mk (st := s_law_draw) l4 c4 k4).binds (ps := p_law_draw) fun _ _ _ _ _ _ us hl => match us, hl with | [_, _], _ => rfl⟩
  have A5 : At1 K mg "_law_terms" s_law_terms p_law_terms f5 (PySem.W.fnOf "_law_terms" "_law_terms" (defArgs s_law_terms) (defBody s_law_terms) (defScope s_law_terms) .none kV5 dc5 pm5 an5 cd5 ct5) := ⟨fun_mk (st := s_law_terms) l5 c5 k5, PySem.W.mg_of X G a5, (fun_mk (st := s_law_terms) l5 c5 k5).binds (ps := p_law_terms) fun _ _ _ _ _ _ us hl => match us, hl with | [_], _ => rfl⟩
  have A6 : At1 K mg "_law_like" s_law_like p_law_like f6 (PySem.W.fnOf "_law_like" "_law_like" (defArgs s_law_like) (defBody s_law_like) (defScope s_law_like) .none kV6 dc6 pm6 an6 cd6 ct6) := ⟨fun_mk (st := s_law_like) l6 c6 k6, PySem.W.mg_of X G a6, (fun_mk (st := s_law_like) l6 c6 k6).binds (ps := p_law_like) fun _ _ _ _ _ _ us hl => match us, hl with | [_, _], _ => rfl⟩
  have A7 : At1 K mg "terms" s_terms p_terms f7 (PySem.W.fnOf "terms" "terms" (defArgs s_terms) (defBody s_terms) (defScope s_terms) .none kV7 dc7 pm7 an7 cd7 ct7) := ⟨fun_mk (st := s_terms) l7 c7 k7, PySem.W.mg_of X G a7, (fun_mk (st := s_terms) l7 c7 k7).binds (ps := p_terms) fun _ _ _ _ _ _ us hl => match us, hl with | [_], _ => rfl⟩
  have A8 : At1 K mg "from_terms" s_from_terms p_from_terms f8 (PySem.W.fnOf "from_terms" "from_terms" (defArgs s_from_terms) (defBody s_from_terms) (defScope s_from_terms) .none kV8 dc8 pm8 an8 cd8 ct8) := ⟨fun_mk (st := s_from_terms) l8 c8 k8, PySem.W.mg_of X G a8, (fun_mk (st := s_from_terms) l8 c8 k8).binds (ps := p_from_terms) fun _ _ _ _ _ _ us hl => match us, hl with | [_], _ => rfl⟩
  have A9 : At1 K mg "steps" s_steps p_steps f9 (PySem.W.fnOf "steps" "steps" (defArgs s_steps) (defBody s_steps) (defScope s_steps) .none kV9 dc9 pm9 an9 cd9 ct9) := ⟨fun_mk (st := s_steps) l9 c9 k9, PySem.W.mg_of X G a9, (fun_mk (st := s_steps) l9 c9 k9).binds (ps := p_steps) fun _ _ _ _ _ _ us hl => match us, hl with | [_], _ => rfl⟩
  have A10 : At1 K mg "_law_steps" s_law_steps p_law_steps f10 (PySem.W.fnOf "_law_steps" "_law_steps" (defArgs s_law_steps) (defBody s_law_steps) (defScope s_law_steps) .none kV10 dc10 pm10 an10 cd10 ct10) := ⟨fun_mk (st := s_law_steps) l10 c10 k10, PySem.W.mg_of X G a10, (fun_mk (st := s_law_steps) l10 c10 k10).binds (ps := p_law_steps) fun _ _ _ _ _ _ us hl => match us, hl with | [_], _ => rfl⟩
  have A11 : At1 K mg "compare" s_compare p_compare f11 (PySem.W.fnOf "compare" "compare" (defArgs s_compare) (defBody s_compare) (defScope s_compare) .none kV11 dc11 pm11 an11 cd11 ct11) := ⟨fun_mk (st := s_compare) l11 c11 k11, PySem.W.mg_of X G a11, (fun_mk (st := s_compare) l11 c11 k11).binds (ps := p_compare) fun _ _ _ _ _ _ us hl => match us, hl with | [_, _], _ => rfl⟩
  have A12 : At1 K mg "ratio" s_ratio p_ratio f12 (PySem.W.fnOf "ratio" "ratio" (defArgs s_ratio) (defBody s_ratio) (defScope s_ratio) .none kV12 dc12 pm12 an12 cd12 ct12) := ⟨fun_mk (st := s_ratio) l12 c12 k12, PySem.W.mg_of X G a12, (fun_mk (st := s_ratio) l12 c12 k12).binds (ps := p_ratio) fun _ _ _ _ _ _ us hl => match us, hl with | [_, _], _ => rfl⟩
  have A13 : At1 K mg "minus" s_minus p_minus f13 (PySem.W.fnOf "minus" "minus" (defArgs s_minus) (defBody s_minus) (defScope s_minus) .none kV13 dc13 pm13 an13 cd13 ct13) := ⟨fun_mk (st := s_minus) l13 c13 k13, PySem.W.mg_of X G a13, (fun_mk (st := s_minus) l13 c13 k13).binds (ps := p_minus) fun _ _ _ _ _ _ us hl => match us, hl with | [_, _], _ => rfl⟩
  have A14 : At1 K mg "plus" s_plus p_plus f14 (PySem.W.fnOf "plus" "plus" (defArgs s_plus) (defBody s_plus) (defScope s_plus) .none kV14 dc14 pm14 an14 cd14 ct14) := ⟨fun_mk (st := s_plus) l14 c14 k14, PySem.W.mg_of X G a14, (fun_mk (st := s_plus) l14 c14 k14).binds (ps := p_plus) fun _ _ _ _ _ _ us hl => match us, hl with | [_, _], _ => rfl⟩
  have A15 : At1 K mg "simplest" s_simplest p_simplest f15 (PySem.W.fnOf "simplest" "simplest" (defArgs s_simplest) (defBody s_simplest) (defScope s_simplest) .none kV15 dc15 pm15 an15 cd15 ct15) := ⟨fun_mk (st := s_simplest) l15 c15 k15, PySem.W.mg_of X G a15, (fun_mk (st := s_simplest) l15 c15 k15).binds (ps := p_simplest) fun _ _ _ _ _ _ us hl => match us, hl with | [_, _], _ => rfl⟩
  have A16 : At1 K mg "_law_minus" s_law_minus p_law_minus f16 (PySem.W.fnOf "_law_minus" "_law_minus" (defArgs s_law_minus) (defBody s_law_minus) (defScope s_law_minus) .none kV16 dc16 pm16 an16 cd16 ct16) := ⟨fun_mk (st := s_law_minus) l16 c16 k16, PySem.W.mg_of X G a16, (fun_mk (st := s_law_minus) l16 c16 k16).binds (ps := p_law_minus) fun _ _ _ _ _ _ us hl => match us, hl with | [_, _], _ => rfl⟩
  have A17 : At1 K mg "_law_plus" s_law_plus p_law_plus f17 (PySem.W.fnOf "_law_plus" "_law_plus" (defArgs s_law_plus) (defBody s_law_plus) (defScope s_law_plus) .none kV17 dc17 pm17 an17 cd17 ct17) := ⟨fun_mk (st := s_law_plus) l17 c17 k17, PySem.W.mg_of X G a17, (fun_mk (st := s_law_plus) l17 c17 k17).binds (ps := p_law_plus) fun _ _ _ _ _ _ us hl => match us, hl with | [_, _], _ => rfl⟩
  have A18 : At1 K mg "_law_less" s_law_less p_law_less f18 (PySem.W.fnOf "_law_less" "_law_less" (defArgs s_law_less) (defBody s_law_less) (defScope s_law_less) .none kV18 dc18 pm18 an18 cd18 ct18) := ⟨fun_mk (st := s_law_less) l18 c18 k18, PySem.W.mg_of X G a18, (fun_mk (st := s_law_less) l18 c18 k18).binds (ps := p_law_less) fun _ _ _ _ _ _ us hl => match us, hl with | [_, _], _ => rfl⟩
  have A19 : At1 K mg "_law_simplest" s_law_simplest p_law_simplest f19 (PySem.W.fnOf "_law_simplest" "_law_simplest" (defArgs s_law_simplest) (defBody s_law_simplest) (defScope s_law_simplest) .none kV19 dc19 pm19 an19 cd19 ct19) := ⟨fun_mk (st := s_law_simplest) l19 c19 k19, PySem.W.mg_of X G a19, (fun_mk (st := s_law_simplest) l19 c19 k19).binds (ps := p_law_simplest) fun _ _ _ _ _ _ us hl => match us, hl with | [_, _], _ => rfl⟩
  have A20 : At1 K mg "law" s_law p_law fa (PySem.W.fnOf "law" "law" (defArgs s_law) (defBody s_law) (defScope s_law) .none kV20 dc20 pm20 an20 cd20 ct20) := ⟨fun_mk (st := s_law) l20 c20 k20, PySem.W.mg_of X G a20, (fun_mk (st := s_law) l20 c20 k20).binds (ps := p_law) fun _ _ _ _ _ _ us hl => match us, hl with | [_], _ => rfl⟩
  have T : Txt mg := ⟨PySem.W.mg_none_of X G z0, PySem.W.mg_none_of X G z1, PySem.W.mg_none_of X G z2, PySem.W.mg_of X G z3, PySem.W.mg_none_of X G z4, PySem.W.mg_none_of X G z5, PySem.W.mg_none_of X G z6, PySem.W.mg_none_of X G z7, PySem.W.mg_none_of X G z8, PySem.W.mg_none_of X G z9, PySem.W.mg_none_of X G z10, PySem.W.mg_none_of X G z11⟩
  refine ⟨PySem.W.fnOf "law" "law" (defArgs s_law) (defBody s_law) (defScope s_law) .none kV20 dc20 pm20 an20 cd20 ct20, fun s v => .of_eq rfl, fun base _ _ => ?_⟩
  have d0 : DFn l.prog w K mg base "_law_cell" 1 S_cell := der_law_cell A0 T  (k := 0)  sem_cell
  have d1 : DFn l.prog w K mg base "_law_digits" 2 S_digits := der_law_digits A1 T d0 (k := 1) (by decide) sem_digits
  have d2 : DFn l.prog w K mg base "_law_gcd" 1 S_gcd := der_law_gcd A2 T  (k := 0)  sem_gcd
  have d3 : DFn l.prog w K mg base "_law_ratio" 2 S_lratio := der_law_ratio A3 T d2 (k := 1) (by decide) sem_lratio
  have d4 : DFn l.prog w K mg base "_law_draw" 1 S_draw := der_law_draw A4 T  (k := 0)  sem_draw
  have d5 : DFn l.prog w K mg base "_law_terms" 1 S_terms := der_law_terms A5 T  (k := 0)  sem_law_terms
  have d6_p : DFn l.prog w K mg base "_law_like" 1 (S_likeP 0) := dfn_no A6 sc_law_like (by decide)
  have d6_0 : DFn l.prog w K mg base "_law_like" 2 (S_like 0) := der_law_like A6 T d6_p (k := 1) (by decide) (sem_like 0)
  have d6_1 : DFn l.prog w K mg base "_law_like" 3 (S_like 1) := der_law_like A6 T d6_0 (k := 2) (by decide) (sem_like 1)
  have d6_2 : DFn l.prog w K mg base "_law_like" 4 (S_like 2) := der_law_like A6 T d6_1 (k := 3) (by decide) (sem_like 2)
  have d6_3 : DFn l.prog w K mg base "_law_like" 5 (S_like 3) := der_law_like A6 T d6_2 (k := 4) (by decide) (sem_like 3)
  have d6 := d6_3
  have d7 : DFn l.prog w K mg base "terms" 1 S_terms := der_terms A7 T  (k := 0)  sem_terms
  have d8 : DFn l.prog w K mg base "from_terms" 1 S_from_terms := der_from_terms A8 T  (k := 0)  sem_from_terms
  have d9 : DFn l.prog w K mg base "steps" 2 S_steps := der_steps A9 T d7 (k := 1) (by decide) sem_steps
  have d10 : DFn l.prog w K mg base "_law_steps" 1 S_law_steps := der_law_steps A10 T  (k := 0)  sem_law_steps
  have d11 : DFn l.prog w K mg base "compare" 1 S_compare := der_compare A11 T  (k := 0)  sem_compare
  have d12 : DFn l.prog w K mg base "ratio" 1 S_ratio := der_ratio A12 T  (k := 0)  sem_ratio
  have d13 : DFn l.prog w K mg base "minus" 2 S_minus := der_minus A13 T d12 (k := 1) (by decide) sem_minus
  have d14 : DFn l.prog w K mg base "plus" 2 S_plus := der_plus A14 T d12 (k := 1) (by decide) sem_plus
  have d15 : DFn l.prog w K mg base "simplest" 3 S_simplest := der_simplest A15 T d11 d13 d14 d8 (k := 2) (by decide) (by decide) (by decide) (by decide) sem_simplest
  have d16 : DFn l.prog w K mg base "_law_minus" 3 S_lminus := der_law_minus A16 T d3 (k := 2) (by decide) sem_lminus
  have d17 : DFn l.prog w K mg base "_law_plus" 3 S_lplus := der_law_plus A17 T d3 (k := 2) (by decide) sem_lplus
  have d18 : DFn l.prog w K mg base "_law_less" 1 S_less := der_law_less A18 T  (k := 0)  sem_less
  have d19 : DFn l.prog w K mg base "_law_simplest" 4 S_law_simplest := der_law_simplest A19 T d16 d17 d18 d3 (k := 3) (by decide) (by decide) (by decide) (by decide) sem_law_simplest
  exact der_law A20 T d1 d3 d4 d5 d6 d7 d8 d9 d10 d15 d19 (k := 5) (by decide) (by decide) (by decide) (by decide) (by decide) (by decide) (by decide) (by decide) (by decide) (by decide) (by decide) (law_sem law_run)
end Lk14
open PySem PySem.W PyProof.Rows
set_option maxHeartbeats 0 in
theorem PySem.Challenge.cw_truewheel_k14_nearest_steps_holds : PySem.Challenge.rw_truewheel_k14_nearest_steps.Holds := by
  w_on; o_law; k_head; (case hw => w_witness2)
  k_fill
  refine L2.walk_ofK (l := PySem.Challenge.rw_truewheel_k14_nearest_steps) (n := 63) (k := 6) (x := "script") (CX := L2.CX0) (sp := fun K => DL.spD K (DL.lawS 63)) rfl (by decide) rfl ⟨rfl, by decide, by decide⟩ (fun w h Y => PySem.W.kIn_of Y) ?F (fun K H a ns hl _ hS => DL.law_sp K H a ns hl hS) (fun _ _ _ _ h => h)
  case F =>
    intro w mg fa h KX G hmg
    refine' Lk14.all_mk KX G hmg ?a0 ?l0 ?c0 ?k0 ?a1 ?l1 ?c1 ?k1 ?a2 ?l2 ?c2 ?k2 ?a3 ?l3 ?c3 ?k3 ?a4 ?l4 ?c4 ?k4 ?a5 ?l5 ?c5 ?k5 ?a6 ?l6 ?c6 ?k6 ?a7 ?l7 ?c7 ?k7 ?a8 ?l8 ?c8 ?k8 ?a9 ?l9 ?c9 ?k9 ?a10 ?l10 ?c10 ?k10 ?a11 ?l11 ?c11 ?k11 ?a12 ?l12 ?c12 ?k12 ?a13 ?l13 ?c13 ?k13 ?a14 ?l14 ?c14 ?k14 ?a15 ?l15 ?c15 ?k15 ?a16 ?l16 ?c16 ?k16 ?a17 ?l17 ?c17 ?k17 ?a18 ?l18 ?c18 ?k18 ?a19 ?l19 ?c19 ?k19 ?a20 ?l20 ?c20 ?k20 ?z0 ?z1 ?z2 ?z3 ?z4 ?z5 ?z6 ?z7 ?z8 ?z9 ?z10 ?z11
    (case a0 => k_is); (case l0 => k_is); (case c0 => k_is); (case k0 => k_is); (case a1 => k_is); (case l1 => k_is); (case c1 => k_is); (case k1 => k_is); (case a2 => k_is); (case l2 => k_is); (case c2 => k_is); (case k2 => k_is); (case a3 => k_is); (case l3 => k_is); (case c3 => k_is); (case k3 => k_is); (case a4 => k_is); (case l4 => k_is); (case c4 => k_is); (case k4 => k_is); (case a5 => k_is); (case l5 => k_is); (case c5 => k_is); (case k5 => k_is); (case a6 => k_is); (case l6 => k_is); (case c6 => k_is); (case k6 => k_is); (case a7 => k_is); (case l7 => k_is); (case c7 => k_is); (case k7 => k_is); (case a8 => k_is); (case l8 => k_is); (case c8 => k_is); (case k8 => k_is); (case a9 => k_is); (case l9 => k_is); (case c9 => k_is); (case k9 => k_is); (case a10 => k_is); (case l10 => k_is); (case c10 => k_is); (case k10 => k_is); (case a11 => k_is); (case l11 => k_is); (case c11 => k_is); (case k11 => k_is); (case a12 => k_is); (case l12 => k_is); (case c12 => k_is); (case k12 => k_is); (case a13 => k_is); (case l13 => k_is); (case c13 => k_is); (case k13 => k_is); (case a14 => k_is); (case l14 => k_is); (case c14 => k_is); (case k14 => k_is); (case a15 => k_is); (case l15 => k_is); (case c15 => k_is); (case k15 => k_is); (case a16 => k_is); (case l16 => k_is); (case c16 => k_is); (case k16 => k_is); (case a17 => k_is); (case l17 => k_is); (case c17 => k_is); (case k17 => k_is); (case a18 => k_is); (case l18 => k_is); (case c18 => k_is); (case k18 => k_is); (case a19 => k_is); (case l19 => k_is); (case c19 => k_is); (case k19 => k_is); (case a20 => k_is); (case l20 => k_is); (case c20 => k_is); (case k20 => k_is); (case z0 => k_is); (case z1 => k_is); (case z2 => k_is); (case z3 => k_is); (case z4 => k_is); (case z5 => k_is); (case z6 => k_is); (case z7 => k_is); (case z8 => k_is); (case z9 => k_is); (case z10 => k_is); (case z11 => k_is)

