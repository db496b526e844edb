import PyProof.Rows.All
import Wide.All
import OpenK.AllK
import Wide.FinOn
import HandS.ForMost
import HandS.TupAny
import HandS.Wide
import KE.KDictPairs
import HandS.Dict
import HandS.Words
import KE.GoesEnum
import HandS.Iter
import HandS.Exc
import HandS.ExcOwn
import HandS.ExcInit
import HandS.ExcField
import HandS.CallSlots
import HandS.WordsExc
import HandS.Conv
import HandS.Evl
import HandS.Defaults
import HandS.Head2
import HandS.HeadEnd
import HandS.HeadHook2
import HandS.Deep
import HandS.IsInst
import HandS.Style
import HandS.More
import HandS.Star
import HandS.SuiteRaise
import HandS.HeadHook3
import HandS.ListItems
import PySem.Challenge.RW_refusedahead_k28_whole_guards_as_cases
set_option Elab.async false
set_option linter.all false
set_option maxRecDepth 100000
namespace DL
open PySem PySem.Spec L2

/-! ### data -/
inductive D where
  | non | bl (b : Bool) | int (i : Int) | str (x : Str)
  | lst (xs : List D) | tup (xs : List D) | dic (kvs : List (Key × D)) | ins (C : Addr) (fs : List (Str × D))
  | ty (n : String)
  | exc (a d : Addr) (fs : List (Str × D))

def Ex (H H' : Hp) : Prop := ∀ a o, H a = some o → H' a = some o
theorem Ex.refl (H : Hp) : Ex H H := fun _ _ h => h
theorem Ex.trans {H H1 H2 : Hp} (a : Ex H H1) (b : Ex H1 H2) : Ex H H2 := fun x o h => b x o (a x o h)
theorem Ex.new {H : Hp} {p : Addr} {o : HO} (h : H p = none) : Ex H (upd H p o) := fun a u e => by
  rw [upd_ne (ne_of_none e h)]; exact e
theorem Ex.back {H H' : Hp} {p : Addr} (e : Ex H H') (h : H' p = none) : H p = none := by
  cases q : H p with
  | none => rfl
  | some o => rw [e p o q] at h; cases h
theorem ex_rd {H H' : Hp} {a : Addr} {u : HO} (e : Ex H H') (h : Rd H a u) : Rd H' a u := by
  rcases h with h | ⟨o, h⟩
  · exact .inl (e a _ h)
  · exact .inr ⟨o, e a _ h⟩
theorem ex_l {K : PySem.W.Frag} {H H' : Hp} {a : Addr} {xs : List V} (e : Ex H H') (h : SqL K H a xs) : SqL K H' a xs := by
  rcases h with h | h
  · exact .inl (ex_rd e h)
  · exact .inr h
theorem ex_t {K : PySem.W.Frag} {H H' : Hp} {a : Addr} {xs : List V} (e : Ex H H') (h : SqT K H a xs) : SqT K H' a xs := by
  rcases h with h | h
  · exact .inl (ex_rd e h)
  · exact .inr h

/-- two lists that go along -/
def All2 {α β : Type} (F : α → β → Prop) (xs : List α) (ys : List β) : Prop := xs.length = ys.length ∧ ∀ (i : Nat) x y, xs[i]? = some x → ys[i]? = some y → F x y

/-- a tuple as it was made: no dict hangs at it; or one of the written part -/
def TupP (K : PySem.W.Frag) (G : Hp) (a : Addr) (vs : List V) : Prop := (∃ o : Obj, G a = some (.frz o (.tup vs)) ∧ o.dict = none) ∨
  ∃ (o : Obj) (its : Array Value) (n : Nat), K.lookup a = some o ∧ o.cls = .type "tuple" ∧ o.data = .seq its n ∧ its.size ≤ sizeLine ∧ Vals vs its.toList ∧ o.dict = none
theorem TupP.sq {K : PySem.W.Frag} {G : Hp} {a : Addr} {vs : List V} (h : TupP K G a vs) : SqT K G a vs := h.elim (fun ⟨o, e, _⟩ => .inl (.inr ⟨o, e⟩)) fun ⟨o, its, n, e1, e2, e3, e4, e5, _⟩ => .inr ⟨o, its, n, e1, e2, e3, e4, e5⟩
theorem TupP.mono {K : PySem.W.Frag} {G G' : Hp} {a : Addr} {vs : List V} (h : TupP K G a vs) (x : Ex G G') : TupP K G' a vs := h.imp (fun ⟨o, e, n⟩ => ⟨o, x _ _ e, n⟩) id
inductive Den (K : PySem.W.Frag) (G : Hp) : V → D → Prop
  | non : Den K G .non .non
  | bl (b : Bool) : Den K G (.bl b) (.bl b)
  | int (i : Int) : Den K G (.int i) (.int i)
  | str (x : Str) : Den K G (.str x) (.str x)
  | ty (n : String) : Den K G (.ty n) (.ty n)
  | lst {a : Addr} {vs : List V} {ds : List D} (h : G a = some (.lst vs)) (l : vs.length = ds.length) (e : ∀ (i : Nat) v d, vs[i]? = some v → ds[i]? = some d → Den K G v d) : Den K G (.ref a) (.lst ds)
  | tup {a : Addr} {vs : List V} {ds : List D} (h : TupP K G a vs) (l : vs.length = ds.length) (e : ∀ (i : Nat) v d, vs[i]? = some v → ds[i]? = some d → Den K G v d) : Den K G (.ref a) (.tup ds)
  | dic {a : Addr} {kvs : List (Key × V)} {kds : List (Key × D)} (h : G a = some (.dK kvs)) (l : kvs.length = kds.length) (k : ∀ (i : Nat) p q, kvs[i]? = some p → kds[i]? = some q → p.1 = q.1)
      (e : ∀ (i : Nat) p q, kvs[i]? = some p → kds[i]? = some q → Den K G p.2 q.2) : Den K G (.ref a) (.dic kds)
  | ins {a C dx : Addr} {fs : List (Str × V)} {fds : List (Str × D)} (h : G a = some (.ins C dx fs)) (l : fs.length = fds.length) (k : ∀ (i : Nat) p q, fs[i]? = some p → fds[i]? = some q → p.1 = q.1)
      (e : ∀ (i : Nat) p q, fs[i]? = some p → fds[i]? = some q → Den K G p.2 q.2) : Den K G (.ref a) (.ins C fds)
  | exc {a d : Addr} {fs : List (Str × V)} {fds : List (Str × D)} (h : G d = some (.xd fs)) (l : fs.length = fds.length) (k : ∀ (i : Nat) p q, fs[i]? = some p → fds[i]? = some q → p.1 = q.1)
      (e : ∀ (i : Nat) p q, fs[i]? = some p → fds[i]? = some q → Den K G p.2 q.2) : Den K G (.ref a) (.exc a d fds)
abbrev Dens (K : PySem.W.Frag) (G : Hp) : List V → List D → Prop := All2 (Den K G)
def DensP {κ : Type} (K : PySem.W.Frag) (G : Hp) : List (κ × V) → List (κ × D) → Prop := All2 fun p q => p.1 = q.1 ∧ Den K G p.2 q.2

section
variable {K : PySem.W.Frag} {G G' H : Hp}
theorem Den.mono {v : V} {d : D} (h : Den K G v d) : Ex G G' → Den K G' v d := by
  intro x
  induction h with
  | non => exact .non
  | bl b => exact .bl b
  | int i => exact .int i
  | str x => exact .str x
  | ty n => exact .ty n
  | lst h l e ih => exact .lst (x _ _ h) l ih
  | tup h l e ih => exact .tup (h.mono x) l ih
  | dic h l k e ih => exact .dic (x _ _ h) l k ih
  | ins h l k e ih => exact .ins (x _ _ h) l k ih
  | exc h l k e ih => exact .exc (x _ _ h) l k ih

theorem All2.nil {α β : Type} {F : α → β → Prop} : All2 F [] [] := ⟨rfl, fun i x y h => by simp at h⟩
theorem All2.cons {α β : Type} {F : α → β → Prop} {x : α} {y : β} {xs : List α} {ys : List β} (h : F x y) (t : All2 F xs ys) : All2 F (x :: xs) (y :: ys) := by
  refine ⟨by simp [t.1], fun i a b ha hb => ?_⟩
  cases i with
  | zero => simp at ha hb; subst ha; subst hb; exact h
  | succ n => exact t.2 n a b (by simpa using ha) (by simpa using hb)
theorem All2.head {α β : Type} {F : α → β → Prop} {x : α} {y : β} {xs : List α} {ys : List β} (h : All2 F (x :: xs) (y :: ys)) : F x y := h.2 0 x y rfl rfl
theorem All2.tail {α β : Type} {F : α → β → Prop} {x : α} {y : β} {xs : List α} {ys : List β} (h : All2 F (x :: xs) (y :: ys)) : All2 F xs ys :=
  ⟨by have := h.1; simpa using this, fun i a b ha hb => h.2 (i + 1) a b (by simpa using ha) (by simpa using hb)⟩
theorem All2.nil_left {α β : Type} {F : α → β → Prop} {ys : List β} (h : All2 F [] ys) : ys = [] := by
  have := h.1; cases ys with | nil => rfl | cons => simp at this
theorem All2.nil_right {α β : Type} {F : α → β → Prop} {xs : List α} (h : All2 F xs []) : xs = [] := by
  have := h.1; cases xs with | nil => rfl | cons => simp at this
theorem All2.cons_right {α β : Type} {F : α → β → Prop} {y : β} {ys : List β} {xs : List α} (h : All2 F xs (y :: ys)) : ∃ x r, xs = x :: r ∧ F x y ∧ All2 F r ys := by
  cases xs with
  | nil => have := h.1; simp at this
  | cons x r => exact ⟨x, r, rfl, h.head, h.tail⟩
theorem All2.imp {α β : Type} {F F' : α → β → Prop} {xs : List α} {ys : List β} (h : All2 F xs ys) (f : ∀ a b, F a b → F' a b) : All2 F' xs ys := ⟨h.1, fun i a b ha hb => f a b (h.2 i a b ha hb)⟩
theorem All2.append {α β : Type} {F : α → β → Prop} : ∀ {xs xs' : List α} {ys ys' : List β}, All2 F xs ys → All2 F xs' ys' → All2 F (xs ++ xs') (ys ++ ys')
  | [], _, ys, _, h, t => by rw [h.nil_left]; exact t
  | x :: xs, _, [], _, h, t => by have := h.1; simp at this
  | x :: xs, _, y :: ys, _, h, t => .cons h.head (All2.append h.tail t)
theorem All2.get {α β : Type} {F : α → β → Prop} {xs : List α} {ys : List β} (h : All2 F xs ys) {i : Nat} {y : β} (e : ys[i]? = some y) : ∃ x, xs[i]? = some x ∧ F x y := by
  have hi : i < ys.length := (List.getElem?_eq_some_iff.mp e).1
  have hx : i < xs.length := by rw [h.1]; exact hi
  exact ⟨xs[i], List.getElem?_eq_getElem hx, h.2 i _ _ (List.getElem?_eq_getElem hx) e⟩
theorem All2.getL {α β : Type} {F : α → β → Prop} {xs : List α} {ys : List β} (h : All2 F xs ys) {i : Nat} {x : α} (e : xs[i]? = some x) : ∃ y, ys[i]? = some y ∧ F x y := by
  have hi : i < xs.length := (List.getElem?_eq_some_iff.mp e).1
  have hx : i < ys.length := by rw [← h.1]; exact hi
  exact ⟨ys[i], List.getElem?_eq_getElem hx, h.2 i _ _ e (List.getElem?_eq_getElem hx)⟩
theorem All2.set {α β : Type} {F : α → β → Prop} {xs : List α} {ys : List β} (h : All2 F xs ys) (i : Nat) {x : α} {y : β} (e : F x y) : All2 F (xs.set i x) (ys.set i y) := by
  refine ⟨by simp [h.1], fun j a b ha hb => ?_⟩
  rw [List.getElem?_set] at ha hb
  by_cases hij : i = j
  · subst hij
    simp only [if_true] at ha hb
    split at ha
    · split at hb
      · cases ha; cases hb; exact e
      · cases hb
    · cases ha
  · rw [if_neg hij] at ha hb
    exact h.2 j a b ha hb
theorem Dens.mono {vs : List V} {ds : List D} (h : Dens K G vs ds) (x : Ex G G') : Dens K G' vs ds := h.imp fun _ _ z => z.mono x
theorem DensP.mono {κ : Type} {vs : List (κ × V)} {ds : List (κ × D)} (h : DensP K G vs ds) (x : Ex G G') : DensP K G' vs ds := h.imp fun _ _ z => ⟨z.1, z.2.mono x⟩
theorem Den.lst' {a : Addr} {vs : List V} {ds : List D} (h : G a = some (.lst vs)) (e : Dens K G vs ds) : Den K G (.ref a) (.lst ds) := .lst h e.1 e.2
theorem Den.tup' {a : Addr} {vs : List V} {ds : List D} (h : TupP K G a vs) (e : Dens K G vs ds) : Den K G (.ref a) (.tup ds) := .tup h e.1 e.2
theorem Den.of_lst {v : V} {ds : List D} (h : Den K G v (.lst ds)) : ∃ a vs, v = .ref a ∧ G a = some (.lst vs) ∧ Dens K G vs ds := by
  cases h with | lst h l e => exact ⟨_, _, rfl, h, l, e⟩
theorem Den.of_tup {v : V} {ds : List D} (h : Den K G v (.tup ds)) : ∃ a vs, v = .ref a ∧ SqT K G a vs ∧ Dens K G vs ds := by
  cases h with | tup h l e => exact ⟨_, _, rfl, h.sq, l, e⟩
theorem Den.of_ins {v : V} {C : Addr} {fs : List (Str × D)} (h : Den K G v (.ins C fs)) : ∃ a dx vs, v = .ref a ∧ G a = some (.ins C dx vs) ∧ DensP K G vs fs := by
  cases h with | ins h l k e => exact ⟨_, _, _, rfl, h, l, fun i p q a b => ⟨k i p q a b, e i p q a b⟩⟩
theorem Den.of_dic {v : V} {kvs : List (Key × D)} (h : Den K G v (.dic kvs)) : ∃ a vs, v = .ref a ∧ G a = some (.dK vs) ∧ DensP K G vs kvs := by
  cases h with | dic h l k e => exact ⟨_, _, rfl, h, l, fun i p q a b => ⟨k i p q a b, e i p q a b⟩⟩
theorem Den.of_exc {v : V} {a d : Addr} {fs : List (Str × D)} (h : Den K G v (.exc a d fs)) : ∃ vs, v = .ref a ∧ G d = some (.xd vs) ∧ DensP K G vs fs := by
  cases h with | exc h l k e => exact ⟨_, rfl, h, l, fun i p q a b => ⟨k i p q a b, e i p q a b⟩⟩
theorem Den.of_int {v : V} {i : Int} (h : Den K G v (.int i)) : v = .int i := by cases h; rfl
theorem Den.of_bl {v : V} {b : Bool} (h : Den K G v (.bl b)) : v = .bl b := by cases h; rfl
theorem Den.of_str {v : V} {x : Str} (h : Den K G v (.str x)) : v = .str x := by cases h; rfl
theorem Den.of_non {v : V} (h : Den K G v .non) : v = .non := by cases h; rfl
theorem Den.of_ty {v : V} {n : String} (h : Den K G v (.ty n)) : v = .ty n := by cases h; rfl
end

/-! ### results and slots -/
inductive R where
  | no | val (d : D) | own (d : D) | bag | pk (i : Nat) | bor (d : D)
def gt : List R → Nat → R
  | [], _ => .no
  | x :: _, 0 => x
  | _ :: xs, n + 1 => gt xs n
def st : List R → Nat → R → List R
  | [], _, _ => []
  | _ :: xs, 0, r => r :: xs
  | x :: xs, n + 1, r => x :: st xs n r
theorem gt_st_same : ∀ (δ : List R) (i : Nat) (r : R), gt (st δ i r) i = r ∨ gt (st δ i r) i = .no
  | [], _, _ => .inr rfl
  | _ :: _, 0, _ => .inl rfl
  | _ :: xs, n + 1, r => gt_st_same xs n r
theorem gt_st_ne : ∀ (δ : List R) (i j : Nat) (r : R), i ≠ j → gt (st δ i r) j = gt δ j
  | [], _, _, _, _ => rfl
  | _ :: _, 0, 0, _, h => absurd rfl h
  | _ :: _, 0, _ + 1, _, _ => rfl
  | _ :: _, _ + 1, 0, _, _ => rfl
  | _ :: xs, n + 1, m + 1, r, h => gt_st_ne xs n m r (fun e => h (by rw [e]))

/-- what stands at the top of an object of one's own -/
def Top (K : PySem.W.Frag) (G H : Hp) (p : Addr) : D → Prop
  | .lst ds => ∃ vs, H p = some (.lst vs) ∧ Dens K G vs ds
  | .dic kds => ∃ kvs, H p = some (.dK kvs) ∧ DensP K G kvs kds
  | .ins C fds => ∃ dx fs, H p = some (.ins C dx fs) ∧ DensP K G fs fds
  | _ => False
theorem Top.mono {K : PySem.W.Frag} {G G' H H' : Hp} {p : Addr} {d : D} (h : Top K G H p d) (x : Ex G G') (e : H' p = H p) : Top K G' H' p d := by
  cases d with
  | lst ds => obtain ⟨vs, h1, h2⟩ := h; exact ⟨vs, e.trans h1, h2.mono x⟩
  | dic ds => obtain ⟨vs, h1, h2⟩ := h; exact ⟨vs, e.trans h1, h2.mono x⟩
  | ins C ds => obtain ⟨dx, vs, h1, h2⟩ := h; exact ⟨dx, vs, e.trans h1, h2.mono x⟩
  | non => exact h.elim
  | bl => exact h.elim
  | int => exact h.elim
  | str => exact h.elim
  | tup => exact h.elim
  | ty => exact h.elim
  | exc => exact h.elim
theorem Top.there {K : PySem.W.Frag} {G H : Hp} {p : Addr} {d : D} (h : Top K G H p d) : ∃ o, H p = some o := by
  cases d with
  | lst ds => obtain ⟨vs, h1, h2⟩ := h; exact ⟨_, h1⟩
  | dic ds => obtain ⟨vs, h1, h2⟩ := h; exact ⟨_, h1⟩
  | ins C ds => obtain ⟨dx, vs, h1, h2⟩ := h; exact ⟨_, h1⟩
  | non => exact h.elim
  | bl => exact h.elim
  | int => exact h.elim
  | str => exact h.elim
  | tup => exact h.elim
  | ty => exact h.elim
  | exc => exact h.elim
/-- taken into what stays -/
theorem Top.den {K : PySem.W.Frag} {G H : Hp} {p : Addr} {d : D} {o : HO} (h : Top K G H p d) (n : G p = none) (e : H p = some o) : Den K (upd G p o) (.ref p) d := by
  have x : Ex G (upd G p o) := Ex.new n
  cases d with
  | lst ds => obtain ⟨vs, h1, h2⟩ := h; rw [h1] at e; cases e; exact .lst' upd_same (h2.mono x)
  | dic ds =>
    obtain ⟨vs, h1, h2⟩ := h; rw [h1] at e; cases e
    exact .dic upd_same h2.1 (fun i p q a b => (h2.2 i p q a b).1) fun i p q a b => (h2.2 i p q a b).2.mono x
  | ins C ds =>
    obtain ⟨dx, vs, h1, h2⟩ := h; rw [h1] at e; cases e
    exact .ins upd_same h2.1 (fun i p q a b => (h2.2 i p q a b).1) fun i p q a b => (h2.2 i p q a b).2.mono x
  | non => exact h.elim
  | bl => exact h.elim
  | int => exact h.elim
  | str => exact h.elim
  | tup => exact h.elim
  | ty => exact h.elim
  | exc => exact h.elim
/-- the law's bag of drawn numbers -/
def Bag (G H : Hp) (b : Addr) : Prop := G b = none ∧ ∃ (x y z : Int) (c : Addr) (ns : List Int), H b = some (.lst [.int x, .int y, .int z, .ref c]) ∧ G c = some (.lst (ns.map V.int)) ∧
  0 ≤ x ∧ 0 ≤ y ∧ y < 2147483647 ∧ 0 ≤ z ∧ ∀ n ∈ ns, 0 ≤ n
theorem Bag.mono {G G' H H' : Hp} {b : Addr} (h : Bag G H b) (x : Ex G G') (n : G' b = none) (e : H' b = H b) : Bag G' H' b := by
  obtain ⟨_, x0, y, z, c, ns, h1, h2, h3⟩ := h
  exact ⟨n, x0, y, z, c, ns, e.trans h1, x _ _ h2, h3⟩

structure Ct where
  bo : Option Addr
  mo : Option Addr
  H0 : Hp
  G0 : Hp
  T : Hp
/-- who owns what -/
abbrev Ow := Addr → Option Nat
def ROk (K : PySem.W.Frag) (C : Ct) (σ : St) (H G : Hp) (W : Ow) (t : Option Nat) (v : V) : R → Prop
  | .no => True
  | .val d => Den K G v d
  | .own d => ∃ p, v = .ref p ∧ (G p = none ∧ C.H0 p = none ∧ C.bo ≠ some p ∧ C.T p = none) ∧ W p = t ∧ Top K G H p d
  | .bag => ∃ b, C.bo = some b ∧ v = .ref b
  | .pk i => t = none ∧ σ[i]? = some (some v)
  | .bor d => t ≠ none ∧ ∃ p, C.mo = some p ∧ v = .ref p ∧ Top K G H p d
structure SI (K : PySem.W.Frag) (C : Ct) (σ : St) (H G : Hp) (W : Ow) (δ : List R) : Prop where
  gh : Ex G H
  g0 : Ex C.G0 G
  hh : ∀ a o, C.bo ≠ some a → C.mo ≠ some a → C.H0 a = some o → H a = some o
  gz : ∀ a, C.H0 a ≠ none → G a = C.G0 a
  b0 : ∀ b, C.bo = some b → C.H0 b ≠ none
  bag : ∀ b, C.bo = some b → Bag G H b
  tm : ∀ a o, C.T a = some o → H a = some o ∧ G a = none ∧ C.bo ≠ some a
  mu : ∀ p, C.mo = some p → C.H0 p ≠ none ∧ C.G0 p = none ∧ C.bo ≠ some p ∧ C.T p = none ∧ H p ≠ none
  ln : δ.length ≤ σ.length
  sl : ∀ i, gt δ i ≠ .no → ∃ v, σ[i]? = some (some v) ∧ ROk K C σ H G W (some i) v (gt δ i)
def R.pub : R → R
  | .own d => .val d
  | r => r

section
variable {K : PySem.W.Frag} {C : Ct} {σ : St} {H H' G G' : Hp} {W : Ow} {δ : List R} {v : V} {r : R}
/-- p is nobody's -/
def Mine (C : Ct) (G : Hp) (p : Addr) : Prop := G p = none ∧ C.H0 p = none ∧ C.bo ≠ some p ∧ C.T p = none
theorem Top.at_ne {p q : Addr} {d : D} (h : Top K G H q d) (e : H p = none) : q ≠ p := by
  obtain ⟨u, hu⟩ := h.there
  exact ne_of_none hu e
/-- what is owned in a slot or for a moment is taken into what stays -/
theorem SI.publish {p : Addr} {o : HO} (I : SI K C σ H G W δ) (hp : H p = some o) (m : Mine C G p) (hw : ∀ i d, gt δ i = .own d → W p ≠ some i) : SI K C σ H (upd G p o) W δ := by
  obtain ⟨gp, h0, nb, nt⟩ := m
  have x : Ex G (upd G p o) := Ex.new gp
  refine ⟨fun a u e => ?_, I.g0.trans x, I.hh, fun a n => ?_, I.b0, fun b hb => ?_, fun a u e => ?_, I.mu, I.ln, fun i hi => ?_⟩
  · by_cases ha : a = p
    · subst ha; rw [upd_same] at e; cases e; exact hp
    · rw [upd_ne ha] at e; exact I.gh a u e
  · have ne : a ≠ p := by rintro rfl; exact n h0
    rw [upd_ne ne]; exact I.gz a n
  · refine (I.bag b hb).mono x ?_ rfl
    have ne : b ≠ p := by rintro rfl; exact nb hb
    rw [upd_ne ne]; exact (I.bag b hb).1
  · have ne : a ≠ p := by rintro rfl; rw [nt] at e; cases e
    rw [upd_ne ne]; exact I.tm a u e
  · obtain ⟨v, h1, h2⟩ := I.sl i hi
    refine ⟨v, h1, ?_⟩
    cases hr : gt δ i with
    | no => exact trivial
    | val d => rw [hr] at h2; exact Den.mono h2 x
    | bag => rw [hr] at h2; exact h2
    | pk j => rw [hr] at h2; exact h2
    | bor d =>
      rw [hr] at h2
      obtain ⟨t0, q, e, ev, h6⟩ := h2
      exact ⟨t0, q, e, ev, h6.mono x rfl⟩
    | own d =>
      rw [hr] at h2
      obtain ⟨q, e, ⟨g, h3, h4, h4'⟩, h5, h6⟩ := h2
      have ne : q ≠ p := fun e => hw i d hr (e ▸ h5)
      exact ⟨q, e, ⟨by rw [upd_ne ne]; exact g, h3, h4, h4'⟩, h5, h6.mono x rfl⟩
theorem SI.pub (I : SI K C σ H G W δ) (h : ROk K C σ H G W none v r) : ∃ G', Ex G G' ∧ SI K C σ H G' W δ ∧ ROk K C σ H G' W none v r.pub := by
  cases r with
  | own d =>
    obtain ⟨p, e, m, h5, h6⟩ := h
    obtain ⟨o, ho⟩ := h6.there
    refine ⟨upd G p o, Ex.new m.1, I.publish ho m (fun i d' _ => by rw [h5]; simp), ?_⟩
    subst e
    exact h6.den m.1 ho
  | no => exact ⟨G, Ex.refl G, I, h⟩
  | val d => exact ⟨G, Ex.refl G, I, h⟩
  | bag => exact ⟨G, Ex.refl G, I, h⟩
  | bor d => exact ⟨G, Ex.refl G, I, h⟩
  | pk j => exact ⟨G, Ex.refl G, I, h⟩
/-- held things stay -/
theorem ROk.keep {W' : Ow} (h : ROk K C σ H G W none v r.pub) (x : Ex G G') : ROk K C σ H' G' W' none v r.pub := by
  cases r with
  | bor d => exact absurd rfl h.1
  | own d => exact Den.mono (show Den K G v d from h) x
  | no => exact trivial
  | val d => exact Den.mono (show Den K G v d from h) x
  | bag => exact h
  | pk j => exact h
/-- a new object is laid -/
theorem SI.laid {p : Addr} {o : HO} (I : SI K C σ H G W δ) (hp : H p = none) : SI K C σ (upd H p o) G W δ := by
  have x : Ex H (upd H p o) := Ex.new hp
  have hk : ∀ {a : Addr} {u : HO}, H a = some u → upd H p o a = H a := fun {a u} e => by rw [upd_ne (ne_of_none e hp)]
  refine ⟨I.gh.trans x, I.g0, fun a u n n' e => x a u (I.hh a u n n' e), I.gz, I.b0, fun b hb => ?_, fun a u e => ⟨x a u (I.tm a u e).1, (I.tm a u e).2⟩, fun q hq => ?_, I.ln, fun i hi => ?_⟩
  · obtain ⟨g, x0, y, z, c, ns, h1, _⟩ := I.bag b hb
    exact (I.bag b hb).mono (Ex.refl G) g (hk h1)
  · obtain ⟨m1, m2, m3, m4, m5⟩ := I.mu q hq
    refine ⟨m1, m2, m3, m4, fun z => m5 ?_⟩
    cases e : H q with
    | none => rfl
    | some u => rw [hk e, e] at z; cases z
  · obtain ⟨v, h1, h2⟩ := I.sl i hi
    refine ⟨v, h1, ?_⟩
    cases hr : gt δ i with
    | no => exact trivial
    | val d => rw [hr] at h2; exact h2
    | bag => rw [hr] at h2; exact h2
    | pk j => rw [hr] at h2; exact h2
    | bor d =>
      rw [hr] at h2
      obtain ⟨t0, q, e, ev, h6⟩ := h2
      obtain ⟨u, hu⟩ := h6.there
      exact ⟨t0, q, e, ev, h6.mono (Ex.refl G) (hk hu)⟩
    | own d =>
      rw [hr] at h2
      obtain ⟨q, e, m, h5, h6⟩ := h2
      obtain ⟨u, hu⟩ := h6.there
      exact ⟨q, e, m, h5, h6.mono (Ex.refl G) (hk hu)⟩
theorem SI.fresh {p : Addr} (I : SI K C σ H G W δ) (hp : H p = none) : Mine C G p := by
  have hb : C.bo ≠ some p := fun e => by
    obtain ⟨_, x, y, z, c, ns, h, _⟩ := I.bag p e
    rw [hp] at h; cases h
  refine ⟨I.gh.back hp, ?_, hb, ?_⟩
  · cases q : C.H0 p with
    | none => rfl
    | some o =>
      have hm : C.mo ≠ some p := fun e => (I.mu p e).2.2.2.2 hp
      have := I.hh p o hb hm q; rw [hp] at this; cases this
  · cases q : C.T p with
    | none => rfl
    | some o => have := (I.tm p o q).1; rw [hp] at this; cases this
/-- the owner of what is held for a moment is nobody -/
theorem SI.disown {p : Addr} (I : SI K C σ H G W δ) (h : ∀ i d q, gt δ i = .own d → W q = some i → Top K G H q d → σ[i]? = some (some (.ref q)) → q ≠ p) : SI K C σ H G (fun a => if a = p then none else W a) δ := by
  refine ⟨I.gh, I.g0, I.hh, I.gz, I.b0, I.bag, I.tm, I.mu, I.ln, fun i hi => ?_⟩
  obtain ⟨v, h1, h2⟩ := I.sl i hi
  refine ⟨v, h1, ?_⟩
  cases hr : gt δ i with
  | no => exact trivial
  | val d => rw [hr] at h2; exact h2
  | bag => rw [hr] at h2; exact h2
  | pk j => rw [hr] at h2; exact h2
  | bor d => rw [hr] at h2; exact h2
  | own d =>
    rw [hr] at h2
    obtain ⟨q, e, m, h5, h6⟩ := h2
    subst e
    refine ⟨q, rfl, m, ?_, h6⟩
    show (if q = p then none else W q) = some i
    rw [if_neg (h i d q hr h5 h6 h1)]; exact h5
/-- a new object, held for a moment -/
theorem SI.lay {p : Addr} {o : HO} (I : SI K C σ H G W δ) (hp : H p = none) : SI K C σ (upd H p o) G (fun a => if a = p then none else W a) δ :=
  (I.laid hp).disown fun i d q e h5 h6 h1 => by
    obtain ⟨v, h1', h2⟩ := I.sl i (by rw [e]; simp)
    rw [h1] at h1'; cases h1'
    rw [e] at h2
    obtain ⟨q', e', _, _, h7⟩ := h2
    cases e'
    exact h7.at_ne hp
end
end DL

namespace DL
open PySem PySem.Spec L2

section
variable {X : Cx}
theorem PE.weak {e : Expr} {t t' : TE} (h : PE X e t) (w : ∀ σ H Q, t' σ H Q → t σ H Q) : PE X e t' := ⟨fun pins s σ H Q I q => h.run pins s σ H Q I (w σ H Q q)⟩
theorem PT.weak {e : Expr} {t t' : TT} (h : PT X e t) (w : ∀ σ H Q, t' σ H Q → t σ H Q) : PT X e t' := ⟨fun pins s σ H Q I q => h.run pins s σ H Q I (w σ H Q q)⟩
theorem PW.weak {e : Expr} {t t' : TT} (h : PW X e t) (w : ∀ σ H Q, t' σ H Q → t σ H Q) : PW X e t' := ⟨fun wh pins s σ H Q I q => h.run wh pins s σ H Q I (w σ H Q q)⟩
theorem PA.weak {e : List Expr} {t t' : TA} (h : PA X e t) (w : ∀ σ H Q, t' σ H Q → t σ H Q) : PA X e t' := ⟨fun pos pins s σ H Q I q => h.run pos pins s σ H Q I (w σ H Q q)⟩
theorem PS.weak {e : Stmt} {t t' : TS} (h : PS X e t) (w : ∀ D σ H, t' D σ H → t D σ H) : PS X e t' := ⟨fun pins s σ H D I q => h.run pins s σ H D I (w D σ H q)⟩
theorem PSs.weak {e : List Stmt} {t t' : TS} (h : PSs X e t) (w : ∀ D σ H, t' D σ H → t D σ H) : PSs X e t' := ⟨fun pins s σ H D I q => h.run pins s σ H D I (w D σ H q)⟩
end

/-! ### readings over data -/
abbrev DE := List R → (R → List R → Prop) → Prop
abbrev DT := List R → (Bool → List R → Prop) → Prop
abbrev DA := List R → (List R → List R → Prop) → Prop
/-- what is wished of an exception: by the heap; by data -/
structure Lk where
  E : Value → Option Addr → St → Hp → Prop
  x : Addr → List (Str × D) → List R → Prop
def L0 : Lk := ⟨fun _ _ _ _ => False, fun _ _ _ => False⟩
def Lnk (K : PySem.W.Frag) (L : Lk) (C : Ct) (G : Hp) : Prop := ∀ c fs δ' d σ' H' G' W' fvs, L.x c fs δ' → Ex G G' → SI K C σ' H' G' W' δ' → G' d = some (.xd fvs) → DensP K G' fvs fs → L.E (.ref c) (some d) σ' H'
theorem Lnk.mono {K : PySem.W.Frag} {L : Lk} {C : Ct} {G G1 : Hp} (h : Lnk K L C G) (x : Ex G G1) : Lnk K L C G1 := fun c fs δ' d σ' H' G' W' fvs h1 h2 => h c fs δ' d σ' H' G' W' fvs h1 (x.trans h2)
theorem Lnk.zero {K : PySem.W.Frag} {C : Ct} {G : Hp} : Lnk K L0 C G := fun _ _ _ _ _ _ _ _ _ h => h.elim
def lift (K : PySem.W.Frag) (L : Lk) (de : DE) : TE := fun σ H Q => ∃ (C : Ct) (G : Hp) (W : Ow) (δ : List R) (P : R → List R → Prop), SI K C σ H G W δ ∧ Lnk K L C G ∧ de δ P ∧
  ∀ r δ' v H' G' W', P r δ' → Ex G G' → SI K C σ H' G' W' δ' → ROk K C σ H' G' W' none v r → Q v H'
def liftT (K : PySem.W.Frag) (L : Lk) (dt : DT) : TT := fun σ H Q => ∃ (C : Ct) (G : Hp) (W : Ow) (δ : List R) (P : Bool → List R → Prop), SI K C σ H G W δ ∧ Lnk K L C G ∧ dt δ P ∧
  ∀ b δ' H' G' W', P b δ' → Ex G G' → SI K C σ H' G' W' δ' → Q b H'
def liftA (K : PySem.W.Frag) (L : Lk) (da : DA) : TA := fun σ H Q => ∃ (C : Ct) (G : Hp) (W : Ow) (δ : List R) (P : List R → List R → Prop), SI K C σ H G W δ ∧ Lnk K L C G ∧ da δ P ∧
  ∀ rs δ' vs H' G' W', P rs δ' → Ex G G' → SI K C σ H' G' W' δ' → All2 (fun v r => ROk K C σ H' G' W' none v (R.pub r)) vs rs → Q vs H'

def R.on : R → Bool
  | .no => false
  | _ => true
def R.dat : R → Option D
  | .val d => some d
  | .own d => some d
  | .bor d => some d
  | _ => none
/-- looked at -/
def peek : R → List R → Option D
  | .pk i, δ => (gt δ i).dat
  | r, _ => r.dat
/-- handed on: what was one's own stays from now on -/
def usePk : R → Nat → List R → Option (R × List R)
  | .val d, _, δ => some (.val d, δ)
  | .own d, i, δ => some (.val d, st δ i (.val d))
  | .bag, _, δ => some (.bag, δ)
  | .no, _, _ => none
  | .pk _, _, _ => none
  | .bor _, _, _ => none
def use : R → List R → Option (R × List R)
  | .pk i, δ => usePk (gt δ i) i δ
  | .val d, δ => some (.val d, δ)
  | .own d, δ => some (.val d, δ)
  | .bag, δ => some (.bag, δ)
  | .no, _ => none
  | .bor _, _ => none
def peekAll : List R → List R → Option (List D)
  | [], _ => some []
  | r :: rs, δ => match peek r δ, peekAll rs δ with
    | some d, some ds => some (d :: ds)
    | _, _ => none
def useAll : List R → List R → Option (List R × List R)
  | [], δ => some ([], δ)
  | r :: rs, δ => match use r δ with
    | some (r', δ') => match useAll rs δ' with
      | some (rs', δ'') => some (r' :: rs', δ'')
      | none => none
    | none => none

theorem st_len : ∀ (δ : List R) (i : Nat) (a : R), (st δ i a).length = δ.length
  | [], _, _ => rfl
  | _ :: _, 0, _ => rfl
  | _ :: xs, n + 1, a => by simp only [st, List.length_cons]; rw [st_len xs n a]
theorem st_st : ∀ (δ : List R) (i : Nat) (a b : R), st (st δ i a) i b = st δ i b
  | [], _, _, _ => rfl
  | _ :: _, 0, _, _ => rfl
  | _ :: xs, n + 1, a, b => by simp only [st]; rw [st_st xs n a b]
section
variable {K : PySem.W.Frag} {C : Ct} {σ : St} {H H' G G' : Hp} {W : Ow} {δ δ' : List R} {v : V} {r r' : R} {d : D}
theorem SI.drop (I : SI K C σ H G W δ) (i : Nat) : SI K C σ H G W (st δ i .no) := by
  refine ⟨I.gh, I.g0, I.hh, I.gz, I.b0, I.bag, I.tm, I.mu, by rw [st_len]; exact I.ln, fun j hj => ?_⟩
  by_cases e : i = j
  · subst e
    rcases gt_st_same δ i .no with z | z <;> exact absurd z hj
  · rw [gt_st_ne δ i j .no e] at hj ⊢
    exact I.sl j hj
theorem SI.put (I : SI K C σ H G W δ) {i : Nat} (h : σ[i]? = some (some v)) (hr : ROk K C σ H G W (some i) v r) : SI K C σ H G W (st δ i r) := by
  refine ⟨I.gh, I.g0, I.hh, I.gz, I.b0, I.bag, I.tm, I.mu, by rw [st_len]; exact I.ln, fun j hj => ?_⟩
  by_cases e : i = j
  · subst e
    rcases gt_st_same δ i r with z | z
    · rw [z]; exact ⟨v, h, hr⟩
    · exact absurd z hj
  · rw [gt_st_ne δ i j r e] at hj ⊢
    exact I.sl j hj
theorem gt_put_own {i j : Nat} {d d' : D} (h : gt (st δ i .no) j = .own d') : i ≠ j ∧ gt δ j = .own d' := by
  by_cases e : i = j
  · subst e
    rcases gt_st_same δ i .no with z | z <;> rw [z] at h <;> cases h
  · rw [gt_st_ne δ i j .no e] at h
    exact ⟨e, h⟩
theorem SI.useOk (I : SI K C σ H G W δ) (h : ROk K C σ H G W none v r) (e : use r δ = some (r', δ')) : ∃ G', Ex G G' ∧ SI K C σ H G' W δ' ∧ ROk K C σ H G' W none v r' ∧ r'.pub = r' := by
  cases r with
  | no => cases e
  | bor d => cases e
  | val d => cases e; exact ⟨G, Ex.refl G, I, h, rfl⟩
  | bag => cases e; exact ⟨G, Ex.refl G, I, h, rfl⟩
  | own d =>
    cases e
    obtain ⟨G', x, I', h'⟩ := I.pub h
    exact ⟨G', x, I', h', rfl⟩
  | pk i =>
    have e : usePk (gt δ i) i δ = some (r', δ') := e
    cases q : gt δ i with
    | no => rw [q] at e; cases e
    | pk j => rw [q] at e; cases e
    | bor d => rw [q] at e; cases e
    | val d =>
      rw [q] at e; cases e
      obtain ⟨v', h1, h2⟩ := I.sl i (by rw [q]; simp)
      rw [q] at h2
      have : v = v' := by have := h.2.symm.trans h1; simpa using this
      subst this
      exact ⟨G, Ex.refl G, I, h2, rfl⟩
    | bag =>
      rw [q] at e; cases e
      obtain ⟨v', h1, h2⟩ := I.sl i (by rw [q]; simp)
      rw [q] at h2
      have : v = v' := by have := h.2.symm.trans h1; simpa using this
      subst this
      exact ⟨G, Ex.refl G, I, h2, rfl⟩
    | own d =>
      rw [q] at e; cases e
      obtain ⟨v', h1, h2⟩ := I.sl i (by rw [q]; simp)
      rw [q] at h2
      have : v = v' := by have := h.2.symm.trans h1; simpa using this
      subst this
      obtain ⟨p, e, m, h5, h6⟩ := h2
      obtain ⟨o, ho⟩ := h6.there
      subst e
      have dn : Den K (upd G p o) (.ref p) d := h6.den m.1 ho
      have I1 := (I.drop i).publish ho m fun j d' hj => by
        obtain ⟨ne, _⟩ := gt_put_own (d := d) hj
        rw [h5]; intro z; exact ne (Option.some.inj z)
      have I2 : SI K C σ H (upd G p o) W (st (st δ i .no) i (.val d)) := I1.put h1 dn
      rw [st_st] at I2
      exact ⟨upd G p o, Ex.new m.1, I2, dn, rfl⟩
/-- what is looked at: by the whole heap; its items stay -/
def Seen (K : PySem.W.Frag) (G H : Hp) (v : V) (d : D) : Prop := Den K G v d ∨ ∃ p, v = .ref p ∧ Top K G H p d
theorem SI.peekOk (I : SI K C σ H G W δ) (h : ROk K C σ H G W none v r) (e : peek r δ = some d) : Seen K G H v d := by
  cases r with
  | no => cases e
  | bor d' => exact absurd rfl h.1
  | val d' => cases e; exact .inl h
  | bag => cases e
  | own d' => cases e; obtain ⟨p, e, _, _, h6⟩ := h; exact .inr ⟨p, e, h6⟩
  | pk i =>
    have e' : (gt δ i).dat = some d := e
    obtain ⟨v', h1, h2⟩ := I.sl i (by intro z; rw [z] at e'; cases e')
    have : v = v' := by have := h.2.symm.trans h1; simpa using this
    subst this
    cases q : gt δ i with
    | no => rw [q] at e'; cases e'
    | pk j => rw [q] at e'; cases e'
    | bag => rw [q] at e'; cases e'
    | bor d' => rw [q] at e' h2; cases e'; obtain ⟨_, p, _, e, h6⟩ := h2; exact .inr ⟨p, e, h6⟩
    | val d' => rw [q] at e' h2; cases e'; exact .inl h2
    | own d' => rw [q] at e' h2; cases e'; obtain ⟨p, e, _, _, h6⟩ := h2; exact .inr ⟨p, e, h6⟩
theorem Seen.den {K : PySem.W.Frag} (h : Seen K G H v d) (x : Ex G H) : Den K H v d := by
  rcases h with h | ⟨p, rfl, h⟩
  · exact h.mono x
  · cases d with
    | lst ds => obtain ⟨vs, h1, h2⟩ := h; exact .lst' h1 (h2.mono x)
    | dic ds => obtain ⟨vs, h1, h2⟩ := h; exact .dic h1 h2.1 (fun i p q a b => (h2.2 i p q a b).1) fun i p q a b => (h2.2 i p q a b).2.mono x
    | ins C ds => obtain ⟨dx, vs, h1, h2⟩ := h; exact .ins h1 h2.1 (fun i p q a b => (h2.2 i p q a b).1) fun i p q a b => (h2.2 i p q a b).2.mono x
    | non => exact h.elim
    | bl => exact h.elim
    | int => exact h.elim
    | str => exact h.elim
    | tup => exact h.elim
    | ty => exact h.elim
    | exc => exact h.elim
theorem Seen.lst {K : PySem.W.Frag} {ds : List D} (h : Seen K G H v (.lst ds)) (x : Ex G H) : ∃ a vs, v = .ref a ∧ H a = some (.lst vs) ∧ Dens K G vs ds := by
  rcases h with h | ⟨p, rfl, vs, h1, h2⟩
  · obtain ⟨a, vs, e, h1, h2⟩ := h.of_lst
    exact ⟨a, vs, e, x _ _ h1, h2⟩
  · exact ⟨p, vs, rfl, h1, h2⟩
theorem Seen.tup {K : PySem.W.Frag} {ds : List D} (h : Seen K G H v (.tup ds)) (x : Ex G H) : ∃ a vs, v = .ref a ∧ SqT K H a vs ∧ Dens K G vs ds := by
  rcases h with h | ⟨p, rfl, h⟩
  · obtain ⟨a, vs, e, h1, h2⟩ := h.of_tup
    exact ⟨a, vs, e, ex_t x h1, h2⟩
  · exact h.elim
theorem Seen.ins {K : PySem.W.Frag} {C : Addr} {fs : List (Str × D)} (h : Seen K G H v (.ins C fs)) (x : Ex G H) : ∃ a dx vs, v = .ref a ∧ H a = some (.ins C dx vs) ∧ DensP K G vs fs := by
  rcases h with h | ⟨p, rfl, h⟩
  · obtain ⟨a, dx, vs, e, h1, h2⟩ := h.of_ins
    exact ⟨a, dx, vs, e, x _ _ h1, h2⟩
  · obtain ⟨dx, vs, h1, h2⟩ := h
    exact ⟨p, dx, vs, rfl, h1, h2⟩
theorem Seen.dic {K : PySem.W.Frag} {kvs : List (Key × D)} (h : Seen K G H v (.dic kvs)) (x : Ex G H) : ∃ a vs, v = .ref a ∧ Rd H a (.dK vs) ∧ DensP K G vs kvs := by
  rcases h with h | ⟨p, rfl, vs, h1, h2⟩
  · obtain ⟨a, vs, e, h1, h2⟩ := h.of_dic
    exact ⟨a, vs, e, .inl (x _ _ h1), h2⟩
  · exact ⟨p, vs, rfl, .inl h1, h2⟩
theorem Seen.dicE {K : PySem.W.Frag} {kvs : List (Key × D)} (h : Seen K G H v (.dic kvs)) (x : Ex G H) : ∃ a vs, v = .ref a ∧ H a = some (.dK vs) ∧ DensP K G vs kvs := by
  rcases h with h | ⟨p, rfl, vs, h1, h2⟩
  · obtain ⟨a, vs, e, h1, h2⟩ := h.of_dic
    exact ⟨a, vs, e, x _ _ h1, h2⟩
  · exact ⟨p, vs, rfl, h1, h2⟩
theorem SI.useAllOk : ∀ {rs : List R} {vs : List V} {δ δ' : List R} {rs' : List R} {G : Hp}, SI K C σ H G W δ → All2 (fun v r => ROk K C σ H G W none v (R.pub r)) vs rs → useAll rs δ = some (rs', δ') →
    ∃ G', Ex G G' ∧ SI K C σ H G' W δ' ∧ All2 (fun v r => ROk K C σ H G' W none v r ∧ r.pub = r) vs rs'
  | [], vs, δ, δ', rs', G, I, h, e => by
    cases e; rw [h.nil_right]; exact ⟨G, Ex.refl G, I, .nil⟩
  | r :: rs, vs, δ, δ', rs', G, I, h, e => by
    obtain ⟨v, vs, rfl, h1, h2⟩ := h.cons_right
    unfold useAll at e
    cases q : use r δ with
    | none => rw [q] at e; cases e
    | some p =>
      obtain ⟨r1, δ1⟩ := p
      rw [q] at e
      simp only at e
      have q' : use r.pub δ = some (r1, δ1) := by cases r <;> exact q
      obtain ⟨G1, x1, I1, o1, p1⟩ := I.useOk h1 q'
      cases q2 : useAll rs δ1 with
      | none => rw [q2] at e; cases e
      | some p =>
        obtain ⟨rs2, δ2⟩ := p
        rw [q2] at e; cases e
        obtain ⟨G2, x2, I2, o2⟩ := SI.useAllOk I1 (h2.imp fun _ _ z => ROk.keep z x1) q2
        refine ⟨G2, x1.trans x2, I2, .cons ⟨?_, p1⟩ o2⟩
        rw [← p1] at o1 ⊢
        exact ROk.keep o1 x2
theorem SI.peekAllOk (I : SI K C σ H G W δ) : ∀ {rs : List R} {vs : List V} {ds : List D}, All2 (fun v r => ROk K C σ H G W none v (R.pub r)) vs rs → peekAll rs δ = some ds → All2 (Seen K G H) vs ds
  | [], vs, ds, h, e => by cases e; rw [h.nil_right]; exact .nil
  | r :: rs, vs, ds, h, e => by
    obtain ⟨v, vs, rfl, h1, h2⟩ := h.cons_right
    unfold peekAll at e
    cases q : peek r δ with
    | none => rw [q] at e; cases e
    | some d =>
      rw [q] at e
      cases q2 : peekAll rs δ with
      | none => rw [q2] at e; cases e
      | some ds =>
        rw [q2] at e; cases e
        have q' : peek r.pub δ = some d := by cases r <;> exact q
        exact .cons (I.peekOk h1 q') (I.peekAllOk h2 q2)
end

/-! ### expressions -/
def dVar (i : Nat) : DE := fun δ P => (gt δ i).on = true ∧ P (.pk i) δ
def dC (d : D) : DE := fun δ P => P (.val d) δ
section
variable {X : Cx} {K : PySem.W.Frag} {L : Lk} {pos : Pos} {a b e : Expr} {es : List Expr} {da db de : DE}
theorem lift_of {t : TE} {de : DE} (h : ∀ C σ H G W δ P (Q : VK), SI K C σ H G W δ → Lnk K L C G → de δ P → (∀ r δ' v H' G' W', P r δ' → Ex G G' → SI K C σ H' G' W' δ' → ROk K C σ H' G' W' none v r → Q v H') → t σ H Q) : ∀ σ H Q, lift K L de σ H Q → t σ H Q :=
  fun σ H Q ⟨C, G, W, δ, P, I, lk, hd, k⟩ => h C σ H G W δ P Q I lk hd k
theorem dv (i : Nat) {x : Str} (hN : X.N[i]? = some x := by rfl) (hv : Vis X.env.scope x := by first | exact Or.inl rfl | exact Or.inr (Or.inl rfl) | exact Or.inr (Or.inr rfl)) (hd : (x == ("__debug__" : Str)) = false := by decide)
    (hcd : (x == ("__classdict__" : Str)) = false := by decide) : PE X (.Name x pos) (lift X.K L (dVar i)) :=
  PE.weak (pe_var hN hv hd hcd) <| lift_of fun C σ H G W δ P Q I lk h k => by
    obtain ⟨h1, h2⟩ := h
    obtain ⟨v, e, _⟩ := I.sl i (by intro z; rw [z] at h1; cases h1)
    exact ⟨v, e, k _ _ v H G W h2 (Ex.refl G) I ⟨rfl, e⟩⟩
theorem lift_c {v : V} {d : D} (h : ∀ G, Den K G v d) : ∀ σ H Q, lift K L (dC d) σ H Q → tC v σ H Q := lift_of fun C σ H G W δ P Q I lk hp k => k _ _ v H G W hp (Ex.refl G) I (h G)
theorem dk_int {i j} : PE X (.Constant (.int i) j pos) (lift X.K L (dC (.int i))) := PE.weak pe_int (lift_c fun _ => .int i)
theorem dk_bl {b j} : PE X (.Constant (.bool b) j pos) (lift X.K L (dC (.bl b))) := PE.weak pe_bl (lift_c fun _ => .bl b)
theorem dk_non {j} : PE X (.Constant .none j pos) (lift X.K L (dC .non)) := PE.weak pe_non (lift_c fun _ => .non)
theorem dk_str {x j} : PE X (.Constant (.str x) j pos) (lift X.K L (dC (.str x))) := PE.weak pe_str (lift_c fun _ => .str x)

/-- two values: what they are handed to -/
def dBin (g : D → D → (R → Prop) → Prop) (da db : DE) : DE := fun δ P => da δ fun r1 δ1 => db δ1 fun r2 δ2 => ∃ d1 δ3 d2 δ4, use r1 δ2 = some (.val d1, δ3) ∧ use r2 δ3 = some (.val d2, δ4) ∧ g d1 d2 fun r => P r δ4
def OpSem (K : PySem.W.Frag) (r : R2) (g : D → D → (R → Prop) → Prop) : Prop := ∀ (C : Ct) (σ : St) (H G : Hp) (W : Ow) (δ : List R) (x y : V) (d1 d2 : D) (P : R → Prop) (Q : VK), SI K C σ H G W δ → Den K G x d1 → Den K G y d2 → g d1 d2 P →
  (∀ r v H' G' W', P r → Ex G G' → SI K C σ H' G' W' δ → ROk K C σ H' G' W' none v r → Q v H') → r x y H Q
theorem use_pub (r : R) (δ : List R) : use r.pub δ = use r δ := by cases r <;> rfl
theorem peek_pub (r : R) (δ : List R) : peek r.pub δ = peek r δ := by cases r <;> rfl
/-- two operands, evaluated -/
theorem lift_two {P2 : R → R → List R → Prop} {T : V → V → Hp → Prop} {σ : St} {H G : Hp} {W : Ow} {δ : List R} {C : Ct} (I : SI K C σ H G W δ) (lk : Lnk K L C G) (h : da δ fun r1 δ1 => db δ1 fun r2 δ2 => P2 r1 r2 δ2)
    (k : ∀ r1 r2 δ2 x y H2 G2 W2, P2 r1 r2 δ2 → Ex G G2 → SI K C σ H2 G2 W2 δ2 → ROk K C σ H2 G2 W2 none x r1.pub → ROk K C σ H2 G2 W2 none y r2.pub → T x y H2) : lift K L da σ H fun x H1 => lift K L db σ H1 fun y H2 => T x y H2 := by
  refine ⟨C, G, W, δ, _, I, lk, h, fun r1 δ1 x H1 G1 W1 h1 x1 I1 o1 => ?_⟩
  obtain ⟨G1', x1', I1', o1'⟩ := I1.pub o1
  refine ⟨C, G1', W1, δ1, _, I1', lk.mono (x1.trans x1'), h1, fun r2 δ2 y H2 G2 W2 h2 x2 I2 o2 => ?_⟩
  obtain ⟨G2', x2', I2', o2'⟩ := I2.pub o2
  exact k r1 r2 δ2 x y H2 G2' W2 h2 (((x1.trans x1').trans x2).trans x2') I2' (ROk.keep o1' (x2.trans x2')) o2'
theorem lift_bin {r : R2} {g : D → D → (R → Prop) → Prop} (hs : OpSem K r g) : ∀ σ H Q, lift K L (dBin g da db) σ H Q → tOp r (lift K L da) (lift K L db) σ H Q :=
  lift_of fun C σ H G W δ P Q I lk h k => lift_two I lk h fun r1 r2 δ2 x y H2 G2 W2 h2 x2 I2 o1 o2 => by
    obtain ⟨d1, δ3, d2, δ4, e1, e2, hg⟩ := h2
    rw [← use_pub] at e1 e2
    obtain ⟨G3, x3, I3, p1, _⟩ := I2.useOk o1 e1
    obtain ⟨G4, x4, I4, p2, _⟩ := I3.useOk (ROk.keep o2 x3) e2
    exact hs C σ H2 G4 W2 δ4 x y d1 d2 _ Q I4 (Den.mono (show Den K G3 x d1 from p1) x4) p2 hg fun r v H' G' W' hp x' I' o' => k r δ4 v H' G' W' hp (((x2.trans x3).trans x4).trans x') I' o'
theorem de_op {op : Operator} {r : R2} {g : D → D → (R → Prop) → Prop} (ho : OpR X (binaryOp op) r) (hs : OpSem X.K r g) (ha : PE X a (lift X.K L da)) (hb : PE X b (lift X.K L db)) : PE X (.BinOp a op b pos) (lift X.K L (dBin g da db)) :=
  PE.weak (pe_op ho ha hb) (lift_bin hs)
/-- comparisons look -/
def dCmp (f : D → D → Bool → Prop) (da db : DE) : DE := fun δ P => da δ fun r1 δ1 => db δ1 fun r2 δ2 => ∃ d1 d2 b, peek r1 δ2 = some d1 ∧ peek r2 δ2 = some d2 ∧ f d1 d2 b ∧ P (.val (.bl b)) δ2
def CmpSem (K : PySem.W.Frag) (r : R2) (f : D → D → Bool → Prop) : Prop := ∀ (H : Hp) (x y : V) (d1 d2 : D) (b : Bool) (Q : VK), Den K H x d1 → Den K H y d2 → f d1 d2 b → Q (.bl b) H → r x y H Q
theorem lift_cmp {r : R2} {f : D → D → Bool → Prop} (hs : CmpSem K r f) : ∀ σ H Q, lift K L (dCmp f da db) σ H Q → tOp r (lift K L da) (lift K L db) σ H Q :=
  lift_of fun C σ H G W δ P Q I lk h k => lift_two I lk h fun r1 r2 δ2 x y H2 G2 W2 h2 x2 I2 o1 o2 => by
    obtain ⟨d1, d2, b, e1, e2, e3, hp⟩ := h2
    rw [← peek_pub] at e1 e2
    exact hs H2 x y d1 d2 b Q ((I2.peekOk o1 e1).den I2.gh) ((I2.peekOk o2 e2).den I2.gh) e3 (k _ δ2 _ H2 G2 W2 hp x2 I2 (.bl b))
theorem de_cmp {op : CmpOp} {r : R2} {f : D → D → Bool → Prop} (ho : OpR X (compareOp op) r) (hs : CmpSem X.K r f) (ha : PE X a (lift X.K L da)) (hb : PE X b (lift X.K L db)) (hm : behindInMarks op b = false) : PE X (.Compare a [op] [b] pos) (lift X.K L (dCmp f da db)) :=
  PE.weak (pe_cmpR ho ha hb hm) (lift_cmp hs)
/-- a value as a test -/
def dTst (de : DE) : DT := fun δ P => de δ fun r δ1 => ∃ b, peek r δ1 = some (.bl b) ∧ P b δ1
theorem liftT_of {t : TT} {dt : DT} (h : ∀ C σ H G W δ P (Q : Bool → Hp → Prop), SI K C σ H G W δ → Lnk K L C G → dt δ P → (∀ b δ' H' G' W', P b δ' → Ex G G' → SI K C σ H' G' W' δ' → Q b H') → t σ H Q) : ∀ σ H Q, liftT K L dt σ H Q → t σ H Q :=
  fun σ H Q ⟨C, G, W, δ, P, I, lk, hd, k⟩ => h C σ H G W δ P Q I lk hd k
theorem lift_tst : ∀ σ H Q, liftT K L (dTst de) σ H Q → tB (lift K L de) σ H Q := liftT_of fun C σ H G W δ P Q I lk h k =>
  ⟨C, G, W, δ, _, I, lk, h, fun r δ1 v H1 G1 W1 h1 x1 I1 o1 => by
    obtain ⟨b, e, hp⟩ := h1
    have := ((I1.peekOk o1 e).den I1.gh).of_bl
    exact ⟨b, this, k b δ1 H1 G1 W1 hp x1 I1⟩⟩
theorem lift_tst' : ∀ σ H Q, liftT K L (dTst (dCmp f da db)) σ H Q → ∀ {r : R2}, CmpSem K r f → tTest (tOp r (lift K L da) (lift K L db)) σ H Q := by
  intro σ H Q ⟨C, G, W, δ, P, I, lk, hd, k⟩ r hs
  exact lift_two I lk hd fun r1 r2 δ2 x y H2 G2 W2 h2 x2 I2 o1 o2 => by
    obtain ⟨d1, d2, b, e1, e2, e3, b', e, hp⟩ := h2
    cases e
    rw [← peek_pub] at e1 e2
    exact hs H2 x y d1 d2 b _ ((I2.peekOk o1 e1).den I2.gh) ((I2.peekOk o2 e2).den I2.gh) e3 ⟨b, rfl, k _ δ2 H2 G2 W2 hp x2 I2⟩
theorem dt_cmp {op : CmpOp} {r : R2} {f : D → D → Bool → Prop} (ho : OpR X (compareOp op) r) (hs : CmpSem X.K r f) (ha : PE X a (lift X.K L da)) (hb : PE X b (lift X.K L db)) (hm : behindInMarks op b = false) : PT X (.Compare a [op] [b] pos) (liftT X.K L (dTst (dCmp f da db))) :=
  PT.weak (pt_cmpR ho ha hb hm) fun σ H Q h => lift_tst' σ H Q h hs
theorem dt_val (h : PE X e (lift X.K L de)) (he : ∀ whole, isTrue e X.env whole = (do let v ← whole; standAt e.pos; holding [v] (truthy v)) := by intro _; rfl) : PT X e (liftT X.K L (dTst de)) := PT.weak (pt_val h he) lift_tst
def dAnd (t u : DT) : DT := fun δ P => t δ fun c δ1 => (c = true → u δ1 P) ∧ (c = false → P false δ1)
def dOr (t u : DT) : DT := fun δ P => t δ fun c δ1 => (c = true → P true δ1) ∧ (c = false → u δ1 P)
def dNot (t : DT) : DT := fun δ P => t δ fun c δ1 => P (!c) δ1
variable {ta tb : DT} {rest : List Expr}
theorem dt_and1 (ha : PT X a (liftT X.K L ta)) : PW X (.BoolOp .And [a] pos) (liftT X.K L ta) := pw_and1 ha
theorem dt_or1 (ha : PT X a (liftT X.K L ta)) : PW X (.BoolOp .Or [a] pos) (liftT X.K L ta) := pw_or1 ha
theorem dt_and (ha : PT X a (liftT X.K L ta)) (hb : PW X (.BoolOp .And (b :: rest) pos) (liftT X.K L tb)) : PW X (.BoolOp .And (a :: b :: rest) pos) (liftT X.K L (dAnd ta tb)) :=
  PW.weak (pw_and ha hb) <| liftT_of fun C σ H G W δ P Q I lk h k => ⟨C, G, W, δ, _, I, lk, h, fun c δ1 H1 G1 W1 h1 x1 I1 => by
    cases c with
    | true => exact ⟨C, G1, W1, δ1, P, I1, lk.mono x1, h1.1 rfl, fun b δ2 H2 G2 W2 hp x2 I2 => k b δ2 H2 G2 W2 hp (x1.trans x2) I2⟩
    | false => exact k false δ1 H1 G1 W1 (h1.2 rfl) x1 I1⟩
theorem dt_or (ha : PT X a (liftT X.K L ta)) (hb : PW X (.BoolOp .Or (b :: rest) pos) (liftT X.K L tb)) : PW X (.BoolOp .Or (a :: b :: rest) pos) (liftT X.K L (dOr ta tb)) :=
  PW.weak (pw_or ha hb) <| liftT_of fun C σ H G W δ P Q I lk h k => ⟨C, G, W, δ, _, I, lk, h, fun c δ1 H1 G1 W1 h1 x1 I1 => by
    cases c with
    | true => exact k true δ1 H1 G1 W1 (h1.1 rfl) x1 I1
    | false => exact ⟨C, G1, W1, δ1, P, I1, lk.mono x1, h1.2 rfl, fun b δ2 H2 G2 W2 hp x2 I2 => k b δ2 H2 G2 W2 hp (x1.trans x2) I2⟩⟩
theorem dt_not (ha : PT X a (liftT X.K L ta)) : PT X (.UnaryOp .Not a pos) (liftT X.K L (dNot ta)) :=
  PT.weak (pt_not ha) <| liftT_of fun C σ H G W δ P Q I lk h k => ⟨C, G, W, δ, _, I, lk, h, fun c δ1 H1 G1 W1 h1 x1 I1 => k _ δ1 H1 G1 W1 h1 x1 I1⟩
def dAndV (da db : DE) : DE := fun δ P => da δ fun r δ1 => ∃ c, peek r δ1 = some (.bl c) ∧ (c = true → db δ1 P) ∧ (c = false → P (.val (.bl false)) δ1)
def dOrV (da db : DE) : DE := fun δ P => da δ fun r δ1 => ∃ c, peek r δ1 = some (.bl c) ∧ (c = true → P (.val (.bl true)) δ1) ∧ (c = false → db δ1 P)
def dNotV (da : DE) : DE := fun δ P => da δ fun r δ1 => ∃ c, peek r δ1 = some (.bl c) ∧ P (.val (.bl (!c))) δ1
theorem de_one {op} (h : PE X a (lift X.K L da)) : PE X (.BoolOp op [a] pos) (lift X.K L da) := pe_one h
theorem de_and (ha : PE X a (lift X.K L da)) (hb : PE X (.BoolOp .And (b :: rest) pos) (lift X.K L db)) : PE X (.BoolOp .And (a :: b :: rest) pos) (lift X.K L (dAndV da db)) :=
  PE.weak (pe_and ha hb) <| lift_of fun C σ H G W δ P Q I lk h k => ⟨C, G, W, δ, _, I, lk, h, fun r δ1 v H1 G1 W1 h1 x1 I1 o1 => by
    obtain ⟨c, e, p1, p2⟩ := h1
    refine ⟨c, ((I1.peekOk o1 e).den I1.gh).of_bl, ?_⟩
    cases c with
    | true => exact ⟨C, G1, W1, δ1, P, I1, lk.mono x1, p1 rfl, fun r δ2 v H2 G2 W2 hp x2 I2 o2 => k r δ2 v H2 G2 W2 hp (x1.trans x2) I2 o2⟩
    | false => exact k _ δ1 _ H1 G1 W1 (p2 rfl) x1 I1 (.bl false)⟩
theorem de_or (ha : PE X a (lift X.K L da)) (hb : PE X (.BoolOp .Or (b :: rest) pos) (lift X.K L db)) : PE X (.BoolOp .Or (a :: b :: rest) pos) (lift X.K L (dOrV da db)) :=
  PE.weak (pe_or ha hb) <| lift_of fun C σ H G W δ P Q I lk h k => ⟨C, G, W, δ, _, I, lk, h, fun r δ1 v H1 G1 W1 h1 x1 I1 o1 => by
    obtain ⟨c, e, p1, p2⟩ := h1
    refine ⟨c, ((I1.peekOk o1 e).den I1.gh).of_bl, ?_⟩
    cases c with
    | true => exact k _ δ1 _ H1 G1 W1 (p1 rfl) x1 I1 (.bl true)
    | false => exact ⟨C, G1, W1, δ1, P, I1, lk.mono x1, p2 rfl, fun r δ2 v H2 G2 W2 hp x2 I2 o2 => k r δ2 v H2 G2 W2 hp (x1.trans x2) I2 o2⟩⟩
theorem de_not (ha : PE X a (lift X.K L da)) : PE X (.UnaryOp .Not a pos) (lift X.K L (dNotV da)) :=
  PE.weak (pe_not ha) <| lift_of fun C σ H G W δ P Q I lk h k => ⟨C, G, W, δ, _, I, lk, h, fun r δ1 v H1 G1 W1 h1 x1 I1 o1 => by
    obtain ⟨c, e, p1⟩ := h1
    exact ⟨c, ((I1.peekOk o1 e).den I1.gh).of_bl, k _ δ1 _ H1 G1 W1 p1 x1 I1 (.bl _)⟩⟩
def dIf (t : DT) (da db : DE) : DE := fun δ P => t δ fun c δ1 => (c = true → da δ1 P) ∧ (c = false → db δ1 P)
theorem de_if {c : Expr} (hc : PT X c (liftT X.K L ta)) (ha : PE X a (lift X.K L da)) (hb : PE X b (lift X.K L db)) : PE X (.IfExp c a b pos) (lift X.K L (dIf ta da db)) :=
  PE.weak (pe_ifExp hc ha hb) <| lift_of fun C σ H G W δ P Q I lk h k => ⟨C, G, W, δ, _, I, lk, h, fun c δ1 H1 G1 W1 h1 x1 I1 => by
    cases c with
    | true => exact ⟨C, G1, W1, δ1, P, I1, lk.mono x1, h1.1 rfl, fun r δ2 v H2 G2 W2 hp x2 I2 o2 => k r δ2 v H2 G2 W2 hp (x1.trans x2) I2 o2⟩
    | false => exact ⟨C, G1, W1, δ1, P, I1, lk.mono x1, h1.2 rfl, fun r δ2 v H2 G2 W2 hp x2 I2 o2 => k r δ2 v H2 G2 W2 hp (x1.trans x2) I2 o2⟩⟩

/-! ### arguments, displays -/
def dNil : DA := fun δ P => P [] δ
def dCons (da : DE) (dr : DA) : DA := fun δ P => da δ fun r δ1 => dr δ1 fun rs δ2 => P (r.pub :: rs) δ2
theorem pub_pub (r : R) : r.pub.pub = r.pub := by cases r <;> rfl
theorem liftA_of {t : TA} {da : DA} (h : ∀ C σ H G W δ P (Q : List V → Hp → Prop), SI K C σ H G W δ → Lnk K L C G → da δ P → (∀ rs δ' vs H' G' W', P rs δ' → Ex G G' → SI K C σ H' G' W' δ' → All2 (fun v r => ROk K C σ H' G' W' none v (R.pub r)) vs rs → Q vs H') → t σ H Q) : ∀ σ H Q, liftA K L da σ H Q → t σ H Q :=
  fun σ H Q ⟨C, G, W, δ, P, I, lk, hd, k⟩ => h C σ H G W δ P Q I lk hd k
theorem da_nil : PA X [] (liftA X.K L dNil) := PA.weak pa_nil <| liftA_of fun C σ H G W δ P Q I lk h k => k [] δ [] H G W h (Ex.refl G) I .nil
theorem da_cons {dr : DA} (ha : PE X e (lift X.K L de)) (hr : PA X es (liftA X.K L dr)) (hs : starEach (e :: es) X.env = (false, eval e X.env) :: starEach es X.env := by rfl) : PA X (e :: es) (liftA X.K L (dCons de dr)) :=
  PA.weak (pa_cons ha hr hs) <| liftA_of fun C σ H G W δ P Q I lk h k => ⟨C, G, W, δ, _, I, lk, h, fun r δ1 v H1 G1 W1 h1 x1 I1 o1 => by
    obtain ⟨G1', x1', I1', o1'⟩ := I1.pub o1
    refine ⟨C, G1', W1, δ1, _, I1', lk.mono (x1.trans x1'), h1, fun rs δ2 vs H2 G2 W2 h2 x2 I2 o2 => ?_⟩
    refine k _ δ2 _ H2 G2 W2 h2 ((x1.trans x1').trans x2) I2 (.cons ?_ o2)
    rw [pub_pub]
    exact ROk.keep o1' x2⟩
/-- all to be handed on: values, no bag -/
def vals? : List R → Option (List D)
  | [] => some []
  | .val d :: rs => (vals? rs).map (d :: ·)
  | _ => none
theorem vals_ok {C : Ct} {σ : St} {H G : Hp} {W : Ow} : ∀ {rs : List R} {vs : List V} {ds : List D}, All2 (fun v r => ROk K C σ H G W none v r ∧ r.pub = r) vs rs → vals? rs = some ds → Dens K G vs ds
  | [], vs, ds, h, e => by cases e; rw [h.nil_right]; exact .nil
  | .val d :: rs, vs, ds, h, e => by
    obtain ⟨v, vs, rfl, h1, h2⟩ := h.cons_right
    cases q : vals? rs with
    | none => simp [vals?, q] at e
    | some ds' => simp [vals?, q] at e; subst e; exact .cons h1.1 (vals_ok h2 q)
  | .no :: rs, vs, ds, h, e => by cases e
  | .own d :: rs, vs, ds, h, e => by cases e
  | .bag :: rs, vs, ds, h, e => by cases e
  | .pk i :: rs, vs, ds, h, e => by cases e
  | .bor i :: rs, vs, ds, h, e => by cases e
def dTup (da : DA) : DE := fun δ P => da δ fun rs δ1 => ∃ rs' δ2 ds, useAll rs δ1 = some (rs', δ2) ∧ vals? rs' = some ds ∧ ds.length ≤ sizeLine ∧ P (.val (.tup ds)) δ2
def dLst (da : DA) : DE := fun δ P => da δ fun rs δ1 => ∃ rs' δ2 ds, useAll rs δ1 = some (rs', δ2) ∧ vals? rs' = some ds ∧ ds.length ≤ sizeLine ∧ P (.own (.lst ds)) δ2
/-- the tuple object of some values -/
abbrev tupObj (its : List Value) : Obj := { cls := .type "tuple", data := .seq its.toArray }
/-- a new tuple, at once taken into what stays -/
theorem SI.newTup {C : Ct} {σ : St} {H G : Hp} {W : Ow} {δ : List R} {p : Addr} {vs : List V} {ds : List D} {its : List Value} (I : SI K C σ H G W δ) (hp : H p = none) (h : Dens K G vs ds) : SI K C σ (upd H p (.frz (tupObj its) (.tup vs))) (upd G p (.frz (tupObj its) (.tup vs))) (fun a => if a = p then none else W a) δ ∧ Den K (upd G p (.frz (tupObj its) (.tup vs))) (.ref p) (.tup ds) := by
  have m := I.fresh hp
  exact ⟨(I.lay hp).publish upd_same m (fun i d _ => by simp), .tup' (.inl ⟨_, upd_same, rfl⟩) (h.mono (Ex.new m.1))⟩
theorem SI.newLst {C : Ct} {σ : St} {H G : Hp} {W : Ow} {δ : List R} {p : Addr} {vs : List V} {ds : List D} (I : SI K C σ H G W δ) (hp : H p = none) (h : Dens K G vs ds) : SI K C σ (upd H p (.lst vs)) G (fun a => if a = p then none else W a) δ ∧ ROk K C σ (upd H p (.lst vs)) G (fun a => if a = p then none else W a) none (.ref p) (.own (.lst ds)) := by
  have m := I.fresh hp
  exact ⟨I.lay hp, p, rfl, m, if_pos rfl, vs, upd_same, h⟩
/-- the state with a new tuple laid -/
theorem layTup {X : Cx} {pins : List (Addr × Obj)} {σ : St} {H : Hp} {s : Shared} {vs : List V} {its : List Value} (I : Inv X pins σ H s) (r : Vals vs its) (l : vs.length ≤ sizeLine) (tk : Nat) :
    Inv X pins σ (upd H s.heap.objs.size (.frz (tupObj its) (.tup vs))) { s with heap := s.heap.push (tupObj its), toks := tk } :=
  I.laid (fun _ _ z => Heap.get?_push_of_some _ z) (Nat.le_refl _) ⟨Heap.get?_push_size _ rfl, l, its, r, PyProof.Rows.IsTup.new _ _⟩
def tTupF (t : TA) : TE := fun σ H Q => t σ H fun xs H1 => xs.length ≤ sizeLine ∧ ∀ p its, H1 p = none → Q (.ref p) (upd H1 p (.frz (tupObj its) (.tup xs)))
theorem pe_tupF {x1} {t : TA} (h : PA X es t) : PE X (.Tuple es x1 pos) (tTupF t) := ⟨fun pins s σ H Q I hq => wpAny_Tuple_spliced (thn (h.run pos pins s σ H _ I hq) fun us s1 z => by
  obtain ⟨vs, H1, J, rv, l, k⟩ := z
  exact ⟨by rw [← rv.length]; exact l, .ref s1.heap.objs.size, _, layTup J rv l s1.toks, rfl, k _ us (J.hok.fresh (Nat.le_refl _))⟩)⟩
theorem de_tup {x1} {da : DA} (h : PA X es (liftA X.K L da)) : PE X (.Tuple es x1 pos) (lift X.K L (dTup da)) :=
  PE.weak (pe_tupF h) <| lift_of fun C σ H G W δ P Q I lk h k => ⟨C, G, W, δ, _, I, lk, h, fun rs δ1 vs H1 G1 W1 h1 x1 I1 o1 => by
    obtain ⟨rs', δ2, ds, e1, e2, hl, hp⟩ := h1
    obtain ⟨G2, x2, I2, o2⟩ := I1.useAllOk o1 e1
    have dn := vals_ok o2 e2
    refine ⟨by rw [dn.1]; exact hl, fun p its np => ?_⟩
    obtain ⟨I3, dd⟩ := I2.newTup (its := its) np dn
    exact k _ δ2 _ _ _ _ hp ((x1.trans x2).trans (Ex.new (I2.fresh np).1)) I3 dd⟩
theorem de_lst {da : DA} (h : PA X es (liftA X.K L da)) : PE X (.List es pos) (lift X.K L (dLst da)) :=
  PE.weak (pe_lst h) <| lift_of fun C σ H G W δ P Q I lk h k => ⟨C, G, W, δ, _, I, lk, h, fun rs δ1 vs H1 G1 W1 h1 x1 I1 o1 => by
    obtain ⟨rs', δ2, ds, e1, e2, hl, hp⟩ := h1
    obtain ⟨G2, x2, I2, o2⟩ := I1.useAllOk o1 e1
    have dn := vals_ok o2 e2
    refine ⟨by rw [dn.1]; exact hl, fun p np => ?_⟩
    obtain ⟨I3, dd⟩ := I2.newLst np dn
    exact k _ δ2 _ _ _ _ hp (x1.trans x2) I3 dd⟩
end
end DL

namespace DL
open PySem PySem.Spec L2

/-! ### statements over data -/
structure DEnds where
  nx : List R → Prop
  rt : R → List R → Prop
  bk : List R → Prop := fun _ => False
  ct : List R → Prop := fun _ => False
abbrev DS := DEnds → List R → Prop
def R.fine : R → Bool
  | .no => false
  | .bor _ => false
  | .pk _ => false
  | _ => true
structure Links (K : PySem.W.Frag) (C : Ct) (G : Hp) (D : Ends) (DD : DEnds) : Prop where
  nx : ∀ σ' H' G' W' δ', Ex G G' → SI K C σ' H' G' W' δ' → DD.nx δ' → D.nx σ' H'
  rt : ∀ v σ' H' G' W' δ' r, Ex G G' → SI K C σ' H' G' W' δ' → ROk K C σ' H' G' W' none v r → r.fine = true → DD.rt r δ' → D.rt v H'
  bk : ∀ σ' H' G' W' δ', Ex G G' → SI K C σ' H' G' W' δ' → DD.bk δ' → D.bk σ' H'
  ct : ∀ σ' H' G' W' δ', Ex G G' → SI K C σ' H' G' W' δ' → DD.ct δ' → D.ct σ' H'
theorem Links.mono {K : PySem.W.Frag} {C : Ct} {G G1 : Hp} {D : Ends} {DD : DEnds} (h : Links K C G D DD) (x : Ex G G1) : Links K C G1 D DD :=
  ⟨fun σ' H' G' W' δ' z => h.nx σ' H' G' W' δ' (x.trans z), fun v σ' H' G' W' δ' r z => h.rt v σ' H' G' W' δ' r (x.trans z), fun σ' H' G' W' δ' z => h.bk σ' H' G' W' δ' (x.trans z), fun σ' H' G' W' δ' z => h.ct σ' H' G' W' δ' (x.trans z)⟩
def liftS (K : PySem.W.Frag) (L : Lk) (ds : DS) : TS := fun D σ H => ∃ (C : Ct) (G : Hp) (W : Ow) (δ : List R) (DD : DEnds), SI K C σ H G W δ ∧ Lnk K L C G ∧ ds DD δ ∧ Links K C G D DD
abbrev DG := D → List R → (List R → Prop) → Prop
def liftG (K : PySem.W.Frag) (dg : DG) : TG := fun v σ H Q => ∃ (C : Ct) (G : Hp) (W : Ow) (δ : List R) (d : D) (P : List R → Prop), SI K C σ H G W δ ∧ Den K G v d ∧ dg d δ P ∧
  ∀ σ' H' G' W' δ', P δ' → Ex G G' → SI K C σ' H' G' W' δ' → Q σ' H'

section
variable {K : PySem.W.Frag} {L : Lk} {C : Ct} {σ : St} {H G : Hp} {W : Ow} {δ : List R}
theorem gt_len : ∀ {δ : List R} {i : Nat}, gt δ i ≠ .no → i < δ.length
  | [], _, h => absurd rfl h
  | _ :: _, 0, _ => Nat.zero_lt_succ _
  | _ :: xs, n + 1, h => Nat.succ_lt_succ (gt_len (δ := xs) (i := n) h)
theorem gt_st_here : ∀ {δ : List R} {i : Nat} {r : R}, i < δ.length → gt (st δ i r) i = r
  | [], _, _, h => absurd h (Nat.not_lt_zero _)
  | _ :: _, 0, _, _ => rfl
  | _ :: xs, n + 1, r, h => gt_st_here (δ := xs) (i := n) (Nat.lt_of_succ_lt_succ h)
/-- slots, when another one is stored -/
theorem SI.others {v : V} {r : R} {i j : Nat} {W' : Ow} (I : SI K C σ H G W δ) (e : i ≠ j) (hj : gt (st δ i r) j ≠ .no) (hw : ∀ q, W q = some j → W' q = some j) : ∃ w, (σ.set i (some v))[j]? = some (some w) ∧ ROk K C (σ.set i (some v)) H G W' (some j) w (gt (st δ i r) j) := by
  rw [gt_st_ne δ i j r e] at hj ⊢
  obtain ⟨w, h1, h2⟩ := I.sl j hj
  refine ⟨w, by rw [List.getElem?_set_ne e]; exact h1, ?_⟩
  cases q : gt δ j with
  | no => exact trivial
  | val d => rw [q] at h2; exact h2
  | bag => rw [q] at h2; exact h2
  | own d =>
    rw [q] at h2
    obtain ⟨p, e1, m, h5, h6⟩ := h2
    exact ⟨p, e1, m, hw p h5, h6⟩
  | pk k => rw [q] at h2; exact absurd h2.1 (by simp)
  | bor d => rw [q] at h2; exact ⟨by simp, h2.2⟩
/-- a slot is stored -/
theorem SI.store {v : V} {r : R} {i : Nat} (I : SI K C σ H G W δ) (hr : ROk K C σ H G W none v r) (nk : ∀ j, r ≠ .pk j) : ∃ W', SI K C (σ.set i (some v)) H G W' (st δ i r) := by
  have hs : i < δ.length → (σ.set i (some v))[i]? = some (some v) := fun h => by
    have : i < σ.length := Nat.lt_of_lt_of_le h I.ln
    simp [this]
  have mk : ∀ W' : Ow, (∀ j q, i ≠ j → W q = some j → W' q = some j) → ROk K C (σ.set i (some v)) H G W' (some i) v r → SI K C (σ.set i (some v)) H G W' (st δ i r) := fun W' hw ho =>
    ⟨I.gh, I.g0, I.hh, I.gz, I.b0, I.bag, I.tm, I.mu, by rw [st_len, List.length_set]; exact I.ln, fun j hj => by
      by_cases e : i = j
      · subst e
        have hl : i < δ.length := by have := gt_len hj; rwa [st_len] at this
        rw [gt_st_here hl]
        exact ⟨v, hs hl, ho⟩
      · exact I.others e hj fun q hq => hw j q e hq⟩
  cases r with
  | no => exact ⟨W, mk W (fun _ _ _ h => h) trivial⟩
  | val d => exact ⟨W, mk W (fun _ _ _ h => h) hr⟩
  | bag => exact ⟨W, mk W (fun _ _ _ h => h) hr⟩
  | pk j => exact absurd rfl (nk j)
  | bor d => exact absurd rfl hr.1
  | own d =>
    obtain ⟨p, e, m, h5, h6⟩ := hr
    refine ⟨fun a => if a = p then some i else W a, mk _ (fun j q hj hq => ?_) ⟨p, e, m, if_pos rfl, h6⟩⟩
    have ne : q ≠ p := by rintro rfl; rw [h5] at hq; cases hq
    show (if q = p then some i else W q) = some j
    rw [if_neg ne]; exact hq
/-- how a result is stored -/
def asR : R → List R → Option (R × List R)
  | .own d, δ => some (.own d, δ)
  | r, δ => use r δ
theorem use_nk {r r' : R} {δ δ' : List R} (e : use r δ = some (r', δ')) : ∀ j, r' ≠ .pk j := by
  intro j z; subst z
  cases r with
  | no => cases e
  | bor d => cases e
  | val d => cases e
  | bag => cases e
  | own d => cases e
  | pk i =>
    have e : usePk (gt δ i) i δ = some (.pk j, δ') := e
    cases q : gt δ i <;> rw [q] at e <;> cases e
theorem SI.asOk {v : V} {r r' : R} {δ' : List R} (I : SI K C σ H G W δ) (h : ROk K C σ H G W none v r) (e : asR r δ = some (r', δ')) : ∃ G', Ex G G' ∧ SI K C σ H G' W δ' ∧ ROk K C σ H G' W none v r' ∧ ∀ j, r' ≠ .pk j := by
  by_cases q : ∃ d, r = .own d
  · obtain ⟨d, rfl⟩ := q
    cases e
    exact ⟨G, Ex.refl G, I, h, fun j z => by cases z⟩
  · have e' : use r δ = some (r', δ') := by
      cases r with
      | own d => exact absurd ⟨d, rfl⟩ q
      | no => exact e
      | bor d => exact e
      | val d => exact e
      | bag => exact e
      | pk j => exact e
    obtain ⟨G', x, I', o, _⟩ := I.useOk h e'
    exact ⟨G', x, I', o, use_nk e'⟩
/-- how a result is returned -/
def retPk : R → Nat → List R → Option (R × List R)
  | .val d, _, δ => some (.val d, δ)
  | .own d, i, δ => some (.own d, st δ i .no)
  | .bag, _, δ => some (.bag, δ)
  | .no, _, _ => none
  | .pk _, _, _ => none
  | .bor _, _, _ => none
def retR : R → List R → Option (R × List R)
  | .pk i, δ => retPk (gt δ i) i δ
  | .val d, δ => some (.val d, δ)
  | .own d, δ => some (.own d, δ)
  | .bag, δ => some (.bag, δ)
  | .no, _ => none
  | .bor _, _ => none
theorem SI.retOk {v : V} {r r' : R} {δ' : List R} (I : SI K C σ H G W δ) (h : ROk K C σ H G W none v r) (e : retR r δ = some (r', δ')) : ∃ W', SI K C σ H G W' δ' ∧ ROk K C σ H G W' none v r' ∧ r'.fine = true := by
  cases r with
  | no => cases e
  | bor d => cases e
  | val d => cases e; exact ⟨W, I, h, rfl⟩
  | bag => cases e; exact ⟨W, I, h, rfl⟩
  | own d => cases e; exact ⟨W, I, h, rfl⟩
  | pk i =>
    have e : retPk (gt δ i) i δ = some (r', δ') := e
    have hn : gt δ i ≠ .no := by intro z; rw [z] at e; cases e
    obtain ⟨v', h1, h2⟩ := I.sl i hn
    have : v = v' := by have := h.2.symm.trans h1; simpa using this
    subst this
    cases q : gt δ i with
    | no => exact absurd q hn
    | pk j => rw [q] at e; cases e
    | bor d => rw [q] at e; cases e
    | val d => rw [q] at e h2; cases e; exact ⟨W, I, h2, rfl⟩
    | bag => rw [q] at e h2; cases e; exact ⟨W, I, h2, rfl⟩
    | own d =>
      rw [q] at e h2; cases e
      obtain ⟨p, e1, m, h5, h6⟩ := h2
      refine ⟨fun a => if a = p then none else W a, (I.drop i).disown fun j d' q' hj hq _ _ => ?_, ⟨p, e1, m, if_pos rfl, h6⟩, rfl⟩
      obtain ⟨ne, _⟩ := gt_put_own (d := d) hj
      rintro rfl
      rw [h5] at hq
      exact ne (Option.some.inj hq)
theorem liftS_of {t : TS} {ds : DS} (h : ∀ C D σ H G W δ DD, SI K C σ H G W δ → Lnk K L C G → ds DD δ → Links K C G D DD → t D σ H) : ∀ D σ H, liftS K L ds D σ H → t D σ H :=
  fun D σ H ⟨C, G, W, δ, DD, I, lk, hd, k⟩ => h C D σ H G W δ DD I lk hd k
end

def dNext : DS := fun DD δ => DD.nx δ
def dSq (a b : DS) : DS := fun DD δ => a { DD with nx := b DD } δ
def dBreak : DS := fun DD δ => DD.bk δ
def dCont : DS := fun DD δ => DD.ct δ
def dExpr (de : DE) : DS := fun DD δ => de δ fun _ δ1 => DD.nx δ1
def dRet (de : DE) : DS := fun DD δ => de δ fun r δ1 => ∃ r' δ2, retR r δ1 = some (r', δ2) ∧ DD.rt r' δ2
def dRetN : DS := fun DD δ => DD.rt (.val .non) δ
def dIfS (t : DT) (a b : DS) : DS := fun DD δ => t δ fun c δ1 => (c = true → a DD δ1) ∧ (c = false → b DD δ1)
def dSet (i : Nat) (de : DE) : DS := fun DD δ => de δ fun r δ1 => ∃ r' δ2, asR r δ1 = some (r', δ2) ∧ DD.nx (st δ2 i r')
section
variable {X : Cx} {K : PySem.W.Frag} {L : Lk} {pos : Pos} {e : Expr} {de : DE} {sm : Stmt} {rest body orelse : List Stmt} {a b : DS} {ta : DT}
theorem dss_nil : PSs X [] (liftS X.K L dNext) := PSs.weak pss_nil <| liftS_of fun C D σ H G W δ DD I lk h k => k.nx σ H G W δ (Ex.refl G) I h
theorem lift_seq : ∀ D σ H, liftS K L (dSq a b) D σ H → tSeq (liftS K L a) (liftS K L b) D σ H := liftS_of fun C D σ H G W δ DD I lk h k =>
  ⟨C, G, W, δ, { DD with nx := b DD }, I, lk, h, ⟨fun σ' H' G' W' δ' x I' h' => ⟨C, G', W', δ', DD, I', lk.mono x, h', k.mono x⟩, k.rt, k.bk, k.ct⟩⟩
theorem dss_cons (h1 : PS X sm (liftS X.K L a)) (h2 : PSs X rest (liftS X.K L b)) : PSs X (sm :: rest) (liftS X.K L (dSq a b)) := PSs.weak (pss_cons h1 h2) lift_seq
theorem dss_one (h1 : PS X sm (liftS X.K L a)) : PSs X [sm] (liftS X.K L a) := pss_one h1
theorem ds_pass : PS X (.Pass pos) (liftS X.K L dNext) := PS.weak ps_pass <| liftS_of fun C D σ H G W δ DD I lk h k => k.nx σ H G W δ (Ex.refl G) I h
theorem ds_break : PS X (.Break pos) (liftS X.K L dBreak) := PS.weak ps_break <| liftS_of fun C D σ H G W δ DD I lk h k => k.bk σ H G W δ (Ex.refl G) I h
theorem ds_continue : PS X (.Continue pos) (liftS X.K L dCont) := PS.weak ps_continue <| liftS_of fun C D σ H G W δ DD I lk h k => k.ct σ H G W δ (Ex.refl G) I h
theorem ds_expr (he : PE X e (lift X.K L de)) (hs : swapsWith e none pos.line X.env = pure false := by rfl) : PS X (.Expr e pos) (liftS X.K L (dExpr de)) :=
  PS.weak (ps_expr he hs) <| liftS_of fun C D σ H G W δ DD I lk h k => ⟨C, G, W, δ, _, I, lk, h, fun r δ1 v H1 G1 W1 h1 x1 I1 o1 => k.nx σ H1 G1 W1 δ1 x1 I1 h1⟩
theorem ds_ret (he : PE X e (lift X.K L de)) : PS X (.Return (some e) pos) (liftS X.K L (dRet de)) :=
  PS.weak (ps_ret he) <| liftS_of fun C D σ H G W δ DD I lk h k => ⟨C, G, W, δ, _, I, lk, h, fun r δ1 v H1 G1 W1 h1 x1 I1 o1 => by
    obtain ⟨r', δ2, e, hp⟩ := h1
    obtain ⟨W2, I2, o2, fi⟩ := I1.retOk o1 e
    exact k.rt v σ H1 G1 W2 δ2 r' x1 I2 o2 fi hp⟩
theorem ds_retN : PS X (.Return none pos) (liftS X.K L dRetN) :=
  PS.weak ps_retN <| liftS_of fun C D σ H G W δ DD I lk h k => k.rt .non σ H G W δ (.val .non) (Ex.refl G) I Den.non rfl h
theorem ds_if {c : Expr} (hc : PT X c (liftT X.K L ta)) (ha : PSs X body (liftS X.K L a)) (hb : PSs X orelse (liftS X.K L b)) : PS X (.If c body orelse pos) (liftS X.K L (dIfS ta a b)) :=
  PS.weak (ps_if hc ha hb) <| liftS_of fun C D σ H G W δ DD I lk h k => ⟨C, G, W, δ, _, I, lk, h, fun c δ1 H1 G1 W1 h1 x1 I1 => by
    cases c with
    | true => exact ⟨C, G1, W1, δ1, DD, I1, lk.mono x1, h1.1 rfl, k.mono x1⟩
    | false => exact ⟨C, G1, W1, δ1, DD, I1, lk.mono x1, h1.2 rfl, k.mono x1⟩⟩
theorem ds_set {i : Nat} {x : Str} {pos' : Pos} (hN : X.N.Nodup) (he : PE X e (lift X.K L de)) (hi : X.N[i]? = some x := by rfl) (hx : Loc X.env.scope x := by first | exact Or.inl rfl | exact Or.inr rfl) (hs : swapsWith e (some (.Name x pos')) pos.line X.env = pure false := by rfl) (hf : X.fn x = true ∨ X.env.scope.names.lookup x = some .local := by first | exact .inl rfl | exact .inr rfl | assumption) :
    PS X (.Assign [.Name x pos'] e pos) (liftS X.K L (dSet i de)) :=
  PS.weak (ps_set (i := i) hN hi hx he hs hf) <| liftS_of fun C D σ H G W δ DD I lk h k => ⟨C, G, W, δ, _, I, lk, h, fun r δ1 v H1 G1 W1 h1 x1 I1 o1 => by
    obtain ⟨r', δ2, e, hp⟩ := h1
    obtain ⟨G2, x2, I2, o2, nk⟩ := I1.asOk o1 e
    obtain ⟨W3, I3⟩ := I2.store (i := i) o2 nk
    exact k.nx _ H1 G2 W3 _ (x1.trans x2) I3 hp⟩

/-! ### targets -/
def gN (i : Nat) : DG := fun d δ P => P (st δ i (.val d))
abbrev DGs := List D → List R → (List R → Prop) → Prop
def gsNil : DGs := fun ds δ P => ds = [] ∧ P δ
def gsCons (g : DG) (u : DGs) : DGs := fun ds δ P => ∃ d r, ds = d :: r ∧ g d δ fun δ' => u r δ' P
def gT (n : Nat) (u : DGs) : DG := fun d δ P => ∃ ds, d = .tup ds ∧ ds.length = n ∧ u ds δ P
def liftGs (K : PySem.W.Frag) (dg : DGs) : TGs := fun vs σ H Q => ∃ (C : Ct) (G : Hp) (W : Ow) (δ : List R) (ds : List D) (P : List R → Prop), SI K C σ H G W δ ∧ Dens K G vs ds ∧ dg ds δ P ∧
  ∀ σ' H' G' W' δ', P δ' → Ex G G' → SI K C σ' H' G' W' δ' → Q σ' H'
variable {tg : Expr} {ts : List Expr} {g : DG} {gs : DGs}
theorem PG.weak {t t' : TG} (h : PG X tg t) (w : ∀ v σ H Q, t' v σ H Q → t v σ H Q) : PG X tg t' := ⟨fun pins s σ H v u Q I r q => h.run pins s σ H v u Q I r (w v σ H Q q)⟩
theorem PGs.weak {t t' : TGs} (h : PGs X ts t) (w : ∀ v σ H Q, t' v σ H Q → t v σ H Q) : PGs X ts t' := ⟨fun pins s σ H v u Q I r q => h.run pins s σ H v u Q I r (w v σ H Q q)⟩
theorem dg_name {i : Nat} {x : Str} (hN : X.N.Nodup) (hi : X.N[i]? = some x := by rfl) (hx : Loc X.env.scope x := by first | exact Or.inl rfl | exact Or.inr rfl) (hf : X.fn x = true ∨ X.env.scope.names.lookup x = some .local := by first | exact .inl rfl | exact .inr rfl | assumption) : PG X (.Name x pos) (liftG X.K (gN i)) :=
  PG.weak (pg_name (i := i) hN hi hx hf) fun v σ H Q ⟨C, G, W, δ, d, P, I, dn, h, k⟩ => by
    obtain ⟨W', I'⟩ := I.store (i := i) (r := .val d) dn (fun j z => by cases z)
    exact k _ H G W' _ h (Ex.refl G) I'
theorem dgs_nil : PGs X [] (liftGs X.K gsNil) := PGs.weak pgs_nil fun vs σ H Q ⟨C, G, W, δ, ds, P, I, dn, h, k⟩ => by
  obtain ⟨rfl, hp⟩ := h
  exact ⟨dn.nil_right, k σ H G W δ hp (Ex.refl G) I⟩
theorem dgs_cons {es : List Expr} (h1 : PG X tg (liftG X.K g)) (h2 : PGs X es (liftGs X.K gs)) (hs : (assignEach (tg :: es) X.env).map (·.2) = assign tg X.env :: (assignEach es X.env).map (·.2) := by rfl) : PGs X (tg :: es) (liftGs X.K (gsCons g gs)) :=
  PGs.weak (pgs_cons h1 h2 hs) fun vs σ H Q ⟨C, G, W, δ, ds, P, I, dn, h, k⟩ => by
    obtain ⟨d, r, rfl, h⟩ := h
    obtain ⟨v, vr, rfl, d1, d2⟩ := dn.cons_right
    refine ⟨v, vr, rfl, C, G, W, δ, d, _, I, d1, h, fun σ1 H1 G1 W1 δ1 h1 x1 I1 => ?_⟩
    exact ⟨C, G1, W1, δ1, r, P, I1, Dens.mono d2 x1, h1, fun σ2 H2 G2 W2 δ2 hp x2 I2 => k σ2 H2 G2 W2 δ2 hp (x1.trans x2) I2⟩
theorem dg_tup {es : List Expr} {kk : Nat} {n : Nat} (hc : X.calm = true) (h : PGs X es (liftGs X.K gs)) (hn : (assignEach es X.env).length = n := by rfl) (hst : (assignEach es X.env).findIdx? (·.1) = none := by rfl) : PG X (.Tuple es kk pos) (liftG X.K (gT n gs)) :=
  PG.weak (pg_tup hc h hn hst) fun v σ H Q ⟨C, G, W, δ, d, P, I, dn, h, k⟩ => by
    obtain ⟨ds, rfl, hl, h⟩ := h
    obtain ⟨a, vs, rfl, hs, hd⟩ := dn.of_tup
    exact ⟨a, vs, rfl, ex_t I.gh hs, by rw [hd.1]; exact hl, C, G, W, δ, ds, P, I, hd, h, k⟩
/-- a, b = e -/
def dAsg (de : DE) (g : DG) : DS := fun DD δ => de δ fun r δ1 => ∃ d δ2, use r δ1 = some (.val d, δ2) ∧ g d δ2 DD.nx
theorem ds_asg (he : PE X e (lift X.K L de)) (hg : PG X tg (liftG X.K g)) (hs : swapsWithSole [tg] e pos.line X.env = pure false := by rfl) (hw : swappedStores [tg] e X.env = pure none := by rfl) (h1 : (assignEach [tg] X.env).map (·.2) = [assign tg X.env] := by rfl) : PS X (.Assign [tg] e pos) (liftS X.K L (dAsg de g)) :=
  PS.weak (ps_asg he hg hs hw h1) <| liftS_of fun C D σ H G W δ DD I lk h k => ⟨C, G, W, δ, _, I, lk, h, fun r δ1 v H1 G1 W1 h1 x1 I1 o1 => by
    obtain ⟨d, δ2, e, hg⟩ := h1
    obtain ⟨G2, x2, I2, o2, _⟩ := I1.useOk o1 e
    exact ⟨C, G2, W1, δ2, d, _, I2, o2, hg, fun σ' H' G' W' δ' hp x' I' => k.nx σ' H' G' W' δ' ((x1.trans x2).trans x') I' hp⟩⟩

/-! ### what is walked -/
structure JOk (K : PySem.W.Frag) (C : Ct) (G : Hp) (J : It) (ds : List D) : Prop where
  go : ∀ (i : Nat) σ H G' W δ, i < ds.length → Ex G G' → SI K C σ H G' W δ → J.go i H
  stop : ∀ σ H G' W δ, Ex G G' → SI K C σ H G' W δ → J.stop ds.length H
  yld : ∀ (i : Nat) d σ H G' W δ x H', ds[i]? = some d → Ex G G' → SI K C σ H G' W δ → J.yld i H x H' → ∃ G'' W'', Ex G' G'' ∧ SI K C σ H' G'' W'' δ ∧ Den K G'' x d
abbrev DI := List R → (List D → List R → Prop) → Prop
/-- walked in C, or in C with something held -/
structure Less (C C' : Ct) : Prop where
  bo : C'.bo = C.bo
  mo : C'.mo = C.mo
  h0 : C'.H0 = C.H0
  g0 : C'.G0 = C.G0
  tm : ∀ a o, C.T a = some o → C'.T a = some o
theorem Less.refl (C : Ct) : Less C C := ⟨rfl, rfl, rfl, rfl, fun _ _ h => h⟩
theorem SI.less {C C' : Ct} {σ : St} {H G : Hp} {W : Ow} {δ : List R} (l : Less C C') (I : SI K C' σ H G W δ) : SI K C σ H G W δ := by
  obtain ⟨bo, mo, H0, G0, T⟩ := C
  obtain ⟨bo', mo', H0', G0', T'⟩ := C'
  obtain ⟨e1, e0, e2, e3, e4⟩ := l
  simp only at e1 e0 e2 e3 e4
  subst e1; subst e0; subst e2; subst e3
  have tz : ∀ p, T' p = none → T p = none := fun p m4 => by
    cases z : T p with
    | none => rfl
    | some o => have := e4 p o z; rw [this] at m4; cases m4
  refine ⟨I.gh, I.g0, I.hh, I.gz, I.b0, I.bag, fun a o e => I.tm a o (e4 a o e), fun p hp => ?_, I.ln, fun i hi => ?_⟩
  · obtain ⟨m1, m2, m3, m4, m5⟩ := I.mu p hp
    exact ⟨m1, m2, m3, tz p m4, m5⟩
  obtain ⟨v, h1, h2⟩ := I.sl i hi
  refine ⟨v, h1, ?_⟩
  cases q : gt δ i with
  | no => exact trivial
  | val d => rw [q] at h2; exact h2
  | bag => rw [q] at h2; exact h2
  | pk j => rw [q] at h2; exact h2
  | bor d => rw [q] at h2; exact h2
  | own d =>
    rw [q] at h2
    obtain ⟨p, e, ⟨m1, m2, m3, m4⟩, h5, h6⟩ := h2
    refine ⟨p, e, ⟨m1, m2, m3, ?_⟩, h5, h6⟩
    show T p = none
    have m4 : T' p = none := m4
    cases z : T p with
    | none => rfl
    | some o => have := e4 p o z; rw [this] at m4; cases m4
def liftI (K : PySem.W.Frag) (L : Lk) (di : DI) : TI := fun σ H Q => ∃ (C : Ct) (G : Hp) (W : Ow) (δ : List R) (P : List D → List R → Prop), SI K C σ H G W δ ∧ Lnk K L C G ∧ di δ P ∧
  ∀ ds δ' J H' G' W', P ds δ' → Ex G G' → SI K C σ H' G' W' δ' → (∀ C' : Ct, True → JOk K C' G' J ds) → Q J H'
theorem PI.weak {iter : Expr} {t t' : TI} (h : PI X tg iter t) (w : ∀ σ H Q, t' σ H Q → t σ H Q) : PI X tg iter t' := ⟨fun pins s σ H Q I q => h.run pins s σ H Q I (w σ H Q q)⟩
/-- a list or a tuple -/
def iSeq (K : PySem.W.Frag) (tl : TE) : TI := fun σ H R => tl σ H fun x H1 => ∃ a, x = .ref a ∧ (((∃ xs, SqL K H1 a xs) ∧ R (Itl K a) H1) ∨ ((∃ xs, SqT K H1 a xs) ∧ R (Itt K a) H1))
theorem pi_seq {l : Expr} {tl : TE} (hl : PE X l tl) : PI X tg l (iSeq X.K tl) := by
  constructor
  intro pins s σ H R I h
  refine thn (hl.run pins s σ H _ I h) fun v s1 z => ?_
  obtain ⟨x, H1, J, rx, a, rfl, w⟩ := z
  cases rx
  have fp : ∀ b ∈ [s1.heap.objs.size], FpOk X pins H1 b := fun b hb => by
    rw [List.mem_singleton] at hb
    exact hb ▸ J.fpOk (Nat.le_refl _) (J.hok.fresh (Nat.le_refl _))
  have kp : ∀ (o : Obj) b u, s1.heap.get? b = some u → (s1.heap.push o).get? b = some u := fun o b u e => Heap.get?_push_of_some _ e
  rcases w with ⟨⟨xs, hq⟩, q⟩ | ⟨⟨xs, hq⟩, q⟩
  · obtain ⟨ws, _, pl, _⟩ := J.list hq
    exact wpAny_pyIter_list pl.isList ⟨_, _, _, _, H1, rfl, J.kept (t' := s1.toks) (kp _), turn_list a _, ⟨_, Heap.get?_push_size _ rfl, rfl, rfl⟩, fp, q⟩
  · obtain ⟨ws, _, pl, _⟩ := J.tuple hq
    exact wpAny_pyIter_tuple (show s1.heap.IsTuple a ws.toArray from pl) ⟨_, _, _, _, H1, rfl, J.kept (t' := s1.toks) (kp _), turn_tuple a _, ⟨_, Heap.get?_push_size _ rfl, rfl, rfl⟩, fp, q⟩
def D.items : D → Option (List D)
  | .lst ds => some ds
  | .tup ds => some ds
  | _ => none
def diSeq (de : DE) : DI := fun δ P => de δ fun r δ1 => ∃ d δ2 ds, use r δ1 = some (.val d, δ2) ∧ d.items = some ds ∧ P ds δ2
theorem jok_list {C : Ct} {G : Hp} {a : Addr} {vs : List V} {ds : List D} (h0 : G a = some (.lst vs)) (e : Dens K G vs ds) : JOk K C G (Itl K a) ds where
  go := fun i σ H G' W δ hi x I => by
    have hv : i < vs.length := by rw [e.1]; exact hi
    exact ⟨vs, vs[i], SqL.of (I.gh _ _ (x _ _ h0)), by simp [hv]⟩
  stop := fun σ H G' W δ x I => ⟨vs, SqL.of (I.gh _ _ (x _ _ h0)), by rw [e.1]; exact Nat.le_refl _⟩
  yld := fun i d σ H G' W δ v H' hd x I y => by
    obtain ⟨rfl, y⟩ := y
    have hv := y vs (SqL.of (I.gh _ _ (x _ _ h0)))
    exact ⟨G', W, Ex.refl G', I, (e.2 i v d hv hd).mono x⟩
theorem jok_tup {C : Ct} {G : Hp} {a : Addr} {vs : List V} {ds : List D} (h : SqT K G a vs) (e : Dens K G vs ds) : JOk K C G (Itt K a) ds where
  go := fun i σ H G' W δ hi x I => by
    have hv : i < vs.length := by rw [e.1]; exact hi
    exact ⟨vs, vs[i], ex_t I.gh (ex_t x h), by simp [hv]⟩
  stop := fun σ H G' W δ x I => ⟨vs, ex_t I.gh (ex_t x h), by rw [e.1]; exact Nat.le_refl _⟩
  yld := fun i d σ H G' W δ v H' hd x I y => by
    obtain ⟨rfl, y⟩ := y
    have hv := y vs (ex_t I.gh (ex_t x h))
    exact ⟨G', W, Ex.refl G', I, (e.2 i v d hv hd).mono x⟩
theorem liftI_of {t : TI} {di : DI} (h : ∀ C σ H G W δ P (Q : It → Hp → Prop), SI K C σ H G W δ → Lnk K L C G → di δ P → (∀ ds δ' J H' G' W', P ds δ' → Ex G G' → SI K C σ H' G' W' δ' → (∀ C' : Ct, True → JOk K C' G' J ds) → Q J H') → t σ H Q) : ∀ σ H Q, liftI K L di σ H Q → t σ H Q :=
  fun σ H Q ⟨C, G, W, δ, P, I, lk, hd, k⟩ => h C σ H G W δ P Q I lk hd k
theorem di_seq {l : Expr} (hl : PE X l (lift X.K L de)) : PI X tg l (liftI X.K L (diSeq de)) :=
  PI.weak (pi_seq hl) <| liftI_of fun C σ H G W δ P Q I lk h k => ⟨C, G, W, δ, _, I, lk, h, fun r δ1 v H1 G1 W1 h1 x1 I1 o1 => by
    obtain ⟨d, δ2, ds, e1, e2, hp⟩ := h1
    obtain ⟨G2, x2, I2, o2, _⟩ := I1.useOk o1 e1
    have o2 : Den X.K G2 v d := o2
    cases d with
    | lst ds' =>
      cases e2
      obtain ⟨a, vs, rfl, hs, hd⟩ := o2.of_lst
      exact ⟨a, rfl, .inl ⟨⟨vs, .of (I2.gh _ _ hs)⟩, k ds δ2 _ H1 G2 W1 hp (x1.trans x2) I2 fun C' _ => jok_list hs hd⟩⟩
    | tup ds' =>
      cases e2
      obtain ⟨a, vs, rfl, hs, hd⟩ := o2.of_tup
      exact ⟨a, rfl, .inr ⟨⟨vs, ex_t I2.gh hs⟩, k ds δ2 _ H1 G2 W1 hp (x1.trans x2) I2 fun C' _ => jok_tup hs hd⟩⟩
    | non => cases e2
    | bl => cases e2
    | int => cases e2
    | str => cases e2
    | dic => cases e2
    | ins => cases e2
    | ty => cases e2
    | exc => cases e2⟩
def rngD (lo : Int) (n : Nat) : List D := (List.range n).map fun (i : Nat) => D.int (lo + (i : Int))
theorem jok_range {C : Ct} {G : Hp} {lo : Int} {n : Nat} : JOk K C G (Itr lo n) (rngD lo n) where
  go := fun i σ H G' W δ hi x I => by show i < n; simpa [rngD] using hi
  stop := fun σ H G' W δ x I => by show n ≤ (rngD lo n).length; simp [rngD]
  yld := fun i d σ H G' W δ v H' hd x I y => by
    obtain ⟨rfl, rfl⟩ := y
    have : d = .int (lo + i) := by
      unfold rngD at hd
      rw [List.getElem?_map] at hd
      cases q : (List.range n)[i]? with
      | none => rw [q] at hd; cases hd
      | some j =>
        rw [q] at hd
        have hj : j = i := by
          rw [List.getElem?_eq_some_iff] at q
          obtain ⟨h1, h2⟩ := q
          simpa using h2.symm
        subst hj
        simpa using hd.symm
    subst this
    exact ⟨G', W, Ex.refl G', I, .int _⟩
def diRng1 (da : DA) : DI := fun δ P => da δ fun rs δ1 => ∃ j : Int, peekAll rs δ1 = some [.int j] ∧ (-(2 ^ 62) ≤ j ∧ j < 2 ^ 62) ∧ P (rngD 0 j.toNat) δ1
def diRng2 (da : DA) : DI := fun δ P => da δ fun rs δ1 => ∃ i j : Int, peekAll rs δ1 = some [.int i, .int j] ∧ (-(2 ^ 62) ≤ i ∧ i < 2 ^ 62 ∧ -(2 ^ 62) ≤ j ∧ j < 2 ^ 62) ∧ P (rngD i (j - i).toNat) δ1
theorem di_rng1 {a : Expr} {da : DA} {p pos : Pos} (hg : Gl X "range") (hm : X.mg "range" = none) (ha : PA X [a] (liftA X.K L da)) (hs : starEach [a] X.env = [(false, eval a X.env)] := by rfl) : PI X tg (.Call (.Name "range" p) [a] [] pos) (liftI X.K L (diRng1 da)) :=
  PI.weak (pi_range1 hg hm ha hs) <| liftI_of fun C σ H G W δ P Q I lk h k => ⟨C, G, W, δ, _, I, lk, h, fun rs δ1 vs H1 G1 W1 h1 x1 I1 o1 => by
    obtain ⟨j, e, hj, hp⟩ := h1
    have z := I1.peekAllOk o1 e
    obtain ⟨v, r, rfl, z1, z2⟩ := z.cons_right
    rw [z2.nil_right]
    have := (z1.den I1.gh).of_int
    subst this
    exact ⟨j, rfl, hj.1, hj.2, k _ δ1 _ H1 G1 W1 hp x1 I1 fun _ _ => jok_range⟩⟩
theorem di_rng2 {a b : Expr} {da : DA} {p pos : Pos} (hg : Gl X "range") (hm : X.mg "range" = none) (ha : PA X [a, b] (liftA X.K L da)) (hs : starEach [a, b] X.env = [(false, eval a X.env), (false, eval b X.env)] := by rfl) (hs2 : starEach [b] X.env = [(false, eval b X.env)] := by rfl) :
    PI X tg (.Call (.Name "range" p) [a, b] [] pos) (liftI X.K L (diRng2 da)) :=
  PI.weak (pi_range2 hg hm ha hs hs2) <| liftI_of fun C σ H G W δ P Q I lk h k => ⟨C, G, W, δ, _, I, lk, h, fun rs δ1 vs H1 G1 W1 h1 x1 I1 o1 => by
    obtain ⟨i, j, e, hj, hp⟩ := h1
    have z := I1.peekAllOk o1 e
    obtain ⟨v, r, rfl, z1, z2⟩ := z.cons_right
    obtain ⟨v', r', rfl, z3, z4⟩ := z2.cons_right
    rw [z4.nil_right]
    have := (z1.den I1.gh).of_int
    subst this
    have := (z3.den I1.gh).of_int
    subst this
    exact ⟨i, j, rfl, hj, k _ δ1 _ H1 G1 W1 hp x1 I1 fun _ _ => jok_range⟩⟩

/-! ### for -/
def dLoop (g : DG) (b : DS) (DD : DEnds) : List D → List R → Prop
  | [], δ => DD.nx δ
  | d :: ds, δ => g d δ fun δ1 => b { DD with nx := dLoop g b DD ds, ct := dLoop g b DD ds, bk := DD.nx } δ1
def dFor (di : DI) (g : DG) (b : DS) : DS := fun DD δ => di δ fun ds δ1 => dLoop g b DD ds δ1
theorem drop_get {α : Type} {xs : List α} {i : Nat} {x : α} (h : xs[i]? = some x) : xs.drop i = x :: xs.drop (i + 1) := by
  obtain ⟨h1, h2⟩ := List.getElem?_eq_some_iff.mp h
  rw [← h2]
  exact List.drop_eq_getElem_cons h1
theorem lift_for {di : DI} : ∀ D σ H, liftS K L (dFor di g b) D σ H → tFor (liftI K L di) (liftG K g) (liftS K L b) D σ H :=
  liftS_of fun C D σ H G W δ DD I lk h k => ⟨C, G, W, δ, _, I, lk, h, fun ds δ1 J H1 G1 W1 h1 x1 I1 jo => by
    have J0 := jo C trivial
    refine ⟨fun i m σ H => i + m = ds.length ∧ ∃ G' W' δ', Ex G1 G' ∧ SI K C σ H G' W' δ' ∧ dLoop g b DD (ds.drop i) δ', ⟨ds.length, Nat.zero_add _, G1, W1, δ1, Ex.refl G1, I1, h1⟩, fun i m σ' H' hW => ?_⟩
    obtain ⟨em, G2, W2, δ2, x2, I2, h2⟩ := hW
    by_cases hi : i < ds.length
    · refine .inr ⟨J0.go i σ' H' G2 W2 δ2 hi x2 I2, fun σ3 H3 => ∃ G' W' δ', Ex G1 G' ∧ SI K C σ3 H3 G' W' δ' ∧ dLoop g b DD (ds.drop (i + 1)) δ', fun σ3 H3 h3 => ⟨m - 1, by omega, by omega, h3⟩, fun x H3 hy => ?_⟩
      have hd : ds[i]? = some ds[i] := List.getElem?_eq_getElem hi
      obtain ⟨G3, W3, x3, I3, dn⟩ := J0.yld i ds[i] σ' H' G2 W2 δ2 x H3 hd x2 I2 hy
      rw [drop_get hd] at h2
      refine ⟨C, G3, W3, δ2, ds[i], _, I3, dn, h2, fun σ4 H4 G4 W4 δ4 h4 x4 I4 => ?_⟩
      have xx : Ex G1 G4 := (x2.trans x3).trans x4
      refine ⟨C, G4, W4, δ4, _, I4, lk.mono (x1.trans xx), h4, ⟨fun σ5 H5 G5 W5 δ5 x5 I5 h5 => ⟨G5, W5, δ5, xx.trans x5, I5, h5⟩, (k.mono (x1.trans xx)).rt, fun σ5 H5 G5 W5 δ5 x5 I5 h5 => k.nx σ5 H5 G5 W5 δ5 ((x1.trans xx).trans x5) I5 h5, fun σ5 H5 G5 W5 δ5 x5 I5 h5 => ⟨G5, W5, δ5, xx.trans x5, I5, h5⟩⟩⟩
    · have e : i = ds.length := by omega
      subst e
      rw [List.drop_length] at h2
      exact .inl ⟨J0.stop σ' H' G2 W2 δ2 x2 I2, k.nx σ' H' G2 W2 δ2 (x1.trans x2) I2 h2⟩⟩
theorem ds_for {iter : Expr} {di : DI} (hp : PassesOwn (model X.prog X.w) X.A X.env X.xe) (hc : X.calm = true) (hi : PI X tg iter (liftI X.K L di)) (hg : PG X tg (liftG X.K g)) (hb : PSs X body (liftS X.K L b))
    (hs : ∀ x, foldedSetIterable iter X.env x = pure x := by intro _; rfl) : PS X (.For tg iter body [] pos) (liftS X.K L (dFor di g b)) := PS.weak (ps_for hp hc hi hg hb hs) lift_for
end
end DL

namespace DL
open PySem PySem.Spec L2

/-! ### comprehensions -/
def wipeD (δ : List R) : List Nat → List R
  | [] => δ
  | v :: vs => st (wipeD δ vs) v .no
def R.stay : R → R
  | .val d => .val d
  | .bag => .bag
  | _ => .no
def backD (δ δ0 : List R) : List Nat → List R
  | [] => δ
  | v :: vs => st (backD δ δ0 vs) v (gt δ0 v).stay
def dLc (g : DG) (t : DT) (e : DE) (vs : List Nat) : List D → List D → List R → (List D → List R → Prop) → Prop
  | [], acc, δ, P => P acc δ
  | d :: ds, acc, δ, P => g d δ fun δ1 => t δ1 fun b δ2 => (b = true → e δ2 fun r δ3 => ∃ d' δ4, use r δ3 = some (.val d', δ4) ∧ acc.length < sizeLine ∧ dLc g t e vs ds (acc ++ [d']) (wipeD δ4 vs) P) ∧ (b = false → dLc g t e vs ds acc (wipeD δ2 vs) P)
def dComp (di : DI) (g : DG) (t : DT) (e : DE) (vs : List Nat) : DE := fun δ P => di δ fun ds δ1 => dLc g t e vs ds [] (wipeD δ1 vs) fun acc δ2 => P (.own (.lst acc)) (backD δ2 δ1 vs)
def dYes : DT := fun δ P => P true δ

section
variable {K : PySem.W.Frag} {L : Lk} {C : Ct} {σ σ2 : St} {H G : Hp} {W : Ow} {δ : List R}
theorem gt_wipe (δ : List R) : ∀ (vs : List Nat) (i : Nat), i ∉ vs → gt (wipeD δ vs) i = gt δ i
  | [], _, _ => rfl
  | v :: vs, i, h => by
    show gt (st (wipeD δ vs) v .no) i = _
    rw [gt_st_ne _ _ _ _ (fun e => h (by rw [e]; exact List.mem_cons_self ..))]
    exact gt_wipe δ vs i fun z => h (List.mem_cons_of_mem _ z)
theorem gt_wipe_in (δ : List R) : ∀ (vs : List Nat) (i : Nat), i ∈ vs → gt (wipeD δ vs) i = .no
  | v :: vs, i, h => by
    show gt (st (wipeD δ vs) v .no) i = _
    by_cases e : v = i
    · subst e; rcases gt_st_same (wipeD δ vs) v .no with z | z <;> exact z
    · rw [gt_st_ne _ _ _ _ e]
      rcases List.mem_cons.mp h with z | z
      · exact absurd z.symm e
      · exact gt_wipe_in δ vs i z
theorem wipeD_len (δ : List R) : ∀ vs : List Nat, (wipeD δ vs).length = δ.length
  | [] => rfl
  | v :: vs => by show (st (wipeD δ vs) v .no).length = _; rw [st_len, wipeD_len δ vs]
theorem backD_len (δ δ0 : List R) : ∀ vs : List Nat, (backD δ δ0 vs).length = δ.length
  | [] => rfl
  | v :: vs => by show (st (backD δ δ0 vs) v _).length = _; rw [st_len, backD_len δ δ0 vs]
theorem gt_back (δ δ0 : List R) : ∀ (vs : List Nat) (i : Nat), i ∉ vs → gt (backD δ δ0 vs) i = gt δ i
  | [], _, _ => rfl
  | v :: vs, i, h => by
    show gt (st (backD δ δ0 vs) v _) i = _
    rw [gt_st_ne _ _ _ _ (fun e => h (by rw [e]; exact List.mem_cons_self ..))]
    exact gt_back δ δ0 vs i fun z => h (List.mem_cons_of_mem _ z)
theorem gt_back_in (δ δ0 : List R) : ∀ (vs : List Nat) (i : Nat), i ∈ vs → gt (backD δ δ0 vs) i = (gt δ0 i).stay ∨ gt (backD δ δ0 vs) i = .no
  | v :: vs, i, h => by
    show gt (st (backD δ δ0 vs) v _) i = _ ∨ gt (st (backD δ δ0 vs) v _) i = _
    by_cases e : v = i
    · subst e; exact gt_st_same (backD δ δ0 vs) v _
    · rw [gt_st_ne _ _ _ _ e]
      rcases List.mem_cons.mp h with z | z
      · exact absurd z.symm e
      · exact gt_back_in δ δ0 vs i z
theorem wipe_get {σ : St} : ∀ {vs : List Nat} {i : Nat}, i ∉ vs → (wipe σ vs)[i]? = σ[i]?
  | [], _, _ => rfl
  | v :: vs, i, h => by
    show ((wipe σ vs).set v none)[i]? = _
    rw [List.getElem?_set_ne (fun e => h (by rw [e]; exact List.mem_cons_self ..))]
    exact wipe_get fun z => h (List.mem_cons_of_mem _ z)
/-- the slots of the block's own names are forgotten; σ2 goes along with σ but for them -/
theorem SI.wipe {vs : List Nat} (I : SI K C σ2 H G W δ) (e : L2.wipe σ2 vs = L2.wipe σ vs) : SI K C (L2.wipe σ vs) H G W (wipeD δ vs) := by
  refine ⟨I.gh, I.g0, I.hh, I.gz, I.b0, I.bag, I.tm, I.mu, by rw [wipeD_len, ← e, wipe_length]; exact I.ln, fun i hi => ?_⟩
  by_cases hv : i ∈ vs
  · exact absurd (gt_wipe_in δ vs i hv) hi
  · rw [gt_wipe δ vs i hv] at hi ⊢
    obtain ⟨v, h1, h2⟩ := I.sl i hi
    refine ⟨v, by rw [← e, wipe_get hv]; exact h1, ?_⟩
    cases q : gt δ i with
    | no => exact trivial
    | val d => rw [q] at h2; exact h2
    | bag => rw [q] at h2; exact h2
    | own d => rw [q] at h2; exact h2
    | bor d => rw [q] at h2; exact h2
    | pk j => rw [q] at h2; exact absurd h2.1 (by simp)
/-- back behind the block -/
theorem SI.back {vs : List Nat} {δ0 : List R} {H0 G0 : Hp} {W0 : Ow} (I : SI K C (L2.wipe σ vs) H G W δ) (I0 : SI K C σ H0 G0 W0 δ0) (x : Ex G0 G) : SI K C σ H G W (backD δ δ0 vs) := by
  refine ⟨I.gh, I.g0, I.hh, I.gz, I.b0, I.bag, I.tm, I.mu, by rw [backD_len]; have := I.ln; rwa [wipe_length] at this, fun i hi => ?_⟩
  by_cases hv : i ∈ vs
  · rcases gt_back_in δ δ0 vs i hv with z | z
    · rw [z] at hi ⊢
      have hn : gt δ0 i ≠ .no := fun e => hi (by rw [e]; rfl)
      obtain ⟨v, h1, h2⟩ := I0.sl i hn
      refine ⟨v, h1, ?_⟩
      cases q : gt δ0 i with
      | no => exact absurd q hn
      | val d => rw [q] at h2; exact Den.mono (show Den K G0 v d from h2) x
      | bag => rw [q] at h2; exact h2
      | own d => rw [q] at hi; exact absurd rfl hi
      | bor d => rw [q] at hi; exact absurd rfl hi
      | pk j => rw [q] at hi; exact absurd rfl hi
    · exact absurd z hi
  · rw [gt_back δ δ0 vs i hv] at hi ⊢
    obtain ⟨v, h1, h2⟩ := I.sl i hi
    refine ⟨v, by rw [← wipe_get hv]; exact h1, ?_⟩
    cases q : gt δ i with
    | no => exact trivial
    | val d => rw [q] at h2; exact h2
    | bag => rw [q] at h2; exact h2
    | own d => rw [q] at h2; exact h2
    | bor d => rw [q] at h2; exact h2
    | pk j => rw [q] at h2; exact absurd h2.1 (by simp)
/-- something is held besides -/
def Ct.hold (C : Ct) (p : Addr) (o : HO) : Ct := { C with T := upd C.T p o }
theorem Ct.hold_less {p : Addr} {o : HO} (n : C.T p = none) : Less C (C.hold p o) := ⟨rfl, rfl, rfl, rfl, fun a u e => by show upd C.T p o a = some u; rw [upd_ne (ne_of_none e n)]; exact e⟩
theorem SI.hold {p : Addr} {o : HO} (I : SI K C σ H G W δ) (hp : H p = none) : SI K (C.hold p o) σ (upd H p o) G W δ := by
  have m := I.fresh hp
  have J := I.laid (o := o) hp
  refine ⟨J.gh, J.g0, J.hh, J.gz, J.b0, J.bag, fun a u e => ?_, fun q hq => ?_, J.ln, fun i hi => ?_⟩
  · by_cases ha : a = p
    · subst ha
      have e : upd C.T a o a = some u := e
      rw [upd_same] at e; cases e
      exact ⟨upd_same, m.1, m.2.2.1⟩
    · have e : upd C.T p o a = some u := e
      rw [upd_ne ha] at e
      exact J.tm a u e
  · obtain ⟨m1, m2, m3, m4, m5⟩ := I.mu q hq
    have ne : q ≠ p := by rintro rfl; exact m5 hp
    exact ⟨m1, m2, m3, by show upd C.T p o q = none; rw [upd_ne ne]; exact m4, by rw [upd_ne ne]; exact m5⟩
  · obtain ⟨v, h1, h2⟩ := J.sl i hi
    obtain ⟨v', h1', h2'⟩ := I.sl i hi
    rw [h1] at h1'; cases h1'
    refine ⟨v, h1, ?_⟩
    cases q : gt δ i with
    | no => exact trivial
    | val d => rw [q] at h2; exact h2
    | bag => rw [q] at h2; exact h2
    | pk j => rw [q] at h2; exact absurd h2.1 (by simp)
    | bor d => rw [q] at h2; exact h2
    | own d =>
      rw [q] at h2 h2'
      obtain ⟨a, e, ⟨m1, m2, m3, m4⟩, h5, h6⟩ := h2
      obtain ⟨a', e', _, _, h7⟩ := h2'
      rw [e] at e'; cases e'
      refine ⟨a, e, ⟨m1, m2, m3, ?_⟩, h5, h6⟩
      show upd C.T p o a = none
      rw [upd_ne (h7.at_ne hp)]; exact m4
/-- what is held is changed -/
theorem SI.rehold {p : Addr} {o o' : HO} (I : SI K (C.hold p o) σ H G W δ) (n : C.H0 p = none) : SI K (C.hold p o') σ (upd H p o') G W δ := by
  have hpT : (C.hold p o).T p = some o := upd_same
  obtain ⟨t1, t2, t3⟩ := I.tm p o hpT
  have tn : ∀ q, C.mo = some q → q ≠ p := fun q hq => by
    rintro rfl
    have := (I.mu q hq).2.2.2.1
    rw [hpT] at this; cases this
  refine ⟨fun a u e => ?_, I.g0, fun a u nb nm e => ?_, I.gz, I.b0, fun b hb => ?_, fun a u e => ?_, fun q hq => ?_, I.ln, fun i hi => ?_⟩
  · rw [upd_ne (ne_of_none e t2)]; exact I.gh a u e
  · rw [upd_ne (ne_of_none (H := C.H0) e n)]; exact I.hh a u nb nm e
  · have ne : b ≠ p := by rintro rfl; exact t3 hb
    exact (I.bag b hb).mono (Ex.refl G) (I.bag b hb).1 (upd_ne ne)
  · by_cases ha : a = p
    · subst ha
      have e : upd C.T a o' a = some u := e
      rw [upd_same] at e; cases e
      exact ⟨upd_same, t2, t3⟩
    · have e : upd C.T p o' a = some u := e
      rw [upd_ne ha] at e
      rw [upd_ne ha]
      exact I.tm a u (by show upd C.T p o a = some u; rw [upd_ne ha]; exact e)
  · obtain ⟨m1, m2, m3, m4, m5⟩ := I.mu q hq
    have ne := tn q hq
    have m4 : upd C.T p o q = none := m4
    rw [upd_ne ne] at m4
    exact ⟨m1, m2, m3, by show upd C.T p o' q = none; rw [upd_ne ne]; exact m4, by rw [upd_ne ne]; exact m5⟩
  · obtain ⟨v, h1, h2⟩ := I.sl i hi
    refine ⟨v, h1, ?_⟩
    cases q : gt δ i with
    | no => exact trivial
    | val d => rw [q] at h2; exact h2
    | bag => rw [q] at h2; exact h2
    | pk j => rw [q] at h2; exact absurd h2.1 (by simp)
    | bor d =>
      rw [q] at h2
      obtain ⟨t0, a, e, ev, h6⟩ := h2
      exact ⟨t0, a, e, ev, h6.mono (Ex.refl G) (upd_ne (tn a e))⟩
    | own d =>
      rw [q] at h2
      obtain ⟨a, e, ⟨m1, m2, m3, m4⟩, h5, h6⟩ := h2
      have ne : a ≠ p := by rintro rfl; rw [hpT] at m4; cases m4
      refine ⟨a, e, ⟨m1, m2, m3, ?_⟩, h5, h6.mono (Ex.refl G) (upd_ne ne)⟩
      show upd C.T p o' a = none
      rw [upd_ne ne]
      have m4 : upd C.T p o a = none := m4
      rwa [upd_ne ne] at m4
/-- what is held is one's own -/
theorem SI.unhold {p : Addr} {vs : List V} {ds : List D} (I : SI K (C.hold p (.lst vs)) σ H G W δ) (n0 : C.H0 p = none) (nt : C.T p = none) (h : Dens K G vs ds) : ∃ W', SI K C σ H G W' δ ∧ ROk K C σ H G W' none (.ref p) (.own (.lst ds)) := by
  have hpT : (C.hold p (.lst vs)).T p = some (.lst vs) := upd_same
  obtain ⟨t1, t2, t3⟩ := I.tm p _ hpT
  have J : SI K (C.hold p (.lst vs)) σ H G (fun a => if a = p then none else W a) δ := I.disown fun i d q hi hw ht hs => by
    obtain ⟨v, h1, h2⟩ := I.sl i (by rw [hi]; simp)
    rw [hs] at h1; cases h1
    rw [hi] at h2
    obtain ⟨a, e, ⟨_, _, _, m4⟩, _⟩ := h2
    cases e
    rintro rfl
    rw [hpT] at m4; cases m4
  exact ⟨_, SI.less (Ct.hold_less nt) J, p, rfl, ⟨t2, n0, t3, nt⟩, if_pos rfl, vs, t1, h⟩
end

section
variable {X : Cx} {K : PySem.W.Frag} {L : Lk} {pos : Pos} {e elt tg iter : Expr} {de : DE} {ta : DT} {di : DI} {g : DG}
/-- a target stores its own slots alone -/
def GOk (g : DG) (tgt : TG) (K : PySem.W.Frag) (vs : List Nat) : Prop := ∀ (C : Ct) (G : Hp) (W : Ow) (δ : List R) (d : D) (P : List R → Prop) (v : V) (σ : St) (H : Hp) (Q : St → Hp → Prop), SI K C σ H G W δ → Den K G v d → g d δ P →
  (∀ σ' H' G' W' δ', L2.wipe σ' vs = L2.wipe σ vs → P δ' → Ex G G' → SI K C σ' H' G' W' δ' → Q σ' H') → tgt v σ H fun σ' H' => L2.wipe σ' vs = L2.wipe σ vs ∧ Q σ' H'
def GsOk (g : DGs) (tgt : TGs) (K : PySem.W.Frag) (vs : List Nat) : Prop := ∀ (C : Ct) (G : Hp) (W : Ow) (δ : List R) (d : List D) (P : List R → Prop) (v : List V) (σ : St) (H : Hp) (Q : St → Hp → Prop), SI K C σ H G W δ → Dens K G v d → g d δ P →
  (∀ σ' H' G' W' δ', L2.wipe σ' vs = L2.wipe σ vs → P δ' → Ex G G' → SI K C σ' H' G' W' δ' → Q σ' H') → tgt v σ H fun σ' H' => L2.wipe σ' vs = L2.wipe σ vs ∧ Q σ' H'
theorem wipe_set {σ : St} {i : Nat} {x : Option V} : ∀ {vs : List Nat}, i ∈ vs → L2.wipe (σ.set i x) vs = L2.wipe σ vs
  | v :: vs, h => by
    show (L2.wipe (σ.set i x) vs).set v none = (L2.wipe σ vs).set v none
    by_cases hv : i ∈ vs
    · rw [wipe_set hv]
    · have e : i = v := by rcases List.mem_cons.mp h with z | z; exact z; exact absurd z hv
      subst e
      have : ∀ (vs : List Nat), i ∉ vs → L2.wipe (σ.set i x) vs = (L2.wipe σ vs).set i x := by
        intro vs
        induction vs with
        | nil => intro _; rfl
        | cons w ws ih =>
          intro hn
          show (L2.wipe (σ.set i x) ws).set w none = ((L2.wipe σ ws).set w none).set i x
          rw [ih (fun z => hn (List.mem_cons_of_mem _ z)), List.set_comm _ _ (fun e => hn (by rw [e]; exact List.mem_cons_self ..))]
      rw [this vs hv, List.set_set]
theorem wipe_wipe (σ : St) : ∀ (vs : List Nat), L2.wipe (L2.wipe σ vs) vs = L2.wipe σ vs := by
  intro vs
  have : ∀ us, (∀ u ∈ us, u ∈ vs) → L2.wipe (L2.wipe σ us) vs = L2.wipe σ vs := by
    intro us
    induction us with
    | nil => intro _; rfl
    | cons u us ih =>
      intro h
      show L2.wipe ((L2.wipe σ us).set u none) vs = _
      rw [wipe_set (h u (List.mem_cons_self ..))]
      exact ih fun w hw => h w (List.mem_cons_of_mem _ hw)
  exact this vs fun _ h => h
theorem gok_name {i : Nat} {vs : List Nat} (h : i ∈ vs) : GOk (gN i) (gName i) K vs := fun C G W δ d P v σ H Q I dn hg k => by
  obtain ⟨W', I'⟩ := I.store (i := i) (r := .val d) dn (fun j z => by cases z)
  exact ⟨wipe_set h, k _ H G W' _ (wipe_set h) hg (Ex.refl G) I'⟩
theorem gsok_nil {vs : List Nat} : GsOk gsNil gNil K vs := fun C G W δ d P v σ H Q I dn hg k => by
  obtain ⟨rfl, hp⟩ := hg
  exact ⟨dn.nil_right, rfl, k σ H G W δ rfl hp (Ex.refl G) I⟩
theorem gsok_cons {gs : DGs} {t : TG} {ts : TGs} {vs : List Nat} (h1 : GOk g t K vs) (h2 : GsOk gs ts K vs) (hm : ∀ v σ H Q Q', t v σ H Q → (∀ σ' H', Q σ' H' → Q' σ' H') → t v σ H Q') (hm2 : ∀ v σ H Q Q', ts v σ H Q → (∀ σ' H', Q σ' H' → Q' σ' H') → ts v σ H Q') : GsOk (gsCons g gs) (gCons t ts) K vs := fun C G W δ d P v σ H Q I dn hg k => by
  obtain ⟨d, r, rfl, hg⟩ := hg
  obtain ⟨v, vr, rfl, d1, d2⟩ := dn.cons_right
  refine ⟨v, vr, rfl, hm _ _ _ _ _ (h1 C G W δ d _ v σ H (fun σ' H' => L2.wipe σ' vs = L2.wipe σ vs → ts vr σ' H' fun σ' H' => L2.wipe σ' vs = L2.wipe σ vs ∧ Q σ' H') I d1 hg fun σ1 H1 G1 W1 δ1 e1 h1 x1 I1 _ => ?_) fun σ' H' z => z.2 z.1⟩
  refine hm2 _ _ _ _ _ (h2 C G1 W1 δ1 r P vr σ1 H1 Q I1 (Dens.mono d2 x1) h1 fun σ2 H2 G2 W2 δ2 e2 hp x2 I2 => k σ2 H2 G2 W2 δ2 (e2.trans e1) hp (x1.trans x2) I2) fun σ' H' z => ⟨z.1.trans e1, z.2⟩
theorem mono_name {i : Nat} : ∀ v σ H Q Q', gName i v σ H Q → (∀ σ' H', Q σ' H' → Q' σ' H') → gName i v σ H Q' := fun v σ H Q Q' h k => k _ _ h
theorem mono_nil : ∀ v σ H Q Q', gNil v σ H Q → (∀ σ' H', Q σ' H' → Q' σ' H') → gNil v σ H Q' := fun v σ H Q Q' h k => ⟨h.1, k _ _ h.2⟩
theorem mono_cons {t : TG} {ts : TGs} (hm : ∀ v σ H Q Q', t v σ H Q → (∀ σ' H', Q σ' H' → Q' σ' H') → t v σ H Q') (hm2 : ∀ v σ H Q Q', ts v σ H Q → (∀ σ' H', Q σ' H' → Q' σ' H') → ts v σ H Q') : ∀ v σ H Q Q', gCons t ts v σ H Q → (∀ σ' H', Q σ' H' → Q' σ' H') → gCons t ts v σ H Q' :=
  fun v σ H Q Q' ⟨a, r, e, h⟩ k => ⟨a, r, e, hm _ _ _ _ _ h fun σ' H' z => hm2 _ _ _ _ _ z k⟩
theorem gok_tup {gs : DGs} {ts : TGs} {n : Nat} {vs : List Nat} (h : GsOk gs ts K vs) : GOk (gT n gs) (gTup K n ts) K vs := fun C G W δ d P v σ H Q I dn hg k => by
  obtain ⟨ds, rfl, hl, hg⟩ := hg
  obtain ⟨a, us, rfl, hs, hd⟩ := dn.of_tup
  exact ⟨a, us, rfl, ex_t I.gh hs, by rw [hd.1]; exact hl, h C G W δ ds P us σ H Q I hd hg k⟩
/-- names i, j, .. as a tuple -/
theorem gsok_name {i : Nat} {gs : DGs} {ts : TGs} {vs : List Nat} (h : i ∈ vs) (h2 : GsOk gs ts K vs) (hm2 : ∀ v σ H Q Q', ts v σ H Q → (∀ σ' H', Q σ' H' → Q' σ' H') → ts v σ H Q') : GsOk (gsCons (gN i) gs) (gCons (gName i) ts) K vs := gsok_cons (gok_name h) h2 mono_name hm2
theorem lift_lc {tgt : TG} {vs : List Nat} (hg : GOk g tgt K vs) : ∀ σ H Q, lift K L (dComp di g ta de vs) σ H Q → tLc (liftI K L di) tgt (liftT K L0 ta) (lift K L0 de) vs σ H Q := by
  refine lift_of fun C σ H G W δ P Q I lk h k => ⟨C, G, W, δ, _, I, lk, h, fun ds δ1 J H1 G1 W1 h1 x1 I1 jo D hD => ?_⟩
  have mD := I1.fresh hD
  have less : ∀ o, Less C (C.hold D o) := fun o => Ct.hold_less mD.2.2.2
  refine ⟨fun i m H' => i + m = ds.length ∧ ∃ accV acc G' W' δ', Ex G1 G' ∧ SI K (C.hold D (.lst accV)) (L2.wipe σ vs) H' G' W' δ' ∧ Dens K G' accV acc ∧ dLc g ta de vs (ds.drop i) acc δ' fun acc δ2 => P (.own (.lst acc)) (backD δ2 δ1 vs),
    ⟨ds.length, Nat.zero_add _, [], [], G1, W1, wipeD δ1 vs, Ex.refl G1, ((I1.wipe rfl).hold hD), .nil, h1⟩, fun i m H2 hW => ?_⟩
  obtain ⟨em, accV, acc, G2, W2, δ2, x2, I2, da, h2⟩ := hW
  have J0 := jo (C.hold D (.lst accV)) trivial
  by_cases hi : i < ds.length
  · refine .inr ⟨J0.go i _ H2 G2 W2 δ2 hi x2 I2, fun H' => ∃ accV acc G' W' δ', Ex G1 G' ∧ SI K (C.hold D (.lst accV)) (L2.wipe σ vs) H' G' W' δ' ∧ Dens K G' accV acc ∧ dLc g ta de vs (ds.drop (i + 1)) acc δ' fun acc δ2 => P (.own (.lst acc)) (backD δ2 δ1 vs),
      fun H' h' => ⟨m - 1, by omega, by omega, h'⟩, fun x H3 hy => ?_⟩
    have hd : ds[i]? = some ds[i] := List.getElem?_eq_getElem hi
    obtain ⟨G3, W3, x3, I3, dn⟩ := J0.yld i ds[i] _ H2 G2 W2 δ2 x H3 hd x2 I2 hy
    rw [drop_get hd] at h2
    have ew : L2.wipe (L2.wipe σ vs) vs = L2.wipe σ vs := wipe_wipe σ vs
    refine (fun step => by rw [ew] at step; exact step) (hg (C.hold D (.lst accV)) G3 W3 δ2 ds[i] _ x (L2.wipe σ vs) H3 (fun σ' H' => liftT K L0 ta σ' H' fun b H3 => if b = true then lift K L0 de σ' H3 fun y H4 => ∃ acc, H4 D = some (.lst acc) ∧ acc.length < sizeLine ∧ ∃ accV acc' G' W' δ', Ex G1 G' ∧ SI K (C.hold D (.lst accV)) (L2.wipe σ vs) (upd H4 D (.lst (acc ++ [y]))) G' W' δ' ∧ Dens K G' accV acc' ∧ dLc g ta de vs (ds.drop (i + 1)) acc' δ' fun acc δ2 => P (.own (.lst acc)) (backD δ2 δ1 vs)
        else ∃ accV acc G' W' δ', Ex G1 G' ∧ SI K (C.hold D (.lst accV)) (L2.wipe σ vs) H3 G' W' δ' ∧ Dens K G' accV acc ∧ dLc g ta de vs (ds.drop (i + 1)) acc δ' fun acc δ2 => P (.own (.lst acc)) (backD δ2 δ1 vs)) I3 dn h2 fun σ4 H4 G4 W4 δ4 e4 h4 x4 I4 => ?_)
    · have e4' : L2.wipe σ4 vs = L2.wipe σ vs := e4.trans ew
      refine ⟨_, G4, W4, δ4, _, I4, Lnk.zero, h4, fun b δ5 H5 G5 W5 h5 x5 I5 => ?_⟩
      cases b with
      | false => exact ⟨accV, acc, G5, W5, _, ((x2.trans x3).trans x4).trans x5, I5.wipe e4', da.mono ((x3.trans x4).trans x5), h5.2 rfl⟩
      | true =>
        refine ⟨_, G5, W5, δ5, _, I5, Lnk.zero, h5.1 rfl, fun r δ6 y H6 G6 W6 h6 x6 I6 o6 => ?_⟩
        obtain ⟨d', δ7, e7, hz, h7⟩ := h6
        obtain ⟨G7, x7, I7, o7, _⟩ := I6.useOk o6 e7
        have hT : (C.hold D (.lst accV)).T D = some (.lst accV) := upd_same
        have xx : Ex G2 G7 := (((x3.trans x4).trans x5).trans x6).trans x7
        refine ⟨accV, (I7.tm D _ hT).1, by rw [da.1]; exact hz, accV ++ [y], acc ++ [d'], G7, W6, _, x2.trans xx, (I7.wipe e4').rehold mD.2.1, (da.mono xx).append (.cons o7 .nil), h7⟩
  · have e : i = ds.length := by omega
    subst e
    rw [List.drop_length] at h2
    obtain ⟨W', J, o⟩ := I2.unhold mD.2.1 mD.2.2.2 da
    exact .inl ⟨J0.stop _ H2 G2 W2 δ2 x2 I2, k _ _ _ H2 G2 W' h2 (x1.trans x2) (J.back I1 x2) o⟩
end
end DL

namespace DL
open PySem PySem.Spec L2

/-! ### promises over data -/
abbrev DSp := List R → (R → Option D → Prop) → (Addr → List (Str × D) → Prop) → Prop
structure Fin (bo mo : Option Addr) (G H G' H' : Hp) : Prop where
  ex : Ex G G'
  gh : Ex G' H'
  hh : ∀ a o, bo ≠ some a → mo ≠ some a → H a = some o → H' a = some o
  gz : ∀ a, H a ≠ none → G' a = G a
  bag : ∀ b, bo = some b → Bag G' H' b
  mf : ∀ p, mo = some p → H' p ≠ none
def RFin (K : PySem.W.Frag) (bo : Option Addr) (H G' H' : Hp) (v : V) : R → Prop
  | .val d => Den K G' v d
  | .own d => ∃ p, v = .ref p ∧ H p = none ∧ G' p = none ∧ Top K G' H' p d
  | .bag => ∃ b, bo = some b ∧ v = .ref b
  | _ => False
/-- what the list that was lent holds behind the call -/
def MFin (K : PySem.W.Frag) (mo : Option Addr) (G' H' : Hp) (m : Option D) : Prop := ∀ d, m = some d → ∃ p, mo = some p ∧ Top K G' H' p d
def AOk (K : PySem.W.Frag) (bo mo : Option Addr) (G H : Hp) (v : V) : R → Prop
  | .val d => Den K G v d
  | .bag => ∃ b, bo = some b ∧ v = .ref b
  | .bor d => ∃ p, mo = some p ∧ v = .ref p ∧ Top K G H p d
  | _ => False
def Lent (bo mo : Option Addr) (G H : Hp) : Prop := ∀ p, mo = some p → H p ≠ none ∧ G p = none ∧ bo ≠ some p
def spOf (K : PySem.W.Frag) (S : DSp) : Sp := fun vs H Q E => ∃ (bo mo : Option Addr) (G : Hp) (rs : List R) (P : R → Option D → Prop) (Xc : Addr → List (Str × D) → Prop), Ex G H ∧ (∀ b, bo = some b → Bag G H b) ∧ Lent bo mo G H ∧ All2 (AOk K bo mo G H) vs rs ∧ S rs P Xc ∧
  (∀ r m v G' H', P r m → Fin bo mo G H G' H' → RFin K bo H G' H' v r → MFin K mo G' H' m → Q v H') ∧
  (∀ c fs d fvs G' H', Xc c fs → Fin bo mo G H G' H' → G' d = some (.xd fvs) → DensP K G' fvs fs → E (.ref c) (some d) H')
/-- what the lent list holds by the slots -/
def borOf : List R → Option D
  | [] => none
  | .bor d :: _ => some d
  | _ :: rs => borOf rs
def endD (P : R → Option D → Prop) : DEnds := { nx := fun δ => P (.val .non) none ∨ P (.val .non) (borOf δ), rt := fun r δ => P r none ∨ P r (borOf δ) }
theorem borOf_gt : ∀ {δ : List R} {d : D}, borOf δ = some d → ∃ i, gt δ i = .bor d
  | [], _, h => by cases h
  | .bor d' :: _, d, h => by cases h; exact ⟨0, rfl⟩
  | .no :: rs, d, h => let ⟨i, e⟩ := borOf_gt (δ := rs) h; ⟨i + 1, e⟩
  | .val _ :: rs, d, h => let ⟨i, e⟩ := borOf_gt (δ := rs) h; ⟨i + 1, e⟩
  | .own _ :: rs, d, h => let ⟨i, e⟩ := borOf_gt (δ := rs) h; ⟨i + 1, e⟩
  | .bag :: rs, d, h => let ⟨i, e⟩ := borOf_gt (δ := rs) h; ⟨i + 1, e⟩
  | .pk _ :: rs, d, h => let ⟨i, e⟩ := borOf_gt (δ := rs) h; ⟨i + 1, e⟩
theorem borOf_none : ∀ {δ : List R}, borOf δ = none → ∀ i d, gt δ i ≠ .bor d
  | [], h, i, d => by intro z; cases z
  | .bor d' :: _, h, i, d => by cases h
  | .no :: rs, h, 0, d => by intro z; cases z
  | .val _ :: rs, h, 0, d => by intro z; cases z
  | .own _ :: rs, h, 0, d => by intro z; cases z
  | .bag :: rs, h, 0, d => by intro z; cases z
  | .pk _ :: rs, h, 0, d => by intro z; cases z
  | .no :: rs, h, i + 1, d => borOf_none (δ := rs) h i d
  | .val _ :: rs, h, i + 1, d => borOf_none (δ := rs) h i d
  | .own _ :: rs, h, i + 1, d => borOf_none (δ := rs) h i d
  | .bag :: rs, h, i + 1, d => borOf_none (δ := rs) h i d
  | .pk _ :: rs, h, i + 1, d => borOf_none (δ := rs) h i d
theorem SI.mfin {K : PySem.W.Frag} {C : Ct} {σ : St} {H G : Hp} {W : Ow} {δ : List R} (I : SI K C σ H G W δ) : MFin K C.mo G H (borOf δ) := fun d e => by
  obtain ⟨i, hi⟩ := borOf_gt e
  obtain ⟨v, _, h2⟩ := I.sl i (by rw [hi]; simp)
  rw [hi] at h2
  obtain ⟨_, p, e1, _, h6⟩ := h2
  exact ⟨p, e1, h6⟩
def startD (N : List Str) (rs : List R) : List R := rs ++ List.replicate (N.length - rs.length) .no
theorem gt_nos : ∀ (ts : List R) (i : Nat), (∀ t ∈ ts, t = .no) → gt ts i = .no
  | [], _, _ => rfl
  | t :: _, 0, h => h t (List.mem_cons_self ..)
  | _ :: ts, n + 1, h => gt_nos ts n fun u hu => h u (List.mem_cons_of_mem _ hu)
theorem gt_append : ∀ {rs : List R} {i : Nat} {ts : List R}, (∀ t ∈ ts, t = .no) → gt (rs ++ ts) i ≠ .no → ∃ r, rs[i]? = some r ∧ gt (rs ++ ts) i = r
  | [], i, ts, ht, h => by
    exfalso; apply h
    exact gt_nos ts i ht
  | r :: rs, 0, ts, ht, h => ⟨r, rfl, rfl⟩
  | r :: rs, n + 1, ts, ht, h => by
    obtain ⟨q, h1, h2⟩ := gt_append (rs := rs) (i := n) (ts := ts) ht h
    exact ⟨q, by simpa using h1, h2⟩
section
variable {P : Program} {w : World} {K : PySem.W.Frag} {mg : Str → Option Value} {base : Heap} {C : Ct} {σ : St} {H H' G G' : Hp} {W : Ow} {δ : List R} {L : Lk}
theorem SI.start {N : List Str} {vs : List V} {rs : List R} {bo mo : Option Addr} (hl : vs.length ≤ N.length) (e : Ex G H) (hb : ∀ b, bo = some b → Bag G H b) (hm : Lent bo mo G H) (ha : All2 (AOk K bo mo G H) vs rs) : SI K ⟨bo, mo, H, G, fun _ => none⟩ (L2.start N vs) H G (fun _ => none) (startD N rs) := by
  refine ⟨e, Ex.refl G, fun _ _ _ _ h => h, fun _ _ => rfl, fun b h => ?_, hb, (fun a o h => by cases h), (fun p h => ⟨(hm p h).1, (hm p h).2.1, (hm p h).2.2, rfl, (hm p h).1⟩), ?_, fun i hi => ?_⟩
  · obtain ⟨_, x, y, z, c, ns, h1, _⟩ := hb b h
    show H b ≠ none
    rw [h1]; simp
  · unfold startD L2.start
    simp [ha.1]
  · obtain ⟨r, h1, h2⟩ := gt_append (rs := rs) (fun t ht => by simp at ht; exact ht.2) hi
    have h2 : gt (startD N rs) i = r := h2
    rw [h2]
    obtain ⟨v, hv, ho⟩ := ha.get h1
    refine ⟨v, ?_, ?_⟩
    · have hi : i < vs.length := (List.getElem?_eq_some_iff.mp hv).1
      unfold L2.start
      rw [List.getElem?_append_left (by simpa using hi), List.getElem?_map, hv]; rfl
    · cases r with
      | val d => exact ho
      | bag => exact ho
      | no => exact ho.elim
      | own d => exact ho.elim
      | pk j => exact ho.elim
      | bor d => exact ⟨by simp, ho⟩
theorem SI.fin (I : SI K C σ H G W δ) (h0 : ∀ b, C.bo = some b → C.H0 b ≠ none) : Fin C.bo C.mo C.G0 C.H0 G H := ⟨I.g0, I.gh, I.hh, I.gz, I.bag, fun p h => (I.mu p h).2.2.2.2⟩
theorem ROk.fin {v : V} {r : R} (h : ROk K C σ H G W none v r) (nk : r.fine = true) : RFin K C.bo C.H0 G H v r := by
  cases r with
  | no => cases nk
  | val d => exact h
  | bag => exact h
  | own d => obtain ⟨p, e, m, h5, h6⟩ := h; exact ⟨p, e, m.2.1, m.1, h6⟩
  | pk j => cases nk
  | bor j => cases nk
/-- behind a call; mo was lent: a slot's own list, one that was lent before, or nobody's -/
theorem SI.calledB {mo : Option Addr} {δ' : List R} (I : SI K C σ H G W δ) (f : Fin C.bo mo G H G' H') (hm : Lent C.bo mo G H) (hT : ∀ p, mo = some p → C.T p = none) (hz : ∀ p, mo = some p → C.mo = some p ∨ C.H0 p = none) (hl : δ'.length ≤ δ.length)
    (hs : ∀ i, gt δ' i ≠ .no → (gt δ' i = gt δ i ∧ ∀ p d, mo = some p → (gt δ i = .own d → σ[i]? ≠ some (some (.ref p))) ∧ (gt δ i = .bor d → C.mo ≠ some p)) ∨
      ∃ p, mo = some p ∧ σ[i]? = some (some (.ref p)) ∧ ROk K C σ H' G' W (some i) (.ref p) (gt δ' i))
    {v : V} {r : R} (h : RFin K C.bo H G' H' v r) : ∃ W', SI K C σ H' G' W' δ' ∧ ROk K C σ H' G' W' none v r := by
  have some_of : ∀ a, C.H0 a ≠ none → H a ≠ none := fun a n z => by
    by_cases hb : C.bo = some a
    · obtain ⟨_, x, y, zz, c, ns, h1, _⟩ := I.bag a hb
      rw [z] at h1; cases h1
    · by_cases hb' : C.mo = some a
      · exact (I.mu a hb').2.2.2.2 z
      · cases q : C.H0 a with
        | none => exact n q
        | some o => have := I.hh a o hb hb' q; rw [z] at this; cases this
  have J : SI K C σ H' G' W δ' := by
    refine ⟨f.gh, I.g0.trans f.ex, fun a o nb nm e => f.hh a o nb (fun z => ?_) (I.hh a o nb nm e), fun a n => (f.gz a (some_of a n)).trans (I.gz a n), I.b0, f.bag, fun a o e => ?_, fun p hp => ?_, Nat.le_trans hl I.ln, fun i hi => ?_⟩
    · rcases hz a z with y | y
      · exact nm y
      · rw [y] at e; cases e
    · obtain ⟨t1, t2, t3⟩ := I.tm a o e
      exact ⟨f.hh a o t3 (fun z => by rw [hT a z] at e; cases e) t1, (f.gz a (by rw [t1]; simp)).trans t2, t3⟩
    · obtain ⟨m1, m2, m3, m4, m5⟩ := I.mu p hp
      refine ⟨m1, m2, m3, m4, ?_⟩
      by_cases z : mo = some p
      · exact f.mf p z
      · cases q : H p with
        | none => exact absurd q m5
        | some o => rw [f.hh p o m3 z q]; simp
    · rcases hs i hi with ⟨ei, hn⟩ | z
      · rw [ei] at hi ⊢
        obtain ⟨v, h1, h2⟩ := I.sl i hi
        refine ⟨v, h1, ?_⟩
        cases q : gt δ i with
        | no => exact trivial
        | val d => rw [q] at h2; exact Den.mono (show Den K G v d from h2) f.ex
        | bag => rw [q] at h2; exact h2
        | pk j => rw [q] at h2; exact absurd h2.1 (by simp)
        | bor d =>
          rw [q] at h2
          obtain ⟨t0, p, e, ev, h6⟩ := h2
          obtain ⟨o, ho⟩ := h6.there
          exact ⟨t0, p, e, ev, h6.mono f.ex ((f.hh p o (I.mu p e).2.2.1 (fun z => (hn p d z).2 q e) ho).trans ho.symm)⟩
        | own d =>
          rw [q] at h2
          obtain ⟨p, e, ⟨m1, m2, m3, m4⟩, h5, h6⟩ := h2
          obtain ⟨o, ho⟩ := h6.there
          exact ⟨p, e, ⟨(f.gz p (by rw [ho]; simp)).trans m1, m2, m3, m4⟩, h5, h6.mono f.ex ((f.hh p o m3 (fun z => (hn p d z).1 q (by rw [h1, e])) ho).trans ho.symm)⟩
      · obtain ⟨p, _, z1, z2⟩ := z
        exact ⟨_, z1, z2⟩
  cases r with
  | no => exact h.elim
  | val d => exact ⟨W, J, h⟩
  | bag => exact ⟨W, J, h⟩
  | pk j => exact h.elim
  | bor j => exact h.elim
  | own d =>
    obtain ⟨p, e, np, gp, ht⟩ := h
    have m := I.fresh np
    refine ⟨fun a => if a = p then none else W a, J.disown fun i d' q hi hw _ hs' => ?_, p, e, ⟨gp, m.2.1, m.2.2.1, m.2.2.2⟩, if_pos rfl, ht⟩
    rcases hs i (by rw [hi]; simp) with ⟨ei, hn⟩ | ⟨p', hp', h1, h2⟩
    · rw [ei] at hi
      obtain ⟨v', h1, h2⟩ := I.sl i (by rw [hi]; simp)
      rw [hs'] at h1; cases h1
      rw [hi] at h2
      obtain ⟨a, e', _, _, h7⟩ := h2
      cases e'
      exact h7.at_ne np
    · rw [hs'] at h1
      cases h1
      rintro rfl
      exact (hm _ hp').1 np
theorem SI.called (I : SI K C σ H G W δ) (f : Fin C.bo none G H G' H') {v : V} {r : R} (h : RFin K C.bo H G' H' v r) : ∃ W', SI K C σ H' G' W' δ ∧ ROk K C σ H' G' W' none v r :=
  I.calledB f (fun p z => by cases z) (fun p z => by cases z) (fun p z => by cases z) (Nat.le_refl _) (fun i hi => .inl ⟨rfl, fun p d z => by cases z⟩) h
theorem fn_d {x qual : Str} {sm : Stmt} {f : Addr} {fd : FuncData} {N ps : List Str} {k : Nat} {S : DSp} (F : Fun K x qual sm f fd) (Sc : FnScope N ps (defScope sm)) (hl : ∀ rs P Xc, S rs P Xc → rs.length = ps.length) (hN : ps.length ≤ N.length)
    (hbody : ∀ (cdv : Value) (A : Around) (outer : List Env) (s : Shared) (H : Hp) (E : XK), Room k (A.deeper (PyProof.Rows.envOfC qual (defScope sm) s.heap.objs.size f cdv)) →
      ∃ ds, PSs (cxOf CX0 P w K mg base N qual (defScope sm) f cdv A outer s H E).nox (defBody sm) (liftS K L0 ds) ∧ ∀ rs P Xc, S rs P Xc → ds (endD P) (startD N rs)) : FnOk P w K mg base CX0 (k + 1) f fd ps (spOf K S) := by
  refine F.ok Sc (fun vs H Q E h => ?_) (fun cdv A outer s H vs Q E hr h => ?_)
  · obtain ⟨bo, mo, G, rs, P, Xc, _, _, _, ha, hs, _⟩ := h
    rw [ha.1]; exact hl rs P Xc hs
  · obtain ⟨bo, mo, G, rs, P, Xc, hg, hb, hm, ha, hs, hq, hx⟩ := h
    obtain ⟨ds, hd, hk⟩ := hbody cdv A outer s H E hr
    refine ⟨_, hd, ⟨bo, mo, H, G, fun _ => none⟩, G, fun _ => none, startD N rs, _, SI.start (by rw [ha.1, hl rs P Xc hs]; exact hN) hg hb hm ha, Lnk.zero, hk rs P Xc hs, ?_⟩
    refine ⟨fun σ' H' G' W' δ' x I hp => ?_, fun v σ' H' G' W' δ' r x I o fi hp => ?_, fun _ _ _ _ _ _ _ hp => hp, fun _ _ _ _ _ _ _ hp => hp⟩
    · rcases hp with hp | hp
      · exact hq _ _ _ G' H' hp (I.fin I.b0) Den.non (fun _ z => by cases z)
      · exact hq _ _ _ G' H' hp (I.fin I.b0) Den.non I.mfin
    · rcases hp with hp | hp
      · exact hq _ _ v G' H' hp (I.fin I.b0) (ROk.fin o fi) (fun _ z => by cases z)
      · exact hq _ _ v G' H' hp (I.fin I.b0) (ROk.fin o fi) I.mfin
end
def dCall (S : DSp) (da : DA) : DE := fun δ P => da δ fun rs δ1 => ∃ rs' δ2, useAll rs δ1 = some (rs', δ2) ∧ S rs' (fun r _ => P r δ2) (fun _ _ => False)
section
variable {X : Cx} {L : Lk} {k : Nat} {f : Addr} {fd : FuncData} {ps : List Str} {S : DSp} {x : Str} {p pos : Pos} {e : Expr} {es : List Expr} {da : DA}
theorem aok_of {K : PySem.W.Frag} {C : Ct} {σ : St} {H G : Hp} {W : Ow} {rs' : List R} {rs : List R} {δ δ' : List R} {vs : List V} (o : All2 (fun v r => ROk K C σ H G W none v r ∧ r.pub = r) vs rs') (nk : ∀ r ∈ rs', r.on = true ∧ ∀ j, r ≠ .pk j) : All2 (AOk K C.bo none G H) vs rs' := by
  refine ⟨o.1, fun i v r hv hr => ?_⟩
  obtain ⟨h1, h2⟩ := o.2 i v r hv hr
  obtain ⟨n1, n2⟩ := nk r (List.mem_of_getElem? hr)
  cases r with
  | no => cases n1
  | val d => exact h1
  | bag => exact h1
  | own d => cases h2
  | pk j => exact absurd rfl (n2 j)
  | bor d => exact absurd rfl h1.1
theorem use_on {r r' : R} {δ δ' : List R} (e : use r δ = some (r', δ')) : r'.on = true := by
  cases r with
  | no => cases e
  | val d => cases e; rfl
  | bag => cases e; rfl
  | own d => cases e; rfl
  | bor d => cases e
  | pk i =>
    have e : usePk (gt δ i) i δ = some (r', δ') := e
    cases q : gt δ i <;> rw [q] at e <;> first | (cases e; rfl) | cases e
theorem useAll_on : ∀ {rs rs' δ δ' : List R}, useAll rs δ = some (rs', δ') → ∀ r ∈ rs', r.on = true ∧ ∀ j, r ≠ .pk j
  | [], rs', δ, δ', e, r, h => by cases e; cases h
  | a :: rs, rs', δ, δ', e, r, h => by
    unfold useAll at e
    cases q : use a δ with
    | none => rw [q] at e; cases e
    | some p =>
      obtain ⟨r1, δ1⟩ := p
      rw [q] at e
      simp only at e
      cases q2 : useAll rs δ1 with
      | none => rw [q2] at e; cases e
      | some p =>
        obtain ⟨rs2, δ2⟩ := p
        rw [q2] at e; cases e
        rcases List.mem_cons.mp h with z | z
        · subst z; exact ⟨use_on q, use_nk q⟩
        · exact useAll_on q2 r z
theorem lift_call {K : PySem.W.Frag} : ∀ σ H Q, lift K L (dCall S da) σ H Q → tCall (spOf K S) [] E0 (liftA K L da) σ H Q :=
  lift_of fun C σ H G W δ P Q I lk h k => ⟨C, G, W, δ, _, I, lk, h, fun rs δ1 vs H1 G1 W1 h1 x1 I1 o1 => by
    obtain ⟨rs', δ2, e, hs⟩ := h1
    obtain ⟨G2, x2, I2, o2⟩ := I1.useAllOk o1 e
    rw [List.append_nil]
    refine ⟨C.bo, none, G2, rs', _, _, I2.gh, I2.bag, (fun p z => by cases z), aok_of (rs := rs) (δ := δ1) (δ' := δ2) o2 (useAll_on e), hs, fun r m v G' H' hp hf ho _ => ?_, fun c fs d fvs G' H' hx => hx.elim⟩
    obtain ⟨W', I3, o3⟩ := I2.called hf ho
    exact k r δ2 v H' G' W' hp ((x1.trans x2).trans hf.ex) I3 o3⟩
theorem de_call (F : FnOk X.prog X.w X.K X.mg X.base CX0 k f fd ps (spOf X.K S)) (hr : Room k X.A) (hg : Gl X x) (hm : X.mg x = some (.ref f)) (hk : PySem.W.keepIn X.K (.ref f) = true) (hb : Binds X.K fd ps [])
    (ha : PA X (e :: es) (liftA X.K L da)) (hdb : (x == ("__debug__" : Str)) = false := by decide) (he : starEach (e :: es) X.env = (false, eval e X.env) :: starEach es X.env := by rfl) (hpl : (backTo pos (starEach es X.env)).any (·.1) = false := by rfl) :
    PE X (.Call (.Name x p) (e :: es) [] pos) (lift X.K L (dCall S da)) := PE.weak (pe_call F hr hg hm hk hb .nil pass0 ha hdb he hpl) lift_call
theorem de_call0 (F : FnOk X.prog X.w X.K X.mg X.base CX0 k f fd ps (spOf X.K S)) (hr : Room k X.A) (hg : Gl X x) (hm : X.mg x = some (.ref f)) (hk : PySem.W.keepIn X.K (.ref f) = true) (hb : Binds X.K fd ps [])
    (hdb : (x == ("__debug__" : Str)) = false := by decide) : PE X (.Call (.Name x p) [] [] pos) (lift X.K L (dCall S dNil)) := PE.weak (pe_call0 F hr hg hm hk hb .nil pass0 hdb) fun σ H Q h => by
      have := lift_call σ H Q h
      obtain ⟨C, G, W, δ, P, I, lk, hd, kk⟩ := this
      exact kk [] δ [] H G W hd (Ex.refl G) I .nil
/-- a list comprehension -/
theorem de_lc {elt tg iter : Expr} {ifs : List Expr} {scope : Scope} {own : List (Str × Nat)} {di : DI} {g : DG} {tgt : TG} {dt : DT} {de : DE} {vs : List Nat} (hc : X.calm = true) (hN : X.N.Nodup) (hi : PI X tg iter (liftI X.K L di)) (ok : BlkOk X.N X.env.scope scope own)
    (gok : GOk g tgt X.K vs) (hv : own.map (·.2) = vs)
    (hg : ∀ (s : Shared) (H : Hp) (C : Addr) (cl : List (Str × Addr)) (fp : List Addr), PG (X.blk s H scope (compEnvC scope cl C X.env) fp) tg tgt) (ht : ∀ (s : Shared) (H : Hp) (C : Addr) (cl : List (Str × Addr)) (fp : List Addr), PTs (X.blk s H scope (compEnvC scope cl C X.env) fp) ifs (liftT X.K L0 dt))
    (he : ∀ (s : Shared) (H : Hp) (C : Addr) (cl : List (Str × Addr)) (fp : List Addr), PE (X.blk s H scope (compEnvC scope cl C X.env) fp) elt (lift X.K L0 de)) (hs : ∀ x, foldedSetIterable iter X.env x = pure x := by intro _; rfl) :
    PE X (.ListComp elt [⟨tg, iter, ifs, 0⟩] scope pos) (lift X.K L (dComp di g dt de vs)) := by
  have h := pe_lc (pos := pos) (own := own) hc hN hi ok hg ht he hs
  rw [hv] at h
  exact PE.weak h (lift_lc gok)
theorem ds_setLc {i : Nat} {y : Str} {py spos : Pos} {elt tg iter : Expr} {ifs : List Expr} {scope : Scope} {own : List (Str × Nat)} {di : DI} {g : DG} {tgt : TG} {dt : DT} {de : DE} {vs : List Nat} (hc : X.calm = true) (hN : X.N.Nodup)
    (hsw : swapsWith (.ListComp elt [⟨tg, iter, ifs, 0⟩] scope pos) (some (.Name y py)) spos.line X.env = pure true) (hi : PI X tg iter (liftI X.K L di)) (ok : BlkOk X.N X.env.scope scope own)
    (gok : GOk g tgt X.K vs) (hv : own.map (·.2) = vs)
    (hg : ∀ (s : Shared) (H : Hp) (C : Addr) (cl : List (Str × Addr)) (fp : List Addr), PG (X.blk s H scope (compEnvC scope cl C X.env) fp) tg tgt) (ht : ∀ (s : Shared) (H : Hp) (C : Addr) (cl : List (Str × Addr)) (fp : List Addr), PTs (X.blk s H scope (compEnvC scope cl C X.env) fp) ifs (liftT X.K L0 dt))
    (he : ∀ (s : Shared) (H : Hp) (C : Addr) (cl : List (Str × Addr)) (fp : List Addr), PE (X.blk s H scope (compEnvC scope cl C X.env) fp) elt (lift X.K L0 de)) (hy : X.N[i]? = some y := by rfl) (hyl : X.env.scope.names.lookup y = some .local := by rfl) (hs : ∀ x, foldedSetIterable iter X.env x = pure x := by intro _; rfl) :
    PS X (.Assign [.Name y py] (.ListComp elt [⟨tg, iter, ifs, 0⟩] scope pos) spos) (liftS X.K L (dSet i (dComp di g dt de vs))) := by
  have h := ps_setLc (i := i) (own := own) hc hN hy hyl hsw hi ok hg ht he hs
  rw [hv] at h
  refine PS.weak h <| liftS_of fun C D σ H G W δ DD I lk h k => ?_
  refine lift_lc gok σ H _ ⟨C, G, W, δ, _, I, lk, h, fun r δ1 v H1 G1 W1 h1 x1 I1 o1 => ?_⟩
  obtain ⟨r', δ2, e, hp⟩ := h1
  obtain ⟨G2, x2, I2, o2, nk⟩ := I1.asOk o1 e
  obtain ⟨W3, I3⟩ := I2.store (i := i) o2 nk
  exact k.nx _ H1 G2 W3 _ (x1.trans x2) I3 hp
theorem dts_nil : PTs X [] (liftT X.K L dYes) := ⟨fun pins s σ H Q I h => pts_nil.run pins s σ H Q I (by
  obtain ⟨C, G, W, δ, P, J, lk, hd, k⟩ := h
  exact k true δ H G W hd (Ex.refl G) J)⟩
theorem dts_one {c : Expr} {dt : DT} (h : PT X c (liftT X.K L dt)) : PTs X [c] (liftT X.K L dt) := pts_one h
end
end DL

namespace DL
open PySem PySem.Spec L2

section
variable {X : Cx} {K : PySem.W.Frag} {L : Lk} {r r' : R2} {a b e : Expr} {da db de : DE} {pos : Pos}
theorem OpR.or {f : Value → Value → Sem Value} (h : OpR X f r) (h' : OpR X f r') : OpR X f (fun x y H Q => r x y H Q ∨ r' x y H Q) := fun pins s σ H x y v u Q I rx ry q => by
  rcases q with q | q
  · exact h pins s σ H x y v u Q I rx ry q
  · exact h' pins s σ H x y v u Q I rx ry q
/-! ### numbers -/
def gI (c : Int → Int → Prop) (f : Int → Int → D) : D → D → (R → Prop) → Prop
  | .int i, .int j, P => c i j ∧ P (.val (f i j))
  | _, _, _ => False
theorem two_ints {d1 d2 : D} {c : Int → Int → Prop} {f : Int → Int → D} {P : R → Prop} (h : gI c f d1 d2 P) : ∃ i j, d1 = .int i ∧ d2 = .int j ∧ c i j ∧ P (.val (f i j)) := by
  cases d1 with
  | int i => cases d2 with
    | int j => exact ⟨i, j, rfl, rfl, h.1, h.2⟩
    | _ => exact h.elim
  | _ => cases d2 <;> exact h.elim
theorem os_I {c : Int → Int → Prop} {f : Int → Int → Int} : OpSem K (rI c fun i j => .int (f i j)) (gI c fun i j => .int (f i j)) := fun C σ H G W δ x y d1 d2 P Q I h1 h2 hg k => by
  obtain ⟨i, j, rfl, rfl, hc, hp⟩ := two_ints hg
  exact ⟨i, j, h1.of_int, h2.of_int, hc, k _ _ H G W hp (Ex.refl G) I (Den.int _)⟩
theorem os_I0 {f : Int → Int → Int} : OpSem K (rI0 fun i j => .int (f i j)) (gI (fun _ _ => True) fun i j => .int (f i j)) := fun C σ H G W δ x y d1 d2 P Q I h1 h2 hg k => by
  obtain ⟨i, j, rfl, rfl, hc, hp⟩ := two_ints hg
  exact ⟨i, j, h1.of_int, h2.of_int, k _ _ H G W hp (Ex.refl G) I (Den.int _)⟩
abbrev gMinus := gI (fun _ _ => True) fun i j => .int (i - j)
abbrev gMod := gI (fun _ j => j ≠ 0) fun i j => .int (i.fmod j)
abbrev gPow := gI CPow fun i j => .int (i ^ j.toNat)
abbrev gShr := gI (fun _ j => 0 ≤ j) fun i j => .int (i / 2 ^ j.toNat)
theorem de_sub (ha : PE X a (lift X.K L da)) (hb : PE X b (lift X.K L db)) : PE X (.BinOp a .Sub b pos) (lift X.K L (dBin gMinus da db)) := de_op op_sub os_I0 ha hb
theorem de_mod (ha : PE X a (lift X.K L da)) (hb : PE X b (lift X.K L db)) : PE X (.BinOp a .Mod b pos) (lift X.K L (dBin gMod da db)) := de_op op_modN os_I ha hb
theorem de_pow (ha : PE X a (lift X.K L da)) (hb : PE X b (lift X.K L db)) : PE X (.BinOp a .Pow b pos) (lift X.K L (dBin gPow da db)) := de_op op_pow os_I ha hb
theorem de_shr (ha : PE X a (lift X.K L da)) (hb : PE X b (lift X.K L db)) : PE X (.BinOp a .RShift b pos) (lift X.K L (dBin gShr da db)) := de_op op_shr os_I ha hb
/-- // by what is not nought, below 2 ^ 9000 -/
def CDivA (i j : Int) : Prop := j ≠ 0 ∧ j.natAbs.log2 < 9000
theorem op_fdivA : OpR X (binaryOp .FloorDiv) (rI CDivA fun i j => .int (i.fdiv j)) := opI fun _ _ _ _ _ _ _ hc q => PyProof.Rows.floordiv_int hc.1 q (.inl (PyProof.noPylong_of_log2 hc.2))
abbrev gFdivA := gI CDivA fun i j => .int (i.fdiv j)
theorem de_fdiv (ha : PE X a (lift X.K L da)) (hb : PE X b (lift X.K L db)) : PE X (.BinOp a .FloorDiv b pos) (lift X.K L (dBin gFdivA da db)) := de_op op_fdivA os_I ha hb
/-! ### + -/
/-- t + u: the made tuple is a plain one -/
def rCatF (K : PySem.W.Frag) : R2 := fun x y H Q => ∃ a b xs ys, x = .ref a ∧ y = .ref b ∧ SqT K H a xs ∧ SqT K H b ys ∧ xs.length + ys.length ≤ sizeLine ∧
  (xs = [] → Q (.ref b) H) ∧ (xs ≠ [] → ys = [] → Q (.ref a) H) ∧ (xs ≠ [] → ys ≠ [] → ∀ p its, H p = none → Q (.ref p) (upd H p (.frz (tupObj its) (.tup (xs ++ ys)))))
theorem op_catF : OpR X (binaryOp .Add) (rCatF X.K) := fun pins s σ H x y v u Q I rx ry h => by
  obtain ⟨a, b, xs, ys, rfl, rfl, ha, hb, l, q0, q1, q2⟩ := h
  by_cases hx : xs = []
  · exact op_catA pins s σ H _ _ v u Q I rx ry ⟨a, b, xs, ys, rfl, rfl, ha, hb, l, q0, fun z => absurd hx z, fun z => absurd hx z⟩
  · cases rx
    cases ry
    obtain ⟨vs, rv, tv, _⟩ := I.tuple ha
    obtain ⟨ws, rw', tw, _⟩ := I.tuple hb
    refine HT.cat_tup tv tw (fun z => hx (rv.nil_iff.mp z)) (fun z => ⟨.ref a, H, I, rfl, q1 hx (rw'.nil_iff.mp z)⟩) (fun z => ?_) (by rw [← rv.length, ← rw'.length]; exact l)
    exact ⟨.ref s.heap.objs.size, _, layTup I (rv.append rw') (by rw [List.length_append]; exact l) s.toks, rfl, q2 hx (fun e => z (rw'.nil_iff.mpr e)) _ _ (I.hok.fresh (Nat.le_refl _))⟩
def gAdd : D → D → (R → Prop) → Prop
  | .int i, .int j, P => P (.val (.int (i + j)))
  | .str x, .str y, P => x.length + y.length ≤ sizeLine ∧ P (.val (.str (x ++ y)))
  | .lst x, .lst y, P => x.length + y.length ≤ sizeLine ∧ P (.own (.lst (x ++ y)))
  | .tup x, .tup y, P => x.length + y.length ≤ sizeLine ∧ P (.val (.tup (x ++ y)))
  | _, _, _ => False
def rAddA (K : PySem.W.Frag) : R2 := fun x y H Q => rI0 (fun i j => .int (i + j)) x y H Q ∨ (∃ i j, x = .str i ∧ y = .str j ∧ i.length + j.length ≤ sizeLine ∧ Q (.str (i ++ j)) H) ∨ rCat x y H Q ∨ rCatF K x y H Q
theorem op_addA : OpR X (binaryOp .Add) (rAddA X.K) := OpR.or op_add (OpR.or op_add_str (OpR.or op_cat op_catF))
theorem os_add : OpSem K (rAddA K) gAdd := fun C σ H G W δ x y d1 d2 P Q I h1 h2 hg k => by
  cases d1 with
  | int i => cases d2 with
    | int j => exact .inl ⟨i, j, h1.of_int, h2.of_int, k _ _ H G W hg (Ex.refl G) I (Den.int _)⟩
    | _ => exact hg.elim
  | str i => cases d2 with
    | str j => exact .inr (.inl ⟨i, j, h1.of_str, h2.of_str, hg.1, k _ _ H G W hg.2 (Ex.refl G) I (Den.str _)⟩)
    | _ => exact hg.elim
  | lst xs => cases d2 with
    | lst ys =>
      obtain ⟨p, vs, rfl, hp, dp⟩ := h1.of_lst
      obtain ⟨q, us, rfl, hq, dq⟩ := h2.of_lst
      refine .inr (.inr (.inl ⟨p, q, vs, us, rfl, rfl, I.gh _ _ hp, I.gh _ _ hq, by rw [dp.1, dq.1]; exact hg.1, fun t ht => ?_⟩))
      obtain ⟨I', o⟩ := I.newLst ht (dp.append dq)
      exact k _ _ _ _ _ hg.2 (Ex.refl G) I' o
    | _ => exact hg.elim
  | tup xs => cases d2 with
    | tup ys =>
      obtain ⟨p, vs, rfl, hp, dp⟩ := h1.of_tup
      obtain ⟨q, us, rfl, hq, dq⟩ := h2.of_tup
      refine .inr (.inr (.inr ⟨p, q, vs, us, rfl, rfl, ex_t I.gh hp, ex_t I.gh hq, by rw [dp.1, dq.1]; exact hg.1, ?_⟩))
      refine ⟨fun e => ?_, fun ne e => ?_, fun ne ne' t its ht => ?_⟩
      · subst e
        have e : xs = [] := dp.nil_left
        subst e
        exact k _ _ H G W hg.2 (Ex.refl G) I h2
      · subst e
        have e : ys = [] := dq.nil_left
        subst e
        have hp := hg.2
        rw [List.append_nil] at hp
        exact k _ _ H G W hp (Ex.refl G) I h1
      · obtain ⟨I', o⟩ := I.newTup (its := its) ht (dp.append dq)
        exact k _ _ _ _ _ hg.2 (Ex.new (I.fresh ht).1) I' o
    | _ => exact hg.elim
  | _ => cases d2 <;> exact hg.elim
theorem de_add (ha : PE X a (lift X.K L da)) (hb : PE X b (lift X.K L db)) : PE X (.BinOp a .Add b pos) (lift X.K L (dBin gAdd da db)) := de_op op_addA os_add ha hb
/-! ### * -/
def CMulA (i j : Int) : Prop := CMul i j ∨ CMulW i j
def gMul : D → D → (R → Prop) → Prop
  | .int i, .int j, P => CMulA i j ∧ P (.val (.int (i * j)))
  | .lst x, .int k, P => (-(2 ^ 63) ≤ k ∧ k < 2 ^ 63) ∧ x.length * k.toNat ≤ sizeLine ∧ P (.own (.lst (List.replicate k.toNat x).flatten))
  | _, _, _ => False
def rMulA : R2 := fun x y H Q => rI CMulA (fun i j => .int (i * j)) x y H Q ∨ rRep x y H Q
theorem op_mulA : OpR X (binaryOp .Mult) rMulA := by
  refine OpR.or (fun pins s σ H x y v u Q I rx ry h => ?_) op_rep
  obtain ⟨i, j, hx, hy, hc, q⟩ := h
  rcases hc with hc | hc
  · exact op_mul pins s σ H x y v u Q I rx ry ⟨i, j, hx, hy, hc, q⟩
  · exact op_mulW pins s σ H x y v u Q I rx ry ⟨i, j, hx, hy, hc, q⟩
theorem all2_flat {F : V → D → Prop} {vs : List V} {ds : List D} (h : All2 F vs ds) : ∀ n : Nat, All2 F (List.replicate n vs).flatten (List.replicate n ds).flatten
  | 0 => by simp; exact .nil
  | n + 1 => by
    rw [List.replicate_succ, List.replicate_succ, List.flatten_cons, List.flatten_cons]
    exact h.append (all2_flat h n)
theorem os_mul : OpSem K rMulA gMul := fun C σ H G W δ x y d1 d2 P Q I h1 h2 hg k => by
  cases d1 with
  | int i => cases d2 with
    | int j => exact .inl ⟨i, j, h1.of_int, h2.of_int, hg.1, k _ _ H G W hg.2 (Ex.refl G) I (Den.int _)⟩
    | _ => exact hg.elim
  | lst xs => cases d2 with
    | int n =>
      obtain ⟨p, vs, rfl, hp, dp⟩ := h1.of_lst
      obtain ⟨⟨g1, g2⟩, g3, g4⟩ := hg
      refine .inr ⟨p, n, vs, rfl, h2.of_int, I.gh _ _ hp, g1, g2, by rw [dp.1]; exact g3, fun t ht => ?_⟩
      obtain ⟨I', o⟩ := I.newLst ht (all2_flat dp n.toNat)
      exact k _ _ _ _ _ g4 (Ex.refl G) I' o
    | _ => exact hg.elim
  | _ => cases d2 <;> exact hg.elim
theorem de_mul (ha : PE X a (lift X.K L da)) (hb : PE X b (lift X.K L db)) : PE X (.BinOp a .Mult b pos) (lift X.K L (dBin gMul da db)) := de_op op_mulA os_mul ha hb
/-! ### -a -/
def dNeg (da : DE) : DE := fun δ P => da δ fun r δ1 => ∃ i, peek r δ1 = some (.int i) ∧ P (.val (.int (-i))) δ1
theorem de_neg (ha : PE X a (lift X.K L da)) : PE X (.UnaryOp .USub a pos) (lift X.K L (dNeg da)) :=
  PE.weak (pe_un un_neg ha) <| lift_of fun C σ H G W δ P Q I lk h k => ⟨C, G, W, δ, _, I, lk, h, fun r δ1 v H1 G1 W1 h1 x1 I1 o1 => by
    obtain ⟨i, e, hp⟩ := h1
    exact ⟨i, ((I1.peekOk o1 e).den I1.gh).of_int, k _ δ1 _ H1 G1 W1 hp x1 I1 (Den.int _)⟩⟩
/-! ### comparisons of numbers -/
def cI (f : Int → Int → Bool) : D → D → Bool → Prop
  | .int i, .int j, b => b = f i j
  | _, _, _ => False
theorem cs_I {f : Int → Int → Bool} : CmpSem K (rI0 fun i j => .bl (f i j)) (cI f) := fun H x y d1 d2 b Q h1 h2 hc q => by
  cases d1 with
  | int i => cases d2 with
    | int j => have hc : b = f i j := hc; subst hc; exact ⟨i, j, h1.of_int, h2.of_int, q⟩
    | _ => exact hc.elim
  | _ => cases d2 <;> exact hc.elim
theorem de_lt (ha : PE X a (lift X.K L da)) (hb : PE X b (lift X.K L db)) : PE X (.Compare a [.Lt] [b] pos) (lift X.K L (dCmp (cI fun i j => decide (i < j)) da db)) := de_cmp op_lt cs_I ha hb (nomark _)
theorem de_le (ha : PE X a (lift X.K L da)) (hb : PE X b (lift X.K L db)) : PE X (.Compare a [.LtE] [b] pos) (lift X.K L (dCmp (cI fun i j => decide (i ≤ j)) da db)) := de_cmp op_le cs_I ha hb (nomark _)
theorem de_gt (ha : PE X a (lift X.K L da)) (hb : PE X b (lift X.K L db)) : PE X (.Compare a [.Gt] [b] pos) (lift X.K L (dCmp (cI fun i j => decide (j < i)) da db)) := de_cmp op_gt cs_I ha hb (nomark _)
theorem de_ge (ha : PE X a (lift X.K L da)) (hb : PE X b (lift X.K L db)) : PE X (.Compare a [.GtE] [b] pos) (lift X.K L (dCmp (cI fun i j => decide (j ≤ i)) da db)) := de_cmp op_ge cs_I ha hb (nomark _)
theorem dt_lt (ha : PE X a (lift X.K L da)) (hb : PE X b (lift X.K L db)) : PT X (.Compare a [.Lt] [b] pos) (liftT X.K L (dTst (dCmp (cI fun i j => decide (i < j)) da db))) := dt_cmp op_lt cs_I ha hb (nomark _)
theorem dt_le (ha : PE X a (lift X.K L da)) (hb : PE X b (lift X.K L db)) : PT X (.Compare a [.LtE] [b] pos) (liftT X.K L (dTst (dCmp (cI fun i j => decide (i ≤ j)) da db))) := dt_cmp op_le cs_I ha hb (nomark _)
theorem dt_gt (ha : PE X a (lift X.K L da)) (hb : PE X b (lift X.K L db)) : PT X (.Compare a [.Gt] [b] pos) (liftT X.K L (dTst (dCmp (cI fun i j => decide (j < i)) da db))) := dt_cmp op_gt cs_I ha hb (nomark _)
theorem dt_ge (ha : PE X a (lift X.K L da)) (hb : PE X b (lift X.K L db)) : PT X (.Compare a [.GtE] [b] pos) (liftT X.K L (dTst (dCmp (cI fun i j => decide (j ≤ i)) da db))) := dt_cmp op_ge cs_I ha hb (nomark _)
/-! ### is None -/
def D.isN : D → Bool
  | .non => true
  | _ => false
theorem Den.isN {H : Hp} {x : V} {d : D} (h : Den K H x d) : decide (x = .non) = d.isN := by
  cases h <;> rfl
def cIsN (n : Bool) : D → D → Bool → Prop := fun d e b => e = .non ∧ b = (if n then !d.isN else d.isN)
theorem cs_isN : CmpSem K (fun x y H Q => y = .non ∧ Q (.bl (decide (x = .non))) H) (cIsN false) := fun H x y d1 d2 b Q h1 h2 hc q => by
  obtain ⟨rfl, rfl⟩ := hc
  exact ⟨h2.of_non, by rw [h1.isN]; exact q⟩
theorem cs_notN : CmpSem K (fun x y H Q => y = .non ∧ Q (.bl (!decide (x = .non))) H) (cIsN true) := fun H x y d1 d2 b Q h1 h2 hc q => by
  obtain ⟨rfl, rfl⟩ := hc
  exact ⟨h2.of_non, by rw [h1.isN]; exact q⟩
theorem de_is (ha : PE X a (lift X.K L da)) (hb : PE X b (lift X.K L db)) : PE X (.Compare a [.Is] [b] pos) (lift X.K L (dCmp (cIsN false) da db)) := de_cmp op_isN cs_isN ha hb (nomark _)
theorem de_isnot (ha : PE X a (lift X.K L da)) (hb : PE X b (lift X.K L db)) : PE X (.Compare a [.IsNot] [b] pos) (lift X.K L (dCmp (cIsN true) da db)) := de_cmp op_notN cs_notN ha hb (nomark _)
theorem dt_is (ha : PE X a (lift X.K L da)) (hb : PE X b (lift X.K L db)) : PT X (.Compare a [.Is] [b] pos) (liftT X.K L (dTst (dCmp (cIsN false) da db))) := dt_cmp op_isN cs_isN ha hb (nomark _)
theorem dt_isnot (ha : PE X a (lift X.K L da)) (hb : PE X b (lift X.K L db)) : PT X (.Compare a [.IsNot] [b] pos) (liftT X.K L (dTst (dCmp (cIsN true) da db))) := dt_cmp op_notN cs_notN ha hb (nomark _)
end
end DL

namespace DL
open PySem PySem.Spec L2

/-! ### data as the library's -/
mutual
def D.py : D → PyData
  | .non => .none
  | .bl b => .bool b
  | .int i => .int i
  | .str x => .str x
  | .lst xs => .list (D.pys xs)
  | .tup xs => .tuple (D.pys xs)
  | .dic _ => .none
  | .ins _ _ => .none
  | .ty _ => .none
  | .exc _ _ _ => .none
def D.pys : List D → List PyData
  | [] => []
  | d :: ds => D.py d :: D.pys ds
end
/-- plain data, at most n deep -/
def D.Ok : Nat → D → Prop
  | _, .non => True
  | _, .bl _ => True
  | _, .int _ => True
  | _, .str x => PyData.strOk x = true
  | n + 1, .lst xs => ∀ d ∈ xs, D.Ok n d
  | n + 1, .tup xs => ∀ d ∈ xs, D.Ok n d
  | _, _ => False
theorem pys_map : ∀ ds : List D, D.pys ds = ds.map D.py
  | [] => rfl
  | d :: ds => by rw [List.map_cons, ← pys_map ds]; rfl
section
variable {K : PySem.W.Frag} {H : Hp}
theorem dpAll_of : ∀ {vs : List V} {ds : List D}, vs.length = ds.length → (∀ (i : Nat) v d, vs[i]? = some v → ds[i]? = some d → Dp K H v d.py) → DpAll K H vs (D.pys ds)
  | [], [], _, _ => .nil
  | [], _ :: _, h, _ => by simp at h
  | _ :: _, [], h, _ => by simp at h
  | v :: vs, d :: ds, h, f => .cons (f 0 v d rfl rfl) (dpAll_of (by simpa using h) fun i a b ha hb => f (i + 1) a b (by simpa using ha) (by simpa using hb))
theorem Den.dp : ∀ {n : Nat} {v : V} {d : D}, Den K H v d → d.Ok n → Dp K H v d.py
  | _, _, _, .non, _ => .non
  | _, _, _, .bl b, _ => .bl b
  | _, _, _, .int i, _ => .int i
  | _, _, _, .str x, _ => .str x
  | _, _, _, .ty n, h => by unfold D.Ok at h; exact h.elim
  | 0, _, _, .lst h l e, o => o.elim
  | n + 1, _, _, .lst h l e, o => .lst (.of h) (dpAll_of l fun i v d hv hd => Den.dp (e i v d hv hd) (o d (List.mem_of_getElem? hd)))
  | 0, _, _, .tup h l e, o => o.elim
  | n + 1, _, _, .tup h l e, o => .tup h.sq (dpAll_of l fun i v d hv hd => Den.dp (e i v d hv hd) (o d (List.mem_of_getElem? hd)))
  | _, _, _, .dic h l k e, o => by unfold D.Ok at o; exact o.elim
  | _, _, _, .ins h l k e, o => by unfold D.Ok at o; exact o.elim
  | _, _, _, .exc h l k e, o => by unfold D.Ok at o; exact o.elim
end
theorem canLayAll_of : ∀ ds : List PyData, (∀ d ∈ ds, d.canLay0 = true) → PyData.canLayAll0 ds = true
  | [], _ => by simp only [PyData.canLayAll0]
  | d :: ds, h => by
    simp only [PyData.canLayAll0, Bool.and_eq_true]
    exact ⟨h d (List.mem_cons_self ..), canLayAll_of ds fun e he => h e (List.mem_cons_of_mem _ he)⟩
theorem depthAll_of {n : Nat} : ∀ ds : List PyData, (∀ d ∈ ds, d.depth ≤ n) → PyData.depthAll ds ≤ n
  | [], _ => by simp only [PyData.depthAll]; exact Nat.zero_le _
  | d :: ds, h => by
    simp only [PyData.depthAll]
    have h1 := h d (List.mem_cons_self ..)
    have h2 := depthAll_of ds fun e he => h e (List.mem_cons_of_mem _ he)
    omega
theorem Ok_lay : ∀ {n : Nat} {d : D}, d.Ok n → d.py.canLay0 = true ∧ d.py.depth ≤ n
  | n, .non, _ => by simp [D.py, PyData.canLay0, PyData.depth]
  | n, .bl b, _ => by simp [D.py, PyData.canLay0, PyData.depth]
  | n, .int i, _ => by simp [D.py, PyData.canLay0, PyData.depth]
  | n, .str x, h => by
    have h : PyData.strOk x = true := by unfold D.Ok at h; exact h
    simp [D.py, PyData.canLay0, PyData.depth, h]
  | 0, .lst xs, h => h.elim
  | 0, .tup xs, h => h.elim
  | n + 1, .lst xs, h => by
    have h : ∀ d ∈ xs, D.Ok n d := h
    have a : ∀ e ∈ D.pys xs, e.canLay0 = true ∧ e.depth ≤ n := fun e he => by
      rw [pys_map] at he
      obtain ⟨d, hd, rfl⟩ := List.mem_map.mp he
      exact Ok_lay (h d hd)
    simp only [D.py, PyData.canLay0, PyData.depth]
    have := depthAll_of (n := n) (D.pys xs) fun e he => (a e he).2
    exact ⟨canLayAll_of _ fun e he => (a e he).1, by omega⟩
  | n + 1, .tup xs, h => by
    have h : ∀ d ∈ xs, D.Ok n d := h
    have a : ∀ e ∈ D.pys xs, e.canLay0 = true ∧ e.depth ≤ n := fun e he => by
      rw [pys_map] at he
      obtain ⟨d, hd, rfl⟩ := List.mem_map.mp he
      exact Ok_lay (h d hd)
    simp only [D.py, PyData.canLay0, PyData.depth]
    have := depthAll_of (n := n) (D.pys xs) fun e he => (a e he).2
    exact ⟨canLayAll_of _ fun e he => (a e he).1, by omega⟩
  | 0, .dic _, h => h.elim
  | 0, .ins _ _, h => h.elim
  | 0, .ty _, h => h.elim
  | 0, .exc _ _ _, h => h.elim
  | n + 1, .dic _, h => h.elim
  | n + 1, .ins _ _, h => h.elim
  | n + 1, .ty _, h => h.elim
  | n + 1, .exc _ _ _, h => h.elim
theorem Ok_shaped {n : Nat} {d : D} (h : d.Ok n) (hn : n ≤ 64) : SeqAt.shaped d.py = true := by
  obtain ⟨a, b⟩ := Ok_lay h
  unfold SeqAt.shaped
  rw [a, decide_eq_true (Nat.le_trans b hn)]; rfl
/-! ### == -/
def eqAll (f : D → D → Bool) : List D → List D → Bool
  | [], [] => true
  | x :: xs, y :: ys => f x y && eqAll f xs ys
  | _, _ => false
def eqD : Nat → D → D → Bool
  | _, .non, .non => true
  | _, .bl a, .bl b => a == b
  | _, .bl a, .int j => (if a then 1 else 0) == j
  | _, .int i, .bl b => i == (if b then 1 else 0)
  | _, .int i, .int j => i == j
  | _, .str x, .str y => x == y
  | n + 1, .lst xs, .lst ys => eqAll (eqD n) xs ys
  | n + 1, .tup xs, .tup ys => eqAll (eqD n) xs ys
  | _, _, _ => false
theorem eqvAll_eq {n : Nat} : ∀ (xs ys : List D), (∀ x ∈ xs, ∀ y ∈ ys, PyData.eqv x.py y.py = eqD n x y) → PyData.eqvAll (D.pys xs) (D.pys ys) = eqAll (eqD n) xs ys
  | [], [], _ => by simp [D.pys, PyData.eqvAll, eqAll]
  | [], _ :: _, _ => by simp [D.pys, PyData.eqvAll, eqAll]
  | _ :: _, [], _ => by simp [D.pys, PyData.eqvAll, eqAll]
  | x :: xs, y :: ys, h => by
    simp only [D.pys, PyData.eqvAll, eqAll]
    rw [h x (List.mem_cons_self ..) y (List.mem_cons_self ..), eqvAll_eq xs ys fun a ha b hb => h a (List.mem_cons_of_mem _ ha) b (List.mem_cons_of_mem _ hb)]
theorem eqv_eq : ∀ {n : Nat} {d e : D}, d.Ok n → e.Ok n → PyData.eqv d.py e.py = eqD n d e := by
  intro n
  induction n with
  | zero =>
    intro d e hd he
    cases d <;> first | exact hd.elim | (cases e <;> first | exact he.elim | simp [D.py, PyData.eqv, eqD])
  | succ n ih =>
    intro d e hd he
    cases d with
    | dic => exact hd.elim
    | ins => exact hd.elim
    | ty => exact hd.elim
    | exc => exact hd.elim
    | lst xs => cases e with
      | lst ys =>
        simp only [D.py, PyData.eqv, eqD]
        exact eqvAll_eq xs ys fun x hx y hy => ih (hd x hx) (he y hy)
      | _ => first | exact he.elim | simp [D.py, PyData.eqv, eqD]
    | tup xs => cases e with
      | tup ys =>
        simp only [D.py, PyData.eqv, eqD]
        exact eqvAll_eq xs ys fun x hx y hy => ih (hd x hx) (he y hy)
      | _ => first | exact he.elim | simp [D.py, PyData.eqv, eqD]
    | _ => cases e <;> first | exact he.elim | simp [D.py, PyData.eqv, eqD]
theorem eqAll_refl {n : Nat} : ∀ (xs : List D), (∀ x ∈ xs, eqD n x x = true) → eqAll (eqD n) xs xs = true
  | [], _ => rfl
  | x :: xs, h => by
    simp only [eqAll, Bool.and_eq_true]
    exact ⟨h x (List.mem_cons_self ..), eqAll_refl xs fun y hy => h y (List.mem_cons_of_mem _ hy)⟩
theorem eqD_refl : ∀ {n : Nat} {d : D}, d.Ok n → eqD n d d = true := by
  intro n
  induction n with
  | zero => intro d h; cases d <;> first | exact h.elim | simp [eqD]
  | succ n ih =>
    intro d h
    cases d with
    | lst xs => simp only [eqD]; exact eqAll_refl xs fun x hx => ih (h x hx)
    | tup xs => simp only [eqD]; exact eqAll_refl xs fun x hx => ih (h x hx)
    | dic => exact h.elim
    | ins => exact h.elim
    | ty => exact h.elim
    | exc => exact h.elim
    | _ => simp [eqD]
def cEq (ne : Bool) : D → D → Bool → Prop := fun d e b => d.Ok 60 ∧ e.Ok 60 ∧ b = (if ne then !eqD 60 d e else eqD 60 d e)
section
variable {X : Cx} {K : PySem.W.Frag} {L : Lk} {a b e : Expr} {es : List Expr} {da db de : DE} {pos : Pos}
theorem cs_eq : CmpSem K (rEqD K) (cEq false) := fun H x y d1 d2 b Q h1 h2 hc q => by
  obtain ⟨o1, o2, rfl⟩ := hc
  exact ⟨d1.py, d2.py, h1.dp o1, h2.dp o2, Ok_shaped o1 (by decide), Ok_shaped o2 (by decide), by rw [eqv_eq o1 o2]; exact q⟩
theorem cs_ne : CmpSem K (rNeD K) (cEq true) := fun H x y d1 d2 b Q h1 h2 hc q => by
  obtain ⟨o1, o2, rfl⟩ := hc
  exact ⟨d1.py, d2.py, h1.dp o1, h2.dp o2, Ok_shaped o1 (by decide), Ok_shaped o2 (by decide), by rw [eqv_eq o1 o2]; exact q⟩
theorem de_eq (hu : X.A.units + 64 < cLine) (ha : PE X a (lift X.K L da)) (hb : PE X b (lift X.K L db)) : PE X (.Compare a [.Eq] [b] pos) (lift X.K L (dCmp (cEq false) da db)) := de_cmp (op_eqD hu) cs_eq ha hb (nomark _)
theorem de_ne (hu : X.A.units + 64 < cLine) (ha : PE X a (lift X.K L da)) (hb : PE X b (lift X.K L db)) : PE X (.Compare a [.NotEq] [b] pos) (lift X.K L (dCmp (cEq true) da db)) := de_cmp (op_neD hu) cs_ne ha hb (nomark _)
theorem dt_eq (hu : X.A.units + 64 < cLine) (ha : PE X a (lift X.K L da)) (hb : PE X b (lift X.K L db)) : PT X (.Compare a [.Eq] [b] pos) (liftT X.K L (dTst (dCmp (cEq false) da db))) := dt_cmp (op_eqD hu) cs_eq ha hb (nomark _)
theorem dt_ne (hu : X.A.units + 64 < cLine) (ha : PE X a (lift X.K L da)) (hb : PE X b (lift X.K L db)) : PT X (.Compare a [.NotEq] [b] pos) (liftT X.K L (dTst (dCmp (cEq true) da db))) := dt_cmp (op_neD hu) cs_ne ha hb (nomark _)
/-! ### items, slices -/
/-- t[lo:hi]: the made tuple is a plain one -/
def rSlF (K : PySem.W.Frag) : V → Option Int → Option Int → Hp → VK → Prop := fun x lo hi H Q => ∃ a xs, x = .ref a ∧ SqT K H a xs ∧
  (HT.sIx xs.length 0 lo = 0 ∧ HT.sIx xs.length xs.length hi = xs.length → Q (.ref a) H) ∧ (¬ (HT.sIx xs.length 0 lo = 0 ∧ HT.sIx xs.length xs.length hi = xs.length) → ∀ p its, H p = none → Q (.ref p) (upd H p (.frz (tupObj its) (.tup (cutV xs lo hi)))))
theorem sl_tupF : SlR X (rSlF X.K) := fun pins s σ H x v vl vu lo hi sl Q I rx hs pl pu h => by
  obtain ⟨a, xs, rfl, hx, q1, q2⟩ := h
  by_cases hw : HT.sIx xs.length 0 lo = 0 ∧ HT.sIx xs.length xs.length hi = xs.length
  · exact sl_tupA pins s σ H _ v vl vu lo hi sl Q I rx hs pl pu ⟨a, xs, rfl, hx, q1, fun z => absurd hw z⟩
  · cases rx
    obtain ⟨ws, rel, tt, l⟩ := I.tuple hx
    have sz : ws.toArray.size = xs.length := by rw [List.size_toArray, rel.length]
    refine ⟨"tuple", _, PyProof.Rows.slot_tuple_getitem.lookup, tt.typeIs, HT.getItem_tuple_cut tt hs pl pu (by rw [sz]; exact hw) ?_ (by rw [sz]; exact l)⟩
    rw [sz]
    exact ⟨.ref s.heap.objs.size, _, layTup I ((rel.drop (HT.sIx xs.length 0 lo)).take (HT.sIx xs.length xs.length hi - HT.sIx xs.length 0 lo)) (Nat.le_trans (cutV_length xs lo hi) l) s.toks, rfl, q2 hw _ _ (I.hok.fresh (Nat.le_refl _))⟩
def ixD : D → Int → D → Prop
  | .lst xs, i, d => atI xs i = some d
  | .tup xs, i, d => atI xs i = some d
  | .str z, i, d => z.length ≤ sizeLine ∧ ∃ c, atI z.cps.toList i = some c ∧ d = .str ⟨#[c]⟩
  | _, _, _ => False
def dIx (da db : DE) : DE := fun δ P => da δ fun r1 δ1 => db δ1 fun r2 δ2 => ∃ d i d', peek r1 δ2 = some d ∧ peek r2 δ2 = some (.int i) ∧ ixD d i d' ∧ P (.val d') δ2
theorem all2_at {F : V → D → Prop} {vs : List V} {ds : List D} {i : Int} {d : D} (h : All2 F vs ds) (e : atI ds i = some d) : ∃ v, atI vs i = some v ∧ F v d := by
  unfold atI at e ⊢
  rw [h.1]
  cases q : ixN ds.length i with
  | none => rw [q] at e; cases e
  | some j =>
    rw [q] at e
    have e : ds[j]? = some d := e
    obtain ⟨v, hv, f⟩ := h.get e
    exact ⟨v, hv, f⟩
theorem de_ix (ha : PE X a (lift X.K L da)) (hb : PE X b (lift X.K L db)) (hs : PlainIx b := by exact fun _ _ => rfl) : PE X (.Subscript a b pos) (lift X.K L (dIx da db)) :=
  PE.weak (pe_ix ix_seq ha hb hs) <| lift_of fun C σ H G W δ P Q I lk h k => lift_two I lk h fun r1 r2 δ2 x y H2 G2 W2 h2 x2 I2 o1 o2 => by
    obtain ⟨d, i, d', e1, e2, hx, hp⟩ := h2
    rw [← peek_pub] at e1 e2
    have s1 := I2.peekOk o1 e1
    have ey := ((I2.peekOk o2 e2).den I2.gh).of_int
    subst ey
    cases d with
    | lst xs =>
      obtain ⟨p, vs, rfl, hl, dn⟩ := s1.lst I2.gh
      obtain ⟨v, hv, dv⟩ := all2_at dn hx
      exact .inl ⟨p, vs, i, v, rfl, rfl, .of hl, hv, k _ δ2 v H2 G2 W2 hp x2 I2 dv⟩
    | tup xs =>
      obtain ⟨p, vs, rfl, hl, dn⟩ := s1.tup I2.gh
      obtain ⟨v, hv, dv⟩ := all2_at dn hx
      exact .inr (.inl ⟨p, vs, i, v, rfl, rfl, hl, hv, k _ δ2 v H2 G2 W2 hp x2 I2 dv⟩)
    | str z =>
      obtain ⟨hz, c, hc, rfl⟩ := hx
      exact .inr (.inr ⟨z, i, c, (s1.den I2.gh).of_str, rfl, hz, hc, k _ δ2 _ H2 G2 W2 hp x2 I2 (Den.str _)⟩)
    | _ => exact hx.elim
abbrev DO := List R → (Option Int → List R → Prop) → Prop
def liftO (K : PySem.W.Frag) (L : Lk) (d : DO) : TO := fun σ H Q => ∃ (C : Ct) (G : Hp) (W : Ow) (δ : List R) (P : Option Int → List R → Prop), SI K C σ H G W δ ∧ Lnk K L C G ∧ d δ P ∧
  ∀ o δ' H' G' W', P o δ' → Ex G G' → SI K C σ H' G' W' δ' → Q o H'
def doNone : DO := fun δ P => P none δ
def doSome (de : DE) : DO := fun δ P => de δ fun r δ1 => ∃ i, peek r δ1 = some (.int i) ∧ P (some i) δ1
theorem PO.weak {o : Option Expr} {t t' : TO} (h : PO X o t) (w : ∀ σ H Q, t' σ H Q → t σ H Q) : PO X o t' := ⟨fun pins s σ H Q I q => h.run pins s σ H Q I (w σ H Q q)⟩
theorem do_none : PO X none (liftO X.K L doNone) := PO.weak po_none fun σ H Q ⟨C, G, W, δ, P, I, lk, hd, k⟩ => k none δ H G W hd (Ex.refl G) I
theorem do_some (h : PE X e (lift X.K L de)) : PO X (some e) (liftO X.K L (doSome de)) := PO.weak (po_some h) fun σ H Q ⟨C, G, W, δ, P, I, lk, hd, k⟩ => ⟨C, G, W, δ, _, I, lk, hd, fun r δ1 v H1 G1 W1 h1 x1 I1 o1 => by
  obtain ⟨i, e, hp⟩ := h1
  exact ⟨i, ((I1.peekOk o1 e).den I1.gh).of_int, k _ δ1 H1 G1 W1 hp x1 I1⟩⟩
def cut {α : Type} (xs : List α) (lo hi : Option Int) : List α := (xs.drop (HT.sIx xs.length 0 lo)).take (HT.sIx xs.length xs.length hi - HT.sIx xs.length 0 lo)
theorem all2_cut {F : V → D → Prop} {vs : List V} {ds : List D} (h : All2 F vs ds) (lo hi : Option Int) : All2 F (cutV vs lo hi) (cut ds lo hi) := by
  unfold cutV cut
  rw [h.1]
  refine ⟨by simp [h.1], fun i x y hx hy => ?_⟩
  rw [List.getElem?_take] at hx hy
  split at hx
  · rename_i hi
    rw [if_pos hi] at hy
    rw [List.getElem?_drop] at hx hy
    exact h.2 _ x y hx hy
  · cases hx
def slD : D → Option Int → Option Int → R → Prop
  | .lst xs, lo, hi, r => r = .own (.lst (cut xs lo hi))
  | .tup xs, lo, hi, r => r = .val (.tup (cut xs lo hi))
  | .str z, lo, hi, r => z.length ≤ sizeLine ∧ r = .val (.str (cutS z lo hi))
  | _, _, _, _ => False
def dSl (da : DE) (dl dh : DO) : DE := fun δ P => da δ fun r1 δ1 => dl δ1 fun lo δ2 => dh δ2 fun hi δ3 => ∃ d r, peek r1 δ3 = some d ∧ slD d lo hi r ∧ P r δ3
theorem cut_whole {α : Type} {xs : List α} {lo hi : Option Int} (h1 : HT.sIx xs.length 0 lo = 0) (h2 : HT.sIx xs.length xs.length hi = xs.length) : cut xs lo hi = xs := by
  unfold cut
  rw [h1, h2]
  simp
theorem de_sl {lo hi : Option Expr} {p2 : Pos} {dl dh : DO} (ha : PE X a (lift X.K L da)) (hl : PO X lo (liftO X.K L dl)) (hh : PO X hi (liftO X.K L dh)) : PE X (.Subscript a (.Slice lo hi none p2) pos) (lift X.K L (dSl da dl dh)) :=
  PE.weak (pe_slice (SlR.or sl_list (SlR.or sl_tupF sl_str)) ha hl hh) <| lift_of fun C σ H G W δ P Q I lk h k => ⟨C, G, W, δ, _, I, lk, h, fun r1 δ1 x H1 G1 W1 h1 x1 I1 o1 => by
    obtain ⟨G1', x1', I1', o1'⟩ := I1.pub o1
    refine ⟨C, G1', W1, δ1, _, I1', lk.mono (x1.trans x1'), h1, fun l δ2 H2 G2 W2 h2 x2 I2 => ?_⟩
    refine ⟨C, G2, W2, δ2, _, I2, lk.mono ((x1.trans x1').trans x2), h2, fun u δ3 H3 G3 W3 h3 x3 I3 => ?_⟩
    obtain ⟨d, r, e, hs, hp⟩ := h3
    rw [← peek_pub] at e
    have sn := I3.peekOk (ROk.keep o1' (x2.trans x3)) e
    have xx : Ex G G3 := ((x1.trans x1').trans x2).trans x3
    cases d with
    | lst xs =>
      have hs : r = .own (.lst (cut xs l u)) := hs
      subst hs
      obtain ⟨p, vs, rfl, hq, dn⟩ := sn.lst I3.gh
      refine .inl ⟨p, vs, rfl, .of hq, fun t ht => ?_⟩
      obtain ⟨I', o⟩ := I3.newLst ht (all2_cut dn l u)
      exact k _ _ _ _ _ _ hp xx I' o
    | tup xs =>
      have hs : r = .val (.tup (cut xs l u)) := hs
      subst hs
      obtain ⟨p, vs, rfl, hq, dn⟩ := sn.tup I3.gh
      refine .inr (.inl ⟨p, vs, rfl, hq, fun hw => ?_, fun hw t its ht => ?_⟩)
      · refine k _ δ3 _ H3 G3 W3 hp xx I3 ?_
        rw [dn.1] at hw
        rw [cut_whole hw.1 hw.2]
        rcases sn with sn | ⟨q, _, z⟩
        · exact sn
        · exact z.elim
      · obtain ⟨I', o⟩ := I3.newTup (its := its) ht (all2_cut dn l u)
        exact k _ _ _ _ _ _ hp (xx.trans (Ex.new (I3.fresh ht).1)) I' o
    | str z =>
      obtain ⟨hz, rfl⟩ := hs
      exact .inr (.inr ⟨z, (sn.den I3.gh).of_str, hz, k _ δ3 _ H3 G3 W3 hp xx I3 (Den.str _)⟩)
    | _ => exact hs.elim⟩
/-! ### calls of built-ins that look -/
def CallLook (K : PySem.W.Frag) (r : List V → Hp → VK → Prop) (g : List D → (R → Prop) → Prop) : Prop := ∀ (C : Ct) (σ : St) (H G : Hp) (W : Ow) (δ : List R) (vs : List V) (ds : List D) (P : R → Prop) (Q : VK), SI K C σ H G W δ → All2 (Seen K G H) vs ds → g ds P →
  (∀ r v H' G' W', P r → Ex G G' → SI K C σ H' G' W' δ → ROk K C σ H' G' W' none v r → Q v H') → r vs H Q
def dCB (g : List D → (R → Prop) → Prop) (da : DA) : DE := fun δ P => da δ fun rs δ1 => ∃ ds, peekAll rs δ1 = some ds ∧ g ds fun r => P r δ1
theorem lift_cb {r : List V → Hp → VK → Prop} {g : List D → (R → Prop) → Prop} {da : DA} (hs : CallLook K r g) : ∀ σ H Q, lift K L (dCB g da) σ H Q → tCB r (liftA K L da) σ H Q :=
  lift_of fun C σ H G W δ P Q I lk h k => ⟨C, G, W, δ, _, I, lk, h, fun rs δ1 vs H1 G1 W1 h1 x1 I1 o1 => by
    obtain ⟨ds, e, hg⟩ := h1
    exact hs C σ H1 G1 W1 δ1 vs ds _ Q I1 (I1.peekAllOk o1 e) hg fun r v H' G' W' hp x' I' o' => k r δ1 v H' G' W' hp (x1.trans x') I' o'⟩
variable {x : Str} {p : Pos} {id T : String} {r : List V → Hp → VK → Prop} {g : List D → (R → Prop) → Prop} {da : DA}
theorem de_cb (hc : CallR X (.builtin id) r) (hs : CallLook X.K r g) (hg : Gl X x) (hm : X.mg x = none) (hv : bootBuiltins x = some (.builtin id)) (ha : PA X (e :: es) (liftA X.K L da)) (hn : x ≠ "__name__" := by decide) (hdb : (x == ("__debug__" : Str)) = false := by decide)
    (he : starEach (e :: es) X.env = (false, eval e X.env) :: starEach es X.env := by rfl) (hpl : (backTo pos (starEach es X.env)).any (·.1) = false := by rfl) : PE X (.Call (.Name x p) (e :: es) [] pos) (lift X.K L (dCB g da)) := PE.weak (pe_callB hc hg hm hv ha hn hdb he hpl) (lift_cb hs)
theorem de_ct (hc : CallR X (.type T) r) (hs : CallLook X.K r g) (hg : Gl X x) (hm : X.mg x = none) (hv : bootBuiltins x = some (.type T)) (ha : PA X (e :: es) (liftA X.K L da)) (hn : x ≠ "__name__" := by decide) (hdb : (x == ("__debug__" : Str)) = false := by decide)
    (he : starEach (e :: es) X.env = (false, eval e X.env) :: starEach es X.env := by rfl) (hpl : (backTo pos (starEach es X.env)).any (·.1) = false := by rfl) : PE X (.Call (.Name x p) (e :: es) [] pos) (lift X.K L (dCB g da)) := PE.weak (pe_callTy hc hg hm hv ha hn hdb he hpl) (lift_cb hs)
def bLen : List D → (R → Prop) → Prop
  | [.lst xs], P => P (.val (.int xs.length))
  | [.tup xs], P => P (.val (.int xs.length))
  | [.str z], P => z.length ≤ sizeLine ∧ P (.val (.int z.length))
  | _, _ => False
theorem one_of {F : V → D → Prop} {vs : List V} {d : D} (h : All2 F vs [d]) : ∃ v, vs = [v] ∧ F v d := by
  obtain ⟨v, r, rfl, f, t⟩ := h.cons_right
  rw [t.nil_right]
  exact ⟨v, rfl, f⟩
theorem two_of {F : V → D → Prop} {vs : List V} {d e : D} (h : All2 F vs [d, e]) : ∃ v u, vs = [v, u] ∧ F v d ∧ F u e := by
  obtain ⟨v, r, rfl, f, t⟩ := h.cons_right
  obtain ⟨u, rfl, f'⟩ := one_of t
  exact ⟨v, u, rfl, f, f'⟩
theorem cl_len : CallLook K (fun xs H Q => ∃ x n, xs = [x] ∧ LenV K x H n ∧ Q (.int n) H) bLen := fun C σ H G W δ vs ds P Q I a hg k => by
  match ds, hg with
  | [.lst xs], hg =>
    obtain ⟨v, rfl, s⟩ := one_of a
    obtain ⟨p, us, rfl, hl, dn⟩ := s.lst I.gh
    exact ⟨_, us.length, rfl, .inl ⟨us, .of hl, rfl⟩, by rw [dn.1]; exact k _ _ H G W hg (Ex.refl G) I (Den.int _)⟩
  | [.tup xs], hg =>
    obtain ⟨v, rfl, s⟩ := one_of a
    obtain ⟨p, us, rfl, hl, dn⟩ := s.tup I.gh
    exact ⟨_, us.length, rfl, .inr ⟨us, hl, rfl⟩, by rw [dn.1]; exact k _ _ H G W hg (Ex.refl G) I (Den.int _)⟩
  | [.str z], hg =>
    obtain ⟨v, rfl, s⟩ := one_of a
    have := (s.den I.gh).of_str
    subst this
    exact ⟨_, z.length, rfl, ⟨hg.1, rfl⟩, k _ _ H G W hg.2 (Ex.refl G) I (Den.int _)⟩
def bInt : List D → (R → Prop) → Prop
  | [.int i], P => P (.val (.int i))
  | [.bl k], P => P (.val (.int (if k then 1 else 0)))
  | _, _ => False
theorem cl_int : CallLook K (fun xs H Q => (∃ i, xs = [.int i] ∧ Q (.int i) H) ∨ ∃ k, xs = [.bl k] ∧ Q (.int (if k then 1 else 0)) H) bInt := fun C σ H G W δ vs ds P Q I a hg k => by
  match ds, hg with
  | [.int i], hg =>
    obtain ⟨v, rfl, s⟩ := one_of a
    have := (s.den I.gh).of_int
    subst this
    exact .inl ⟨i, rfl, k _ _ H G W hg (Ex.refl G) I (Den.int _)⟩
  | [.bl b], hg =>
    obtain ⟨v, rfl, s⟩ := one_of a
    have := (s.den I.gh).of_bl
    subst this
    exact .inr ⟨b, rfl, k _ _ H G W hg (Ex.refl G) I (Den.int _)⟩
def bAbs : List D → (R → Prop) → Prop
  | [.int i], P => P (.val (.int (if i < 0 then -i else i)))
  | _, _ => False
theorem cl_abs : CallLook K (fun xs H Q => ∃ i, xs = [.int i] ∧ Q (.int (if i < 0 then -i else i)) H) bAbs := fun C σ H G W δ vs ds P Q I a hg k => by
  match ds, hg with
  | [.int i], hg =>
    obtain ⟨v, rfl, s⟩ := one_of a
    have := (s.den I.gh).of_int
    subst this
    exact ⟨i, rfl, k _ _ H G W hg (Ex.refl G) I (Den.int _)⟩
def bMax2 : List D → (R → Prop) → Prop
  | [.int i, .int j], P => P (.val (.int (if j > i then j else i)))
  | _, _ => False
def bMin2 : List D → (R → Prop) → Prop
  | [.int i, .int j], P => P (.val (.int (if j < i then j else i)))
  | _, _ => False
theorem cl_max2 : CallLook K (fun xs H Q => ∃ i j, xs = [.int i, .int j] ∧ Q (.int (if j > i then j else i)) H) bMax2 := fun C σ H G W δ vs ds P Q I a hg k => by
  match ds, hg with
  | [.int i, .int j], hg =>
    obtain ⟨v, u, rfl, s, t⟩ := two_of a
    have := (s.den I.gh).of_int
    subst this
    have := (t.den I.gh).of_int
    subst this
    exact ⟨i, j, rfl, k _ _ H G W hg (Ex.refl G) I (Den.int _)⟩
theorem cl_min2 : CallLook K (fun xs H Q => ∃ i j, xs = [.int i, .int j] ∧ Q (.int (if j < i then j else i)) H) bMin2 := fun C σ H G W δ vs ds P Q I a hg k => by
  match ds, hg with
  | [.int i, .int j], hg =>
    obtain ⟨v, u, rfl, s, t⟩ := two_of a
    have := (s.den I.gh).of_int
    subst this
    have := (t.den I.gh).of_int
    subst this
    exact ⟨i, j, rfl, k _ _ H G W hg (Ex.refl G) I (Den.int _)⟩
def bList : List D → (R → Prop) → Prop
  | [.lst xs], P => P (.own (.lst xs))
  | [.tup xs], P => P (.own (.lst xs))
  | _, _ => False
theorem cl_list : CallLook K (fun xs H Q => ∃ p ys, xs = [.ref p] ∧ (SqL K H p ys ∨ SqT K H p ys) ∧ ∀ l, H l = none → Q (.ref l) (upd H l (.lst ys))) bList := fun C σ H G W δ vs ds P Q I a hg k => by
  match ds, hg with
  | [.lst xs], hg =>
    obtain ⟨v, rfl, s⟩ := one_of a
    obtain ⟨p, us, rfl, hl, dn⟩ := s.lst I.gh
    refine ⟨p, us, rfl, .inl (.of hl), fun t ht => ?_⟩
    obtain ⟨I', o⟩ := I.newLst ht dn
    exact k _ _ _ _ _ hg (Ex.refl G) I' o
  | [.tup xs], hg =>
    obtain ⟨v, rfl, s⟩ := one_of a
    obtain ⟨p, us, rfl, hl, dn⟩ := s.tup I.gh
    refine ⟨p, us, rfl, .inr hl, fun t ht => ?_⟩
    obtain ⟨I', o⟩ := I.newLst ht dn
    exact k _ _ _ _ _ hg (Ex.refl G) I' o
def bTuple : List D → (R → Prop) → Prop
  | [.lst xs], P => P (.val (.tup xs))
  | [.tup xs], P => P (.val (.tup xs))
  | _, _ => False
def rTupOf (K : PySem.W.Frag) : List V → Hp → VK → Prop := fun xs H Q => ∃ p ys, xs = [.ref p] ∧ ((SqL K H p ys ∧ ∀ l its, H l = none → Q (.ref l) (upd H l (.frz (tupObj its) (.tup ys)))) ∨ (SqT K H p ys ∧ Q (.ref p) H))
theorem call_tupF : CallR X (.type "tuple") (rTupOf X.K) := fun pins s σ H xs us Q I r h => by
  obtain ⟨p, ys, rfl, h⟩ := h
  rcases h with ⟨hl, q⟩ | ⟨ht, q⟩
  · obtain ⟨u, rfl, rx⟩ := vals1 r
    cases rx
    obtain ⟨ws, rel, pl, l⟩ := I.list hl
    have sz := rel.length
    refine call_tuple_list pl.isList (fun h' kp => ?_) (by rw [List.size_toArray]; omega)
    have J : Inv X pins σ H { s with heap := h' } := I.kept kp
    exact ⟨.ref h'.objs.size, _, layTup J rel l s.toks, rfl, q _ _ (J.hok.fresh (Nat.le_refl _))⟩
  · exact call_tuple_of pins s σ H _ us Q I r ⟨p, ys, rfl, .inr ⟨ht, q⟩⟩
theorem cl_tuple : CallLook K (rTupOf K) bTuple := fun C σ H G W δ vs ds P Q I a hg k => by
  match ds, hg with
  | [.lst xs], hg =>
    obtain ⟨v, rfl, s⟩ := one_of a
    obtain ⟨p, us, rfl, hl, dn⟩ := s.lst I.gh
    refine ⟨p, us, rfl, .inl ⟨.of hl, fun t its ht => ?_⟩⟩
    obtain ⟨I', o⟩ := I.newTup (its := its) ht dn
    exact k _ _ _ _ _ hg (Ex.new (I.fresh ht).1) I' o
  | [.tup xs], hg =>
    obtain ⟨v, rfl, s⟩ := one_of a
    obtain ⟨p, us, rfl, hl, dn⟩ := s.tup I.gh
    refine ⟨p, us, rfl, .inr ⟨hl, ?_⟩⟩
    rcases s with s | ⟨q, _, z⟩
    · exact k _ _ H G W hg (Ex.refl G) I s
    · exact z.elim
end
end DL

namespace DL
open PySem PySem.Spec L2

/-! ### defs that show data: no guard of a repr stands around -/
abbrev Quiet (A : Around) : Prop := A.guards = some []
structure FnG (P : Program) (w : World) (K : PySem.W.Frag) (mg : Str → Option Value) (base : Heap) (CX : CXT) (k : Nat) (f : Addr) (fd : FuncData) (ps : List Str) (sp : Sp) : Prop where
  len : ∀ vs H Q E, sp vs H Q E → vs.length = ps.length
  run : ∀ (A : Around) (outer : List Env) (s : Shared) (H : Hp) (args : Args) (us : List Value) (vs : List V) (Q : VK) (E : XK), Quiet A → Room k A → Env0 P w K mg base A outer s H → BindsTo s fd args (ps.zip us) →
    Vals vs us → sp vs H Q E → codeAny (model P w) A (.call (.ref f) args) (CR CX outer P w H s Q E) s
section
variable {P : Program} {w : World} {K : PySem.W.Frag} {mg : Str → Option Value} {base : Heap} {CX : CXT} {k : Nat} {f : Addr} {fd : FuncData} {ps : List Str} {sp : Sp}
theorem FnG.of (F : FnOk P w K mg base CX k f fd ps sp) : FnG P w K mg base CX k f fd ps sp := ⟨F.len, fun A o s H args us vs Q E _ hr => F.run A o s H args us vs Q E hr⟩
theorem quiet_deeper {A : Around} (h : Quiet A) (env : Env) : Quiet (A.deeper env) := h
/-- a def by its body, no guard around -/
theorem fn_quiet {name qual : Str} {params : Arguments} {body : List Stmt} {scope : Scope} {dV kV doc pm cdv ct oc : Value} {an od : Option Addr} {osl : Array (Option Value)} {N : List Str}
    (hlk : K.lookup f = some ⟨oc, od, .func (PySem.W.fnOf name qual params body scope dV kV doc pm an cdv ct), osl⟩) (hcd : PySem.W.codeIn K cdv qual = true) (Sc : FnScope N ps scope) (len : ∀ vs H Q E, sp vs H Q E → vs.length = ps.length)
    (bd : ∀ (A : Around) (outer : List Env) (s : Shared) (H : Hp) (vs : List V) (Q : VK) (E : XK), Quiet A → Room k (A.deeper (PyProof.Rows.envOfC qual scope s.heap.objs.size f cdv)) → sp vs H Q E →
      ∃ t, PSs (cxOf CX P w K mg base N qual scope f cdv A outer s H E) body t ∧ t { nx := fun _ H' => Q .non H', rt := Q } (start N vs) H) :
    FnG P w K mg base CX (k + 1) f (PySem.W.fnOf name qual params body scope dV kV doc pm an cdv ct) ps sp := by
  refine ⟨len, fun A outer s H args us vs Q E hgu hr e0 hb hv hsp => ?_⟩
  have kin : K.In s.heap := e0.mod.kin.keeps fun x y z => (e0.bs x y z).1
  have names : ∀ y ∈ ps.zip us, scope.names.lookup y.1 = some .local ∨ (scope.names.lookup y.1 = some .cell ∧ ((cellsFrom (s.heap.objs.size + 1) scope.names []).lookup y.1).isSome = true) := by
    rintro ⟨n, v⟩ hy
    exact (Sc.par n (List.of_mem_zip hy).1).imp id fun q => ⟨q, PySem.W.cellsFrom_some _ _ _ (.inl q)⟩
  apply codeAny_call_function hr.depth (kin _ _ hlk) rfl Sc.co Sc.gen rfl (PySem.W.codeRec_of kin hcd)
  apply hb
  apply wpAny_newFunctionEnv_cells Sc.kind names
  intro env henv s1 inn
  subst henv
  refine ⟨(e0.mod.nolimit.keeps fun x y z => (e0.bs x y z).1).keeps inn.toInCall.keep, codeAny_func ?_⟩
  obtain ⟨t, pt, ht⟩ := bd A outer s H vs Q E hgu (hr.deeper _) hsp
  refine wpAny_mono (pt.run [] s1 (start N vs) H _ (inv_start Sc hr.hd e0 (len _ _ _ _ hsp) hv inn) ht) (fun fl s' hs => ?_) fun _ _ z => z
  cases fl with
  | ret u => obtain ⟨v, σ', H', J, rv, q⟩ := hs; exact ⟨v, H', J.os, J.bare, J.base, J.hok, rv, q⟩
  | next => obtain ⟨σ', H', J, q⟩ := hs; exact ⟨V.non, H', J.os, J.bare, J.base, J.hok, rfl, q⟩
  | brk => obtain ⟨_, _, _, q⟩ := hs; exact q.elim
  | cont => obtain ⟨_, _, _, q⟩ := hs; exact q.elim
theorem fn_dg {x qual : Str} {sm : Stmt} {N : List Str} {S : DSp} (F : Fun K x qual sm f fd) (Sc : FnScope N ps (defScope sm)) (hl : ∀ rs P Xc, S rs P Xc → rs.length = ps.length) (hN : ps.length ≤ N.length)
    (hbody : ∀ (cdv : Value) (A : Around) (outer : List Env) (s : Shared) (H : Hp) (E : XK), Quiet A → Room k (A.deeper (PyProof.Rows.envOfC qual (defScope sm) s.heap.objs.size f cdv)) →
      ∃ ds, PSs (cxOf CX0 P w K mg base N qual (defScope sm) f cdv A outer s H E).nox (defBody sm) (liftS K L0 ds) ∧ ∀ rs P Xc, S rs P Xc → ds (endD P) (startD N rs)) : FnG P w K mg base CX0 (k + 1) f fd ps (spOf K S) := by
  obtain ⟨oc, od, kV, doc, pm, an, cdv, ct, osl, rfl, lk, hcd⟩ := F.ex
  refine fn_quiet lk hcd Sc (fun vs H Q E h => ?_) (fun A outer s H vs Q E hq hr h => ?_)
  · obtain ⟨bo, mo, G, rs, P, Xc, _, _, _, ha, hs, _⟩ := h
    rw [ha.1]; exact hl rs P Xc hs
  · obtain ⟨bo, mo, G, rs, P, Xc, hg, hb, hm, ha, hs, hq', hx⟩ := h
    obtain ⟨ds, hd, hk⟩ := hbody cdv A outer s H E hq hr
    refine ⟨_, hd.nox, ⟨bo, mo, H, G, fun _ => none⟩, G, fun _ => none, startD N rs, _, SI.start (by rw [ha.1, hl rs P Xc hs]; exact hN) hg hb hm ha, Lnk.zero, hk rs P Xc hs, ?_⟩
    refine ⟨fun σ' H' G' W' δ' x I hp => ?_, fun v σ' H' G' W' δ' r x I o fi hp => ?_, fun _ _ _ _ _ _ _ hp => hp, fun _ _ _ _ _ _ _ hp => hp⟩
    · rcases hp with hp | hp
      · exact hq' _ _ _ G' H' hp (I.fin I.b0) Den.non (fun _ z => by cases z)
      · exact hq' _ _ _ G' H' hp (I.fin I.b0) Den.non I.mfin
    · rcases hp with hp | hp
      · exact hq' _ _ v G' H' hp (I.fin I.b0) (ROk.fin o fi) (fun _ z => by cases z)
      · exact hq' _ _ v G' H' hp (I.fin I.b0) (ROk.fin o fi) I.mfin
end
section
variable {X : Cx} {L : Lk} {CX : CXT} {k : Nat} {f : Addr} {fd : FuncData} {ps : List Str} {sp : Sp} {S : DSp} {x : Str} {p pos : Pos} {e : Expr} {es : List Expr} {da : DA} {t : TA} {E : XK}
theorem run_quiet {pins : List (Addr × Obj)} {σ : St} {H : Hp} {s : Shared} {Q : VK} {us : List Value} {vs : List V} (F : FnG X.prog X.w X.K X.mg X.base CX k f fd ps sp) (hq : Quiet X.A) (hr : Room k X.A) (hb : Binds X.K fd ps []) (hx : Passes CX X E)
    (I : Inv X pins σ H s) (r : Vals vs us) (h : sp vs H Q E) : wpAny (model X.prog X.w) X.A (call (.ref f) us) (EP X pins σ Q) X.xe s := by
  have hl : (us ++ []).length = ps.length := by rw [List.append_nil, ← r.length]; exact F.len _ _ _ _ h
  have bb := hb s us I.kIn hl
  rw [List.append_nil] at bb
  apply wpAny_call
  apply codeAny_mono (F.run X.A X.stack s H ⟨us, []⟩ us vs Q E hq hr I.env0 bb r h)
  rintro (e | (u | _ | _ | _)) s' hz
  all_goals first | exact hx pins σ H s _ s' I hz | exact I.after hz | exact hz.elim
theorem pe_quiet (F : FnG X.prog X.w X.K X.mg X.base CX k f fd ps sp) (hq : Quiet X.A) (hr : Room k X.A) (hg : Gl X x) (hm : X.mg x = some (.ref f)) (hk : PySem.W.keepIn X.K (.ref f) = true) (hb : Binds X.K fd ps []) (hx : Passes CX X E)
    (ha : PA X (e :: es) t) (hdb : (x == ("__debug__" : Str)) = false := by decide) (he : starEach (e :: es) X.env = (false, eval e X.env) :: starEach es X.env := by rfl) (hpl : (backTo pos (starEach es X.env)).any (·.1) = false := by rfl) :
    PE X (.Call (.Name x p) (e :: es) [] pos) (fun σ H Q => t σ H fun vs H1 => sp vs H1 Q E) :=
  ⟨fun pins s σ H Q I h => wpAny_Call_Name_kw (ld_glob I hg hm (PySem.W.callWith_K (h₀ := X.base) I.ok.mod.kin hk (thn (ha.run pos pins s σ H _ I h) fun us s1 z => by
    obtain ⟨vs, H1, I1, rv, q⟩ := z
    exact ⟨I1.kIn, run_quiet F hq hr hb hx I1 rv q⟩) he hpl) hdb)⟩
theorem de_callG (F : FnG X.prog X.w X.K X.mg X.base CX0 k f fd ps (spOf X.K S)) (hq : Quiet X.A) (hr : Room k X.A) (hg : Gl X x) (hm : X.mg x = some (.ref f)) (hk : PySem.W.keepIn X.K (.ref f) = true) (hb : Binds X.K fd ps [])
    (ha : PA X (e :: es) (liftA X.K L da)) (hdb : (x == ("__debug__" : Str)) = false := by decide) (he : starEach (e :: es) X.env = (false, eval e X.env) :: starEach es X.env := by rfl) (hpl : (backTo pos (starEach es X.env)).any (·.1) = false := by rfl) :
    PE X (.Call (.Name x p) (e :: es) [] pos) (lift X.K L (dCall S da)) := PE.weak (pe_quiet F hq hr hg hm hk hb pass0 ha hdb he hpl) fun σ H Q h => by
      have z := lift_call σ H Q h
      obtain ⟨C, G, W, δ, P, I, lk, hd, kk⟩ := z
      refine ⟨C, G, W, δ, P, I, lk, hd, fun rs δ' vs H' G' W' h1 h2 h3 h4 => ?_⟩
      have z : spOf X.K S (vs ++ []) H' Q E0 := kk rs δ' vs H' G' W' h1 h2 h3 h4
      rwa [List.append_nil] at z
/-! ### repr -/
/-- what can be shown, n deep -/
def D.fit : Nat → D → Bool
  | _, .non => true
  | _, .bl _ => true
  | _, .int i => decide (i.natAbs.log2 < 1900)
  | _, .str x => PyData.strOk x
  | n + 1, .lst xs => xs.all (D.fit n)
  | n + 1, .tup xs => xs.all (D.fit n)
  | _, _ => false
/-- how many signs, at most -/
def D.wid : Nat → D → Nat
  | _, .non => 4
  | _, .bl _ => 5
  | _, .int i => i.natAbs.log2 + 2
  | _, .str x => 10 * x.length + 2
  | n + 1, .lst xs => 4 + (xs.map fun d => D.wid n d + 2).sum
  | n + 1, .tup xs => 4 + (xs.map fun d => D.wid n d + 2).sum
  | _, _ => 0
/-- what can be shown: n deep, w signs -/
def D.Fits (n w : Nat) (d : D) : Prop := d.fit n = true ∧ d.wid n ≤ w
theorem fit_ok : ∀ {n : Nat} {d : D}, d.fit n = true → d.Ok n
  | n, .non, _ => by unfold D.Ok; trivial
  | n, .bl b, _ => by unfold D.Ok; trivial
  | n, .int i, _ => by unfold D.Ok; trivial
  | n, .str x, h => by unfold D.fit at h; unfold D.Ok; exact h
  | 0, .lst xs, h => by cases h
  | 0, .tup xs, h => by cases h
  | n + 1, .lst xs, h => fun d hd => fit_ok (List.all_eq_true.mp h d hd)
  | n + 1, .tup xs, h => fun d hd => fit_ok (List.all_eq_true.mp h d hd)
  | 0, .dic _, h => by cases h
  | 0, .ins _ _, h => by cases h
  | 0, .ty _, h => by cases h
  | 0, .exc _ _ _, h => by cases h
  | n + 1, .dic _, h => by cases h
  | n + 1, .ins _ _, h => by cases h
  | n + 1, .ty _, h => by cases h
  | n + 1, .exc _ _ _, h => by cases h
theorem Fits.ok {n w : Nat} {d : D} (h : d.Fits n w) : d.Ok n := fit_ok h.1
theorem shownAll_map : ∀ ds : List PyData, PyData.shownAll ds = ds.map PyData.shown
  | [] => by simp only [PyData.shownAll, List.map_nil]
  | d :: ds => by simp only [PyData.shownAll, List.map_cons, shownAll_map ds]
theorem showableAll_of : ∀ ds : List PyData, (∀ d ∈ ds, d.showable = true) → PyData.showableAll ds = true
  | [], _ => by simp only [PyData.showableAll]
  | d :: ds, h => by
    simp only [PyData.showableAll, Bool.and_eq_true]
    exact ⟨h d (List.mem_cons_self ..), showableAll_of ds fun e he => h e (List.mem_cons_of_mem _ he)⟩
theorem sum_le {m : Nat} : ∀ (l : List Nat), (∀ x ∈ l, x ≤ m) → l.sum ≤ l.length * m
  | [], _ => by simp
  | x :: l, h => by
    have h1 := h x (List.mem_cons_self ..)
    have h2 := sum_le l fun y hy => h y (List.mem_cons_of_mem _ hy)
    rw [List.sum_cons, List.length_cons, Nat.succ_mul]
    omega
theorem sum_map_le {f g : D → Nat} : ∀ (l : List D), (∀ x ∈ l, f x ≤ g x) → (l.map f).sum ≤ (l.map g).sum
  | [], _ => by simp
  | x :: l, h => by
    have h1 := h x (List.mem_cons_self ..)
    have h2 := sum_map_le l fun y hy => h y (List.mem_cons_of_mem _ hy)
    simp only [List.map_cons, List.sum_cons]
    omega
theorem sum_two (f : D → Nat) : ∀ (l : List D), (l.map fun d => f d + 2).sum = (l.map f).sum + 2 * l.length
  | [] => by simp
  | x :: l => by
    simp only [List.map_cons, List.sum_cons, List.length_cons, sum_two f l]
    omega
theorem fits_sum {f : D → Nat} {xs : List D} (h : ∀ d ∈ xs, d.py.shown.length ≤ f d) : ((PyData.shownAll (D.pys xs)).map (·.length)).sum + 2 * (PyData.shownAll (D.pys xs)).length + 3 ≤ 4 + (xs.map fun d => f d + 2).sum := by
  rw [shownAll_map, pys_map, sum_two]
  have a := sum_map_le (f := fun d => d.py.shown.length) (g := f) xs h
  have e : (((xs.map D.py).map PyData.shown).map (·.length)) = xs.map fun d => d.py.shown.length := by simp [List.map_map, Function.comp_def]
  rw [e]
  simp only [List.length_map]
  omega
theorem fit_shown : ∀ {n : Nat} {d : D}, d.fit n = true → d.py.showable = true ∧ d.py.shown.length ≤ d.wid n
  | n, .non, h => by
    simp only [D.py, PyData.showable, PyData.shown, D.wid]; exact ⟨trivial, by decide +kernel⟩
  | n, .bl b, h => by
    simp only [D.py, PyData.showable, PyData.shown, D.wid]
    refine ⟨trivial, ?_⟩
    cases b
    · exact (by decide +kernel : (Str.ofString "False").length ≤ 5)
    · exact (by decide +kernel : (Str.ofString "True").length ≤ 5)
  | n, .int i, h => by
    have h1 : i.natAbs.log2 < 1900 := by unfold D.fit at h; exact of_decide_eq_true h
    simp only [D.py, PyData.showable, PyData.shown, D.wid]
    refine ⟨decide_eq_true (by omega), ?_⟩
    have h2 : i.natAbs < 10 ^ (i.natAbs.log2 + 1) := Nat.lt_of_lt_of_le Nat.lt_log2_self (Nat.pow_le_pow_left (by decide) _)
    have := int_text_length_le10 (a := i) (k := i.natAbs.log2 + 1) (by omega) h2
    exact (show (Str.ofString (toString i)).length ≤ i.natAbs.log2 + 2 by rw [ofString_length]; omega)
  | n, .str x, h => by
    have h1 : PyData.strOk x = true := by unfold D.fit at h; exact h
    simp only [D.py, PyData.showable, PyData.shown, D.wid]
    refine ⟨trivial, PySem.StrLaws.reprText_len x fun c hc => ?_⟩
    unfold PyData.strOk at h1
    rw [Array.all_eq_true'] at h1
    have := h1 c (by simpa using hc)
    have : c < 0x110000 := of_decide_eq_true this
    omega
  | 0, .lst xs, h => by cases h
  | 0, .tup xs, h => by cases h
  | n + 1, .lst xs, h => by
    have h2 : ∀ d ∈ xs, d.fit n = true := List.all_eq_true.mp h
    have a : ∀ e ∈ D.pys xs, e.showable = true := fun e he => by
      rw [pys_map] at he
      obtain ⟨d, hd, rfl⟩ := List.mem_map.mp he
      exact (fit_shown (h2 d hd)).1
    simp only [D.py, PyData.showable, PyData.shown, D.wid]
    exact ⟨showableAll_of _ a, Nat.le_trans (listText_len_le _) (fits_sum fun d hd => (fit_shown (h2 d hd)).2)⟩
  | n + 1, .tup xs, h => by
    have h2 : ∀ d ∈ xs, d.fit n = true := List.all_eq_true.mp h
    have a : ∀ e ∈ D.pys xs, e.showable = true := fun e he => by
      rw [pys_map] at he
      obtain ⟨d, hd, rfl⟩ := List.mem_map.mp he
      exact (fit_shown (h2 d hd)).1
    simp only [D.py, PyData.showable, PyData.shown, D.wid]
    exact ⟨showableAll_of _ a, Nat.le_trans (tupleText_len_le _) (fits_sum fun d hd => (fit_shown (h2 d hd)).2)⟩
  | 0, .dic _, h => by cases h
  | 0, .ins _ _, h => by cases h
  | 0, .ty _, h => by cases h
  | 0, .exc _ _ _, h => by cases h
  | n + 1, .dic _, h => by cases h
  | n + 1, .ins _ _, h => by cases h
  | n + 1, .ty _, h => by cases h
  | n + 1, .exc _ _ _, h => by cases h
theorem Fits.shown {n w : Nat} {d : D} (h : d.Fits n w) : d.py.showable = true ∧ d.py.shown.length ≤ w := ⟨(fit_shown h.1).1, Nat.le_trans (fit_shown h.1).2 h.2⟩
def rRepr (K : PySem.W.Frag) : List V → Hp → VK → Prop := fun xs H Q => ∃ (x : V) (d : D) (n w : Nat), xs = [x] ∧ Den K H x d ∧ d.Fits n w ∧ n ≤ 60 ∧ w ≤ sizeLine ∧ Q (.str d.py.shown) H
theorem call_reprD (hq : Quiet X.A) (hu : X.A.units + 64 < cLine) : CallR X (.builtin "repr") (rRepr X.K) := by
  intro pins s σ H xs us Q I r h
  obtain ⟨x, d, n, w, rfl, dn, hf, hn, hw, q⟩ := h
  obtain ⟨u, rfl, rx⟩ := vals1 r
  obtain ⟨hs, hl⟩ := Fits.shown hf
  have ok := Fits.ok hf
  obtain ⟨lay, dep⟩ := Ok_lay ok
  have nd := PyData.hasDict_of_canLay _ lay
  obtain ⟨as, rd⟩ := Dp.reads I d.py x u (dn.dp ok) rx
  have fin : ∀ (y : Str) (t : Tok) (tk : Nat), y = d.py.shown → EP X pins σ Q (.str y t) { s with toks := tk } := fun y t tk e => ⟨.str y, H, I.tok tk, ⟨t, rfl⟩, by rw [e]; exact q⟩
  cases dn with
  | non => obtain rfl : u = Value.none := rx; exact P.repr_of_none (fin _ _ _ (by simp only [D.py, PyData.shown]))
  | bl b => obtain rfl : u = Value.bool b := rx; exact P.repr_of_bool (fin _ _ _ (by cases b <;> simp [D.py, PyData.shown]))
  | int i =>
    obtain ⟨t, rfl⟩ := rx
    refine P.repr_of_int ?_ (fin _ _ _ (by simp only [D.py, PyData.shown]))
    simp only [D.py, PyData.showable] at hs
    exact of_decide_eq_true hs
  | str z =>
    obtain ⟨t, rfl⟩ := rx
    refine P.repr_of_str (fin _ _ _ (by simp only [D.py, PyData.shown])) ?_
    simp only [D.py, PyData.shown] at hl
    exact Nat.le_trans hl hw
  | ty m => cases n <;> cases hf.1
  | exc a d fs => cases n <;> cases hf.1
  | dic _ _ _ _ => cases n <;> cases hf.1
  | ins _ _ _ _ => cases n <;> cases hf.1
  | lst h l e =>
    cases rx
    exact repr_of_reads' rd hs (fun z => by rw [nd] at z; cases z) hq (by omega) (fun _ _ z => z) (fun h' t tk k => ⟨.str _, H, I.kept k, ⟨t, rfl⟩, q⟩) (Nat.le_trans hl hw)
  | tup h l e =>
    cases rx
    exact repr_of_reads' rd hs (fun z => by rw [nd] at z; cases z) hq (by omega) (fun _ _ z => z) (fun h' t tk k => ⟨.str _, H, I.kept k, ⟨t, rfl⟩, q⟩) (Nat.le_trans hl hw)
def bRepr : List D → (R → Prop) → Prop
  | [d], P => ∃ n w, d.Fits n w ∧ n ≤ 60 ∧ w ≤ sizeLine ∧ P (.val (.str d.py.shown))
  | _, _ => False
theorem cl_repr {K : PySem.W.Frag} : CallLook K (rRepr K) bRepr := fun C σ H G W δ vs ds P Q I a hg k => by
  match ds, hg with
  | [d], ⟨n, w, h1, h2, h3, h4⟩ =>
    obtain ⟨v, rfl, s⟩ := one_of a
    exact ⟨v, d, n, w, rfl, s.den I.gh, h1, h2, h3, k _ _ H G W h4 (Ex.refl G) I (Den.str _)⟩
end
end DL

namespace DL
open PySem PySem.Spec L2

section
variable {X : Cx} {K : PySem.W.Frag} {L : Lk} {C : Ct} {σ : St} {H G : Hp} {W : Ow} {δ : List R} {pos : Pos} {e : Expr} {de : DE}
/-! ### what is one's own is changed -/
theorem SI.write {i : Nat} {p : Addr} {d d' : D} {o : HO} (I : SI K C σ H G W δ) (hi : gt δ i = .own d) (hs : σ[i]? = some (some (.ref p))) (ht : Top K G (upd H p o) p d') : SI K C σ (upd H p o) G W (st δ i (.own d')) := by
  obtain ⟨v, h1, h2⟩ := I.sl i (by rw [hi]; simp)
  rw [hs] at h1; cases h1
  rw [hi] at h2
  obtain ⟨q, e, ⟨m1, m2, m3, m4⟩, h5, h6⟩ := h2
  cases e
  have mn : ∀ z, C.mo = some z → z ≠ p := fun z hz => by rintro rfl; exact (I.mu z hz).1 m2
  refine ⟨fun a u e => ?_, I.g0, fun a u nb nm e => ?_, I.gz, I.b0, fun b hb => ?_, fun a u e => ?_, fun z hz => ?_, by rw [st_len]; exact I.ln, fun j hj => ?_⟩
  · rw [upd_ne (ne_of_none e m1)]; exact I.gh a u e
  · rw [upd_ne (ne_of_none (H := C.H0) e m2)]; exact I.hh a u nb nm e
  · have ne : b ≠ p := by rintro rfl; exact m3 hb
    exact (I.bag b hb).mono (Ex.refl G) (I.bag b hb).1 (upd_ne ne)
  · have ne : a ≠ p := by rintro rfl; rw [m4] at e; cases e
    rw [upd_ne ne]; exact I.tm a u e
  · obtain ⟨n1, n2, n3, n4, n5⟩ := I.mu z hz
    exact ⟨n1, n2, n3, n4, by rw [upd_ne (mn z hz)]; exact n5⟩
  · by_cases hij : i = j
    · subst hij
      have hl : i < δ.length := by have := gt_len hj; rwa [st_len] at this
      rw [gt_st_here hl]
      exact ⟨_, hs, p, rfl, ⟨m1, m2, m3, m4⟩, h5, ht⟩
    · rw [gt_st_ne δ i j _ hij] at hj ⊢
      obtain ⟨v, h1, h2⟩ := I.sl j hj
      refine ⟨v, h1, ?_⟩
      cases q : gt δ j with
      | no => exact trivial
      | val d => rw [q] at h2; exact h2
      | bag => rw [q] at h2; exact h2
      | pk k => rw [q] at h2; exact absurd h2.1 (by simp)
      | bor d2 =>
        rw [q] at h2
        obtain ⟨t0, a, e, ev, h6⟩ := h2
        exact ⟨t0, a, e, ev, h6.mono (Ex.refl G) (upd_ne (mn a e))⟩
      | own d2 =>
        rw [q] at h2
        obtain ⟨a, e, m, h7, h8⟩ := h2
        have ne : a ≠ p := by rintro rfl; rw [h5] at h7; exact hij (Option.some.inj h7)
        exact ⟨a, e, m, h7, h8.mono (Ex.refl G) (upd_ne ne)⟩
theorem SI.ownAt {i : Nat} {d : D} (I : SI K C σ H G W δ) (hi : gt δ i = .own d) : ∃ p, σ[i]? = some (some (.ref p)) ∧ Top K G H p d := by
  obtain ⟨v, h1, h2⟩ := I.sl i (by rw [hi]; simp)
  rw [hi] at h2
  obtain ⟨q, e, m, h5, h6⟩ := h2
  subst e
  exact ⟨q, h1, h6⟩
/-- the same of a list that was lent -/
theorem SI.writeM {i : Nat} {p : Addr} {d d' : D} {o : HO} (I : SI K C σ H G W δ) (hi : gt δ i = .bor d) (h1 : borOf (st δ i .no) = none) (hs : σ[i]? = some (some (.ref p))) (ht : Top K G (upd H p o) p d') : SI K C σ (upd H p o) G W (st δ i (.bor d')) := by
  obtain ⟨v, h1', h2⟩ := I.sl i (by rw [hi]; simp)
  rw [hs] at h1'; cases h1'
  rw [hi] at h2
  obtain ⟨t0, q, em, e, h6⟩ := h2
  cases e
  obtain ⟨m1, m2, m3, m4, m5⟩ := I.mu p em
  have gp : G p = none := (I.gz p m1).trans m2
  refine ⟨fun a u e => ?_, I.g0, fun a u nb nm e => ?_, I.gz, I.b0, fun b hb => ?_, fun a u e => ?_, fun z hz => ?_, by rw [st_len]; exact I.ln, fun j hj => ?_⟩
  · rw [upd_ne (ne_of_none e gp)]; exact I.gh a u e
  · have ne : a ≠ p := by rintro rfl; exact nm em
    rw [upd_ne ne]; exact I.hh a u nb nm e
  · have ne : b ≠ p := by rintro rfl; exact m3 hb
    exact (I.bag b hb).mono (Ex.refl G) (I.bag b hb).1 (upd_ne ne)
  · have ne : a ≠ p := by rintro rfl; rw [m4] at e; cases e
    rw [upd_ne ne]; exact I.tm a u e
  · rw [em] at hz; cases hz
    exact ⟨m1, m2, m3, m4, by rw [upd_same]; simp⟩
  · by_cases hij : i = j
    · subst hij
      have hl : i < δ.length := by have := gt_len hj; rwa [st_len] at this
      rw [gt_st_here hl]
      exact ⟨_, hs, by simp, p, em, rfl, ht⟩
    · rw [gt_st_ne δ i j _ hij] at hj ⊢
      obtain ⟨v, h1', h2⟩ := I.sl j hj
      refine ⟨v, h1', ?_⟩
      cases q : gt δ j with
      | no => exact trivial
      | val d => rw [q] at h2; exact h2
      | bag => rw [q] at h2; exact h2
      | pk k => rw [q] at h2; exact absurd h2.1 (by simp)
      | bor d2 => exact absurd (by rw [gt_st_ne δ i j _ hij]; exact q) (borOf_none h1 j d2)
      | own d2 =>
        rw [q] at h2
        obtain ⟨a, e, m, h7, h8⟩ := h2
        have ne : a ≠ p := by rintro rfl; exact m1 m.2.1
        exact ⟨a, e, m, h7, h8.mono (Ex.refl G) (upd_ne ne)⟩
/-- a slot whose object may be written: one's own, or lent -/
def wrR (r : R) (m : Option D) : Option (D × Bool) := match r with
  | .own d => some (d, false)
  | .bor d => match m with
    | none => some (d, true)
    | some _ => none
  | _ => none
def wrOf (δ : List R) (i : Nat) : Option (D × Bool) := wrR (gt δ i) (borOf (st δ i .no))
def wrAs : Bool → D → R
  | false, d => .own d
  | true, d => .bor d
theorem wr_own {i : Nat} {d : D} (h : wrOf δ i = some (d, false)) : gt δ i = .own d := by
  unfold wrOf wrR at h
  split at h
  · cases h; assumption
  · split at h <;> cases h
  · cases h
theorem wr_bor {i : Nat} {d : D} (h : wrOf δ i = some (d, true)) : gt δ i = .bor d ∧ borOf (st δ i .no) = none := by
  unfold wrOf wrR at h
  split at h
  · cases h
  · split at h
    · cases h; exact ⟨by assumption, by assumption⟩
    · cases h
  · cases h
theorem SI.writeB {i : Nat} {p : Addr} {d d' : D} {o : HO} {b : Bool} (I : SI K C σ H G W δ) (hi : wrOf δ i = some (d, b)) (hs : σ[i]? = some (some (.ref p))) (ht : Top K G (upd H p o) p d') : SI K C σ (upd H p o) G W (st δ i (wrAs b d')) := by
  cases b with
  | false => exact I.write (wr_own hi) hs ht
  | true => exact I.writeM (wr_bor hi).1 (wr_bor hi).2 hs ht
theorem SI.wrAt {i : Nat} {d : D} {b : Bool} (I : SI K C σ H G W δ) (hi : wrOf δ i = some (d, b)) : ∃ p, σ[i]? = some (some (.ref p)) ∧ Top K G H p d := by
  cases b with
  | false => exact I.ownAt (wr_own hi)
  | true =>
    obtain ⟨v, h1, h2⟩ := I.sl i (by rw [(wr_bor hi).1]; simp)
    rw [(wr_bor hi).1] at h2
    obtain ⟨_, q, _, e, h6⟩ := h2
    subst e
    exact ⟨q, h1, h6⟩
/-- x.append(e), x one's own -/
def dApp (i : Nat) (de : DE) : DE := fun δ P => (∃ ds0 b, wrOf δ i = some (.lst ds0, b)) ∧ de δ fun r δ1 => ∃ d δ2 ds b, use r δ1 = some (.val d, δ2) ∧ wrOf δ2 i = some (.lst ds, b) ∧ ds.length < sizeLine ∧ P (.val .non) (st δ2 i (wrAs b (.lst (ds ++ [d]))))
theorem de_append {i : Nat} {x : Str} {px apos cpos : Pos} (ho : PE X (.Name x px) (tVar i)) (ha : PE X e (lift X.K L de))
    (hbase : attributeBase (.Name x px) "append" X.env (eval (.Name x px) X.env) = eval (.Name x px) X.env := by rfl)
    (hfew : ((backTo cpos (starEach [e] X.env)).all (fun x => !x.1) && (backToKw cpos (keywordEach [] X.env)).all (fun x => x.1.isSome) && decide (([e] : List Expr).length + ([] : List Keyword).length + (if ([] : List Keyword).isEmpty then 0 else 1) < 30)) = true := by rfl)
    (hline : (apos.endLine == cpos.line) = true := by rfl) (hs : starEach [e] X.env = (false, eval e X.env) :: starEach [] X.env := by rfl) (hplain : (backTo cpos (starEach [] X.env)).any (·.1) = false := by rfl) :
    PE X (.Call (.Attribute (.Name x px) "append" apos) [e] [] cpos) (lift X.K L (dApp i de)) :=
  PE.weak (pe_bm PySem.F.plainAttrs_list PySem.F.slot_list_append PySem.F.type_list_append mt_append ho (pa_cons ha pa_nil hs) hbase hfew hline hs hplain) <| lift_of fun C σ H G W δ P Q I lk h k => by
    obtain ⟨⟨ds0, b0, h0⟩, h⟩ := h
    obtain ⟨p, hp, vs0, ht, _⟩ := I.wrAt h0
    refine ⟨.ref p, hp, .inl ⟨rfl, vs0, .of ht⟩, C, G, W, δ, _, I, lk, h, fun r δ1 v H1 G1 W1 h1 x1 I1 o1 => ?_⟩
    obtain ⟨d, δ2, ds, b, e, hg, hz, hp'⟩ := h1
    obtain ⟨G2, x2, I2, o2, _⟩ := I1.useOk o1 e
    obtain ⟨q, hq, vs, hv, dn⟩ := I2.wrAt hg
    rw [hp] at hq
    have eq : p = q := by simpa using hq
    subst eq
    refine ⟨p, vs, v, rfl, rfl, hv, by rw [dn.1]; exact hz, ?_⟩
    exact k _ _ _ _ _ W1 hp' (x1.trans x2) (I2.writeB hg hp ⟨_, upd_same, dn.append (.cons o2 .nil)⟩) Den.non
/-! ### xs[i] read for xs[i] += e -/
def rGetL (K : PySem.W.Frag) : V → V → Hp → VK → Prop := fun o i H Q => ∃ p xs k v, o = .ref p ∧ i = .int (k : Nat) ∧ SqL K H p xs ∧ xs[k]? = some v ∧ k < 2 ^ 62 ∧ Q v H
theorem get_listG : PGet X (rGetL X.K) := fun pins s σ H o i ov iv Q I ro ri h => by
  obtain ⟨p, xs, k, v, rfl, rfl, hl, hv, hk, q⟩ := h
  cases ro
  obtain ⟨t, rfl⟩ := ri
  obtain ⟨ys, rel, pl, _⟩ := I.list hl
  obtain ⟨y, ey, ry⟩ := rel.get hv
  exact wpAny_getItem_list pl.isList (by omega) (by omega) (by simpa using ey) ⟨v, H, I, ry, q⟩
end
end DL

namespace DL
open PySem PySem.Spec L2

section
variable {X : Cx} {K : PySem.W.Frag} {L : Lk} {pos : Pos} {e ix : Expr} {de dx : DE}
/-- x[i] = e, x one's own -/
def dSetIx (i : Nat) (dx de : DE) : DS := fun DD δ => de δ fun r δ1 => (∃ ds0, gt δ1 i = .own (.lst ds0)) ∧ dx δ1 fun r2 δ2 => ∃ d δ3 ds k j, use r δ2 = some (.val d, δ3) ∧ peek r2 δ3 = some (.int k) ∧ gt δ3 i = .own (.lst ds) ∧ ixN ds.length k = some j ∧ DD.nx (st δ3 i (.own (.lst (ds.set j d))))
theorem peek_keep {δ δ' : List R} {r r' rr : R} (h : use rr δ = some (r', δ')) : ∀ {d : D}, peek r δ' = some d → peek r δ = some d := by
  intro d e
  cases rr with
  | no => cases h
  | bor x => cases h
  | val x => cases h; exact e
  | own x => cases h; exact e
  | bag => cases h; exact e
  | pk i =>
    have h : usePk (gt δ i) i δ = some (r', δ') := h
    cases q : gt δ i with
    | no => rw [q] at h; cases h
    | pk j => rw [q] at h; cases h
    | bor j => rw [q] at h; cases h
    | val x => rw [q] at h; cases h; exact e
    | bag => rw [q] at h; cases h; exact e
    | own x =>
      rw [q] at h; cases h
      cases r with
      | pk j =>
        have e : (gt (st δ i (.val x)) j).dat = some d := e
        show (gt δ j).dat = some d
        by_cases hij : i = j
        · subst hij
          have hl : i < δ.length := gt_len (by rw [q]; simp)
          rw [gt_st_here hl] at e
          rw [q]; exact e
        · rw [gt_st_ne δ i j _ hij] at e; exact e
      | _ => exact e
theorem ds_setIx {i : Nat} {x : Str} {px tpos : Pos} (he : PE X e (lift X.K L de)) (pg : PG X (.Subscript (.Name x px) ix tpos) (L2.gSub (tVar i) (lift X.K L dx) rSetL))
    (hs : swapsWithSole [.Subscript (.Name x px) ix tpos] e pos.line X.env = pure false := by rfl) (hw : swappedStores [.Subscript (.Name x px) ix tpos] e X.env = pure none := by rfl) (h1 : (assignEach [.Subscript (.Name x px) ix tpos] X.env).map (·.2) = [assign (.Subscript (.Name x px) ix tpos) X.env] := by rfl) :
    PS X (.Assign [.Subscript (.Name x px) ix tpos] e pos) (liftS X.K L (dSetIx i dx de)) :=
  PS.weak (ps_asg he pg hs hw h1) <| liftS_of fun C D σ H G W δ DD I lk h k => ⟨C, G, W, δ, _, I, lk, h, fun r δ1 v H1 G1 W1 h1 x1 I1 o1 => by
    obtain ⟨G1', x1', I1', o1'⟩ := I1.pub o1
    obtain ⟨⟨ds0, h0⟩, h1⟩ := h1
    obtain ⟨p, hp, _⟩ := I1'.ownAt h0
    refine ⟨.ref p, hp, C, G1', W1, δ1, _, I1', lk.mono (x1.trans x1'), h1, fun r2 δ2 y H2 G2 W2 h2 x2 I2 o2 => ?_⟩
    obtain ⟨d, δ3, ds, k', j, e1, e2, e3, e4, hn⟩ := h2
    obtain ⟨G2', x2', I2', o2'⟩ := I2.pub o2
    rw [← use_pub] at e1
    obtain ⟨G3, x3, I3, o3, _⟩ := I2'.useOk (ROk.keep o1' (x2.trans x2')) e1
    rw [← peek_pub] at e2
    have ey := ((I3.peekOk (ROk.keep o2' x3) e2).den I3.gh).of_int
    subst ey
    obtain ⟨q, hq, vs, hv, dn⟩ := I3.ownAt e3
    rw [hp] at hq
    have eq : p = q := by simpa using hq
    subst eq
    refine ⟨p, vs, k', j, rfl, rfl, hv, by rw [dn.1]; exact e4, ?_⟩
    exact k.nx σ _ G3 W2 _ ((((x1.trans x1').trans x2).trans x2').trans x3) (I3.write (d' := .lst (ds.set j d)) e3 hp ⟨_, upd_same, All2.set dn j o3⟩) hn⟩
/-- x[i] += e, x one's own, numbers -/
def dAugIx (i : Nat) (dx de : DE) : DS := fun DD δ => (∃ ds0, gt δ i = .own (.lst ds0)) ∧ dx δ fun r1 δ1 => (∃ (k : Nat) (ds : List D) (a : Int), peek r1 δ1 = some (.int k) ∧ k < 2 ^ 62 ∧ gt δ1 i = .own (.lst ds) ∧ ds[k]? = some (.int a) ∧
  de δ1 fun r2 δ2 => ∃ b, peek r2 δ2 = some (.int b) ∧ gt δ2 i = .own (.lst ds) ∧ DD.nx (st δ2 i (.own (.lst (ds.set k (.int (a + b)))))))
theorem ds_augIx {i : Nat} {x : Str} {px tpos : Pos} (ho : PE X (.Name x px) (tVar i)) (hx : PE X ix (lift X.K L dx)) (he : PE X e (lift X.K L de))
    (ha : ∀ ov iv new, augStore ix ov iv new = (do holding [new, ov, iv] (setItem ov iv new); release [new, ov, iv] []; pure .next) := by intros; rfl) : PS X (.AugAssign (.Subscript (.Name x px) ix tpos) .Add e pos) (liftS X.K L (dAugIx i dx de)) :=
  PS.weak (ps_augS ho hx get_listG he ip_add set_list ha) <| liftS_of fun C D σ H G W δ DD I lk h k => by
    obtain ⟨⟨ds0, h0⟩, h⟩ := h
    obtain ⟨p, hp, _⟩ := I.ownAt h0
    refine ⟨.ref p, hp, C, G, W, δ, _, I, lk, h, fun r1 δ1 y H1 G1 W1 h1 x1 I1 o1 => ?_⟩
    obtain ⟨k', ds, a, e1, hk, e2, e3, h1⟩ := h1
    have ey := ((I1.peekOk o1 e1).den I1.gh).of_int
    subst ey
    obtain ⟨q, hq, vs, hv, dn⟩ := I1.ownAt e2
    rw [hp] at hq
    have eq : p = q := by simpa using hq
    subst eq
    obtain ⟨va, hva, da⟩ := dn.get e3
    have eva := da.of_int
    subst eva
    refine ⟨p, vs, k', .int a, rfl, rfl, .of hv, hva, hk, C, G1, W1, δ1, _, I1, lk.mono x1, h1, fun r2 δ2 z H2 G2 W2 h2 x2 I2 o2 => ?_⟩
    obtain ⟨b, e4, e5, hn⟩ := h2
    have ez := ((I2.peekOk o2 e4).den I2.gh).of_int
    subst ez
    obtain ⟨q, hq, vs2, hv2, dn2⟩ := I2.ownAt e5
    rw [hp] at hq
    have eq : p = q := by simpa using hq
    subst eq
    have hkl : k' < ds.length := (List.getElem?_eq_some_iff.mp e3).1
    refine ⟨a, b, rfl, rfl, p, vs2, (k' : Int), k', rfl, rfl, hv2, ?_, ?_⟩
    · unfold ixN
      rw [if_pos (by omega), if_pos (by rw [dn2.1]; omega)]; simp
    · exact k.nx σ _ G2 W2 _ (x1.trans x2) (I2.write (d' := .lst (ds.set k' (.int (a + b)))) e5 hp ⟨_, upd_same, All2.set dn2 k' (Den.int _)⟩) hn
end
/-! ### drawing from the bag -/
def takeS : DSp := fun rs P _ => ∃ n, rs = [.bag, .val (.int n)] ∧ 0 < n ∧ n < 1073741824 ∧ ∀ r : Int, 0 ≤ r → r < n → P (.val (.int r)) none
def bagD (x y z : Int) (ns : List Int) : D := .lst [.int x, .int y, .int z, .lst (ns.map D.int)]
section
variable {P : Program} {w : World} {K : PySem.W.Frag} {mg : Str → Option Value} {base : Heap}
theorem dens_ints {G : Hp} : ∀ (ns : List Int), Dens K G (ns.map V.int) (ns.map D.int)
  | [] => .nil
  | n :: ns => .cons (.int n) (dens_ints ns)
theorem ints_dens {G : Hp} : ∀ {ns : List Int} {vs : List V}, Dens K G vs (ns.map D.int) → vs = ns.map V.int
  | [], vs, h => h.nil_right
  | n :: ns, vs, h => by
    obtain ⟨v, r, rfl, h1, h2⟩ := All2.cons_right (ys := ns.map D.int) h
    rw [h1.of_int, ints_dens h2]; rfl
/-- what drawing does to the heap -/
theorem take_fin {bo mo : Option Addr} {G H : Hp} (hm : Lent bo mo G H) {b c : Addr} {x y z : Int} {ns : List Int} (hbo : bo = some b) (hg : Ex G H) (gb : G b = none) (gc : G c = some (.lst (ns.map V.int))) (h1 : 0 ≤ x) (h2 : 0 ≤ y) (h3 : y < 2147483647) (h4 : 0 ≤ z) (h5 : ∀ n ∈ ns, 0 ≤ n) :
    Fin bo mo G H G (upd H b (.lst [.int x, .int y, .int z, .ref c])) := by
  refine ⟨Ex.refl G, fun a o e => ?_, fun a o nb _ e => ?_, fun _ _ => rfl, fun b' e => ?_, fun p e => ?_⟩
  · rw [upd_ne (ne_of_none e gb)]; exact hg a o e
  · have ne : a ≠ b := by rintro rfl; exact nb hbo
    rw [upd_ne ne]; exact e
  · rw [hbo] at e; cases e
    exact ⟨gb, x, y, z, c, ns, upd_same, gc, h1, h2, h3, h4, h5⟩
  · have ne : p ≠ b := by rintro rfl; exact (hm p e).2.2 hbo
    rw [upd_ne ne]; exact (hm p e).1
end
/-! ### the defs of a text, and what they keep -/
def Df (K : PySem.W.Frag) (mg : Str → Option Value) (x : Str) (sm : Stmt) : Prop := ∃ (f : Addr) (fd : FuncData), Fun K x x sm f fd ∧ mg x = some (.ref f)
def Fc (P : Program) (w : World) (K : PySem.W.Frag) (mg : Str → Option Value) (base : Heap) (k : Nat) (x : Str) (ps : List Str) (S : DSp) : Prop :=
  ∃ (f : Addr) (fd : FuncData), FnOk P w K mg base CX0 k f fd ps (spOf K S) ∧ mg x = some (.ref f) ∧ PySem.W.keepIn K (.ref f) = true ∧ Binds K fd ps []
def FcG (P : Program) (w : World) (K : PySem.W.Frag) (mg : Str → Option Value) (base : Heap) (k : Nat) (x : Str) (ps : List Str) (S : DSp) : Prop :=
  ∃ (f : Addr) (fd : FuncData), FnG P w K mg base CX0 k f fd ps (spOf K S) ∧ mg x = some (.ref f) ∧ PySem.W.keepIn K (.ref f) = true ∧ Binds K fd ps []
section
variable {X : Cx} {L : Lk} {k : Nat} {ps : List Str} {S : DSp} {x : Str} {p pos : Pos} {e : Expr} {es : List Expr} {da : DA}
theorem de_fc (F : Fc X.prog X.w X.K X.mg X.base k x ps S) (hr : Room k X.A) (hg : Gl X x) (ha : PA X (e :: es) (liftA X.K L da)) (hdb : (x == ("__debug__" : Str)) = false := by decide)
    (he : starEach (e :: es) X.env = (false, eval e X.env) :: starEach es X.env := by rfl) (hpl : (backTo pos (starEach es X.env)).any (·.1) = false := by rfl) : PE X (.Call (.Name x p) (e :: es) [] pos) (lift X.K L (dCall S da)) :=
  let ⟨_, _, h1, h2, h3, h4⟩ := F
  de_call h1 hr hg h2 h3 h4 ha hdb he hpl
theorem de_fc0 (F : Fc X.prog X.w X.K X.mg X.base k x ps S) (hr : Room k X.A) (hg : Gl X x) (hdb : (x == ("__debug__" : Str)) = false := by decide) : PE X (.Call (.Name x p) [] [] pos) (lift X.K L (dCall S dNil)) :=
  let ⟨_, _, h1, h2, h3, h4⟩ := F
  de_call0 h1 hr hg h2 h3 h4 hdb
theorem de_fcG (F : FcG X.prog X.w X.K X.mg X.base k x ps S) (hq : Quiet X.A) (hr : Room k X.A) (hg : Gl X x) (ha : PA X (e :: es) (liftA X.K L da)) (hdb : (x == ("__debug__" : Str)) = false := by decide)
    (he : starEach (e :: es) X.env = (false, eval e X.env) :: starEach es X.env := by rfl) (hpl : (backTo pos (starEach es X.env)).any (·.1) = false := by rfl) : PE X (.Call (.Name x p) (e :: es) [] pos) (lift X.K L (dCall S da)) :=
  let ⟨_, _, h1, h2, h3, h4⟩ := F
  de_callG h1 hq hr hg h2 h3 h4 ha hdb he hpl
end
end DL

namespace DL
open PySem PySem.Spec L2
/-! ### going through a reading over data, from the left -/
theorem okI {n : Nat} {i : Int} : D.Ok n (.int i) := by unfold D.Ok; trivial
theorem okN {n : Nat} : D.Ok n .non := by unfold D.Ok; trivial
theorem okB {n : Nat} {b : Bool} : D.Ok n (.bl b) := by unfold D.Ok; trivial
theorem okS {n : Nat} {x : Str} (h : PyData.strOk x = true) : D.Ok n (.str x) := by unfold D.Ok; exact h
theorem okT {n : Nat} {xs : List D} (h : ∀ d ∈ xs, D.Ok n d) : D.Ok (n + 1) (.tup xs) := h
theorem okL {n : Nat} {xs : List D} (h : ∀ d ∈ xs, D.Ok n d) : D.Ok (n + 1) (.lst xs) := h
theorem eqII {n : Nat} {i j : Int} : eqD n (.int i) (.int j) = (i == j) := by unfold eqD; rfl
theorem eqSS {n : Nat} {x y : Str} : eqD n (.str x) (.str y) = (x == y) := by unfold eqD; rfl
section
variable {δ δ1 δ2 δ3 δ4 : List R} {P : R → List R → Prop} {PB : Bool → List R → Prop} {PA : List R → List R → Prop} {da db de dx : DE} {t u : DT} {DD : DEnds} {i j : Nat} {d d1 d2 d' : D} {r r1 r2 r' : R} {Q : R → Prop} {a b c : DS}
theorem i_var (h : P (.pk i) δ) (e : (gt δ i).on = true := by rfl) : dVar i δ P := ⟨e, h⟩
theorem i_c (h : P (.val d) δ) : dC d δ P := h
theorem i_bin {g : D → D → (R → Prop) → Prop} (h : da δ fun r1 δ1 => db δ1 fun r2 δ2 => ∃ d1 δ3 d2 δ4, use r1 δ2 = some (.val d1, δ3) ∧ use r2 δ3 = some (.val d2, δ4) ∧ g d1 d2 fun r => P r δ4) : dBin g da db δ P := h
theorem i_bin2 {g : D → D → (R → Prop) → Prop} (h : g d1 d2 fun r => P r δ4) (e1 : use r1 δ2 = some (.val d1, δ3) := by rfl) (e2 : use r2 δ3 = some (.val d2, δ4) := by rfl) : ∃ d1 δ3 d2 δ4, use r1 δ2 = some (.val d1, δ3) ∧ use r2 δ3 = some (.val d2, δ4) ∧ g d1 d2 fun r => P r δ4 := ⟨_, _, _, _, e1, e2, h⟩
theorem i_addI {x y : Int} (h : Q (.val (.int (x + y)))) : gAdd (.int x) (.int y) Q := h
theorem i_addL {x y : List D} (h : Q (.own (.lst (x ++ y)))) (l : x.length + y.length ≤ sizeLine) : gAdd (.lst x) (.lst y) Q := ⟨l, h⟩
theorem i_addT {x y : List D} (h : Q (.val (.tup (x ++ y)))) (l : x.length + y.length ≤ sizeLine) : gAdd (.tup x) (.tup y) Q := ⟨l, h⟩
theorem i_sub {x y : Int} (h : Q (.val (.int (x - y)))) : gMinus (.int x) (.int y) Q := ⟨trivial, h⟩
theorem i_mul {x y : Int} (h : Q (.val (.int (x * y)))) (c : CMulA x y) : gMul (.int x) (.int y) Q := ⟨c, h⟩
theorem i_fdiv {x y : Int} (h : Q (.val (.int (x.fdiv y)))) (c : CDivA x y) : gFdivA (.int x) (.int y) Q := ⟨c, h⟩
theorem i_mod {x y : Int} (h : Q (.val (.int (x.fmod y)))) (c : y ≠ 0) : gMod (.int x) (.int y) Q := ⟨c, h⟩
theorem i_pow {x y : Int} (h : Q (.val (.int (x ^ y.toNat)))) (c : CPow x y) : gPow (.int x) (.int y) Q := ⟨c, h⟩
theorem i_neg (h : da δ fun r δ1 => ∃ i, peek r δ1 = some (.int i) ∧ P (.val (.int (-i))) δ1) : dNeg da δ P := h
theorem i_neg2 {x : Int} {B : Int → Prop} (h : B x) (e : peek r δ1 = some (.int x) := by rfl) : ∃ i, peek r δ1 = some (.int i) ∧ B i := ⟨_, e, h⟩
theorem i_cmp {f : D → D → Bool → Prop} (h : da δ fun r1 δ1 => db δ1 fun r2 δ2 => ∃ d1 d2 b, peek r1 δ2 = some d1 ∧ peek r2 δ2 = some d2 ∧ f d1 d2 b ∧ P (.val (.bl b)) δ2) : dCmp f da db δ P := h
theorem i_cmpI {f : Int → Int → Bool} {x y : Int} {B : Bool → Prop} (h : B (f x y)) (e1 : peek r1 δ2 = some (.int x) := by rfl) (e2 : peek r2 δ2 = some (.int y) := by rfl) : ∃ d1 d2 b, peek r1 δ2 = some d1 ∧ peek r2 δ2 = some d2 ∧ cI f d1 d2 b ∧ B b := ⟨_, _, _, e1, e2, rfl, h⟩
theorem i_cmpN {n : Bool} {B : Bool → Prop} (h : B (if n then !d1.isN else d1.isN)) (e1 : peek r1 δ2 = some d1 := by rfl) (e2 : peek r2 δ2 = some .non := by rfl) : ∃ d1 d2 b, peek r1 δ2 = some d1 ∧ peek r2 δ2 = some d2 ∧ cIsN n d1 d2 b ∧ B b := ⟨_, _, _, e1, e2, ⟨rfl, rfl⟩, h⟩
theorem i_cmpE {n : Bool} {B : Bool → Prop} (e1 : peek r1 δ2 = some d1 := by rfl) (e2 : peek r2 δ2 = some d2 := by rfl) (o1 : d1.Ok 60) (o2 : d2.Ok 60) (h : B (if n then !eqD 60 d1 d2 else eqD 60 d1 d2)) : ∃ d1 d2 b, peek r1 δ2 = some d1 ∧ peek r2 δ2 = some d2 ∧ cEq n d1 d2 b ∧ B b := ⟨_, _, _, e1, e2, ⟨o1, o2, rfl⟩, h⟩
theorem i_tst (h : de δ fun r δ1 => ∃ b, peek r δ1 = some (.bl b) ∧ PB b δ1) : dTst de δ PB := h
theorem i_tst2 {x : Bool} {B : Bool → Prop} (h : B x) (e : peek r δ1 = some (.bl x) := by rfl) : ∃ b, peek r δ1 = some (.bl b) ∧ B b := ⟨_, e, h⟩
theorem i_and (h : t δ fun c δ1 => (c = true → u δ1 PB) ∧ (c = false → PB false δ1)) : dAnd t u δ PB := h
theorem i_or (h : t δ fun c δ1 => (c = true → PB true δ1) ∧ (c = false → u δ1 PB)) : dOr t u δ PB := h
theorem i_not (h : t δ fun c δ1 => PB (!c) δ1) : dNot t δ PB := h
theorem i_andV (h : da δ fun r δ1 => ∃ c, peek r δ1 = some (.bl c) ∧ (c = true → db δ1 P) ∧ (c = false → P (.val (.bl false)) δ1)) : dAndV da db δ P := h
theorem i_orV (h : da δ fun r δ1 => ∃ c, peek r δ1 = some (.bl c) ∧ (c = true → P (.val (.bl true)) δ1) ∧ (c = false → db δ1 P)) : dOrV da db δ P := h
theorem i_two {x : Bool} {A B : Bool → Prop} (h : A x ∧ B x) (e : peek r δ1 = some (.bl x) := by rfl) : ∃ c, peek r δ1 = some (.bl c) ∧ A c ∧ B c := ⟨_, e, h⟩
theorem i_notV (h : da δ fun r δ1 => ∃ c, peek r δ1 = some (.bl c) ∧ P (.val (.bl (!c))) δ1) : dNotV da δ P := h
theorem i_if (h : t δ fun c δ1 => (c = true → da δ1 P) ∧ (c = false → db δ1 P)) : dIf t da db δ P := h
theorem i_nil (h : PA [] δ) : dNil δ PA := h
theorem i_cons {dr : DA} (h : da δ fun r δ1 => dr δ1 fun rs δ2 => PA (r.pub :: rs) δ2) : dCons da dr δ PA := h
theorem i_tup {da : DA} (h : da δ fun rs δ1 => ∃ rs' δ2 ds, useAll rs δ1 = some (rs', δ2) ∧ vals? rs' = some ds ∧ ds.length ≤ sizeLine ∧ P (.val (.tup ds)) δ2) : dTup da δ P := h
theorem i_lst {da : DA} (h : da δ fun rs δ1 => ∃ rs' δ2 ds, useAll rs δ1 = some (rs', δ2) ∧ vals? rs' = some ds ∧ ds.length ≤ sizeLine ∧ P (.own (.lst ds)) δ2) : dLst da δ P := h
theorem i_all {rs rs' : List R} {ds : List D} {A : List D → List R → Prop} (h : A ds δ2) (e1 : useAll rs δ1 = some (rs', δ2) := by rfl) (e2 : vals? rs' = some ds := by rfl) (l : ds.length ≤ sizeLine := by first | decide | simp [sizeLine_eq]) : ∃ rs' δ2 ds, useAll rs δ1 = some (rs', δ2) ∧ vals? rs' = some ds ∧ ds.length ≤ sizeLine ∧ A ds δ2 := ⟨_, _, _, e1, e2, l, h⟩
theorem i_call2 {rs rs' : List R} {B : List R → List R → Prop} (h : B rs' δ2) (e1 : useAll rs δ1 = some (rs', δ2) := by rfl) : ∃ rs' δ2, useAll rs δ1 = some (rs', δ2) ∧ B rs' δ2 := ⟨_, _, e1, h⟩
theorem i_cb {g : List D → (R → Prop) → Prop} {da : DA} (h : da δ fun rs δ1 => ∃ ds, peekAll rs δ1 = some ds ∧ g ds fun r => P r δ1) : dCB g da δ P := h
theorem i_cb2 {rs : List R} {ds : List D} {B : List D → Prop} (h : B ds) (e1 : peekAll rs δ1 = some ds := by rfl) : ∃ ds, peekAll rs δ1 = some ds ∧ B ds := ⟨_, e1, h⟩
theorem i_ix (h : da δ fun r1 δ1 => db δ1 fun r2 δ2 => ∃ d i d', peek r1 δ2 = some d ∧ peek r2 δ2 = some (.int i) ∧ ixD d i d' ∧ P (.val d') δ2) : dIx da db δ P := h
theorem i_ixL {xs : List D} {x : Int} {y : D} {B : D → Prop} (h : B y) (e : atI xs x = some y) (e1 : peek r1 δ2 = some (.lst xs) := by rfl) (e2 : peek r2 δ2 = some (.int x) := by rfl) : ∃ d i d', peek r1 δ2 = some d ∧ peek r2 δ2 = some (.int i) ∧ ixD d i d' ∧ B d' := ⟨_, _, _, e1, e2, e, h⟩
theorem i_ixT {xs : List D} {x : Int} {y : D} {B : D → Prop} (h : B y) (e : atI xs x = some y) (e1 : peek r1 δ2 = some (.tup xs) := by rfl) (e2 : peek r2 δ2 = some (.int x) := by rfl) : ∃ d i d', peek r1 δ2 = some d ∧ peek r2 δ2 = some (.int i) ∧ ixD d i d' ∧ B d' := ⟨_, _, _, e1, e2, e, h⟩
theorem i_sl {dl dh : DO} (h : da δ fun r1 δ1 => dl δ1 fun lo δ2 => dh δ2 fun hi δ3 => ∃ d r, peek r1 δ3 = some d ∧ slD d lo hi r ∧ P r δ3) : dSl da dl dh δ P := h
theorem i_slL {xs : List D} {lo hi : Option Int} {B : R → Prop} (h : B (.own (.lst (cut xs lo hi)))) (e1 : peek r1 δ3 = some (.lst xs) := by rfl) : ∃ d r, peek r1 δ3 = some d ∧ slD d lo hi r ∧ B r := ⟨_, _, e1, rfl, h⟩
theorem i_slT {xs : List D} {lo hi : Option Int} {B : R → Prop} (h : B (.val (.tup (cut xs lo hi)))) (e1 : peek r1 δ3 = some (.tup xs) := by rfl) : ∃ d r, peek r1 δ3 = some d ∧ slD d lo hi r ∧ B r := ⟨_, _, e1, rfl, h⟩
theorem i_none {PO : Option Int → List R → Prop} (h : PO none δ) : doNone δ PO := h
theorem i_some {PO : Option Int → List R → Prop} (h : de δ fun r δ1 => ∃ i, peek r δ1 = some (.int i) ∧ PO (some i) δ1) : doSome de δ PO := h
theorem i_some2 {x : Int} {B : Int → Prop} (h : B x) (e : peek r δ1 = some (.int x) := by rfl) : ∃ i, peek r δ1 = some (.int i) ∧ B i := ⟨_, e, h⟩
theorem i_lenL {xs : List D} (h : Q (.val (.int xs.length))) : bLen [.lst xs] Q := h
theorem i_lenT {xs : List D} (h : Q (.val (.int xs.length))) : bLen [.tup xs] Q := h
theorem i_int {x : Int} (h : Q (.val (.int x))) : bInt [.int x] Q := h
theorem i_abs {x : Int} (h : Q (.val (.int (if x < 0 then -x else x)))) : bAbs [.int x] Q := h
theorem i_listL {xs : List D} (h : Q (.own (.lst xs))) : bList [.lst xs] Q := h
theorem i_listT {xs : List D} (h : Q (.own (.lst xs))) : bList [.tup xs] Q := h
theorem i_tupleL {xs : List D} (h : Q (.val (.tup xs))) : bTuple [.lst xs] Q := h
theorem i_tupleT {xs : List D} (h : Q (.val (.tup xs))) : bTuple [.tup xs] Q := h
theorem i_max2 {x y : Int} (h : Q (.val (.int (if y > x then y else x)))) : bMax2 [.int x, .int y] Q := h
theorem i_repr {n w : Nat} (h : Q (.val (.str d.py.shown))) (f : d.Fits n w) (hn : n ≤ 60 := by omega) (hw : w ≤ sizeLine := by rw [sizeLine_eq]; omega) : bRepr [d] Q := ⟨n, w, f, hn, hw, h⟩
/-! statements -/
theorem i_sq (h : a { DD with nx := b DD } δ) : dSq a b DD δ := h
theorem i_next (h : DD.nx δ) : dNext DD δ := h
theorem i_expr (h : de δ fun _ δ1 => DD.nx δ1) : dExpr de DD δ := h
theorem i_ret (h : de δ fun r δ1 => ∃ r' δ2, retR r δ1 = some (r', δ2) ∧ DD.rt r' δ2) : dRet de DD δ := h
theorem i_ret2 {B : R → List R → Prop} (h : B r' δ2) (e : retR r δ1 = some (r', δ2) := by rfl) : ∃ r' δ2, retR r δ1 = some (r', δ2) ∧ B r' δ2 := ⟨_, _, e, h⟩
theorem i_ifS (h : t δ fun c δ1 => (c = true → a DD δ1) ∧ (c = false → b DD δ1)) : dIfS t a b DD δ := h
theorem i_set (h : de δ fun r δ1 => ∃ r' δ2, asR r δ1 = some (r', δ2) ∧ DD.nx (st δ2 i r')) : dSet i de DD δ := h
theorem i_set2 {B : R → List R → Prop} (h : B r' δ2) (e : asR r δ1 = some (r', δ2) := by rfl) : ∃ r' δ2, asR r δ1 = some (r', δ2) ∧ B r' δ2 := ⟨_, _, e, h⟩
theorem i_asg {g : DG} (h : de δ fun r δ1 => ∃ d δ2, use r δ1 = some (.val d, δ2) ∧ g d δ2 DD.nx) : dAsg de g DD δ := h
theorem i_asg2 {B : D → List R → Prop} (h : B d δ2) (e : use r δ1 = some (.val d, δ2) := by rfl) : ∃ d δ2, use r δ1 = some (.val d, δ2) ∧ B d δ2 := ⟨_, _, e, h⟩
theorem i_gT2 {x y : D} {K : List R → Prop} (h : K (st (st δ i (.val x)) j (.val y))) : gT 2 (gsCons (gN i) (gsCons (gN j) gsNil)) (.tup [x, y]) δ K := ⟨_, rfl, rfl, _, _, rfl, _, _, rfl, rfl, h⟩
theorem i_for {di : DI} {g : DG} (h : di δ fun ds δ1 => dLoop g b DD ds δ1) : dFor di g b DD δ := h
theorem i_diS {PI : List D → List R → Prop} (h : de δ fun r δ1 => ∃ d δ2 ds, use r δ1 = some (.val d, δ2) ∧ d.items = some ds ∧ PI ds δ2) : diSeq de δ PI := h
theorem i_diS2 {PI : List D → List R → Prop} {ds : List D} (h : PI ds δ2) (e : use r δ1 = some (.val d, δ2) := by rfl) (e2 : d.items = some ds := by rfl) : ∃ d δ2 ds, use r δ1 = some (.val d, δ2) ∧ d.items = some ds ∧ PI ds δ2 := ⟨_, _, _, e, e2, h⟩
theorem i_rng1 {da : DA} {PI : List D → List R → Prop} (h : da δ fun rs δ1 => ∃ j : Int, peekAll rs δ1 = some [.int j] ∧ (-(2 ^ 62) ≤ j ∧ j < 2 ^ 62) ∧ PI (rngD 0 j.toNat) δ1) : diRng1 da δ PI := h
theorem i_rng2 {da : DA} {PI : List D → List R → Prop} (h : da δ fun rs δ1 => ∃ i j : Int, peekAll rs δ1 = some [.int i, .int j] ∧ (-(2 ^ 62) ≤ i ∧ i < 2 ^ 62 ∧ -(2 ^ 62) ≤ j ∧ j < 2 ^ 62) ∧ PI (rngD i (j - i).toNat) δ1) : diRng2 da δ PI := h
theorem i_rng12 {rs : List R} {x : Int} {B : Int → Prop} (h : B x) (l : -(2 ^ 62) ≤ x ∧ x < 2 ^ 62) (e : peekAll rs δ1 = some [.int x] := by rfl) : ∃ j : Int, peekAll rs δ1 = some [.int j] ∧ (-(2 ^ 62) ≤ j ∧ j < 2 ^ 62) ∧ B j := ⟨_, e, l, h⟩
theorem i_rng22 {rs : List R} {x y : Int} {B : Int → Int → Prop} (h : B x y) (l : -(2 ^ 62) ≤ x ∧ x < 2 ^ 62 ∧ -(2 ^ 62) ≤ y ∧ y < 2 ^ 62) (e : peekAll rs δ1 = some [.int x, .int y] := by rfl) : ∃ i j : Int, peekAll rs δ1 = some [.int i, .int j] ∧ (-(2 ^ 62) ≤ i ∧ i < 2 ^ 62 ∧ -(2 ^ 62) ≤ j ∧ j < 2 ^ 62) ∧ B i j := ⟨_, _, e, l, h⟩
theorem i_comp {di : DI} {g : DG} {vs : List Nat} (h : di δ fun ds δ1 => dLc g t de vs ds [] (wipeD δ1 vs) fun acc δ2 => P (.own (.lst acc)) (backD δ2 δ1 vs)) : dComp di g t de vs δ P := h
theorem i_yes (h : PB true δ) : dYes δ PB := h
end
end DL

namespace DL
open PySem PySem.Spec L2 PyProof.Rows
/-! ### the end of a law, no guard around -/
theorem quiet_caller : Quiet callerA := rfl
/-- the law's call at a heap where at most the script is tracked -/
theorem end_at {P : Program} {w : World} {K : PySem.W.Frag} {mg mb : Str → Option Value} {k : Nat} {fa a : Addr} {fd : FuncData} {x : Str} {sp : Sp} {s1 : Shared} {items : Array Value} {H : Hp}
    (kin : K.In s1.heap) (gl : s1.heap.Ns mainGlobals mg) (bl : s1.heap.Ns builtinsNs mb) (bb : ∀ x : Str, x ≠ "__name__" → mb x = bootBuiltins x) (lim : s1.heap.NoLimit) (gens : s1.gens = #[])
    (ha : s1.heap.get? a = some { cls := .type "list", data := .seq items }) (hr : Room k callerA)
    (F : ∀ base : Heap, K.In base → base.Ns mainGlobals mg → FnG P w K mg base CX0 k fa fd [x] sp) (bind : ∀ (s : Shared) (u : Value), BindsTo s fd ⟨[u], []⟩ [(x, u)])
    (only : Only H) (hok : HOk P w H s1.heap) (one : ∀ b, H b ≠ none → b = a) (noK : H a ≠ none → K.lookup a = none) (hsp : sp [.ref a] H (fun v _ => v = .bl true) fun _ _ _ => False) :
    codeAny (model P w) callerA (.call (.ref fa) ⟨[.ref a], []⟩) (fun r s' => r = .ok (.ret (.bool true)) ∧ OldK s1.heap s'.heap ∧ s'.os = s1.os ∧ AllBare s'.gens) s1 := by
  have back : ∀ {b : Addr} {o : Obj}, s1.heap.get? b = some o → H b = none → (hidT s1.heap H).get? b = some o := hidT_get
  have free : ∀ {b : Addr} {o : Obj} {es : Array DictEntry} {ep : Nat}, s1.heap.get? b = some o → o.data = .dict es ep → H b = none := by
    intro b o es ep e d
    refine Classical.byContradiction fun z => ?_
    obtain rfl := one b z
    rw [ha] at e
    cases e
    cases d
  have ns : ∀ {b : Addr} {m : Str → Option Value}, s1.heap.Ns b m → (hidT s1.heap H).Ns b m := by
    rintro b m ⟨o, es, ep, e, d, r⟩
    exact ⟨o, es, ep, back e (free e d), d, r⟩
  have kb : K.In (hidT s1.heap H) := fun b o e => back (kin b o e) (Classical.byContradiction fun z => by
    obtain rfl := one b z
    rw [noK z] at e
    cases e)
  obtain ⟨mc, l1, l2⟩ := lim
  have e0 : Env0 P w K mg (hidT s1.heap H) callerA [] s1 H :=
    { frames := rfl, mod := ⟨kb, ns gl, ⟨mb, ns bl, bb⟩, mc, ns l1, l2⟩, bs := fun b o e => of_hidT e, bsz := Nat.le_of_eq (hidT_size _ _), funs := trivial, frf := (fun b hb => by cases hb), hok := hok, bare := .of_eq gens }
  refine codeAny_mono ((F _ kb (ns gl)).run callerA [] s1 H ⟨[.ref a], []⟩ [.ref a] [.ref a] _ _ quiet_caller hr e0 (bind s1 (.ref a)) (.cons rfl .nil) hsp) ?_
  intro r s' z
  match r, z with
  | .ok (.ret u), z =>
    obtain ⟨v, H', os, bare, un, hok', r', q⟩ := z
    have q : v = .bl true := q
    subst q
    obtain rfl : u = Value.bool true := r'
    refine ⟨rfl, OldK.of_keep fun b o e => ?_, os, bare⟩
    rcases only b with z | ⟨ob, xs, z⟩
    · exact un.keep b o e z (by intro t; cases t) (by intro t; cases t)
    · have o1 : s1.heap.get? b = some ob := (hok b _ z).1
      have o2 : s'.heap.get? b = some ob := (hok' b _ (un.frzs b ob _ z)).1
      rw [o2, ← o1]; exact e
theorem law_quiet {l : PySem.W.OpenLaw} {n k : Nat} {q : Program} {loose : List Str} {XP : (Str → Option Value) → Heap → Prop} {YP : World → Heap → Prop} {d : DefRec} {x : Str} (hn : l.most = some n) (hn2 : n ≤ sizeLine) (hdf : d.params.defaults = []) (hr : Room k callerA)
    (F : ∀ (w : World) (mg : Str → Option Value) (fa : Addr) (h : Heap), YP w h → h.Ns mainGlobals mg → mg d.name = some (.ref fa) → ∃ (K : PySem.W.Frag) (fd : FuncData) (sp : Sp), K.In h ∧ (∀ (s : Shared) (u : Value), BindsTo s fd ⟨[u], []⟩ [(x, u)]) ∧
      (∀ (H : Hp) (a : Addr) (ns : List Int), ns.length ≤ n → Only H → SqL K H a (ns.map V.int) → sp [.ref a] H (fun v _ => v = .bl true) fun _ _ _ => False) ∧ ∀ base : Heap, K.In base → base.Ns mainGlobals mg → FnG l.prog w K mg base CX0 k fa fd [x] sp) :
    PySem.W.WalkO q loose XP YP l.row.toRowW d [] (fun f vs => PySem.call f vs) := by
  refine Att.attach_call hn hdf fun w s0 s1 mg mb fa o pm cd doc a vs ns G Y ho hd hcd hmg hobj hints hlen hg => ?_
  obtain ⟨K, fd, sp, kin, hb, hsp, hF⟩ := F w mg fa _ Y G.T.g hmg
  have rv := vals_ints hints
  have le : ns.length ≤ sizeLine := Nat.le_trans hlen hn2
  have go := fun H => end_at (H := H) kin G.T.g G.T.b G.T.builtins G.T.nolimit hg hobj hr hF hb
  by_cases hk : K.lookup a = none
  · let ob : Obj := { cls := .type "list", data := .seq vs.toArray }
    have hat : (fun b => if b = a then some (HO.frz ob (.lst (ns.map V.int))) else none : Hp) a = some (.frz ob (.lst (ns.map V.int))) := if_pos rfl
    have ho : ∀ b, (fun b => if b = a then some (HO.frz ob (.lst (ns.map V.int))) else none : Hp) b = none ∨ b = a := fun b => by
      by_cases e : b = a
      · exact .inr e
      · exact .inl (if_neg e)
    have on : Only (fun b => if b = a then some (HO.frz ob (.lst (ns.map V.int))) else none) := fun b => (ho b).imp id fun e => ⟨ob, ns.map V.int, by rw [e]; exact hat⟩
    refine go _ on (fun b u z => ?_) (fun b z => (ho b).resolve_left z) (fun _ => hk) (hsp _ a ns hlen on (.inl (.inr ⟨ob, hat⟩)))
    rcases ho b with e | e
    · have := e.symm.trans z; cases this
    · subst e
      have z' := hat.symm.trans z
      cases z'
      exact ⟨hobj, by rw [List.length_map]; exact le, vs, _, rv, hobj⟩
  · cases hl : K.lookup a with
    | none => exact absurd hl hk
    | some o1 =>
      have e := kin a o1 hl
      rw [hobj] at e
      cases e
      exact go (fun _ => none) (fun _ => .inl rfl) (fun b u z => by cases z) (fun b z => absurd rfl z) (fun z => absurd rfl z)
        (hsp _ a ns hlen (fun _ => .inl rfl) (.inr ⟨_, vs.toArray, _, hl, rfl, rfl, rfl, by rw [List.size_toArray, hints.length]; exact le, by simpa using rv⟩))
end DL

namespace DL
open PySem PySem.Spec L2
/-! ### the law's entry: its bag -/
def spBag (K : PySem.W.Frag) : Sp := fun vs H Q _ => ∃ (a : Addr) (ns : List Int), vs = [.ref a] ∧ SqL K H a (ns.map V.int) ∧ ns.length ≤ 63 ∧ ∀ (p c : Addr) (ms : List Int) (H' : Hp), p ≠ c → H' p = some (.lst [.int 0, .int 1234567891, .int 0, .ref c]) → H' c = some (.lst (ms.map V.int)) → (∀ m ∈ ms, 0 ≤ m) → Q (.ref p) H'
def spLaw (K : PySem.W.Frag) : Sp := fun vs H Q _ => ∃ (a : Addr) (ns : List Int), vs = [.ref a] ∧ SqL K H a (ns.map V.int) ∧ ns.length ≤ 63 ∧ ∀ H', Q (.bl true) H'
def bagStart (N : List Str) : List R := .no :: .bag :: List.replicate (N.length - 2) .no
section
variable {P : Program} {w : World} {K : PySem.W.Frag} {mg : Str → Option Value} {base : Heap}
theorem gt_bagStart {N : List Str} : ∀ {i : Nat}, gt (bagStart N) i ≠ .no → i = 1
  | 0, h => absurd rfl h
  | 1, _ => rfl
  | i + 2, h => absurd (gt_nos _ i fun t ht => by simp at ht; exact ht.2) h
theorem enter_bag {N : List Str} {ds : DS} {D : Ends} {a p c : Addr} {ms : List Int} {H' : Hp} (hN : 2 ≤ N.length) (hpc : p ≠ c) (hp : H' p = some (.lst [.int 0, .int 1234567891, .int 0, .ref c])) (hc : H' c = some (.lst (ms.map V.int))) (hm : ∀ m ∈ ms, 0 ≤ m)
    (hd : ds { nx := fun _ => False, rt := fun r _ => r = .val (.bl true) } (bagStart N)) (hq : ∀ H', D.rt (.bl true) H') : liftS K L0 ds D ((start N [.ref a]).set 1 (some (.ref p))) H' := by
  let G : Hp := fun x => if x = c then H' c else none
  have gc : G c = some (.lst (ms.map V.int)) := (if_pos rfl).trans hc
  have gp : G p = none := if_neg hpc
  refine ⟨⟨some p, none, H', G, fun _ => none⟩, G, fun _ => none, bagStart N, _, ⟨fun x o e => ?_, Ex.refl G, fun _ _ _ _ e => e, fun _ _ => rfl, fun b e => ?_, fun b e => ?_, (fun _ _ e => by cases e), (fun _ e => by cases e), ?_, fun i hi => ?_⟩, Lnk.zero, hd, fun _ _ _ _ _ _ _ z => z.elim, fun v σ' H2 G2 W2 δ2 r x I o _ z => ?_, fun _ _ _ _ _ _ _ z => z.elim, fun _ _ _ _ _ _ _ z => z.elim⟩
  · by_cases hx : x = c
    · subst hx
      have e : (if x = x then H' x else none) = some o := e
      rw [if_pos rfl] at e; exact e
    · have e : (if x = c then H' c else none) = some o := e
      rw [if_neg hx] at e; cases e
  · cases e
    show H' p ≠ none
    rw [hp]; simp
  · cases e
    exact ⟨gp, 0, 1234567891, 0, c, ms, hp, gc, by decide, by decide, by decide, by decide, hm⟩
  · unfold bagStart L2.start
    simp
    omega
  · obtain rfl := gt_bagStart hi
    refine ⟨.ref p, ?_, p, rfl, rfl⟩
    have : 1 < (start N [V.ref a]).length := by unfold L2.start; simp; omega
    simp [this]
  · have z : r = .val (.bl true) := z
    subst z
    have o : Den K G2 v (.bl true) := o
    rw [o.of_bl]
    exact hq H2
theorem fn_law {sm st0 : Stmt} {rest : List Stmt} {f : Addr} {fd : FuncData} {N : List Str} {k : Nat} {ds : DS} (F : Fun K "law" "law" sm f fd) (Sc : FnScope N ["_law_script"] (defScope sm)) (hN : 2 ≤ N.length) (hb : defBody sm = st0 :: rest)
    (h : ∀ (cdv : Value) (A : Around) (outer : List Env) (s : Shared) (H : Hp) (E : XK), Quiet A → Room k (A.deeper (PyProof.Rows.envOfC "law" (defScope sm) s.heap.objs.size f cdv)) →
      PS (cxOf CX0 P w K mg base N "law" (defScope sm) f cdv A outer s H E).nox st0 (tAsg (tCall (spBag K) [] E0 (tCons (tVar 0) tNil)) (gName 1)) ∧ PSs (cxOf CX0 P w K mg base N "law" (defScope sm) f cdv A outer s H E).nox rest (liftS K L0 ds))
    (hd : ds { nx := fun _ => False, rt := fun r _ => r = .val (.bl true) } (bagStart N)) : FnG P w K mg base CX0 (k + 1) f fd ["_law_script"] (spLaw K) := by
  obtain ⟨oc, od, kV, doc, pm, an, cdv, ct, osl, rfl, lk, hcd⟩ := F.ex
  refine fn_quiet lk hcd Sc (fun vs H Q E z => ?_) (fun A outer s H vs Q E hq hr z => ?_)
  · obtain ⟨a, ns, rfl, _⟩ := z; rfl
  · obtain ⟨a, ns, rfl, sq, l, q⟩ := z
    obtain ⟨p0, pr⟩ := h cdv A outer s H E hq hr
    have e0 : (L2.start N [V.ref a])[0]? = some (some (.ref a)) := by unfold L2.start; simp
    have rd : tSeq (tAsg (tCall (spBag K) [] E0 (tCons (tVar 0) tNil)) (gName 1)) (liftS K L0 ds) { nx := fun _ H' => Q .non H', rt := Q } (L2.start N [V.ref a]) H :=
      ⟨.ref a, e0, a, ns, rfl, sq, l, fun p c ms H' n1 n2 n3 n4 => enter_bag hN n1 n2 n3 n4 hd q⟩
    exact ⟨_, PSs.nox (by rw [hb]; exact pss_cons p0 pr), rd⟩
end
end DL

namespace DL
open PySem PySem.Spec L2
/-! ### dict(a tuple of pairs) -/
def rDictT (K : PySem.W.Frag) : List V → Hp → VK → Prop := fun xs H Q => ∃ (a : Addr) (ps : List Addr) (kvs : List (Key × V)), xs = [.ref a] ∧ TupP K H a (ps.map V.ref) ∧ Paired (fun p kv => SqT K H p [kV kv.1, kv.2]) ps kvs ∧
  ∀ p, H p = none → Q (.ref p) (upd H p (.dK (mergeK [] kvs)))
section
variable {X : Cx} {K : PySem.W.Frag} {L : Lk} {a b e : Expr} {da db de : DE} {pos : Pos}
theorem call_dictT (hc : X.calm = true) : CallR X (.type "dict") (rDictT X.K) := fun pins s σ H xs us Q I r h => by
  obtain ⟨a, ps, kvs, rfl, hT, hp, q⟩ := h
  obtain ⟨u, rfl, rx⟩ := vals1 r
  cases rx
  obtain ⟨o, ws, n, g, c2, hd, d2, rel, ln⟩ : ∃ (o : Obj) (ws : List Value) (n : Nat), s.heap.get? a = some o ∧ o.cls = .type "tuple" ∧ o.dict = none ∧ o.data = .seq ws.toArray n ∧ Vals (ps.map V.ref) ws ∧ (ps.map V.ref).length ≤ sizeLine := by
    rcases hT with ⟨o, hH, hd⟩ | ⟨o, its, n, e1, e2, e3, e4, e5, e6⟩
    · obtain ⟨g, ln, ws, rel, o2, g2, c2, n, d2⟩ := I.hok a _ hH
      rw [g] at g2
      cases g2
      exact ⟨o, ws, n, g, c2, hd, d2, rel, ln⟩
    · have e := e5.length
      simp only [Array.length_toList] at e
      exact ⟨o, its.toList, n, I.kIn a o e1, e2, e6, by simpa using e3, e5, by omega⟩
  obtain rfl := refs_at rel
  obtain ⟨prs, kv, hl, hpr⟩ := pairs_of I hp
  have lz : ps.length ≤ sizeLine := by rw [List.length_map] at ln; exact ln
  -- the pairs by their values
  have key : ∀ j : Nat, ∃ T : Addr, ∀ q, prs[j]? = some q → ps[j]? = some T := fun j => by
    cases e : prs[j]? with
    | none => exact ⟨0, fun q z => by cases z⟩
    | some q => obtain ⟨b, _, h1, _⟩ := hpr j q e; exact ⟨b, fun _ _ => h1⟩
  have tie : ∃ vps : List (Value × Value), vps.length = prs.length ∧ ∀ (j : Nat) k v, vps[j]? = some (k, v) → ∃ kk, prs[j]? = some (kk, v) ∧ keyIs kk k = true ∧ ∃ T, ps[j]? = some T ∧ PyProof.Rows.IsTup s.heap T #[k, v] := by
    clear key kv
    have gen : ∀ (qs : List (Key × Value)) (ts : List Addr), (∀ (j : Nat) (q : Key × Value), qs[j]? = some q → ∃ (b : Addr) (u : Value), ts[j]? = some b ∧ PyProof.Rows.IsTup s.heap b #[u, q.2] ∧ keyIs q.1 u = true) →
        ∃ vps : List (Value × Value), vps.length = qs.length ∧ ∀ (j : Nat) k v, vps[j]? = some (k, v) → ∃ kk, qs[j]? = some (kk, v) ∧ keyIs kk k = true ∧ ∃ T, ts[j]? = some T ∧ PyProof.Rows.IsTup s.heap T #[k, v] := by
      intro qs
      induction qs with
      | nil => intro ts _; exact ⟨[], rfl, fun j k v z => by simp at z⟩
      | cons q qs ih =>
        intro ts hx
        obtain ⟨b, u, h1, h2, h3⟩ := hx 0 q rfl
        cases ts with
        | nil => simp at h1
        | cons t ts =>
          obtain ⟨vps, l1, l2⟩ := ih ts fun j q' z => by
            obtain ⟨b, u, y1, y2⟩ := hx (j + 1) q' (by simpa using z)
            exact ⟨b, u, by simpa using y1, y2⟩
          refine ⟨(u, q.2) :: vps, by simp [l1], fun j k v z => ?_⟩
          cases j with
          | zero =>
            simp at z
            obtain ⟨rfl, rfl⟩ := z
            exact ⟨q.1, rfl, h3, b, h1, h2⟩
          | succ j =>
            obtain ⟨kk, y1, y2, T, y3, y4⟩ := l2 j k v (by simpa using z)
            exact ⟨kk, by simpa using y1, y2, T, by simpa using y3, y4⟩
    exact gen prs ps hpr
  obtain ⟨vps, vl, vt⟩ := tie
  refine PySem.call_dict_pairs (knd := mixKind X.prog X.w) (kvs := prs) (PySem.PairArg.tuple a (ps.map Value.ref).toArray (fun j => (ps[j]?).getD 0) vps) (I.ok.hd hc) ⟨⟨_, n, g, c2, hd, d2⟩, ?_, ?_⟩ ⟨vl.symm, fun i k v z => ?_⟩ (by rw [vl, hl]; exact lz) fun h' tk hd' kp => ?_
  · simp [vl, hl]
  · intro j k v z
    obtain ⟨kk, y1, y2, T, y3, y4⟩ := vt j k v z
    refine ⟨by simp [y3], .inl ?_⟩
    show PyProof.Rows.IsTup s.heap ((ps[j]?).getD 0) #[k, v]
    rw [y3]; exact y4
  · obtain ⟨kk, y1, y2, _⟩ := vt i k v z
    exact ⟨kk, y1, y2⟩
  · have nm : (s.heap.objs.size == sysModules) = false := beq_eq_false_iff_ne.mpr (Nat.ne_of_gt I.big)
    have sz : (mergeK [] kvs).length ≤ sizeLine := Nat.le_trans (length_mergeK kvs []) (by rw [List.length_nil, Nat.zero_add, kv.length, hl]; exact lz)
    exact ⟨.ref s.heap.objs.size, _, I.laid (t' := tk) (o := .dK (mergeK [] kvs)) (fun b o z => kp b o (by simp) z) (Nat.le_refl _) ⟨sz, nm, merged [] prs, KV.merge kv .nil, hd'⟩, rfl, q _ (I.hok.fresh (Nat.le_refl _))⟩
end
end DL

namespace DL
open PySem PySem.Spec L2
/-! ### dicts over data -/
def valD (kvs : List (Key × D)) (k : Key) : Option D := (kvs.find? fun kv => decide (kv.1 = k)).map (·.2)
def putD (kvs : List (Key × D)) (k : Key) (d : D) : List (Key × D) := if (kvs.any fun kv => decide (kv.1 = k)) = true then kvs.map (fun kv => if kv.1 = k then (kv.1, d) else kv) else kvs ++ [(k, d)]
def mergeD (kvs more : List (Key × D)) : List (Key × D) := more.foldl (fun acc kv => putD acc kv.1 kv.2) kvs
def keyD : D → Option Key
  | .int i => some (.inl i)
  | .str x => some (.inr x)
  | _ => none
def pairsD : List D → Option (List (Key × D))
  | [] => some []
  | .tup [a, d] :: r => match keyD a, pairsD r with
    | some k, some kvs => some ((k, d) :: kvs)
    | _, _ => none
  | _ => none
section
variable {X : Cx} {K : PySem.W.Frag} {L : Lk} {a b e : Expr} {da db de : DE} {pos : Pos} {G H : Hp}
theorem key_of_den {v : V} {d : D} {k : Key} (h : Den K G v d) (e : keyD d = some k) : v = kV k := by
  cases d with
  | int i => cases e; exact h.of_int
  | str x => cases e; exact h.of_str
  | _ => cases e
theorem val_some {kvs : List (Key × V)} {kds : List (Key × D)} (h : DensP K G kvs kds) {k : Key} {d : D} (e : valD kds k = some d) : ∃ v, valV kvs k = some v ∧ Den K G v d := by
  induction kds generalizing kvs with
  | nil => simp [valD] at e
  | cons q r ih =>
    obtain ⟨p, vr, rfl, ⟨h1, h2⟩, h3⟩ := All2.cons_right h
    by_cases z : q.1 = k
    · have : q.2 = d := by simpa [valD, List.find?_cons, z] using e
      subst this
      exact ⟨p.2, valV_pos (h1.trans z), h2⟩
    · have e' : valD r k = some d := by simpa [valD, List.find?_cons, z] using e
      obtain ⟨v, y1, y2⟩ := ih h3 e'
      exact ⟨v, by rw [valV_neg (fun y => z (h1.symm.trans y))]; exact y1, y2⟩
theorem val_isSome {kvs : List (Key × V)} {kds : List (Key × D)} (h : DensP K G kvs kds) (k : Key) : (valV kvs k).isSome = (valD kds k).isSome := by
  induction kds generalizing kvs with
  | nil => rw [All2.nil_right h]; rfl
  | cons q r ih =>
    obtain ⟨p, vr, rfl, ⟨h1, h2⟩, h3⟩ := All2.cons_right h
    by_cases z : q.1 = k
    · rw [valV_pos (h1.trans z)]; simp [valD, List.find?_cons, z]
    · rw [valV_neg (fun y => z (h1.symm.trans y)), ih h3]; simp [valD, List.find?_cons, z]
theorem any_key {kvs : List (Key × V)} {kds : List (Key × D)} (h : DensP K G kvs kds) (k : Key) : (kvs.any fun kv => decide (kv.1 = k)) = (kds.any fun kv => decide (kv.1 = k)) := by
  induction kds generalizing kvs with
  | nil => rw [All2.nil_right h]; rfl
  | cons q r ih =>
    obtain ⟨p, vr, rfl, ⟨h1, h2⟩, h3⟩ := All2.cons_right h
    rw [List.any_cons, List.any_cons, ih h3, h1]
theorem map_key {kvs : List (Key × V)} {kds : List (Key × D)} (h : DensP K G kvs kds) {k : Key} {v : V} {d : D} (e : Den K G v d) : DensP K G (kvs.map fun kv => if kv.1 = k then (kv.1, v) else kv) (kds.map fun kv => if kv.1 = k then (kv.1, d) else kv) := by
  induction kds generalizing kvs with
  | nil => rw [All2.nil_right h]; exact .nil
  | cons q r ih =>
    obtain ⟨p, vr, rfl, ⟨h1, h2⟩, h3⟩ := All2.cons_right h
    refine .cons ?_ (ih h3)
    show (if p.1 = k then (p.1, v) else p).1 = (if q.1 = k then (q.1, d) else q).1 ∧ Den K G (if p.1 = k then (p.1, v) else p).2 (if q.1 = k then (q.1, d) else q).2
    by_cases z : q.1 = k
    · rw [if_pos z, if_pos (h1.trans z)]; exact ⟨h1, e⟩
    · rw [if_neg z, if_neg (fun y => z (h1.symm.trans y))]; exact ⟨h1, h2⟩
theorem put_ok {kvs : List (Key × V)} {kds : List (Key × D)} (h : DensP K G kvs kds) {k : Key} {v : V} {d : D} (e : Den K G v d) : DensP K G (putK kvs k v) (putD kds k d) := by
  unfold putK putD
  rw [any_key h]
  split
  · exact map_key h e
  · exact All2.append h (.cons ⟨rfl, e⟩ .nil)
theorem merge_ok {more : List (Key × V)} {mds : List (Key × D)} (h : DensP K G more mds) : ∀ {kvs : List (Key × V)} {kds : List (Key × D)}, DensP K G kvs kds → DensP K G (mergeK kvs more) (mergeD kds mds) := by
  induction mds generalizing more with
  | nil => intro kvs kds h0; rw [All2.nil_right h]; exact h0
  | cons q r ih =>
    intro kvs kds h0
    obtain ⟨p, vr, rfl, ⟨h1, h2⟩, h3⟩ := All2.cons_right h
    have := ih h3 (put_ok (k := q.1) h0 h2)
    unfold mergeK mergeD at this ⊢
    rw [List.foldl_cons, List.foldl_cons, h1]; exact this
/-- y in d -/
def cDin (neg : Bool) : D → D → Bool → Prop := fun d1 d2 b => ∃ k kvs, keyD d1 = some k ∧ d2 = .dic kvs ∧ b = (if neg then !(valD kvs k).isSome else (valD kvs k).isSome)
theorem de_din (hu : X.A.units + 1 < cLine) (ha : PE X a (lift X.K L da)) (hb : PE X b (lift X.K L db)) (hm : behindInMarks .In b = false := by rfl) : PE X (.Compare a [.In] [b] pos) (lift X.K L (dCmp (cDin false) da db)) :=
  PE.weak (pe_cmp (pc_din hu ha hb) hm) <| lift_of fun C σ H G W δ P Q I lk h k => lift_two I lk h fun r1 r2 δ2 x y H2 G2 W2 h2 x2 I2 o1 o2 => by
    obtain ⟨d1, d2, b, e1, e2, ⟨kk, kvs, f1, rfl, rfl⟩, hp⟩ := h2
    rw [← peek_pub] at e1 e2
    have k1 := key_of_den ((I2.peekOk o1 e1).den I2.gh) f1
    obtain ⟨p, vs, rfl, hr, dn⟩ := (I2.peekOk o2 e2).dic I2.gh
    refine ⟨p, valV vs kk, rfl, .inl ⟨vs, kk, hr, k1, rfl⟩, ?_⟩
    rw [val_isSome dn]
    exact k _ δ2 _ H2 G2 W2 hp x2 I2 (.bl _)
theorem de_dnotin (hu : X.A.units + 1 < cLine) (ha : PE X a (lift X.K L da)) (hb : PE X b (lift X.K L db)) (hm : behindInMarks .NotIn b = false := by rfl) : PE X (.Compare a [.NotIn] [b] pos) (lift X.K L (dCmp (cDin true) da db)) :=
  PE.weak (pe_cmp (pc_dnotin hu ha hb) hm) <| lift_of fun C σ H G W δ P Q I lk h k => lift_two I lk h fun r1 r2 δ2 x y H2 G2 W2 h2 x2 I2 o1 o2 => by
    obtain ⟨d1, d2, b, e1, e2, ⟨kk, kvs, f1, rfl, rfl⟩, hp⟩ := h2
    rw [← peek_pub] at e1 e2
    have k1 := key_of_den ((I2.peekOk o1 e1).den I2.gh) f1
    obtain ⟨p, vs, rfl, hr, dn⟩ := (I2.peekOk o2 e2).dic I2.gh
    refine ⟨p, valV vs kk, rfl, .inl ⟨vs, kk, hr, k1, rfl⟩, ?_⟩
    rw [val_isSome dn]
    exact k _ δ2 _ H2 G2 W2 hp x2 I2 (.bl _)
theorem lift_tB {t : TE} {de : DE} (w : ∀ σ H Q, lift K L de σ H Q → t σ H Q) : ∀ σ H Q, liftT K L (dTst de) σ H Q → tB t σ H Q := liftT_of fun C σ H G W δ P Q I lk h k =>
  w σ H _ ⟨C, G, W, δ, _, I, lk, h, fun r δ1 v H1 G1 W1 h1 x1 I1 o1 => by
    obtain ⟨b, e, hp⟩ := h1
    have := ((I1.peekOk o1 e).den I1.gh).of_bl
    exact ⟨b, this, k b δ1 H1 G1 W1 hp x1 I1⟩⟩
theorem lift_din : ∀ σ H Q, lift K L (dCmp (cDin false) da db) σ H Q → tDIn (lift K L da) (lift K L db) σ H Q :=
  lift_of fun C σ H G W δ P Q I lk h k => lift_two I lk h fun r1 r2 δ2 x y H2 G2 W2 h2 x2 I2 o1 o2 => by
    obtain ⟨d1, d2, b, e1, e2, ⟨kk, kvs, f1, rfl, rfl⟩, hp⟩ := h2
    rw [← peek_pub] at e1 e2
    have k1 := key_of_den ((I2.peekOk o1 e1).den I2.gh) f1
    obtain ⟨p, vs, rfl, hr, dn⟩ := (I2.peekOk o2 e2).dic I2.gh
    refine ⟨p, valV vs kk, rfl, .inl ⟨vs, kk, hr, k1, rfl⟩, ?_⟩
    rw [val_isSome dn]
    exact k _ δ2 _ H2 G2 W2 hp x2 I2 (.bl _)
theorem lift_dnotin : ∀ σ H Q, lift K L (dCmp (cDin true) da db) σ H Q → tDNotIn (lift K L da) (lift K L db) σ H Q :=
  lift_of fun C σ H G W δ P Q I lk h k => lift_two I lk h fun r1 r2 δ2 x y H2 G2 W2 h2 x2 I2 o1 o2 => by
    obtain ⟨d1, d2, b, e1, e2, ⟨kk, kvs, f1, rfl, rfl⟩, hp⟩ := h2
    rw [← peek_pub] at e1 e2
    have k1 := key_of_den ((I2.peekOk o1 e1).den I2.gh) f1
    obtain ⟨p, vs, rfl, hr, dn⟩ := (I2.peekOk o2 e2).dic I2.gh
    refine ⟨p, valV vs kk, rfl, .inl ⟨vs, kk, hr, k1, rfl⟩, ?_⟩
    rw [val_isSome dn]
    exact k _ δ2 _ H2 G2 W2 hp x2 I2 (.bl _)
theorem dt_din (hu : X.A.units + 1 < cLine) (ha : PE X a (lift X.K L da)) (hb : PE X b (lift X.K L db)) (hm : behindInMarks .In b = false := by rfl) : PT X (.Compare a [.In] [b] pos) (liftT X.K L (dTst (dCmp (cDin false) da db))) :=
  PT.weak (pt_cmp (pc_din hu ha hb) hm) (lift_tB lift_din)
theorem dt_dnotin (hu : X.A.units + 1 < cLine) (ha : PE X a (lift X.K L da)) (hb : PE X b (lift X.K L db)) (hm : behindInMarks .NotIn b = false := by rfl) : PT X (.Compare a [.NotIn] [b] pos) (liftT X.K L (dTst (dCmp (cDin true) da db))) :=
  PT.weak (pt_cmp (pc_dnotin hu ha hb) hm) (lift_tB lift_dnotin)
/-- d[y] -/
def dDix (da db : DE) : DE := fun δ P => da δ fun r1 δ1 => db δ1 fun r2 δ2 => ∃ kvs dk k d, peek r1 δ2 = some (.dic kvs) ∧ peek r2 δ2 = some dk ∧ keyD dk = some k ∧ valD kvs k = some d ∧ P (.val d) δ2
theorem de_dix (hu : X.A.units + 1 < cLine) (ha : PE X a (lift X.K L da)) (hb : PE X b (lift X.K L db)) (hs : NoSl b := by exact fun _ _ => rfl) : PE X (.Subscript a b pos) (lift X.K L (dDix da db)) :=
  PE.weak (pe_dget hu ha hb hs) <| lift_of fun C σ H G W δ P Q I lk h k => lift_two I lk h fun r1 r2 δ2 x y H2 G2 W2 h2 x2 I2 o1 o2 => by
    obtain ⟨kvs, dk, kk, d, e1, e2, f1, f2, hp⟩ := h2
    rw [← peek_pub] at e1 e2
    have k1 := key_of_den ((I2.peekOk o2 e2).den I2.gh) f1
    obtain ⟨p, vs, rfl, hr, dn⟩ := (I2.peekOk o1 e1).dic I2.gh
    obtain ⟨v, y1, y2⟩ := val_some dn f2
    exact ⟨p, v, rfl, .inl ⟨vs, kk, hr, k1, y1.symm⟩, k _ δ2 v H2 G2 W2 hp x2 I2 y2⟩
/-- dict(t) -/
def bDict : List D → (R → Prop) → Prop
  | [.tup ps], P => ∃ kvs, pairsD ps = some kvs ∧ P (.own (.dic (mergeD [] kvs)))
  | _, _ => False
theorem pairs_ok (x : Ex G H) : ∀ {ps : List D} {vs : List V} {kds : List (Key × D)}, Dens K G vs ps → pairsD ps = some kds → ∃ (as : List Addr) (kvs : List (Key × V)), vs = as.map V.ref ∧ Paired (fun p kv => SqT K H p [kV kv.1, kv.2]) as kvs ∧ DensP K G kvs kds
  | [], vs, kds, h, e => by cases e; rw [h.nil_right]; exact ⟨[], [], rfl, .nil, .nil⟩
  | q :: r, vs, kds, h, e => by
    obtain ⟨v, vr, rfl, h1, h2⟩ := All2.cons_right h
    unfold pairsD at e
    split at e
    · rename_i hh; cases hh
    · rename_i z1 a d z2 hh
      injection hh with hq hr'
      subst hq; subst hr'
      split at e
      · rename_i k kvs' e1 e2
        cases e
        obtain ⟨as, kvs, rfl, y2, y3⟩ := pairs_ok x h2 e2
        obtain ⟨p, us, rfl, t1, t2⟩ := h1.of_tup
        obtain ⟨u1, u2, rfl, t3, t4⟩ := two_of t2
        have := key_of_den t3 e1
        subst this
        exact ⟨p :: as, (k, u2) :: kvs, rfl, .cons (ex_t x t1) y2, .cons ⟨rfl, t4⟩ y3⟩
      · cases e
    · cases e
theorem cl_dict : CallLook K (rDictT K) bDict := fun C σ H G W δ vs ds P Q I a hg k => by
  match ds, hg with
  | [.tup xs], hg =>
    obtain ⟨kds, e, hp⟩ := hg
    obtain ⟨v, rfl, s⟩ := one_of a
    have s : Den K G v (.tup xs) := by
      rcases s with s | ⟨p, _, z⟩
      · exact s
      · exact z.elim
    cases s with
    | tup h l e' =>
      obtain ⟨as, kvs, rfl, y2, y3⟩ := pairs_ok I.gh ⟨l, e'⟩ e
      refine ⟨_, as, kvs, rfl, h.mono I.gh, y2, fun t ht => ?_⟩
      have m := I.fresh ht
      exact k _ _ _ _ _ hp (Ex.refl G) (I.lay ht) ⟨t, rfl, m, if_pos rfl, _, upd_same, merge_ok y3 .nil⟩
end
end DL

namespace DL
open PySem PySem.Spec L2
open Sem (wp)
/-! ### enumerate(v), v a list or a tuple -/
set_option maxHeartbeats 1000000 in
theorem meets_enum1 {v : Value} {o : Obj} {Hh : Heap → Prop} (B : Begins v o Hh) :
    Meets (Builtin.«enumerate.__new__» ⟨[.type "enumerate", v], []⟩) (fun _ R s => Hh s.heap ∧
      R (.ok (.ret (.ref (s.heap.push o).objs.size))) { s with heap := (s.heap.push o).push { cls := .type "enumerate", data := .fields #[.none, .bool false, .ref s.heap.objs.size, rawInt 0, .none, .none] } }) :=
  .of_wp fun prog w A R s h => by
    obtain ⟨hp, g, d, tk, os⟩ := s; obtain ⟨h1, h⟩ := h
    have hsub := sub_enumerate
    have q1 : ∀ {A' : Around} {E : Value → Shared → Prop} {Q : Value → Shared → Prop}, Q (.ref hp.objs.size) ⟨hp.push o, g, d, tk, os⟩ → wpAny (model prog w) A' (pyIter v) Q E ⟨hp, g, d, tk, os⟩ :=
      fun q => B.iter prog w _ _ ⟨hp, g, d, tk, os⟩ _ h1 q
    wp_walk using q1
    refine wpAny_stack_any fun st => wpAny_pure ?_
    split
    · rename_i c _ _ _ _ _
      cases (c == Value.type "enumerate")
      · wp_walk using q1
        exact ⟨_, rfl, h⟩
      · wp_walk using q1
        exact ⟨_, rfl, h⟩
    · wp_walk using q1
      exact ⟨_, rfl, h⟩
theorem call_enum1 {prog : Program} {w : World} {A : Around} {E : Value → Shared → Prop} {s : Shared} {v : Value} {o : Obj} {Hh : Heap → Prop} {Q : Value → Shared → Prop} (B : Begins v o Hh) (h1 : Hh s.heap)
    (h : ∀ h', IsEnum h' (s.heap.objs.size + 1) s.heap.objs.size 0 .none → h'.get? s.heap.objs.size = some o → h'.objs.size = s.heap.objs.size + 2 →
      (∀ b o, s.heap.get? b = some o → h'.get? b = some o) → Q (.ref (s.heap.objs.size + 1)) { s with heap := h' }) : wpAny (model prog w) A (call (.type "enumerate") [v]) Q E s := by
  refine callType_new F.called_enumerate (by decide) (F.typeCall_enumerate_1 _) (F.newCall_enumerate_1 _) (fun obj => F.args_object_init_2 obj _) F.entry_enumerate_new (meets_enum1 B) ⟨h1, ?_⟩
  have hz : (s.heap.push o).objs.size = s.heap.objs.size + 1 := Heap.size_push ..
  show _ ∧ _
  rw [hz]
  have he : IsEnum ((s.heap.push o).push { cls := .type "enumerate", data := .fields #[.none, .bool false, .ref s.heap.objs.size, rawInt 0, .none, .none] }) (s.heap.objs.size + 1) s.heap.objs.size 0 .none := by
    have := Heap.get?_push_size (s.heap.push o) (o := { cls := .type "enumerate", data := .fields #[.none, .bool false, .ref s.heap.objs.size, rawInt 0, .none, .none] }) rfl
    rw [hz] at this; exact this
  exact ⟨⟨_, he, rfl⟩, h _ he (Heap.get?_push_of_some _ (Heap.get?_push_size _ B.free)) (by rw [Heap.size_push, hz]) fun b o x => Heap.get?_push_of_some _ (Heap.get?_push_of_some _ x)⟩
/-- the tuple at a, each item in a new plain pair -/
def Itp (K : PySem.W.Frag) (a : Addr) : It :=
  ⟨fun i H => ∃ (xs : List V) (x : V), SqT K H a xs ∧ xs[i]? = some x, fun i H v H' => ∃ T x its, v = .ref T ∧ H T = none ∧ H' = upd H T (.frz (tupObj its) (.tup [.int (i : Nat), x])) ∧ ∀ xs, SqT K H a xs → xs[i]? = some x, fun i H => ∃ xs : List V, SqT K H a xs ∧ xs.length = i⟩
theorem turn_enumT {P : Program} {w : World} {K : PySem.W.Frag} {elts : List Expr} {kk : Nat} {tpos : Pos} (a e it : Addr) (ae : a ≠ e) (ai : a ≠ it) (ei : e ≠ it) :
    Turn P w K (.Tuple elts kk tpos) (Itp K a) [e, it] e (fun i h => (∃ old, IsEnum h e it ((i : Nat) : Int) old) ∧ h.IsTupleIter it a i) where
  mem := by simp
  obj := fun i h st b hb => by
    obtain ⟨⟨old, he⟩, ⟨o, ho, hc, hd⟩⟩ := st
    have e' : b = e ∨ b = it := by simpa using hb
    rcases e' with z | z
    · rw [z]; exact ⟨_, he, fun v q => nomatch q⟩
    · rw [z]; exact ⟨o, ho, fun v q => by rw [hd] at q; cases q⟩
  keep := fun i h h' st k => let ⟨⟨old, he⟩, hi⟩ := st; ⟨⟨old, k e (by simp) _ he⟩, hi.at fun o q => k it (by simp) o q⟩
  item := by
    intro X hP hw hK hc i pins s σ H E I hf st hg
    subst hP hw hK
    obtain ⟨⟨old, he⟩, hit⟩ := st
    obtain ⟨xs, x, hq, hx⟩ := hg
    obtain ⟨its, rv, p, hz⟩ := I.tuple hq
    obtain ⟨u, hu, ru⟩ := rv.get hx
    have hel : e < s.heap.objs.size := Heap.lt_size he
    have hil : it < s.heap.objs.size := by obtain ⟨_, q, _⟩ := hit; exact Heap.lt_size q
    have hlt : i < its.toArray.size := by
      have := (List.getElem?_eq_some_iff.mp hu).1
      simpa using this
    refine wpAny_pyNext_enum_itemD (Draws.tuple (A := X.A.in1) (I.ok.hd hc) it a ai its.toArray) he ⟨hit, p⟩ hlt ei (by simp [ei, Ne.symm ae]) fun y h' tk hy ho hs' hT hsz hk => ?_
    have ey : y = u := by
      have hy : its.toArray[i]? = some y := hy
      rw [List.getElem?_toArray, hu] at hy
      exact (Option.some.inj hy).symm
    subst ey
    refine ⟨_, rfl, wpAny_letOwnedTupleGo_enum (s := { s with heap := h', toks := tk + 1 }) ho fun h'' he' sb => ?_⟩
    have hT2 : h''.get? s.heap.objs.size = some (tupObj [.int i tk, y]) := (sb.2 _ (Nat.ne_of_gt hel)).trans hT
    have new : ObjOk X.prog X.w (upd H s.heap.objs.size (.frz (tupObj [.int i tk, y]) (.tup [.int (i : Nat), x]))) h'' s.heap.objs.size (.frz (tupObj [.int i tk, y]) (.tup [.int (i : Nat), x])) :=
      ⟨hT2, by show 2 ≤ sizeLine; decide, [.int i tk, y], .cons ⟨_, rfl⟩ (.cons ru .nil), ⟨_, hT2, rfl, _, rfl⟩⟩
    have I1 : Inv X pins σ (upd H s.heap.objs.size (.frz (tupObj [.int i tk, y]) (.tup [.int (i : Nat), x]))) { s with heap := h'', toks := tk + 1 } :=
      I.turnedNew (ch := [e, it]) (fun b ob hb q => (sb.2 b (fun z => hb (by simp [z]))).trans (hk b ob (fun z => hb (by simp [z])) (fun z => hb (by simp [z])) q)) hf (Nat.le_refl _) new
    refine ⟨.ref s.heap.objs.size, _, I1, rfl, ⟨_, x, _, rfl, I.hok.fresh (Nat.le_refl _), rfl, fun ys hy => by rw [I.tuple_inj hy hq]; exact hx⟩, ⟨⟨y, ?_⟩, hs'.1.at fun o q => (sb.2 it (Ne.symm ei)).trans q⟩, fun b hb => ?_⟩
    · have e1 : ((i + 1 : Nat) : Int) = (i : Int) + 1 := by omega
      rw [e1]; exact he'
    · have hb' : b < s.heap.objs.size := by
        have e' : b = e ∨ b = it := by simpa using hb
        rcases e' with z | z
        · rw [z]; exact hel
        · rw [z]; exact hil
      rw [upd_ne (Nat.ne_of_lt hb')]
      exact (hf b hb).1
  done := by
    intro X hP hw hK hc i pins s σ H E I hf st hg
    subst hP hw hK
    obtain ⟨⟨old, he⟩, hit⟩ := st
    obtain ⟨xs, hq, hx⟩ := hg
    obtain ⟨its, rv, p, hz⟩ := I.tuple hq
    obtain ⟨f0, f1, f2, f3, f4, f5⟩ := hf it (by simp)
    have hl := rv.length
    have hi : i = its.toArray.size := by rw [List.size_toArray]; omega
    subst hi
    exact wpAny_pyNext_enum_endD (Draws.tuple (A := X.A.in1) (I.ok.hd hc) it a ai its.toArray) he ⟨hit, p⟩ fun h' eb => ⟨rfl, I.turned (t' := s.toks) (fun b o hb q => eb b o hb q) f0 f1 f3 f4 f5⟩
  self := fun A i s Q E st h => let ⟨⟨_, he⟩, _⟩ := st; wpAny_pyIter_enum he h
def iEnumT (K : PySem.W.Frag) (ta : TA) : TI := fun σ H R => ta σ H fun vs H1 => ∃ a xs, vs = [.ref a] ∧ SqT K H1 a xs ∧ R (Itp K a) H1
theorem pi_enumT {X : Cx} {e : Expr} {ta : TA} {p pos tpos : Pos} {elts : List Expr} {kk : Nat} (hg : Gl X "enumerate") (hm : X.mg "enumerate" = none) (ha : PA X [e] ta) (hs : starEach [e] X.env = [(false, eval e X.env)] := by rfl) :
    PI X (.Tuple elts kk tpos) (.Call (.Name "enumerate" p) [e] [] pos) (iEnumT X.K ta) := by
  refine ⟨fun pins s σ H R I h => ?_⟩
  refine PyProof.Rows.Call_ (ld_blt I hg hm PyProof.Rows.boot_enumerate (PyProof.Rows.callWith_type1 (thn (ha.run pos pins s σ H _ I h) fun us s1 ⟨vs, H1, I1, r1, q1⟩ => ?_) hs rfl))
  obtain ⟨a, xs, ex, hq, q⟩ := q1
  subst ex
  cases r1 with
  | cons r rr =>
    cases rr
    cases r
    obtain ⟨its, rv, p', hz⟩ := I1.tuple hq
    have hal : a < s1.heap.objs.size := by obtain ⟨o, z, _⟩ := id p'; exact Heap.lt_size z
    refine call_enum1 (begins_tuple a its.toArray) p' fun h' he hit hsz hk => wpAny_pyIter_enum he ?_
    have I2 : Inv X pins σ H1 { s1 with heap := h' } := I1.kept (t' := s1.toks) hk
    refine ⟨s1.heap.objs.size + 1, [s1.heap.objs.size + 1, s1.heap.objs.size], _, _, H1, rfl, I2, turn_enumT a (s1.heap.objs.size + 1) s1.heap.objs.size (Nat.ne_of_lt (Nat.lt_succ_of_lt hal)) (Nat.ne_of_lt hal) (Nat.succ_ne_self _), ⟨⟨.none, he⟩, ⟨_, hit, rfl, rfl⟩⟩, fun b hb => ?_, q⟩
    have e' : b = s1.heap.objs.size + 1 ∨ b = s1.heap.objs.size := by simpa using hb
    have hle : s1.heap.objs.size ≤ b := by
      rcases e' with z | z
      · rw [z]; exact Nat.le_add_right _ _
      · rw [z]; exact Nat.le_refl _
    exact I1.fpOk hle (I1.hok.fresh hle)
def enumD : Nat → List D → List D
  | _, [] => []
  | n, d :: ds => .tup [.int (n : Int), d] :: enumD (n + 1) ds
theorem enumD_len : ∀ (n : Nat) (ds : List D), (enumD n ds).length = ds.length
  | _, [] => rfl
  | n, d :: ds => by simp only [enumD, List.length_cons]; rw [enumD_len]
theorem enumD_get : ∀ {n : Nat} {ds : List D} {i : Nat} {d : D}, (enumD n ds)[i]? = some d → ∃ d', ds[i]? = some d' ∧ d = .tup [.int ((n + i : Nat) : Int), d']
  | _, [], i, d, h => by simp [enumD] at h
  | n, x :: ds, 0, d, h => by
    simp [enumD] at h
    exact ⟨x, rfl, by simpa using h.symm⟩
  | n, x :: ds, i + 1, d, h => by
    obtain ⟨d', h1, h2⟩ := enumD_get (n := n + 1) (ds := ds) (i := i) (d := d) (by simpa [enumD] using h)
    refine ⟨d', by simpa using h1, ?_⟩
    rw [h2, show n + 1 + i = n + (i + 1) by omega]
section
variable {X : Cx} {K : PySem.W.Frag} {L : Lk} {a b e : Expr} {da : DA} {pos p tpos : Pos}
theorem jok_enum {C : Ct} {G : Hp} {a : Addr} {vs : List V} {ds : List D} (h : SqT K G a vs) (e : Dens K G vs ds) : JOk K C G (Itp K a) (enumD 0 ds) where
  go := fun i σ H G' W δ hi x I => by
    have hv : i < vs.length := by rw [e.1]; rwa [enumD_len] at hi
    exact ⟨vs, vs[i], ex_t I.gh (ex_t x h), by simp [hv]⟩
  stop := fun σ H G' W δ x I => ⟨vs, ex_t I.gh (ex_t x h), by rw [e.1, enumD_len]⟩
  yld := fun i d σ H G' W δ v H' hd x I y => by
    obtain ⟨T, u, its, rfl, hT, rfl, y⟩ := y
    obtain ⟨d', h1, rfl⟩ := enumD_get hd
    have hv := y vs (ex_t I.gh (ex_t x h))
    rw [Nat.zero_add]
    obtain ⟨I', dn⟩ := I.newTup (its := its) (vs := [.int (i : Nat), u]) (ds := [.int ((i : Nat) : Int), d']) hT (.cons (.int _) (.cons ((e.2 i u d' hv h1).mono x) .nil))
    exact ⟨_, _, Ex.new (I.fresh hT).1, I', dn⟩
def diEnum (da : DA) : DI := fun δ P => da δ fun rs δ1 => ∃ ds δ2, useAll rs δ1 = some ([.val (.tup ds)], δ2) ∧ P (enumD 0 ds) δ2
theorem di_enum {elts : List Expr} {kk : Nat} (hg : Gl X "enumerate") (hm : X.mg "enumerate" = none) (ha : PA X [e] (liftA X.K L da)) (hs : starEach [e] X.env = [(false, eval e X.env)] := by rfl) : PI X (.Tuple elts kk tpos) (.Call (.Name "enumerate" p) [e] [] pos) (liftI X.K L (diEnum da)) :=
  PI.weak (pi_enumT hg hm ha hs) <| liftI_of fun C σ H G W δ P Q I lk h k => ⟨C, G, W, δ, _, I, lk, h, fun rs δ1 vs H1 G1 W1 h1 x1 I1 o1 => by
    obtain ⟨ds, δ2, e1, hp⟩ := h1
    obtain ⟨G2, x2, I2, o2⟩ := I1.useAllOk o1 e1
    obtain ⟨v, r, rfl, z1, z2⟩ := o2.cons_right
    rw [z2.nil_right]
    obtain ⟨a, us, rfl, hs, hd⟩ := Den.of_tup (show Den X.K G2 v (.tup ds) from z1.1)
    exact ⟨a, us, rfl, ex_t I2.gh hs, k _ δ2 _ H1 G2 W1 hp (x1.trans x2) I2 fun C' _ => jok_enum hs hd⟩⟩
end
end DL

set_option maxHeartbeats 1000000
namespace DL
open PySem PySem.Spec L2
/-! ### try .. except C as n: .. , then clauses that are never asked -/
/-- an exception of the body is of the class c (or one beneath it), and the suite does for it -/
def w1st (K : PySem.W.Frag) (c : Value) (i : Nat) (ts : Addr → Value → Option Addr → TS) (D : Ends) : WX := fun cls d σ H => PySem.W.exmOne K cls c = some true ∧
  ∀ a, H a = none → ts a cls d ⟨fun σ1 H1 => D.nx (σ1.set i none) H1, D.rt, fun σ1 H1 => D.bk (σ1.set i none) H1, fun σ1 H1 => D.ct (σ1.set i none) H1⟩ (σ.set i (some (.ref a))) H
section
variable {X : Cx} {x n : Str} {c : Value} {i : Nat} {body sf : List Stmt} {b1 : Stmt} {np pos pos' : Pos} {hds : List ExceptHandler} {tb : WX → TS} {ts : Addr → Value → Option Addr → TS}
theorem off_frames {B h : Heap} {l : List Env} {a : Addr} {o : Obj} {vs : Array Value} (ff : h.FunFrames B l) (e : h.get? a = some o) (dd : o.data = .fields vs) : a ∉ frs l := by
  intro m
  obtain ⟨_, u, e1, nf⟩ := ff.mem m
  rw [e] at e1
  cases e1
  exact nf _ dd
theorem ps_try1 (hs : X.stack = X.env :: X.outer) (hf : X.env.frame = some X.env.locals) (nd : X.N.Nodup) (hi : X.N[i]? = some n) (hl : X.env.kindOf n = some .local) (hc : Names X x c)
    (hb : ∀ (W : WX) (pn : List (Addr × Obj)) (xe : Value → Shared → Prop), Takes (X.tr pn xe) W → PassesOwn (model X.prog X.w) X.A X.env xe → PSs (X.tr pn xe) body (tb W))
    (hu : ∀ (a : Addr) (oe : Obj) (cls : Value) (d : Option Addr) (pn : List (Addr × Obj)), Zc cls d oe → (∃ vs, oe.data = .fields vs) → PSs (X.suite a ((a, oe) :: pn)) (b1 :: sf) (ts a cls d)) :
    PS X (.Try body (.ExceptHandler (some (.Name x np)) (some n) (b1 :: sf) pos' :: hds) [] [] pos) (fun D σ H => tb (w1st X.K c i ts D) D σ H) := by
  constructor
  intro pins s σ H D I h
  have fr : X.A.frames = some (X.env :: X.outer) := by rw [I.ok.frames, hs]
  refine wpAny_Try_except (wpAny_mono ((hb (w1st X.K c i ts D) (X.pn ++ pins) _ ?caught PassesOwn.looking).run [] s σ H D (I.toTry _) h) (fun f s1 z => ?done) fun _ _ z => z)
  case done =>
    cases f with
    | next => obtain ⟨σ1, H1, J, q⟩ := z; exact wpAny_execs_nil ⟨σ1, H1, J.ofTry I.ok, q⟩
    | brk => obtain ⟨σ1, H1, J, q⟩ := z; exact ⟨σ1, H1, J.ofTry I.ok, q⟩
    | cont => obtain ⟨σ1, H1, J, q⟩ := z; exact ⟨σ1, H1, J.ofTry I.ok, q⟩
    | ret u => obtain ⟨v, σ1, H1, J, r, q⟩ := z; exact ⟨v, σ1, H1, J.ofTry I.ok, r, q⟩
  case caught =>
    rintro u s1 ⟨a, B, sI, pins1, σ1, H1, cls, d, rfl, J0, nb, up, sky, na, os, ag, hx, hy⟩
    have J := J0.ofTry I.ok
    rw [show (X.tr (X.pn ++ pins) _).stack = X.env :: X.outer from hs] at sky
    refine Sky.land Zc.steady fr hf sky fun h3 fl up3 => ?_
    obtain ⟨oe, vs, he, hz, hd⟩ := fl.there
    have off := off_frames fl.2.2.1 he hd
    have aL : a ≠ X.env.locals := fun z => off (List.mem_filterMap.mpr ⟨X.env, List.mem_cons_self, by rw [hf, z]⟩)
    have aF : a ∉ X.fs := fun m => by
      obtain ⟨e, e1, e2⟩ := List.mem_filterMap.mp m
      exact off (List.mem_filterMap.mpr ⟨e, List.mem_cons_of_mem _ e1, e2⟩)
    have J3 : Inv X pins σ1 H1 ⟨h3, s1.gens, s1.drawn, s1.toks, s1.os⟩ := J.landed nb fl.1 (up.trans up3) os ag
    have S3 := J3.suite he hd na aL aF
    refine wpAny_handleBy_cons (codeAny_handlers_test ?_) (by intro q; cases q)
    have asked : ∀ {Q : Value → Shared → Prop} {E : Value → Shared → Prop}, Q c { s1 with heap := h3 } → wpAny (model X.prog X.w) (X.A.mark (some (.ref a))) (eval (.Name x np) X.env) Q E { s1 with heap := h3 } := fun {Q E} q => by
      obtain ⟨hg, hn, hm | ⟨hm, hv, hw⟩⟩ := hc
      · exact ld_glob (X := X.suite a ((a, oe) :: (X.pn ++ pins))) S3 hg hm q hn
      · exact ld_blt (X := X.suite a ((a, oe) :: (X.pn ++ pins))) S3 hg hm hv q hw hn
    have look : PySem.W.Looks (model X.prog X.w) h3 (typeOf (.ref a)) cls := fun A Q E s k q => wpAny_typeOf_ref (k _ _ he) (by rw [hz.1]; exact q)
    refine asked ((PySem.W.exm_one (M := model X.prog X.w) J3.kIn look hx).here ?_)
    refine codeAny_handlers_suite_as (HandSPX.lands_againZ fl fun h4 fl4 up4 => ?_)
    obtain ⟨oe4, vs4, he4, hz4, hd4⟩ := fl4.there
    have J4 : Inv X pins σ1 H1 ⟨h4, s1.gens, s1.drawn, s1.toks, s1.os⟩ := J.landed nb fl4.1 ((up.trans up3).trans up4) os ag
    have S4 := J4.suite he4 hd4 na aL aF
    refine store_ok (X := X.suite a ((a, oe4) :: (X.pn ++ pins))) (v := .ref a) S4 nd hi (.inl hl) rfl (fun s5 S5 => ?_) (.inr hl)
    refine wpAny_mono ((hu a oe4 cls d (X.pn ++ pins) hz4 ⟨_, hd4⟩).run [] s5 _ H1 _ S5 (hy a na)) (fun f s6 z => ?_) fun _ _ z => z.elim
    have clean : ∀ {σ6 : St} {H6 : Hp} {Q : Shared → Prop}, Inv (X.suite a ((a, oe4) :: (X.pn ++ pins))) [] σ6 H6 s6 → (∀ s7, Inv X pins (σ6.set i none) H6 s7 → Q s7) → wpAny (model X.prog X.w) X.A (do bindName X.env n .none; unbindBehindTheSuite X.env n pos') (fun _ s7 => Q s7) X.xe s6 :=
      fun S6 q => gone_ok (S6.unsuite I.ok) nd hi hl q
    cases f with
    | next => obtain ⟨σ6, H6, S6, q⟩ := z; exact clean S6 fun s7 J7 => ⟨_, _, J7, q⟩
    | brk => obtain ⟨σ6, H6, S6, q⟩ := z; exact clean S6 fun s7 J7 => ⟨_, _, J7, q⟩
    | cont => obtain ⟨σ6, H6, S6, q⟩ := z; exact clean S6 fun s7 J7 => ⟨_, _, J7, q⟩
    | ret u => obtain ⟨v6, σ6, H6, S6, r6, q⟩ := z; exact clean S6 fun s7 J7 => ⟨_, _, _, J7, r6, q⟩
end
end DL

set_option maxHeartbeats 1000000
namespace DL
open PySem PySem.Spec L2
section
variable {K : PySem.W.Frag} {C : Ct} {σ : St} {H G : Hp} {W : Ow} {δ : List R}
/-- a slot is emptied -/
theorem SI.clear (I : SI K C σ H G W δ) (i : Nat) : SI K C (σ.set i none) H G W (st δ i .no) := by
  refine ⟨I.gh, I.g0, I.hh, I.gz, I.b0, I.bag, I.tm, I.mu, by rw [st_len, List.length_set]; exact I.ln, fun j hj => ?_⟩
  by_cases e : i = j
  · subst e
    rcases gt_st_same δ i .no with z | z <;> exact absurd z hj
  · rw [gt_st_ne δ i j .no e] at hj ⊢
    obtain ⟨w, h1, h2⟩ := I.sl j hj
    refine ⟨w, by rw [List.getElem?_set_ne e]; exact h1, ?_⟩
    cases q : gt δ j with
    | no => exact trivial
    | val d => rw [q] at h2; exact h2
    | bag => rw [q] at h2; exact h2
    | own d => rw [q] at h2; exact h2
    | bor d => rw [q] at h2; exact h2
    | pk k => rw [q] at h2; exact absurd h2.1 (by simp)
end
abbrev Lx := Addr → List (Str × D) → List R → Prop
/-- what the suite is to do for an exception -/
def xTry (C : Addr) (i : Nat) (su : Addr → Value → Option Addr → DS) (DD : DEnds) : Lx := fun c fs δ => c = C ∧ ∀ a d, su a (.ref c) (some d) ⟨fun δ1 => DD.nx (st δ1 i .no), DD.rt, fun δ1 => DD.bk (st δ1 i .no), fun δ1 => DD.ct (st δ1 i .no)⟩ (st δ i (.val (.exc a d fs)))
def dTry (C : Addr) (i : Nat) (bd : Lx → DS) (su : Addr → Value → Option Addr → DS) : DS := fun DD δ => bd (xTry C i su DD) DD δ
section
variable {X : Cx} {L : Lk} {x n f : Str} {Cl : Addr} {i : Nat} {body sf : List Stmt} {b1 : Stmt} {np pos pos' p : Pos} {hds : List ExceptHandler} {bd : Lx → DS} {su : Addr → Value → Option Addr → DS} {e : Expr} {de : DE} {da : DA}
theorem ds_try (hs : X.stack = X.env :: X.outer) (hf : X.env.frame = some X.env.locals) (nd : X.N.Nodup) (hi : X.N[i]? = some n) (hl : X.env.kindOf n = some .local) (hc : Names X x (.ref Cl)) (hx : PySem.W.exmOne X.K (.ref Cl) (.ref Cl) = some true)
    (hb : ∀ (L' : Lk) (pn : List (Addr × Obj)) (xe : Value → Shared → Prop), Takes (X.tr pn xe) L'.E → PassesOwn (model X.prog X.w) X.A X.env xe → PSs (X.tr pn xe) body (liftS X.K L' (bd L'.x)))
    (hu : ∀ (a : Addr) (oe : Obj) (cls : Value) (d : Option Addr) (pn : List (Addr × Obj)), Zc cls d oe → (∃ vs, oe.data = .fields vs) → PSs (X.suite a ((a, oe) :: pn)) (b1 :: sf) (liftS X.K L0 (su a cls d))) :
    PS X (.Try body (.ExceptHandler (some (.Name x np)) (some n) (b1 :: sf) pos' :: hds) [] [] pos) (liftS X.K L (dTry Cl i bd su)) := by
  refine PS.weak (ps_try1 (tb := fun W D σ H => ∃ xx, liftS X.K ⟨W, xx⟩ (bd xx) D σ H) (ts := fun a cls d => liftS X.K L0 (su a cls d)) hs hf nd hi hl hc (fun W pn xe tk ps => ⟨fun pins s σ H D I q => ?_⟩) hu) ?_
  · obtain ⟨xx, q⟩ := q
    exact (hb ⟨W, xx⟩ pn xe tk ps).run pins s σ H D I q
  · refine liftS_of fun C D σ H G W δ DD I lk h k => ⟨xTry Cl i su DD, C, G, W, δ, DD, I, ?_, h, k⟩
    rintro c fs δ1 d σ1 H1 G1 W1 fvs ⟨rfl, hsu⟩ x1 I1 gd dn
    refine ⟨hx, fun a na => ?_⟩
    have de : Den X.K G1 (.ref a) (.exc a d fs) := .exc gd dn.1 (fun i p q a b => (dn.2 i p q a b).1) fun i p q a b => (dn.2 i p q a b).2
    obtain ⟨W2, I2⟩ := I1.store (i := i) (v := .ref a) (r := .val (.exc a d fs)) de (fun j z => by cases z)
    refine ⟨C, G1, W2, _, _, I2, Lnk.zero, hsu a d, ?_⟩
    have k1 := k.mono x1
    exact ⟨fun σ' H' G' W' δ' z I' h' => k1.nx _ H' G' W' _ z (I'.clear i) h', k1.rt, fun σ' H' G' W' δ' z I' h' => k1.bk _ H' G' W' _ z (I'.clear i) h', fun σ' H' G' W' δ' z I' h' => k1.ct _ H' G' W' _ z (I'.clear i) h'⟩
/-- e.f, e the exception that the suite holds -/
def dXf (a : Addr) (cls : Value) (d : Option Addr) (Cl : Addr) (f : Str) (de : DE) : DE := fun δ P => de δ fun r δ1 => ∃ dd fs y, peek r δ1 = some (.exc a dd fs) ∧ cls = .ref Cl ∧ d = some dd ∧ fs.lookup f = some y ∧ P (.val y) δ1
theorem lookup_dens {K : PySem.W.Frag} {G : Hp} {f : Str} : ∀ {fs : List (Str × V)} {fds : List (Str × D)} {y : D}, DensP K G fs fds → fds.lookup f = some y → ∃ v, fs.lookup f = some v ∧ Den K G v y
  | fs, [], y, _, e => by simp [List.lookup] at e
  | fs, q :: r, y, h, e => by
    obtain ⟨p, vr, rfl, ⟨h1, h2⟩, h3⟩ := All2.cons_right h
    obtain ⟨pk, pv⟩ := p
    obtain ⟨qk, qv⟩ := q
    have h1 : pk = qk := h1
    subst h1
    by_cases z : f == pk
    · simp only [List.lookup, z] at e ⊢
      cases e
      exact ⟨pv, rfl, h2⟩
    · have z : (f == pk) = false := by simpa using z
      simp only [List.lookup, z] at e ⊢
      exact lookup_dens h3 e
theorem de_xf {a : Addr} {oe : Obj} {cls : Value} {d : Option Addr} {pn : List (Addr × Obj)} (T : XfC X.K Cl) (hno : PySem.W.findIn X.K (.ref Cl) f = some none) (hz : Zc cls d oe) (hf : ∃ vs, oe.data = .fields vs) (he : PE (X.suite a ((a, oe) :: pn)) e (lift X.K L de)) (hb : attributeBase e f X.env (eval e X.env) = eval e X.env := by rfl) :
    PE (X.suite a ((a, oe) :: pn)) (.Attribute e f pos) (lift X.K L (dXf a cls d Cl f de)) :=
  PE.weak (pe_xf T hno hz hf he hb) <| lift_of fun C σ H G W δ P Q I lk h k => ⟨C, G, W, δ, _, I, lk, h, fun r δ1 v H1 G1 W1 h1 x1 I1 o1 => by
    obtain ⟨dd, fs, y, e1, rfl, rfl, e4, hp⟩ := h1
    have dn : Den X.K G1 v (.exc a dd fs) := by
      rcases I1.peekOk o1 e1 with z | ⟨p, _, z⟩
      · exact z
      · exact z.elim
    obtain ⟨vs, rfl, gd, ds⟩ := dn.of_exc
    obtain ⟨u, y1, y2⟩ := lookup_dens ds e4
    exact ⟨rfl, rfl, dd, vs, u, rfl, I1.gh _ _ gd, y1, k _ δ1 u H1 G1 W1 hp x1 I1 y2⟩⟩
/-! ### own errors: class C(AskError) with def __init__(self, g): self.f = g -/
def spInit (K : PySem.W.Frag) (f : Str) : Sp := fun vs H Q _ => ∃ (a Cl : Addr) (v : V), vs = [.ref a, v] ∧ OexC K Cl ∧ PySem.W.findIn K (.ref Cl) f = some none ∧ H a = some (exo a Cl none) ∧ ∀ dx, H dx = none → dx ≠ a → Q .non (upd (upd H dx (exd dx [(f, v)])) a (exo a Cl (some dx)))
structure ErrC (P : Program) (w : World) (K : PySem.W.Frag) (mg : Str → Option Value) (base : Heap) (x : Str) (Cl : Addr) (f : Str) : Prop where
  oex : OexC K Cl
  xf : XfC K Cl
  no : PySem.W.findIn K (.ref Cl) f = some none
  gl : mg x = some (.ref Cl)
  self : PySem.W.exmOne K (.ref Cl) (.ref Cl) = some true
  ini : ∃ (fI : Addr) (fd : FuncData) (ps : List Str), PySem.W.findIn K (.ref Cl) "__init__" = some (some (.ref fI)) ∧ PySem.W.typeIn K (.ref fI) = some (.type "function") ∧ FnOk P w K mg base CX0 1 fI fd ps (spInit K f) ∧ Binds K fd ps []
theorem fn_init {P : Program} {w : World} {K : PySem.W.Frag} {mg : Str → Option Value} {base : Heap} {qual : Str} {sm : Stmt} {fI : Addr} {fd : FuncData} {g : Str} {ps : List Str} (F : Fun K "__init__" qual sm fI fd) (Sc : FnScope ["self", g] ps (defScope sm)) (hl : ps.length = 2)
    (hb : ∀ (cdv : Value) (A : Around) (outer : List Env) (s : Shared) (H : Hp) (E : XK), PSs (cxOf CX0 P w K mg base ["self", g] qual (defScope sm) fI cdv A outer s H E).nox (defBody sm) (tOst K f (tVar 0) (tVar 1))) : FnOk P w K mg base CX0 1 fI fd ps (spInit K f) := by
  refine F.ok Sc (fun vs H Q E h => ?_) (fun cdv A outer s H vs Q E hr h => ⟨_, hb cdv A outer s H E, ?_⟩)
  · obtain ⟨a, Cl, v, rfl, _⟩ := h
    rw [hl]; rfl
  · obtain ⟨a, Cl, v, rfl, T, hno, ha, q⟩ := h
    exact ⟨v, rfl, .ref a, rfl, a, Cl, rfl, T, hno, .inl ⟨ha, q⟩⟩
def dRaise (xx : Lx) (Cl : Addr) (f : Str) (da : DA) : DS := fun _ δ => da δ fun rs δ1 => ∃ d δ2, useAll rs δ1 = some ([.val d], δ2) ∧ xx Cl [(f, d)] δ2
theorem ds_raise {pos2 : Pos} (T : ErrC X.prog X.w X.K X.mg X.base x Cl f) (hc : X.calm = true) (hr : Room 2 X.A) (tk : Takes X L.E) (hg : Gl X x) (ha : PA X [e] (liftA X.K L da))
    (hdb : (x == ("__debug__" : Str)) = false := by decide) (he : starEach (e :: []) X.env = (false, eval e X.env) :: starEach [] X.env := by rfl) (hpl : (backTo pos (starEach [] X.env)).any (·.1) = false := by rfl) :
    PS X (.Raise (some (.Call (.Name x p) [e] [] pos)) none pos2) (liftS X.K L (dRaise L.x Cl f da)) := by
  obtain ⟨fI, fd, ps, i1, i2, F, hb⟩ := T.ini
  refine PS.weak (ps_raise hc tk (pmk_oex T.oex i1 i2 F hr hb .nil pass0 hg T.gl ha hdb he hpl)) <| liftS_of fun C D σ H G W δ DD I lk h k => ⟨C, G, W, δ, _, I, lk, h, fun rs δ1 vs H1 G1 W1 h1 x1 I1 o1 => ?_⟩
  obtain ⟨d, δ2, e1, hx⟩ := h1
  obtain ⟨G2, x2, I2, o2⟩ := I1.useAllOk o1 e1
  obtain ⟨v, r, rfl, z1, z2⟩ := o2.cons_right
  rw [z2.nil_right]
  have dn : Den X.K G2 v d := z1.1
  refine ⟨by simp, fun a na => ⟨a, Cl, v, rfl, T.oex, T.no, upd_same, fun dx n ne => ⟨rfl, dx, [(f, v)], upd_same, ?_, ?_, ?_⟩⟩⟩
  · rw [upd_ne ne, upd_same]
  · rw [upd_ne ne] at n; exact n
  · have n1 : H1 dx = none := by rw [upd_ne ne] at n; exact n
    have eq : upd (del (upd (upd (upd H1 a (exo a Cl none)) dx (exd dx [(f, v)])) a (exo a Cl (some dx))) a) dx (.xd [(f, v)]) = upd H1 dx (.xd [(f, v)]) := by
      funext b
      by_cases hb1 : b = dx
      · subst hb1; rw [upd_same, upd_same]
      · rw [upd_ne hb1, upd_ne hb1]
        by_cases hb2 : b = a
        · subst hb2; rw [del_same, na]
        · rw [del_ne hb2, upd_ne hb2, upd_ne hb1, upd_ne hb2]
    rw [eq]
    have m := I2.fresh n1
    have I3 : SI X.K C σ (upd H1 dx (.xd [(f, v)])) (upd G2 dx (.xd [(f, v)])) _ δ2 := (I2.lay n1).publish upd_same m (fun i d _ => by simp)
    exact lk Cl [(f, d)] δ2 dx σ _ _ _ [(f, v)] hx ((x1.trans x2).trans (Ex.new m.1)) I3 upd_same (.cons ⟨rfl, dn.mono (Ex.new m.1)⟩ .nil)
/-! ### defs that may raise -/
def dCallX (S : DSp) (xx : Lx) (da : DA) : DE := fun δ P => da δ fun rs δ1 => ∃ rs' δ2, useAll rs δ1 = some (rs', δ2) ∧ S rs' (fun r _ => P r δ2) (fun c fs => xx c fs δ2)
def FcX (P : Program) (w : World) (K : PySem.W.Frag) (mg : Str → Option Value) (base : Heap) (k : Nat) (x : Str) (ps : List Str) (S : DSp) : Prop :=
  ∃ (f : Addr) (fd : FuncData), FnOk P w K mg base (L2.CX P w) k f fd ps (spOf K S) ∧ mg x = some (.ref f) ∧ PySem.W.keepIn K (.ref f) = true ∧ Binds K fd ps []
variable {k : Nat} {ps : List Str} {S : DSp} {es : List Expr}
theorem lift_callX {K : PySem.W.Frag} : ∀ σ H Q, lift K L (dCallX S L.x da) σ H Q → tCallSD (spOf K S) [] (WE L.E) (liftA K L da) σ H Q :=
  lift_of fun C σ H G W δ P Q I lk h k => ⟨C, G, W, δ, _, I, lk, h, fun rs δ1 vs H1 G1 W1 h1 x1 I1 o1 => by
    obtain ⟨rs', δ2, e, hs⟩ := h1
    obtain ⟨G2, x2, I2, o2⟩ := I1.useAllOk o1 e
    rw [List.append_nil]
    refine ⟨C.bo, none, G2, rs', _, _, I2.gh, I2.bag, (fun p z => by cases z), aok_of (rs := rs) (δ := δ1) (δ' := δ2) o2 (useAll_on e), hs, fun r m v G' H' hp hf ho _ => ?_, fun c fs d fvs G' H' hx hf gd dn => ?_⟩
    · obtain ⟨W', I3, o3⟩ := I2.called hf ho
      exact k r δ2 v H' G' W' hp ((x1.trans x2).trans hf.ex) I3 o3
    · obtain ⟨W', I3, _⟩ := I2.called hf (v := .non) (r := .val .non) Den.non
      exact lk c fs δ2 d σ H' G' W' fvs hx ((x1.trans x2).trans hf.ex) I3 gd dn⟩
theorem de_fcx (F : FcX X.prog X.w X.K X.mg X.base k x ps S) (hr : Room k X.A) (tk : Takes X L.E) (hg : Gl X x) (ha : PA X (e :: es) (liftA X.K L da)) (hdb : (x == ("__debug__" : Str)) = false := by decide)
    (he : starEach (e :: es) X.env = (false, eval e X.env) :: starEach es X.env := by rfl) (hpl : (backTo pos (starEach es X.env)).any (·.1) = false := by rfl) : PE X (.Call (.Name x p) (e :: es) [] pos) (lift X.K L (dCallX S L.x da)) :=
  let ⟨_, _, h1, h2, h3, h4⟩ := F
  PE.weak (pe_callSD h1 hr hg h2 h3 h4 .nil (fun σ => passAt tk σ) ha hdb he hpl) lift_callX
/-- a def that may raise; its reading ds by what is wished of an exception -/
theorem fn_dx {P : Program} {w : World} {K : PySem.W.Frag} {mg : Str → Option Value} {base : Heap} {x qual : Str} {sm : Stmt} {f : Addr} {fd : FuncData} {N ps : List Str} {k : Nat} {S : DSp} (F : Fun K x qual sm f fd) (Sc : FnScope N ps (defScope sm)) (hl : ∀ rs P Xc, S rs P Xc → rs.length = ps.length) (hN : ps.length ≤ N.length)
    (ds : Lx → DS) (hbody : ∀ (cdv : Value) (A : Around) (outer : List Env) (s : Shared) (H : Hp) (E : XK) (L : Lk), Room k (A.deeper (PyProof.Rows.envOfC qual (defScope sm) s.heap.objs.size f cdv)) → Takes (cxOf (L2.CX P w) P w K mg base N qual (defScope sm) f cdv A outer s H E) L.E →
      PassesOwn (model P w) (cxOf (L2.CX P w) P w K mg base N qual (defScope sm) f cdv A outer s H E).A (cxOf (L2.CX P w) P w K mg base N qual (defScope sm) f cdv A outer s H E).env (cxOf (L2.CX P w) P w K mg base N qual (defScope sm) f cdv A outer s H E).xe →
      PSs (cxOf (L2.CX P w) P w K mg base N qual (defScope sm) f cdv A outer s H E) (defBody sm) (liftS K L (ds L.x)))
    (hd : ∀ rs P Xc, S rs P Xc → ds (fun c fs _ => Xc c fs) (endD P) (startD N rs)) : FnOk P w K mg base (L2.CX P w) (k + 1) f fd ps (spOf K S) := by
  refine F.okX Sc (fun vs H Q E h => ?_) (fun cdv A outer s H vs Q E hr h => ?_)
  · obtain ⟨bo, mo, G, rs, P, Xc, _, _, _, ha, hs, _⟩ := h
    rw [ha.1]; exact hl rs P Xc hs
  · obtain ⟨bo, mo, G, rs, P, Xc, hg, hb, hm, ha, hs, hq, hx⟩ := h
    refine ⟨_, hbody cdv A outer s H E ⟨fun cls d _ H => E cls d H, fun c fs _ => Xc c fs⟩ hr (takes_of rfl rfl rfl rfl) (passes_of rfl), ⟨bo, mo, H, G, fun _ => none⟩, G, fun _ => none, startD N rs, _, SI.start (by rw [ha.1, hl rs P Xc hs]; exact hN) hg hb hm ha, ?_, hd rs P Xc hs, ?_⟩
    · intro c fs δ' d σ' H' G' W' fvs h1 h2 I gd dn
      exact hx c fs d fvs G' H' h1 (I.fin I.b0) gd dn
    · refine ⟨fun σ' H' G' W' δ' x I hp => ?_, fun v σ' H' G' W' δ' r x I o fi hp => ?_, fun _ _ _ _ _ _ _ hp => hp, fun _ _ _ _ _ _ _ hp => hp⟩
      · rcases hp with hp | hp
        · exact hq _ _ _ G' H' hp (I.fin I.b0) Den.non (fun _ z => by cases z)
        · exact hq _ _ _ G' H' hp (I.fin I.b0) Den.non I.mfin
      · rcases hp with hp | hp
        · exact hq _ _ v G' H' hp (I.fin I.b0) (ROk.fin o fi) (fun _ z => by cases z)
        · exact hq _ _ v G' H' hp (I.fin I.b0) (ROk.fin o fi) I.mfin
end
end DL

namespace DL
open PySem PySem.Spec L2
section
variable {X : Cx} {K : PySem.W.Frag} {L : Lk} {a b e : Expr} {da db de : DE} {pos p q : Pos}
/-- two texts -/
def cEqS : D → D → Bool → Prop := fun d1 d2 r => ∃ x y, d1 = .str x ∧ d2 = .str y ∧ r = decide (x = y)
theorem cs_eqS : CmpSem K rEq cEqS := fun H x y d1 d2 r Q h1 h2 hc k => by
  obtain ⟨x', y', rfl, rfl, rfl⟩ := hc
  have e1 := h1.of_str
  have e2 := h2.of_str
  subst e1; subst e2
  refine ⟨rfl, ?_⟩
  rw [show decide (V.str x' = V.str y') = decide (x' = y') by simp]
  exact k
theorem de_eqS (ha : PE X a (lift X.K L da)) (hb : PE X b (lift X.K L db)) : PE X (.Compare a [.Eq] [b] pos) (lift X.K L (dCmp cEqS da db)) := de_cmp op_eq cs_eqS ha hb (nomark _)
theorem dt_eqS (ha : PE X a (lift X.K L da)) (hb : PE X b (lift X.K L db)) : PT X (.Compare a [.Eq] [b] pos) (liftT X.K L (dTst (dCmp cEqS da db))) := dt_cmp op_eq cs_eqS ha hb (nomark _)
theorem i_cmpS {δ2 : List R} {r1 r2 : R} {x y : Str} {B : Bool → Prop} (h : B (decide (x = y))) (e1 : peek r1 δ2 = some (.str x) := by rfl) (e2 : peek r2 δ2 = some (.str y) := by rfl) : ∃ d1 d2 b, peek r1 δ2 = some d1 ∧ peek r2 δ2 = some d2 ∧ cEqS d1 d2 b ∧ B b := ⟨_, _, _, e1, e2, ⟨_, _, rfl, rfl, rfl⟩, h⟩
/-- list(range(a, b)) -/
def dLrng2 (da db : DE) : DE := fun δ P => da δ fun r1 δ1 => db δ1 fun r2 δ2 => ∃ i j, peek r1 δ2 = some (.int i) ∧ peek r2 δ2 = some (.int j) ∧ RgOk i j ∧ P (.own (.lst (rngD i (j - i).toNat))) δ2
theorem dens_rng {G : Hp} (i : Int) (n : Nat) : Dens K G ((List.range n).map fun k => V.int (i + (k : Nat))) (rngD i n) := by
  refine ⟨by simp [rngD], fun j x y hx hy => ?_⟩
  unfold rngD at hy
  rw [List.getElem?_map] at hx hy
  cases e : (List.range n)[j]? with
  | none => rw [e] at hx; cases hx
  | some k => rw [e] at hx hy; cases hx; cases hy; exact .int _
theorem de_lrng2 (hc : X.calm = true) (hg : Gl X "list") (hm : X.mg "list" = none) (hg2 : Gl X "range") (hm2 : X.mg "range" = none) (ha : PE X a (lift X.K L da)) (hb : PE X b (lift X.K L db))
    (na : starEach [.Call (.Name "range" q) [a, b] [] pos'] X.env = (false, eval (.Call (.Name "range" q) [a, b] [] pos') X.env) :: starEach [] X.env := by rfl)
    (na2 : starEach [a, b] X.env = (false, eval a X.env) :: starEach [b] X.env := by rfl) (nb : starEach [b] X.env = (false, eval b X.env) :: starEach [] X.env := by rfl) (hp : (backTo pos' (starEach [b] X.env)).any (·.1) = false := by rfl) :
    PE X (.Call (.Name "list" p) [.Call (.Name "range" q) [a, b] [] pos'] [] pos) (lift X.K L (dLrng2 da db)) :=
  PE.weak (pe_listRg hc hg hm (prg_2 hg2 hm2 ha hb na2 nb hp) na) <| lift_of fun C σ H G W δ P Q I lk h k => lift_two I lk h fun r1 r2 δ2 x y H2 G2 W2 h2 x2 I2 o1 o2 => by
    obtain ⟨i, j, e1, e2, ok, hp⟩ := h2
    rw [← peek_pub] at e1 e2
    have ex := ((I2.peekOk o1 e1).den I2.gh).of_int
    have ey := ((I2.peekOk o2 e2).den I2.gh).of_int
    subst ex; subst ey
    refine ⟨i, j, rfl, rfl, ok, fun t ht => ?_⟩
    obtain ⟨I', o⟩ := I2.newLst ht (dens_rng i (j - i).toNat)
    exact k _ _ _ _ _ _ hp x2 I' o
theorem i_lrng2 {δ : List R} {P : R → List R → Prop} (h : da δ fun r1 δ1 => db δ1 fun r2 δ2 => ∃ i j, peek r1 δ2 = some (.int i) ∧ peek r2 δ2 = some (.int j) ∧ RgOk i j ∧ P (.own (.lst (rngD i (j - i).toNat))) δ2) : dLrng2 da db δ P := h
theorem i_lrng22 {δ2 : List R} {r1 r2 : R} {x y : Int} {B : Int → Int → Prop} (h : B x y) (ok : RgOk x y) (e1 : peek r1 δ2 = some (.int x) := by rfl) (e2 : peek r2 δ2 = some (.int y) := by rfl) : ∃ i j, peek r1 δ2 = some (.int i) ∧ peek r2 δ2 = some (.int j) ∧ RgOk i j ∧ B i j := ⟨_, _, e1, e2, ok, h⟩
end
/-! ### going through: dicts, enumerate, exceptions -/
section
variable {δ δ1 δ2 δ3 : List R} {P : R → List R → Prop} {da db de : DE} {DD : DEnds} {i : Nat} {d d1 d2 : D} {r r1 r2 r' : R} {Q : R → Prop}
theorem i_dict {ps : List D} {kvs : List (Key × D)} (h : Q (.own (.dic (mergeD [] kvs)))) (e : pairsD ps = some kvs) : bDict [.tup ps] Q := ⟨_, e, h⟩
theorem i_cmpDin {n : Bool} {k : Key} {kvs : List (Key × D)} {B : Bool → Prop} (h : B (if n then !(valD kvs k).isSome else (valD kvs k).isSome)) (e1 : peek r1 δ2 = some d1 := by rfl) (e2 : peek r2 δ2 = some (.dic kvs) := by rfl) (f1 : keyD d1 = some k := by rfl) :
    ∃ d1 d2 b, peek r1 δ2 = some d1 ∧ peek r2 δ2 = some d2 ∧ cDin n d1 d2 b ∧ B b := ⟨_, _, _, e1, e2, ⟨_, _, f1, rfl, rfl⟩, h⟩
theorem i_dix (h : da δ fun r1 δ1 => db δ1 fun r2 δ2 => ∃ kvs dk k d, peek r1 δ2 = some (.dic kvs) ∧ peek r2 δ2 = some dk ∧ keyD dk = some k ∧ valD kvs k = some d ∧ P (.val d) δ2) : dDix da db δ P := h
theorem i_dix2 {kvs : List (Key × D)} {dk : D} {k : Key} {B : D → Prop} (h : B d) (v : valD kvs k = some d) (e1 : peek r1 δ2 = some (.dic kvs) := by rfl) (e2 : peek r2 δ2 = some dk := by rfl) (f1 : keyD dk = some k := by rfl) :
    ∃ kvs dk k d, peek r1 δ2 = some (.dic kvs) ∧ peek r2 δ2 = some dk ∧ keyD dk = some k ∧ valD kvs k = some d ∧ B d := ⟨_, _, _, _, e1, e2, f1, v, h⟩
theorem i_enum {da : DA} {PI : List D → List R → Prop} (h : da δ fun rs δ1 => ∃ ds δ2, useAll rs δ1 = some ([.val (.tup ds)], δ2) ∧ PI (enumD 0 ds) δ2) : diEnum da δ PI := h
theorem i_enum2 {rs : List R} {ds : List D} {B : List D → List R → Prop} (h : B ds δ2) (e : useAll rs δ1 = some ([.val (.tup ds)], δ2) := by rfl) : ∃ ds δ2, useAll rs δ1 = some ([.val (.tup ds)], δ2) ∧ B ds δ2 := ⟨_, _, e, h⟩
theorem i_callX {S : DSp} {xx : Lx} {da : DA} (h : da δ fun rs δ1 => ∃ rs' δ2, useAll rs δ1 = some (rs', δ2) ∧ S rs' (fun r _ => P r δ2) (fun c fs => xx c fs δ2)) : dCallX S xx da δ P := h
theorem i_callX2 {rs rs' : List R} {B : List R → List R → Prop} (h : B rs' δ2) (e : useAll rs δ1 = some (rs', δ2) := by rfl) : ∃ rs' δ2, useAll rs δ1 = some (rs', δ2) ∧ B rs' δ2 := ⟨_, _, e, h⟩
theorem i_raise {xx : Lx} {Cl : Addr} {f : Str} {da : DA} (h : da δ fun rs δ1 => ∃ d δ2, useAll rs δ1 = some ([.val d], δ2) ∧ xx Cl [(f, d)] δ2) : dRaise xx Cl f da DD δ := h
theorem i_raise2 {rs : List R} {B : D → List R → Prop} (h : B d δ2) (e : useAll rs δ1 = some ([.val d], δ2) := by rfl) : ∃ d δ2, useAll rs δ1 = some ([.val d], δ2) ∧ B d δ2 := ⟨_, _, e, h⟩
theorem i_try {C : Addr} {bd : Lx → DS} {su : Addr → Value → Option Addr → DS} (h : bd (xTry C i su DD) DD δ) : dTry C i bd su DD δ := h
theorem i_xf {a : Addr} {cls : Value} {dd : Option Addr} {Cl : Addr} {f : Str} (h : de δ fun r δ1 => ∃ d' fs y, peek r δ1 = some (.exc a d' fs) ∧ cls = .ref Cl ∧ dd = some d' ∧ fs.lookup f = some y ∧ P (.val y) δ1) : dXf a cls dd Cl f de δ P := h
theorem i_xf2 {a dd : Addr} {fs : List (Str × D)} {Cl : Addr} {f : Str} {y : D} {B : D → Prop} (h : B y) (e : peek r δ1 = some (.exc a dd fs) := by rfl) (l : fs.lookup f = some y := by rfl) : ∃ d' fs y, peek r δ1 = some (.exc a d' fs) ∧ Value.ref Cl = .ref Cl ∧ some dd = some d' ∧ fs.lookup f = some y ∧ B y := ⟨_, _, _, e, rfl, rfl, l, h⟩
end
end DL

namespace DL
open PySem PySem.Spec L2
/-! ### a list that is lent to a def -/
def keepAt : Nat → List R → List R
  | _, [] => []
  | 0, r :: _ => [r]
  | n + 1, _ :: rs => .no :: keepAt n rs
theorem keepAt_len : ∀ (n : Nat) (δ : List R), (keepAt n δ).length ≤ δ.length
  | 0, [] => Nat.le_refl _
  | _ + 1, [] => Nat.le_refl _
  | 0, _ :: _ => by simp [keepAt]
  | n + 1, _ :: rs => by simp only [keepAt, List.length_cons]; exact Nat.succ_le_succ (keepAt_len n rs)
theorem gt_keepAt : ∀ (n : Nat) (δ : List R) (i : Nat), gt (keepAt n δ) i ≠ .no → i = n ∧ gt (keepAt n δ) i = gt δ i
  | n, [], i, h => absurd (by cases n <;> rfl) h
  | 0, r :: rs, 0, h => ⟨rfl, rfl⟩
  | 0, r :: rs, i + 1, h => absurd rfl h
  | n + 1, r :: rs, 0, h => absurd rfl h
  | n + 1, r :: rs, i + 1, h => by
    obtain ⟨e, h⟩ := gt_keepAt n rs i h
    exact ⟨by rw [e], h⟩
theorem SI.keepAt {K : PySem.W.Frag} {C : Ct} {σ : St} {H G : Hp} {W : Ow} {δ : List R} (I : SI K C σ H G W δ) (n : Nat) : SI K C σ H G W (keepAt n δ) :=
  ⟨I.gh, I.g0, I.hh, I.gz, I.b0, I.bag, I.tm, I.mu, Nat.le_trans (keepAt_len n δ) I.ln, fun i h => by
    obtain ⟨_, e⟩ := gt_keepAt n δ i h
    rw [e] at h ⊢
    exact I.sl i h⟩
/-- as a def is handed its arguments: slot i is lent -/
def useOr (i : Nat) (r : R) (δ : List R) : Option (R × List R) := match r with
  | .pk j => if j = i then some (.pk i, δ) else use (.pk j) δ
  | r => use r δ
def useB (i : Nat) : List R → List R → Option (List R × List R)
  | [], δ => some ([], δ)
  | r :: rs, δ => match useOr i r δ with
    | some (r', δ') => match useB i rs δ' with
      | some (rs', δ'') => some (r' :: rs', δ'')
      | none => none
    | none => none
def lend (i : Nat) (d : D) : R → R
  | .pk _ => .bor d
  | r => r
section
variable {K : PySem.W.Frag} {C : Ct} {σ : St} {H H' G G' : Hp} {W : Ow} {δ : List R} {v : V} {r : R}
theorem useOr_ok {i : Nat} {r' : R} {δ' : List R} (I : SI K C σ H G W δ) (h : ROk K C σ H G W none v r) (e : useOr i r δ = some (r', δ')) : (∃ G', Ex G G' ∧ SI K C σ H G' W δ' ∧ ROk K C σ H G' W none v r' ∧ r'.pub = r') ∧ r'.on = true ∧ (∀ j, r' = .pk j → j = i) := by
  have go : use r δ = some (r', δ') → (∃ G', Ex G G' ∧ SI K C σ H G' W δ' ∧ ROk K C σ H G' W none v r' ∧ r'.pub = r') ∧ r'.on = true ∧ (∀ j, r' = .pk j → j = i) := fun e => ⟨I.useOk h e, use_on e, fun j z => absurd z (use_nk e j)⟩
  cases r with
  | pk j =>
    unfold useOr at e
    dsimp only at e
    by_cases hj : j = i
    · rw [if_pos hj] at e; cases e; subst hj
      exact ⟨⟨G, Ex.refl G, I, h, rfl⟩, rfl, fun k z => by cases z; rfl⟩
    · rw [if_neg hj] at e; exact go e
  | no => exact go e
  | val d => exact go e
  | own d => exact go e
  | bag => exact go e
  | bor d => exact go e
theorem useOr_pub (i : Nat) (r : R) (δ : List R) : useOr i r.pub δ = useOr i r δ := by cases r <;> rfl
theorem useB_ok {i : Nat} : ∀ {rs : List R} {vs : List V} {δ δ' : List R} {rs' : List R} {G : Hp}, SI K C σ H G W δ → All2 (fun v r => ROk K C σ H G W none v (R.pub r)) vs rs → useB i rs δ = some (rs', δ') →
    (∃ G', Ex G G' ∧ SI K C σ H G' W δ' ∧ All2 (fun v r => ROk K C σ H G' W none v r ∧ r.pub = r) vs rs') ∧ ∀ r ∈ rs', r.on = true ∧ ∀ j, r = .pk j → j = i
  | [], vs, δ, δ', rs', G, I, h, e => by
    cases e; rw [h.nil_right]; exact ⟨⟨G, Ex.refl G, I, .nil⟩, fun r h => by cases h⟩
  | r :: rs, vs, δ, δ', rs', G, I, h, e => by
    obtain ⟨v, vs, rfl, h1, h2⟩ := h.cons_right
    unfold useB at e
    cases q : useOr i r δ with
    | none => rw [q] at e; cases e
    | some p =>
      obtain ⟨r1, δ1⟩ := p
      rw [q] at e
      simp only at e
      rw [← useOr_pub] at q
      obtain ⟨⟨G1, x1, I1, o1, p1⟩, n1, n2⟩ := useOr_ok I h1 q
      cases q2 : useB i rs δ1 with
      | none => rw [q2] at e; cases e
      | some p =>
        obtain ⟨rs2, δ2⟩ := p
        rw [q2] at e; cases e
        obtain ⟨⟨G2, x2, I2, o2⟩, n3⟩ := useB_ok I1 (h2.imp fun _ _ z => ROk.keep z x1) q2
        refine ⟨⟨G2, x1.trans x2, I2, .cons ⟨?_, p1⟩ o2⟩, fun r hr => ?_⟩
        · rw [← p1] at o1 ⊢
          exact ROk.keep o1 x2
        · rcases List.mem_cons.mp hr with z | z
          · subst z; exact ⟨n1, n2⟩
          · exact n3 r z
theorem useB_len {i : Nat} : ∀ (rs δ1 rs' δ2 : List R), useB i rs δ1 = some (rs', δ2) → rs'.length = rs.length
  | [], _, _, _, e => by cases e; rfl
  | r :: rs, δ1, rs', δ2, e => by
    unfold useB at e
    split at e
    · split at e
      · cases e
        simp only [List.length_cons]
        rw [useB_len _ _ _ _ (by assumption)]
      · cases e
    · cases e
theorem All2.mapR {α β γ : Type} {F : α → β → Prop} {F' : α → γ → Prop} {f : β → γ} {xs : List α} {ys : List β} (h : All2 F xs ys) (w : ∀ x y, y ∈ ys → F x y → F' x (f y)) : All2 F' xs (ys.map f) := by
  refine ⟨by rw [List.length_map]; exact h.1, fun i x y hx hy => ?_⟩
  rw [List.getElem?_map] at hy
  cases q : ys[i]? with
  | none => rw [q] at hy; cases hy
  | some z =>
    rw [q] at hy; cases hy
    exact w x z (List.mem_of_getElem? q) (h.2 i x z hx q)
/-- the object of a slot that may be written can be lent -/
theorem SI.lent {i : Nat} {d : D} {b : Bool} (I : SI K C σ H G W δ) (hi : wrOf δ i = some (d, b)) : ∃ p, σ[i]? = some (some (.ref p)) ∧ Top K G H p d ∧ Lent C.bo (some p) G H ∧ C.T p = none ∧ (C.mo = some p ∨ C.H0 p = none) ∧
    (∀ j, i ≠ j → ∀ d, (gt δ j = .own d → σ[j]? ≠ some (some (.ref p))) ∧ (gt δ j = .bor d → C.mo ≠ some p)) ∧
    ∀ (H' G' : Hp) (d' : D), G' p = none → Top K G' H' p d' → ROk K C σ H' G' W (some i) (.ref p) (wrAs b d') := by
  cases b with
  | false =>
    obtain ⟨v, h1, h2⟩ := I.sl i (by rw [wr_own hi]; simp)
    rw [wr_own hi] at h2
    obtain ⟨p, e, ⟨m1, m2, m3, m4⟩, h5, h6⟩ := h2
    subst e
    obtain ⟨o, ho⟩ := h6.there
    refine ⟨p, h1, h6, fun q hq => ?_, m4, .inr m2, fun j hj d => ⟨fun hd hs => ?_, fun hd hm => (I.mu p hm).1 m2⟩, fun H' G' d' g t => ⟨p, rfl, ⟨g, m2, m3, m4⟩, h5, t⟩⟩
    · cases hq; exact ⟨by rw [ho]; simp, m1, m3⟩
    · obtain ⟨v, k1, k2⟩ := I.sl j (by rw [hd]; simp)
      rw [hs] at k1; cases k1
      rw [hd] at k2
      obtain ⟨q, e, _, k5, _⟩ := k2
      cases e
      rw [h5] at k5; exact hj (Option.some.inj k5)
  | true =>
    obtain ⟨w1, w2⟩ := wr_bor hi
    obtain ⟨v, h1, h2⟩ := I.sl i (by rw [w1]; simp)
    rw [w1] at h2
    obtain ⟨_, p, em, e, h6⟩ := h2
    subst e
    obtain ⟨m1, m2, m3, m4, m5⟩ := I.mu p em
    refine ⟨p, h1, h6, fun q hq => ?_, m4, .inl em, fun j hj d => ⟨fun hd hs => ?_, fun hd _ => borOf_none w2 j d (by rw [gt_st_ne δ i j _ hj]; exact hd)⟩, fun H' G' d' g t => ⟨by simp, p, em, rfl, t⟩⟩
    · cases hq; exact ⟨m5, (I.gz p m1).trans m2, m3⟩
    · obtain ⟨v, k1, k2⟩ := I.sl j (by rw [hd]; simp)
      rw [hs] at k1; cases k1
      rw [hd] at k2
      obtain ⟨q, e, k3, _, _⟩ := k2
      cases e
      exact m1 k3.2.1
theorem SI.back1 {i : Nat} {d d' : D} {b : Bool} {r : R} {p : Addr} (I : SI K C σ H G W δ) (hi : wrOf δ i = some (d, b)) (hp : σ[i]? = some (some (.ref p))) (f : Fin C.bo (some p) G H G' H') (t : Top K G' H' p d') (h : RFin K C.bo H G' H' v r) : ∃ W', SI K C σ H' G' W' (st δ i (wrAs b d')) ∧ ROk K C σ H' G' W' none v r := by
  obtain ⟨q, h1, h2, h3, h4, h5, h6, h7⟩ := I.lent hi
  rw [hp] at h1
  have e : p = q := by simpa using h1
  subst e
  obtain ⟨l1, l2, l3⟩ := h3 p rfl
  refine I.calledB f h3 (fun _ z => by cases z; exact h4) (fun _ z => by cases z; exact h5) (by rw [st_len]; exact Nat.le_refl _) (fun j hj => ?_) h
  by_cases e : i = j
  · subst e
    have hl : i < δ.length := by have := gt_len hj; rwa [st_len] at this
    rw [gt_st_here hl]
    exact .inr ⟨p, rfl, hp, h7 H' G' d' ((f.gz p l1).trans l2) t⟩
  · exact .inl ⟨gt_st_ne δ i j _ e, fun q d hq => by cases hq; exact h6 j e d⟩
end
def dCallB (S : DSp) (i : Nat) (da : DA) : DE := fun δ P => da δ fun rs δ1 => ∃ rs' δ2 d b, useB i rs δ1 = some (rs', δ2) ∧ wrOf δ2 i = some (d, b) ∧ S (rs'.map (lend i d)) (fun r m => ∃ d', m = some d' ∧ P r (st δ2 i (wrAs b d'))) (fun _ _ => False)
section
variable {X : Cx} {L : Lk} {k : Nat} {ps : List Str} {S : DSp} {x : Str} {p pos : Pos} {e : Expr} {es : List Expr} {da : DA}
theorem aok_lent {K : PySem.W.Frag} {C : Ct} {σ : St} {H G : Hp} {W : Ow} {rs : List R} {vs : List V} {i : Nat} {q : Addr} {d : D} (o : All2 (fun v r => ROk K C σ H G W none v r ∧ r.pub = r) vs rs) (nk : ∀ r ∈ rs, r.on = true ∧ ∀ j, r = .pk j → j = i) (hq : σ[i]? = some (some (.ref q))) (ht : Top K G H q d) : All2 (AOk K C.bo (some q) G H) vs (rs.map (lend i d)) :=
  o.mapR fun v r hr ⟨h1, h2⟩ => by
    obtain ⟨n1, n2⟩ := nk r hr
    cases r with
    | no => cases n1
    | val d => exact h1
    | bag => exact h1
    | own d => cases h2
    | bor d => exact absurd rfl h1.1
    | pk j =>
      obtain rfl := n2 j rfl
      have e : v = .ref q := by have := h1.2.symm.trans hq; simpa using this
      exact ⟨q, rfl, e, ht⟩
theorem lift_callB {K : PySem.W.Frag} {i : Nat} : ∀ σ H Q, lift K L (dCallB S i da) σ H Q → tCall (spOf K S) [] E0 (liftA K L da) σ H Q :=
  lift_of fun C σ H G W δ P Q I lk h k => ⟨C, G, W, δ, _, I, lk, h, fun rs δ1 vs H1 G1 W1 h1 x1 I1 o1 => by
    obtain ⟨rs', δ2, d, b, e, hw, hs⟩ := h1
    obtain ⟨⟨G2, x2, I2, o2⟩, n2⟩ := useB_ok I1 o1 e
    rw [List.append_nil]
    obtain ⟨q, h1, h2, h3, h4, h5, h6, h7⟩ := I2.lent hw
    refine ⟨C.bo, some q, G2, _, _, _, I2.gh, I2.bag, h3, aok_lent o2 n2 h1 h2, hs, fun r m v G' H' hp hf ho hm => ?_, fun c fs d fvs G' H' hx => hx.elim⟩
    obtain ⟨d', rfl, hp⟩ := hp
    obtain ⟨q', eq, t⟩ := hm d' rfl
    cases eq
    obtain ⟨W', I3, o3⟩ := I2.back1 hw h1 hf t ho
    exact k r _ v H' G' W' hp ((x1.trans x2).trans hf.ex) I3 o3⟩
theorem de_fcB {i : Nat} (F : Fc X.prog X.w X.K X.mg X.base k x ps S) (hr : Room k X.A) (hg : Gl X x) (ha : PA X (e :: es) (liftA X.K L da)) (hdb : (x == ("__debug__" : Str)) = false := by decide)
    (he : starEach (e :: es) X.env = (false, eval e X.env) :: starEach es X.env := by rfl) (hpl : (backTo pos (starEach es X.env)).any (·.1) = false := by rfl) : PE X (.Call (.Name x p) (e :: es) [] pos) (lift X.K L (dCallB S i da)) :=
  let ⟨_, _, h1, h2, h3, h4⟩ := F
  PE.weak (pe_call h1 hr hg h2 h3 h4 .nil pass0 ha hdb he hpl) lift_callB
/-! ### a new list that is lent: the last argument -/
/-- all as ever, the last one as it came -/
def LastOk (K : PySem.W.Frag) (C : Ct) (σ : St) (H G : Hp) (W : Ow) (vs : List V) (rs : List R) : Prop := ∃ vi v ri r, vs = vi ++ [v] ∧ rs = ri ++ [r] ∧ All2 (fun v r => ROk K C σ H G W none v (R.pub r)) vi ri ∧ ROk K C σ H G W none v r
def liftAL (K : PySem.W.Frag) (L : Lk) (da : DA) : TA := fun σ H Q => ∃ (C : Ct) (G : Hp) (W : Ow) (δ : List R) (P : List R → List R → Prop), SI K C σ H G W δ ∧ Lnk K L C G ∧ da δ P ∧
  ∀ rs δ' vs H' G' W', P rs δ' → Ex G G' → SI K C σ H' G' W' δ' → LastOk K C σ H' G' W' vs rs → Q vs H'
def dLast (de : DE) : DA := fun δ P => de δ fun r δ1 => P [r] δ1
theorem dal_last {de : DE} (ha : PE X e (lift X.K L de)) (hs : starEach (e :: []) X.env = (false, eval e X.env) :: starEach [] X.env := by rfl) : PA X [e] (liftAL X.K L (dLast de)) :=
  PA.weak (pa_cons ha pa_nil hs) fun σ H Q ⟨C, G, W, δ, P, I, lk, h, k⟩ => ⟨C, G, W, δ, _, I, lk, h, fun r δ1 v H1 G1 W1 h1 x1 I1 o1 => k [r] δ1 [v] H1 G1 W1 h1 x1 I1 ⟨[], v, [], r, rfl, rfl, .nil, o1⟩⟩
theorem dal_cons {de : DE} {dr : DA} (ha : PE X e (lift X.K L de)) (hr : PA X es (liftAL X.K L dr)) (hs : starEach (e :: es) X.env = (false, eval e X.env) :: starEach es X.env := by rfl) : PA X (e :: es) (liftAL X.K L (dCons de dr)) :=
  PA.weak (pa_cons ha hr hs) fun σ H Q ⟨C, G, W, δ, P, I, lk, h, k⟩ => ⟨C, G, W, δ, _, I, lk, h, fun r δ1 v H1 G1 W1 h1 x1 I1 o1 => by
    obtain ⟨G1', x1', I1', o1'⟩ := I1.pub o1
    refine ⟨C, G1', W1, δ1, _, I1', lk.mono (x1.trans x1'), h1, fun rs δ2 vs H2 G2 W2 h2 x2 I2 o2 => ?_⟩
    obtain ⟨vi, u, ri, q, rfl, rfl, o3, o4⟩ := o2
    refine k _ δ2 _ H2 G2 W2 h2 ((x1.trans x1').trans x2) I2 ⟨v :: vi, u, r.pub :: ri, q, rfl, rfl, .cons ?_ o3, o4⟩
    rw [pub_pub]
    exact ROk.keep o1' x2⟩
def lastOwn : List R → Option (List R × D)
  | [] => none
  | [.own d] => some ([], d)
  | r :: rs => match lastOwn rs with
    | some (ri, d) => some (r :: ri, d)
    | none => none
theorem lastOwn_eq : ∀ {rs ri : List R} {d : D}, lastOwn rs = some (ri, d) → rs = ri ++ [.own d]
  | [], _, _, h => by cases h
  | [.own d], _, _, h => by cases h; rfl
  | [.no], _, _, h => by cases h
  | [.val _], _, _, h => by cases h
  | [.bag], _, _, h => by cases h
  | [.pk _], _, _, h => by cases h
  | [.bor _], _, _, h => by cases h
  | r :: s :: rs, ri, d, h => by
    have h : (match lastOwn (s :: rs) with
      | some (ri, d) => some (r :: ri, d)
      | none => none) = some (ri, d) := by cases r <;> exact h
    cases q : lastOwn (s :: rs) with
    | none => rw [q] at h; cases h
    | some p =>
      obtain ⟨ri', d'⟩ := p
      rw [q] at h; cases h
      rw [lastOwn_eq q]; rfl
theorem SI.holdOwn {K : PySem.W.Frag} {C : Ct} {σ : St} {H G : Hp} {W : Ow} {δ : List R} {p : Addr} {o : HO} (I : SI K C σ H G W δ) (m : Mine C G p) (hw : W p = none) (hp : H p = some o) : SI K (C.hold p o) σ H G W δ := by
  obtain ⟨m1, m2, m3, m4⟩ := m
  refine ⟨I.gh, I.g0, I.hh, I.gz, I.b0, I.bag, fun a u e => ?_, fun q hq => ?_, I.ln, fun i hi => ?_⟩
  · by_cases ha : a = p
    · subst ha
      have e : upd C.T a o a = some u := e
      rw [upd_same] at e; cases e
      exact ⟨hp, m1, m3⟩
    · have e : upd C.T p o a = some u := e
      rw [upd_ne ha] at e
      exact I.tm a u e
  · obtain ⟨n1, n2, n3, n4, n5⟩ := I.mu q hq
    have ne : q ≠ p := by rintro rfl; exact n1 m2
    exact ⟨n1, n2, n3, by show upd C.T p o q = none; rw [upd_ne ne]; exact n4, n5⟩
  · obtain ⟨v, h1, h2⟩ := I.sl i hi
    refine ⟨v, h1, ?_⟩
    cases q : gt δ i with
    | no => exact trivial
    | val d => rw [q] at h2; exact h2
    | bag => rw [q] at h2; exact h2
    | pk j => rw [q] at h2; exact absurd h2.1 (by simp)
    | bor d => rw [q] at h2; exact h2
    | own d =>
      rw [q] at h2
      obtain ⟨a, e, ⟨n1, n2, n3, n4⟩, h5, h6⟩ := h2
      have ne : a ≠ p := by rintro rfl; rw [hw] at h5; cases h5
      exact ⟨a, e, ⟨n1, n2, n3, by show upd C.T p o a = none; rw [upd_ne ne]; exact n4⟩, h5, h6⟩
theorem aok_snoc {K : PySem.W.Frag} {bo : Option Addr} {G H : Hp} {vs : List V} {rs : List R} {p : Addr} {d : D} (h : All2 (AOk K bo none G H) vs rs) (t : Top K G H p d) : All2 (AOk K bo (some p) G H) (vs ++ [.ref p]) (rs ++ [.bor d]) :=
  (h.imp fun v r z => by
    cases r with
    | no => exact z.elim
    | val d => exact z
    | bag => exact z
    | own d => exact z.elim
    | pk j => exact z.elim
    | bor d => obtain ⟨_, e, _⟩ := z; cases e).append (.cons ⟨p, rfl, rfl, t⟩ .nil)
def dCallN (S : DSp) (da : DA) : DE := fun δ P => da δ fun rs δ1 => ∃ ri d rs' δ2, lastOwn rs = some (ri, d) ∧ useAll ri δ1 = some (rs', δ2) ∧ S (rs' ++ [.bor d]) (fun r _ => P r δ2) (fun _ _ => False)
theorem lift_callN {K : PySem.W.Frag} : ∀ σ H Q, lift K L (dCallN S da) σ H Q → tCall (spOf K S) [] E0 (liftAL K L da) σ H Q :=
  lift_of fun C σ H G W δ P Q I lk h k => ⟨C, G, W, δ, _, I, lk, h, fun rs δ1 vs H1 G1 W1 h1 x1 I1 o1 => by
    obtain ⟨ri, d, rs', δ2, el, e, hs⟩ := h1
    obtain ⟨vi, v, ri', r, rfl, rfl, o2, o3⟩ := o1
    have el := lastOwn_eq el
    obtain ⟨rfl, er⟩ : ri' = ri ∧ r = .own d := by
      have := List.append_inj' el rfl
      exact ⟨this.1, by simpa using this.2⟩
    subst er
    obtain ⟨p, rfl, m, hw, t⟩ := o3
    obtain ⟨o, ho⟩ := t.there
    have J := I1.holdOwn m hw ho
    have o2' : All2 (fun v r => ROk K (C.hold p o) σ H1 G1 W1 none v (R.pub r)) vi ri' := o2.imp fun v r z => by
      cases r with
      | no => exact trivial
      | val d => exact z
      | own d => exact z
      | bag => exact z
      | pk j => exact z
      | bor d => exact absurd rfl z.1
    obtain ⟨G2, x2, J2, o4⟩ := J.useAllOk o2' e
    obtain ⟨t1, t2, t3⟩ := J2.tm p o upd_same
    have I2 : SI K C σ H1 G2 W1 δ2 := J2.less (Ct.hold_less m.2.2.2)
    have a4 : All2 (AOk K C.bo none G2 H1) vi rs' := aok_of (C := C.hold p o) (rs := ri') (δ := δ1) (δ' := δ2) o4 (useAll_on e)
    rw [List.append_nil]
    have hl : Lent C.bo (some p) G2 H1 := fun q hq => by cases hq; exact ⟨by rw [ho]; simp, t2, m.2.2.1⟩
    refine ⟨C.bo, some p, G2, _, _, _, I2.gh, I2.bag, hl, aok_snoc a4 (t.mono x2 rfl), hs, fun r m' v G' H' hp hf ho' _ => ?_, fun c fs d fvs G' H' hx => hx.elim⟩
    obtain ⟨W', I3, o5⟩ := I2.calledB (δ' := δ2) hf hl (fun _ z => by cases z; exact m.2.2.2) (fun _ z => by cases z; exact .inr m.2.1) (Nat.le_refl _) (fun i hi => .inl ⟨rfl, fun q d hq => by
      cases hq
      refine ⟨fun hd hz => ?_, fun hd hz => (I2.mu p hz).1 m.2.1⟩
      obtain ⟨u, k1, k2⟩ := I2.sl i hi
      rw [hz] at k1; cases k1
      rw [hd] at k2
      obtain ⟨a, ea, _, k5, _⟩ := k2
      cases ea
      rw [hw] at k5; cases k5⟩) ho'
    exact k r _ v H' G' W' hp ((x1.trans x2).trans hf.ex) I3 o5⟩
theorem de_fcN (F : Fc X.prog X.w X.K X.mg X.base k x ps S) (hr : Room k X.A) (hg : Gl X x) (ha : PA X (e :: es) (liftAL X.K L da)) (hdb : (x == ("__debug__" : Str)) = false := by decide)
    (he : starEach (e :: es) X.env = (false, eval e X.env) :: starEach es X.env := by rfl) (hpl : (backTo pos (starEach es X.env)).any (·.1) = false := by rfl) : PE X (.Call (.Name x p) (e :: es) [] pos) (lift X.K L (dCallN S da)) :=
  let ⟨_, _, h1, h2, h3, h4⟩ := F
  PE.weak (pe_call h1 hr hg h2 h3 h4 .nil pass0 ha hdb he hpl) lift_callN
end
end DL

namespace DL
open PySem PySem.Spec L2
/-! ### what is drawn, what comes -/
inductive T (α : Type) where
  | ret (a : α)
  | take (n : Int) (k : Int → T α)
  | any (k : Addr → Addr → T α)
  | fail
namespace T
variable {α β γ : Type}
def bind : T α → (α → T β) → T β
  | .ret a, f => f a
  | .take n k, f => .take n fun r => bind (k r) f
  | .any k, f => .any fun a d => bind (k a d) f
  | .fail, _ => .fail
def all : T α → (α → Prop) → Prop
  | .ret a, P => P a
  | .take n k, P => 0 < n ∧ n < 1073741824 ∧ ∀ r : Int, 0 ≤ r → r < n → all (k r) P
  | .any k, P => ∀ a d, all (k a d) P
  | .fail, _ => False
theorem bind_congr {t t' : T α} {f : α → T β} (h : t = t') : bind t f = bind t' f := by rw [h]
theorem all_congr {t t' : T α} {P : α → Prop} (h : t = t') : all t P = all t' P := by rw [h]
theorem all_retE {a : α} {P : α → Prop} : all (.ret a) P = P a := (rfl)
theorem all_failE {P : α → Prop} : all (.fail : T α) P = False := (rfl)
theorem all_anyE {k : Addr → Addr → T α} {P : α → Prop} : all (.any k) P = ∀ a d, all (k a d) P := (rfl)
theorem all_iteE {c : Prop} [Decidable c] {t u : T α} {P : α → Prop} : all (if c then t else u) P = ((c → all t P) ∧ (¬ c → all u P)) := by
  by_cases h : c <;> simp [h]
theorem bind_ret {a : α} {f : α → T β} : bind (.ret a) f = f a := (rfl)
theorem bind_fail {f : α → T β} : bind (.fail : T α) f = .fail := (rfl)
theorem bind_take {n : Int} {k : Int → T α} {f : α → T β} : bind (.take n k) f = .take n fun r => bind (k r) f := (rfl)
theorem bind_any {k : Addr → Addr → T α} {f : α → T β} : bind (.any k) f = .any fun a d => bind (k a d) f := (rfl)
theorem bind_ite {c : Prop} [Decidable c] {t u : T α} {f : α → T β} : bind (if c then t else u) f = if c then bind t f else bind u f := by split <;> rfl
theorem bind_assoc (t : T α) (f : α → T β) (g : β → T γ) : bind (bind t f) g = bind t fun a => bind (f a) g := by
  induction t with
  | ret a => rfl
  | fail => rfl
  | take n k ih => simp only [bind]; congr; funext r; exact ih r
  | any k ih => simp only [bind]; congr; funext a d; exact ih a d
theorem all_mono {t : T α} {P Q : α → Prop} (h : all t P) (k : ∀ a, P a → Q a) : all t Q := by
  induction t with
  | ret a => exact k a h
  | fail => exact h
  | take n f ih => exact ⟨h.1, h.2.1, fun r h0 h1 => ih r (h.2.2 r h0 h1)⟩
  | any f ih => exact fun a d => ih a d (h a d)
theorem all_bind {t : T α} {f : α → T β} {P : β → Prop} : all (bind t f) P ↔ all t fun a => all (f a) P := by
  induction t with
  | ret a => exact Iff.rfl
  | fail => exact Iff.rfl
  | take n k ih => exact ⟨fun h => ⟨h.1, h.2.1, fun r h0 h1 => (ih r).mp (h.2.2 r h0 h1)⟩, fun h => ⟨h.1, h.2.1, fun r h0 h1 => (ih r).mpr (h.2.2 r h0 h1)⟩⟩
  | any k ih => exact ⟨fun h a d => (ih a d).mp (h a d), fun h a d => (ih a d).mpr (h a d)⟩
theorem all_of {t : T α} {f : α → T β} {Q : α → Prop} {P : β → Prop} (h : all t Q) (k : ∀ a, Q a → all (f a) P) : all (bind t f) P := all_bind.mpr (all_mono h k)
@[irreducible] def All (t : T α) (P : α → Prop) : Prop := all t P
theorem All_eq {t : T α} {P : α → Prop} : All t P = all t P := by unfold All; rfl
theorem All_congr {t t' : T α} {P : α → Prop} (h : t = t') : All t P = All t' P := by rw [h]
theorem All_retE {a : α} {P : α → Prop} : All (.ret a) P = P a := by rw [All_eq, all_retE]
theorem All_failE {P : α → Prop} : All (.fail : T α) P = False := by rw [All_eq, all_failE]
theorem All_anyE {k : Addr → Addr → T α} {P : α → Prop} : All (.any k) P = ∀ a d, All (k a d) P := by simp only [All_eq, all_anyE]
theorem All_iteE {c : Prop} [Decidable c] {t u : T α} {P : α → Prop} : All (if c then t else u) P = ((c → All t P) ∧ (¬ c → All u P)) := by simp only [All_eq, all_iteE]
theorem All_mono {t : T α} {P Q : α → Prop} (h : All t P) (k : ∀ a, P a → Q a) : All t Q := by rw [All_eq] at h ⊢; exact all_mono h k
theorem All_bind {t : T α} {f : α → T β} {P : β → Prop} : All (bind t f) P ↔ All t fun a => All (f a) P := by simp only [All_eq]; exact all_bind
theorem All_of {t : T α} {f : α → T β} {Q : α → Prop} {P : β → Prop} (h : All t Q) (k : ∀ a, Q a → All (f a) P) : All (bind t f) P := All_bind.mpr (All_mono h k)
end T
inductive EO (α : Type) where
  | ok (a : α) (δ : List R)
  | err (c : Addr) (fs : List (Str × D)) (δ : List R)
abbrev F (α : Type) := List R → T (EO α)
section
variable {α β : Type}
def F.ret (a : α) : F α := fun δ => .ret (.ok a δ)
def F.fail : F α := fun _ => .fail
def EO.on (o : EO α) (k : α → F β) : T (EO β) := match o with
  | .ok a δ => k a δ
  | .err c fs δ => .ret (.err c fs δ)
def F.bind (f : F α) (k : α → F β) : F β := fun δ => (f δ).bind fun o => o.on k
def F.of : Option α → F α
  | some a => F.ret a
  | none => F.fail
def EO.holds (x : Lx) (P : α → List R → Prop) : EO α → Prop
  | .ok a δ => P a δ
  | .err c fs δ => x c fs δ
/-- as a reading over data -/
def pP (x : Lx) (f : F α) : List R → (α → List R → Prop) → Prop := fun δ P => (f δ).all (EO.holds x P)
theorem pP_bind {x : Lx} {f : F α} {k : α → F β} {δ : List R} {P : β → List R → Prop} : pP x (f.bind k) δ P ↔ pP x f δ fun a δ' => pP x (k a) δ' P := by
  unfold pP F.bind
  rw [T.all_bind]
  constructor <;> intro h <;> refine T.all_mono h fun o ho => ?_ <;> cases o <;> exact ho
theorem pP_mono {x : Lx} {f : F α} {δ : List R} {P Q : α → List R → Prop} (h : pP x f δ P) (k : ∀ a δ', P a δ' → Q a δ') : pP x f δ Q := T.all_mono h fun o ho => by
  cases o with
  | ok a δ' => exact k a δ' ho
  | err c fs δ' => exact ho
theorem pP_then {x : Lx} {f : F α} {k : α → F β} {δ : List R} {P : β → List R → Prop} {Q : α → List R → Prop} (h : pP x (f.bind k) δ P) (w : ∀ a δ', pP x (k a) δ' P → Q a δ') : pP x f δ Q := pP_mono (pP_bind.mp h) w
theorem pP_of {x : Lx} {o : Option α} {δ : List R} {P : α → List R → Prop} (h : pP x (F.of o) δ P) : ∃ a, o = some a ∧ P a δ := by
  cases o with
  | none => exact h.elim
  | some a => exact ⟨a, rfl, h⟩
end
/-- handed on -/
def valOf : R → Option D
  | .val d => some d
  | _ => none
def useF (r : R) : F D := fun δ => match use r δ with
  | some (.val d, δ') => .ret (.ok d δ')
  | _ => .fail
def peekF (r : R) : F D := fun δ => match peek r δ with
  | some d => .ret (.ok d δ)
  | none => .fail
def useAllF (rs : List R) : F (List R) := fun δ => match useAll rs δ with
  | some (rs', δ') => .ret (.ok rs' δ')
  | none => .fail
def peekAllF (rs : List R) : F (List D) := fun δ => match peekAll rs δ with
  | some ds => .ret (.ok ds δ)
  | none => .fail
section
variable {x : Lx} {δ : List R}
theorem pP_use {r : R} {P : D → List R → Prop} (h : pP x (useF r) δ P) : ∃ d δ', use r δ = some (.val d, δ') ∧ P d δ' := by
  unfold pP useF at h
  split at h
  · exact ⟨_, _, by assumption, h⟩
  · exact h.elim
theorem pP_peek {r : R} {P : D → List R → Prop} (h : pP x (peekF r) δ P) : ∃ d, peek r δ = some d ∧ P d δ := by
  unfold pP peekF at h
  split at h
  · exact ⟨_, by assumption, h⟩
  · exact h.elim
theorem pP_useAll {rs : List R} {P : List R → List R → Prop} (h : pP x (useAllF rs) δ P) : ∃ rs' δ', useAll rs δ = some (rs', δ') ∧ P rs' δ' := by
  unfold pP useAllF at h
  split at h
  · exact ⟨_, _, by assumption, h⟩
  · exact h.elim
theorem pP_peekAll {rs : List R} {P : List D → List R → Prop} (h : pP x (peekAllF rs) δ P) : ∃ ds, peekAll rs δ = some ds ∧ P ds δ := by
  unfold pP peekAllF at h
  split at h
  · exact ⟨_, by assumption, h⟩
  · exact h.elim
end
section
variable {K : PySem.W.Frag} {L : Lk}
theorem lift_imp {de de' : DE} (h : ∀ δ P, de' δ P → de δ P) : ∀ σ H Q, lift K L de' σ H Q → lift K L de σ H Q := fun σ H Q ⟨C, G, W, δ, P, I, lk, hd, k⟩ => ⟨C, G, W, δ, P, I, lk, h δ P hd, k⟩
theorem liftT_imp {de de' : DT} (h : ∀ δ P, de' δ P → de δ P) : ∀ σ H Q, liftT K L de' σ H Q → liftT K L de σ H Q := fun σ H Q ⟨C, G, W, δ, P, I, lk, hd, k⟩ => ⟨C, G, W, δ, P, I, lk, h δ P hd, k⟩
theorem liftA_imp {de de' : DA} (h : ∀ δ P, de' δ P → de δ P) : ∀ σ H Q, liftA K L de' σ H Q → liftA K L de σ H Q := fun σ H Q ⟨C, G, W, δ, P, I, lk, hd, k⟩ => ⟨C, G, W, δ, P, I, lk, h δ P hd, k⟩
theorem liftI_imp {de de' : DI} (h : ∀ δ P, de' δ P → de δ P) : ∀ σ H Q, liftI K L de' σ H Q → liftI K L de σ H Q := fun σ H Q ⟨C, G, W, δ, P, I, lk, hd, k⟩ => ⟨C, G, W, δ, P, I, lk, h δ P hd, k⟩
theorem liftO_imp {de de' : DO} (h : ∀ δ P, de' δ P → de δ P) : ∀ σ H Q, liftO K L de' σ H Q → liftO K L de σ H Q := fun σ H Q ⟨C, G, W, δ, P, I, lk, hd, k⟩ => ⟨C, G, W, δ, P, I, lk, h δ P hd, k⟩
theorem liftS_imp {de de' : DS} (h : ∀ DD δ, de' DD δ → de DD δ) : ∀ D σ H, liftS K L de' D σ H → liftS K L de D σ H := fun D σ H ⟨C, G, W, δ, DD, I, lk, hd, k⟩ => ⟨C, G, W, δ, DD, I, lk, h DD δ hd, k⟩
theorem liftG_imp {de de' : DG} (h : ∀ d δ P, de' d δ P → de d δ P) : ∀ v σ H Q, liftG K de' v σ H Q → liftG K de v σ H Q := fun v σ H Q ⟨C, G, W, δ, d, P, I, dn, hd, k⟩ => ⟨C, G, W, δ, d, P, I, dn, h d δ P hd, k⟩
theorem liftGs_imp {de de' : DGs} (h : ∀ d δ P, de' d δ P → de d δ P) : ∀ v σ H Q, liftGs K de' v σ H Q → liftGs K de v σ H Q := fun v σ H Q ⟨C, G, W, δ, d, P, I, dn, hd, k⟩ => ⟨C, G, W, δ, d, P, I, dn, h d δ P hd, k⟩
end
abbrev FE := F R
abbrev FT := F Bool
abbrev FA := F (List R)
abbrev FI := F (List D)
abbrev FO := F (Option Int)
/-! ### expressions -/
def fVar (i : Nat) : FE := fun δ => match (gt δ i).on with
  | true => .ret (.ok (.pk i) δ)
  | false => .fail
def fC (d : D) : FE := F.ret (.val d)
def fBin (g : D → D → Option R) (fa fb : FE) : FE := fa.bind fun r1 => fb.bind fun r2 => (useF r1).bind fun d1 => (useF r2).bind fun d2 => F.of (g d1 d2)
def GS (gf : D → D → Option R) (g : D → D → (R → Prop) → Prop) : Prop := ∀ d1 d2 r P, gf d1 d2 = some r → P r → g d1 d2 P
def fCmp (c : D → D → Option Bool) (fa fb : FE) : FE := fa.bind fun r1 => fb.bind fun r2 => (peekF r1).bind fun d1 => (peekF r2).bind fun d2 => (F.of (c d1 d2)).bind fun b => F.ret (.val (.bl b))
def CS (cf : D → D → Option Bool) (c : D → D → Bool → Prop) : Prop := ∀ d1 d2 b, cf d1 d2 = some b → c d1 d2 b
def blOf : D → Option Bool
  | .bl b => some b
  | _ => none
def fTst (fe : FE) : FT := fe.bind fun r => (peekF r).bind fun d => F.of (blOf d)
def fAnd (t u : FT) : FT := t.bind fun c => if c = true then u else F.ret false
def fOr (t u : FT) : FT := t.bind fun c => if c = true then F.ret true else u
def fNot (t : FT) : FT := t.bind fun c => F.ret (!c)
def fAndV (fa fb : FE) : FE := fa.bind fun r => (peekF r).bind fun d => (F.of (blOf d)).bind fun c => if c = true then fb else F.ret (.val (.bl false))
def fOrV (fa fb : FE) : FE := fa.bind fun r => (peekF r).bind fun d => (F.of (blOf d)).bind fun c => if c = true then F.ret (.val (.bl true)) else fb
def fNotV (fa : FE) : FE := fa.bind fun r => (peekF r).bind fun d => (F.of (blOf d)).bind fun c => F.ret (.val (.bl (!c)))
def fIf (t : FT) (fa fb : FE) : FE := t.bind fun c => if c = true then fa else fb
def fNil : FA := F.ret []
def fCons (fa : FE) (fr : FA) : FA := fa.bind fun r => fr.bind fun rs => F.ret (r.pub :: rs)
def valsF (rs : List R) : F (List D) := (useAllF rs).bind fun rs' => (F.of (vals? rs')).bind fun ds => if ds.length ≤ sizeLine then F.ret ds else F.fail
def fTup (fa : FA) : FE := fa.bind fun rs => (valsF rs).bind fun ds => F.ret (.val (.tup ds))
def fLst (fa : FA) : FE := fa.bind fun rs => (valsF rs).bind fun ds => F.ret (.own (.lst ds))
def intOf : D → Option Int
  | .int i => some i
  | _ => none
def fNeg (fa : FE) : FE := fa.bind fun r => (peekF r).bind fun d => (F.of (intOf d)).bind fun i => F.ret (.val (.int (-i)))
def ixF : D → Int → Option D
  | .lst xs, i => atI xs i
  | .tup xs, i => atI xs i
  | .str z, i => if z.length ≤ sizeLine then (atI z.cps.toList i).map fun c => .str ⟨#[c]⟩ else none
  | _, _ => none
def fIx (fa fb : FE) : FE := fa.bind fun r1 => fb.bind fun r2 => (peekF r1).bind fun d => (peekF r2).bind fun e => (F.of (intOf e)).bind fun i => (F.of (ixF d i)).bind fun d' => F.ret (.val d')
def foNone : FO := F.ret none
def foSome (fe : FE) : FO := fe.bind fun r => (peekF r).bind fun d => (F.of (intOf d)).bind fun i => F.ret (some i)
def slF : D → Option Int → Option Int → Option R
  | .lst xs, lo, hi => some (.own (.lst (cut xs lo hi)))
  | .tup xs, lo, hi => some (.val (.tup (cut xs lo hi)))
  | .str z, lo, hi => if z.length ≤ sizeLine then some (.val (.str (cutS z lo hi))) else none
  | _, _, _ => none
def fSl (fa : FE) (fl fh : FO) : FE := fa.bind fun r1 => fl.bind fun lo => fh.bind fun hi => (peekF r1).bind fun d => F.of (slF d lo hi)
def fCB (b : List D → Option R) (fa : FA) : FE := fa.bind fun rs => (peekAllF rs).bind fun ds => F.of (b ds)
def BS (bf : List D → Option R) (b : List D → (R → Prop) → Prop) : Prop := ∀ ds r P, bf ds = some r → P r → b ds P
def fDix (fa fb : FE) : FE := fa.bind fun r1 => fb.bind fun r2 => (peekF r1).bind fun d => (peekF r2).bind fun k => match d, keyD k with
  | .dic kvs, some k => (F.of (valD kvs k)).bind fun d => F.ret (.val d)
  | _, _ => F.fail
def fLrng2 (fa fb : FE) : FE := fa.bind fun r1 => fb.bind fun r2 => (peekF r1).bind fun d => (peekF r2).bind fun e => (F.of (intOf d)).bind fun i => (F.of (intOf e)).bind fun j =>
  if -(2 ^ 62) ≤ i ∧ i < 2 ^ 62 ∧ -(2 ^ 62) ≤ j ∧ j < 2 ^ 62 ∧ (j - i).toNat ≤ 2 ^ 24 then F.ret (.own (.lst (rngD i (j - i).toNat))) else F.fail
section
variable {X : Cx} {K : PySem.W.Frag} {L : Lk} {pos : Pos} {a b e : Expr} {es : List Expr} {fa fb fe : FE} {ta tb : FT} {x : Lx} {δ : List R} {P : R → List R → Prop}
abbrev HE (X : Cx) (L : Lk) (e : Expr) (f : FE) : Prop := PE X e (lift X.K L (pP L.x f))
abbrev HT' (X : Cx) (L : Lk) (e : Expr) (f : FT) : Prop := PT X e (liftT X.K L (pP L.x f))
abbrev HW (X : Cx) (L : Lk) (e : Expr) (f : FT) : Prop := PW X e (liftT X.K L (pP L.x f))
abbrev HA (X : Cx) (L : Lk) (es : List Expr) (f : FA) : Prop := PA X es (liftA X.K L (pP L.x f))
theorem fe_var (i : Nat) {x : Str} (hN : X.N[i]? = some x := by rfl) (hv : Vis X.env.scope x := by first | exact Or.inl rfl | exact Or.inr (Or.inl rfl) | exact Or.inr (Or.inr rfl)) (hd : (x == ("__debug__" : Str)) = false := by decide)
    (hcd : (x == ("__classdict__" : Str)) = false := by decide) : HE X L (.Name x pos) (fVar i) :=
  PE.weak (dv i hN hv hd hcd) <| lift_imp fun δ P h => by
    unfold pP fVar at h
    split at h
    · exact ⟨by assumption, h⟩
    · exact h.elim
theorem fe_int {i j} : HE X L (.Constant (.int i) j pos) (fC (.int i)) := dk_int
theorem fe_bl {b j} : HE X L (.Constant (.bool b) j pos) (fC (.bl b)) := dk_bl
theorem fe_non {j} : HE X L (.Constant .none j pos) (fC .non) := dk_non
theorem fe_str {s j} : HE X L (.Constant (.str s) j pos) (fC (.str s)) := dk_str
theorem bin_imp {gf : D → D → Option R} {g : D → D → (R → Prop) → Prop} (s : GS gf g) (δ : List R) (P : R → List R → Prop) (h : pP x (fBin gf fa fb) δ P) : dBin g (pP x fa) (pP x fb) δ P :=
  pP_then h fun r1 δ1 h => pP_then h fun r2 δ2 h => by
    obtain ⟨d1, δ3, e1, h⟩ := pP_use (pP_bind.mp h)
    obtain ⟨d2, δ4, e2, h⟩ := pP_use (pP_bind.mp h)
    obtain ⟨r, e3, h⟩ := pP_of h
    exact ⟨d1, δ3, d2, δ4, e1, e2, s d1 d2 r _ e3 h⟩
theorem fe_op {op : Operator} {r : R2} {gf : D → D → Option R} {g : D → D → (R → Prop) → Prop} (s : GS gf g) (ho : OpR X (binaryOp op) r) (hs : OpSem X.K r g) (ha : HE X L a fa) (hb : HE X L b fb) : HE X L (.BinOp a op b pos) (fBin gf fa fb) :=
  PE.weak (de_op ho hs ha hb) (lift_imp (bin_imp s))
theorem cmp_imp {cf : D → D → Option Bool} {c : D → D → Bool → Prop} (s : CS cf c) (δ : List R) (P : R → List R → Prop) (h : pP x (fCmp cf fa fb) δ P) : dCmp c (pP x fa) (pP x fb) δ P :=
  pP_then h fun r1 δ1 h => pP_then h fun r2 δ2 h => by
    obtain ⟨d1, e1, h⟩ := pP_peek (pP_bind.mp h)
    obtain ⟨d2, e2, h⟩ := pP_peek (pP_bind.mp h)
    obtain ⟨b, e3, h⟩ := pP_of (pP_bind.mp h)
    exact ⟨d1, d2, b, e1, e2, s d1 d2 b e3, h⟩
theorem tst_imp {de : DE} (w : ∀ δ P, pP x fe δ P → de δ P) (δ : List R) (P : Bool → List R → Prop) (h : pP x (fTst fe) δ P) : dTst de δ P :=
  w _ _ (pP_then h fun r δ1 h => by
    obtain ⟨d, e1, h⟩ := pP_peek (pP_bind.mp h)
    obtain ⟨b, e2, h⟩ := pP_of h
    cases d <;> cases e2
    exact ⟨_, e1, h⟩)
theorem fe_cmp {op : CmpOp} {r : R2} {cf : D → D → Option Bool} {c : D → D → Bool → Prop} (s : CS cf c) (ho : OpR X (compareOp op) r) (hs : CmpSem X.K r c) (ha : HE X L a fa) (hb : HE X L b fb) (hm : behindInMarks op b = false) : HE X L (.Compare a [op] [b] pos) (fCmp cf fa fb) :=
  PE.weak (de_cmp ho hs ha hb hm) (lift_imp (cmp_imp s))
theorem ft_cmp {op : CmpOp} {r : R2} {cf : D → D → Option Bool} {c : D → D → Bool → Prop} (s : CS cf c) (ho : OpR X (compareOp op) r) (hs : CmpSem X.K r c) (ha : HE X L a fa) (hb : HE X L b fb) (hm : behindInMarks op b = false) : HT' X L (.Compare a [op] [b] pos) (fTst (fCmp cf fa fb)) :=
  PT.weak (dt_cmp ho hs ha hb hm) (liftT_imp (tst_imp (cmp_imp s)))
theorem ft_val (h : HE X L e fe) (he : ∀ whole, isTrue e X.env whole = (do let v ← whole; standAt e.pos; holding [v] (truthy v)) := by intro _; rfl) : HT' X L e (fTst fe) := PT.weak (dt_val h he) (liftT_imp (tst_imp fun _ _ h => h))
theorem bl_imp {P : R → List R → Prop} {k : Bool → FE} {Q : Bool → List R → Prop} {r : R} {δ1 : List R} (h : pP x ((peekF r).bind fun d => (F.of (blOf d)).bind k) δ1 P) : ∃ c, peek r δ1 = some (.bl c) ∧ pP x (k c) δ1 P := by
  obtain ⟨d, e1, h⟩ := pP_peek (pP_bind.mp h)
  obtain ⟨b, e2, h⟩ := pP_of (pP_bind.mp h)
  cases d <;> cases e2
  exact ⟨_, e1, h⟩
theorem ite_two {α : Type} {c : Bool} {f g : F α} {P : α → List R → Prop} (h : pP x (if c = true then f else g) δ P) : (c = true → pP x f δ P) ∧ (c = false → pP x g δ P) := by
  cases c
  · exact ⟨fun z => (by cases z), fun _ => h⟩
  · exact ⟨fun _ => h, fun z => (by cases z)⟩
variable {rest : List Expr}
theorem ft_and1 (ha : HT' X L a ta) : HW X L (.BoolOp .And [a] pos) ta := dt_and1 ha
theorem ft_or1 (ha : HT' X L a ta) : HW X L (.BoolOp .Or [a] pos) ta := dt_or1 ha
theorem ft_and (ha : HT' X L a ta) (hb : HW X L (.BoolOp .And (b :: rest) pos) tb) : HW X L (.BoolOp .And (a :: b :: rest) pos) (fAnd ta tb) :=
  PW.weak (dt_and ha hb) (liftT_imp fun δ P h => pP_then h fun c δ1 h => ite_two h)
theorem ft_or (ha : HT' X L a ta) (hb : HW X L (.BoolOp .Or (b :: rest) pos) tb) : HW X L (.BoolOp .Or (a :: b :: rest) pos) (fOr ta tb) :=
  PW.weak (dt_or ha hb) (liftT_imp fun δ P h => pP_then h fun c δ1 h => ite_two h)
theorem ft_not (ha : HT' X L a ta) : HT' X L (.UnaryOp .Not a pos) (fNot ta) := PT.weak (dt_not ha) (liftT_imp fun δ P h => pP_then h fun c δ1 h => h)
theorem fe_one {op} (h : HE X L a fa) : HE X L (.BoolOp op [a] pos) fa := de_one h
theorem fe_and (ha : HE X L a fa) (hb : HE X L (.BoolOp .And (b :: rest) pos) fb) : HE X L (.BoolOp .And (a :: b :: rest) pos) (fAndV fa fb) :=
  PE.weak (de_and ha hb) (lift_imp fun δ P h => pP_then h fun r δ1 h => let ⟨c, e, h⟩ := bl_imp (Q := fun _ _ => True) h; ⟨c, e, ite_two h⟩)
theorem fe_or (ha : HE X L a fa) (hb : HE X L (.BoolOp .Or (b :: rest) pos) fb) : HE X L (.BoolOp .Or (a :: b :: rest) pos) (fOrV fa fb) :=
  PE.weak (de_or ha hb) (lift_imp fun δ P h => pP_then h fun r δ1 h => let ⟨c, e, h⟩ := bl_imp (Q := fun _ _ => True) h; ⟨c, e, ite_two h⟩)
theorem fe_not (ha : HE X L a fa) : HE X L (.UnaryOp .Not a pos) (fNotV fa) :=
  PE.weak (de_not ha) (lift_imp fun δ P h => pP_then h fun r δ1 h => let ⟨c, e, h⟩ := bl_imp (Q := fun _ _ => True) h; ⟨c, e, h⟩)
theorem fe_if {c : Expr} (hc : HT' X L c ta) (ha : HE X L a fa) (hb : HE X L b fb) : HE X L (.IfExp c a b pos) (fIf ta fa fb) :=
  PE.weak (de_if hc ha hb) (lift_imp fun δ P h => pP_then h fun c δ1 h => ite_two h)
theorem fa_nil : HA X L [] fNil := PA.weak da_nil (liftA_imp fun δ P h => h)
theorem fa_cons {fr : FA} (ha : HE X L e fe) (hr : HA X L es fr) (hs : starEach (e :: es) X.env = (false, eval e X.env) :: starEach es X.env := by rfl) : HA X L (e :: es) (fCons fe fr) :=
  PA.weak (da_cons ha hr hs) (liftA_imp fun δ P h => pP_then h fun r δ1 h => pP_then h fun rs δ2 h => h)
theorem vals_imp {rs : List R} {k : List D → FE} {P : R → List R → Prop} {δ1 : List R} (h : pP x ((valsF rs).bind k) δ1 P) : ∃ rs' δ2 ds, useAll rs δ1 = some (rs', δ2) ∧ vals? rs' = some ds ∧ ds.length ≤ sizeLine ∧ pP x (k ds) δ2 P := by
  obtain ⟨rs', δ2, e1, h⟩ := pP_useAll (pP_bind.mp (pP_bind.mp h))
  obtain ⟨ds, e2, h⟩ := pP_of (pP_bind.mp h)
  by_cases hl : ds.length ≤ sizeLine
  · rw [if_pos hl] at h
    exact ⟨rs', δ2, ds, e1, e2, hl, h⟩
  · rw [if_neg hl] at h; exact h.elim
theorem fe_tup {x1} {fa : FA} (h : HA X L es fa) : HE X L (.Tuple es x1 pos) (fTup fa) := PE.weak (de_tup h) (lift_imp fun δ P h => pP_then h fun rs δ1 h => vals_imp h)
theorem fe_lst {fa : FA} (h : HA X L es fa) : HE X L (.List es pos) (fLst fa) := PE.weak (de_lst h) (lift_imp fun δ P h => pP_then h fun rs δ1 h => vals_imp h)
theorem int_imp {α : Type} {P : α → List R → Prop} {k : Int → F α} {r : R} {δ1 : List R} (h : pP x ((peekF r).bind fun d => (F.of (intOf d)).bind k) δ1 P) : ∃ c, peek r δ1 = some (.int c) ∧ pP x (k c) δ1 P := by
  obtain ⟨d, e1, h⟩ := pP_peek (pP_bind.mp h)
  obtain ⟨b, e2, h⟩ := pP_of (pP_bind.mp h)
  cases d <;> cases e2
  exact ⟨_, e1, h⟩
theorem fe_neg (ha : HE X L a fa) : HE X L (.UnaryOp .USub a pos) (fNeg fa) := PE.weak (de_neg ha) (lift_imp fun δ P h => pP_then h fun r δ1 h => int_imp h)
theorem ixF_ok {d d' : D} {i : Int} (h : ixF d i = some d') : ixD d i d' := by
  unfold ixF at h
  split at h
  · exact h
  · exact h
  · split at h
    · rename_i hl
      obtain ⟨c, h1, h2⟩ := Option.map_eq_some_iff.mp h
      exact ⟨hl, c, h1, h2.symm⟩
    · cases h
  · cases h
theorem fe_ix (ha : HE X L a fa) (hb : HE X L b fb) (hs : PlainIx b := by exact fun _ _ => rfl) : HE X L (.Subscript a b pos) (fIx fa fb) :=
  PE.weak (de_ix ha hb hs) (lift_imp fun δ P h => pP_then h fun r1 δ1 h => pP_then h fun r2 δ2 h => by
    obtain ⟨d, e1, h⟩ := pP_peek (pP_bind.mp h)
    obtain ⟨i, e2, h⟩ := int_imp h
    obtain ⟨d', e3, h⟩ := pP_of (pP_bind.mp h)
    exact ⟨d, i, d', e1, e2, ixF_ok e3, h⟩)
abbrev HO' (X : Cx) (L : Lk) (o : Option Expr) (f : FO) : Prop := PO X o (liftO X.K L (pP L.x f))
theorem fo_none : HO' X L none foNone := PO.weak do_none (liftO_imp fun δ P h => h)
theorem fo_some (h : HE X L e fe) : HO' X L (some e) (foSome fe) := PO.weak (do_some h) (liftO_imp fun δ P h => pP_then h fun r δ1 h => int_imp h)
theorem fe_sl {lo hi : Option Expr} {p2 : Pos} {fl fh : FO} (ha : HE X L a fa) (hl : HO' X L lo fl) (hh : HO' X L hi fh) : HE X L (.Subscript a (.Slice lo hi none p2) pos) (fSl fa fl fh) :=
  PE.weak (de_sl ha hl hh) (lift_imp fun δ P h => pP_then h fun r1 δ1 h => pP_then h fun l δ2 h => pP_then h fun u δ3 h => by
    obtain ⟨d, e1, h⟩ := pP_peek (pP_bind.mp h)
    obtain ⟨r, e2, h⟩ := pP_of h
    refine ⟨d, r, e1, ?_, h⟩
    unfold slF at e2
    split at e2
    · cases e2; exact rfl
    · cases e2; exact rfl
    · split at e2
      · cases e2; exact ⟨by assumption, rfl⟩
      · cases e2
    · cases e2)
theorem cb_imp {bf : List D → Option R} {bp : List D → (R → Prop) → Prop} (s : BS bf bp) {fa : FA} (δ : List R) (P : R → List R → Prop) (h : pP x (fCB bf fa) δ P) : dCB bp (pP x fa) δ P := pP_then h fun rs δ1 h => by
    obtain ⟨ds, e1, h⟩ := pP_peekAll (pP_bind.mp h)
    obtain ⟨r, e2, h⟩ := pP_of h
    exact ⟨ds, e1, s ds r _ e2 h⟩
variable {y : Str} {p : Pos} {id Ty : String} {rr : List V → Hp → VK → Prop} {bp : List D → (R → Prop) → Prop} {bf : List D → Option R} {fA : FA}
theorem fe_cb (s : BS bf bp) (hc : CallR X (.builtin id) rr) (hs : CallLook X.K rr bp) (hg : Gl X y) (hm : X.mg y = none) (hv : bootBuiltins y = some (.builtin id)) (ha : HA X L (e :: es) fA) (hn : y ≠ "__name__" := by decide) (hdb : (y == ("__debug__" : Str)) = false := by decide)
    (he : starEach (e :: es) X.env = (false, eval e X.env) :: starEach es X.env := by rfl) (hpl : (backTo pos (starEach es X.env)).any (·.1) = false := by rfl) : HE X L (.Call (.Name y p) (e :: es) [] pos) (fCB bf fA) := PE.weak (de_cb hc hs hg hm hv ha hn hdb he hpl) (lift_imp (cb_imp s))
theorem fe_ct (s : BS bf bp) (hc : CallR X (.type Ty) rr) (hs : CallLook X.K rr bp) (hg : Gl X y) (hm : X.mg y = none) (hv : bootBuiltins y = some (.type Ty)) (ha : HA X L (e :: es) fA) (hn : y ≠ "__name__" := by decide) (hdb : (y == ("__debug__" : Str)) = false := by decide)
    (he : starEach (e :: es) X.env = (false, eval e X.env) :: starEach es X.env := by rfl) (hpl : (backTo pos (starEach es X.env)).any (·.1) = false := by rfl) : HE X L (.Call (.Name y p) (e :: es) [] pos) (fCB bf fA) := PE.weak (de_ct hc hs hg hm hv ha hn hdb he hpl) (lift_imp (cb_imp s))
theorem fe_dix (hu : X.A.units + 1 < cLine) (ha : HE X L a fa) (hb : HE X L b fb) (hs : NoSl b := by exact fun _ _ => rfl) : HE X L (.Subscript a b pos) (fDix fa fb) :=
  PE.weak (de_dix hu ha hb hs) (lift_imp fun δ P h => pP_then h fun r1 δ1 h => pP_then h fun r2 δ2 h => by
    obtain ⟨d, e1, h⟩ := pP_peek (pP_bind.mp h)
    obtain ⟨k, e2, h⟩ := pP_peek (pP_bind.mp h)
    split at h
    · obtain ⟨d', e3, h⟩ := pP_of (pP_bind.mp h)
      exact ⟨_, _, _, _, e1, e2, by assumption, e3, h⟩
    · exact h.elim)
theorem fe_lrng2 {q : Pos} {pos' : Pos} (hc : X.calm = true) (hg : Gl X "list") (hm : X.mg "list" = none) (hg2 : Gl X "range") (hm2 : X.mg "range" = none) (ha : HE X L a fa) (hb : HE X L b fb)
    (na : starEach [.Call (.Name "range" q) [a, b] [] pos'] X.env = (false, eval (.Call (.Name "range" q) [a, b] [] pos') X.env) :: starEach [] X.env := by rfl)
    (na2 : starEach [a, b] X.env = (false, eval a X.env) :: starEach [b] X.env := by rfl) (nb : starEach [b] X.env = (false, eval b X.env) :: starEach [] X.env := by rfl) (hp : (backTo pos' (starEach [b] X.env)).any (·.1) = false := by rfl) :
    HE X L (.Call (.Name "list" p) [.Call (.Name "range" q) [a, b] [] pos'] [] pos) (fLrng2 fa fb) :=
  PE.weak (de_lrng2 hc hg hm hg2 hm2 ha hb na na2 nb hp) (lift_imp fun δ P h => pP_then h fun r1 δ1 h => pP_then h fun r2 δ2 h => by
    obtain ⟨d, e1, h1⟩ := pP_peek (pP_bind.mp h)
    obtain ⟨d2, e2, h2⟩ := pP_peek (pP_bind.mp h1)
    obtain ⟨i, e3, h3⟩ := pP_of (pP_bind.mp h2)
    obtain ⟨j, e4, h4⟩ := pP_of (pP_bind.mp h3)
    clear h h1 h2 h3
    by_cases hh : -(2 ^ 62) ≤ i ∧ i < 2 ^ 62 ∧ -(2 ^ 62) ≤ j ∧ j < 2 ^ 62 ∧ (j - i).toNat ≤ 2 ^ 24
    · rw [if_pos hh] at h4
      cases d <;> cases e3
      cases d2 <;> cases e4
      exact ⟨_, _, e1, e2, hh, h4⟩
    · rw [if_neg hh] at h4; exact h4.elim)
end
end DL

namespace DL
open PySem PySem.Spec L2
/-! ### operators -/
def gAddF : D → D → Option R
  | .int i, .int j => some (.val (.int (i + j)))
  | .str x, .str y => if x.length + y.length ≤ sizeLine then some (.val (.str (x ++ y))) else none
  | .lst x, .lst y => if x.length + y.length ≤ sizeLine then some (.own (.lst (x ++ y))) else none
  | .tup x, .tup y => if x.length + y.length ≤ sizeLine then some (.val (.tup (x ++ y))) else none
  | _, _ => none
def gIF (c : Int → Int → Bool) (f : Int → Int → Int) : D → D → Option R
  | .int i, .int j => if c i j = true then some (.val (.int (f i j))) else none
  | _, _ => none
def gSubF : D → D → Option R := gIF (fun _ _ => true) fun i j => i - j
def gModF : D → D → Option R := gIF (fun _ j => decide (j ≠ 0)) fun i j => i.fmod j
def gPowF : D → D → Option R := gIF (fun i j => decide (0 ≤ j) && decide (j ≤ 1000000) && decide (i.natAbs < 18446744073709551616)) fun i j => i ^ j.toNat
def gShrF : D → D → Option R := gIF (fun _ j => decide (0 ≤ j)) fun i j => i / 2 ^ j.toNat
def gFdivF : D → D → Option R := gIF (fun _ j => decide (j ≠ 0) && decide (j.natAbs.log2 < 9000)) fun i j => i.fdiv j
def mulB (i j : Int) : Bool := decide (i.natAbs.log2 + j.natAbs.log2 < 1000000)
def gMulF : D → D → Option R
  | .int i, .int j => if mulB i j = true then some (.val (.int (i * j))) else none
  | .lst x, .int k => if -(2 ^ 63) ≤ k ∧ k < 2 ^ 63 ∧ x.length * k.toNat ≤ sizeLine then some (.own (.lst (List.replicate k.toNat x).flatten)) else none
  | _, _ => none
theorem gs_add : GS gAddF gAdd := fun d1 d2 r P h hp => by
  unfold gAddF at h
  split at h
  · cases h; exact hp
  · split at h
    · cases h; exact ⟨by assumption, hp⟩
    · cases h
  · split at h
    · cases h; exact ⟨by assumption, hp⟩
    · cases h
  · split at h
    · cases h; exact ⟨by assumption, hp⟩
    · cases h
  · cases h
theorem gs_I {c : Int → Int → Bool} {cp : Int → Int → Prop} {f : Int → Int → Int} (w : ∀ i j, c i j = true → cp i j) : GS (gIF c f) (gI cp fun i j => .int (f i j)) := fun d1 d2 r P h hp => by
  unfold gIF at h
  split at h
  · split at h
    · cases h; exact ⟨w _ _ (by assumption), hp⟩
    · cases h
  · cases h
theorem gs_sub : GS gSubF gMinus := gs_I fun _ _ _ => trivial
theorem gs_mod : GS gModF gMod := gs_I fun _ _ h => of_decide_eq_true h
theorem gs_pow : GS gPowF gPow := gs_I fun i j h => by
  simp only [Bool.and_eq_true, decide_eq_true_eq] at h
  exact ⟨h.1.1, h.1.2, h.2⟩
theorem gs_shr : GS gShrF gShr := gs_I fun _ _ h => of_decide_eq_true h
theorem gs_fdiv : GS gFdivF gFdivA := gs_I fun i j h => by
  simp only [Bool.and_eq_true, decide_eq_true_eq] at h
  exact ⟨h.1, h.2⟩
theorem gs_mul : GS gMulF gMul := fun d1 d2 r P h hp => by
  unfold gMulF at h
  split at h
  · split at h
    · rename_i z; cases h; exact ⟨.inr (by unfold CMulW; unfold mulB at z; exact of_decide_eq_true z), hp⟩
    · cases h
  · split at h
    · rename_i z
      cases h; exact ⟨⟨z.1, z.2.1⟩, z.2.2, hp⟩
    · cases h
  · cases h
/-! ### comparisons -/
def cIF (f : Int → Int → Bool) : D → D → Option Bool
  | .int i, .int j => some (f i j)
  | _, _ => none
def cIsF (n : Bool) : D → D → Option Bool
  | d, .non => some (if n = true then !d.isN else d.isN)
  | _, _ => none
def okk : Nat → D → Bool
  | _, .non => true
  | _, .bl _ => true
  | _, .int _ => true
  | _, .str x => PyData.strOk x
  | n + 1, .lst xs => xs.all (okk n)
  | n + 1, .tup xs => xs.all (okk n)
  | _, _ => false
theorem okk_ok : ∀ {n : Nat} {d : D}, okk n d = true → d.Ok n := by
  intro n
  induction n with
  | zero => intro d h; cases d <;> first | exact trivial | exact h | cases h
  | succ n ih =>
    intro d h
    cases d with
    | lst xs => exact fun d hd => ih (List.all_eq_true.mp h d hd)
    | tup xs => exact fun d hd => ih (List.all_eq_true.mp h d hd)
    | non => exact trivial
    | bl => exact trivial
    | int => exact trivial
    | str => exact h
    | _ => cases h
theorem ok_okk : ∀ {n : Nat} {d : D}, d.Ok n → okk n d = true := by
  intro n
  induction n with
  | zero => intro d h; cases d <;> first | rfl | exact h | exact h.elim
  | succ n ih =>
    intro d h
    cases d with
    | lst xs => exact List.all_eq_true.mpr fun d hd => ih (h d hd)
    | tup xs => exact List.all_eq_true.mpr fun d hd => ih (h d hd)
    | non => rfl
    | bl => rfl
    | int => rfl
    | str => exact h
    | _ => exact h.elim
def cEqF (ne : Bool) (d e : D) : Option Bool := if okk 60 d = true ∧ okk 60 e = true then some (if ne = true then !eqD 60 d e else eqD 60 d e) else none
def cEqSF : D → D → Option Bool
  | .str x, .str y => some (decide (x = y))
  | _, _ => none
def cDinF (neg : Bool) : D → D → Option Bool
  | d, .dic kvs => match keyD d with
    | some k => some (if neg = true then !(valD kvs k).isSome else (valD kvs k).isSome)
    | none => none
  | _, _ => none
theorem cs_I' {f : Int → Int → Bool} : CS (cIF f) (cI f) := fun d1 d2 b h => by
  unfold cIF at h
  split at h
  · cases h; exact rfl
  · cases h
theorem cs_is' {n : Bool} : CS (cIsF n) (cIsN n) := fun d1 d2 b h => by
  unfold cIsF at h
  split at h
  · cases h; exact ⟨rfl, rfl⟩
  · cases h
theorem cs_eq' {n : Bool} : CS (cEqF n) (cEq n) := fun d1 d2 b h => by
  unfold cEqF at h
  split at h
  · rename_i z
    cases h; exact ⟨okk_ok z.1, okk_ok z.2, rfl⟩
  · cases h
theorem cs_eqS' : CS cEqSF cEqS := fun d1 d2 b h => by
  unfold cEqSF at h
  split at h
  · cases h; exact ⟨_, _, rfl, rfl, rfl⟩
  · cases h
theorem cs_din' {n : Bool} : CS (cDinF n) (cDin n) := fun d1 d2 b h => by
  unfold cDinF at h
  split at h
  · split at h
    · cases h; exact ⟨_, _, by assumption, rfl, rfl⟩
    · cases h
  · cases h
section
variable {X : Cx} {K : PySem.W.Frag} {L : Lk} {pos : Pos} {a b e : Expr} {es : List Expr} {fa fb fe : FE} {ta tb : FT}
theorem fe_add (ha : HE X L a fa) (hb : HE X L b fb) : HE X L (.BinOp a .Add b pos) (fBin gAddF fa fb) := fe_op gs_add op_addA os_add ha hb
theorem fe_sub (ha : HE X L a fa) (hb : HE X L b fb) : HE X L (.BinOp a .Sub b pos) (fBin gSubF fa fb) := fe_op gs_sub op_sub os_I0 ha hb
theorem fe_mul (ha : HE X L a fa) (hb : HE X L b fb) : HE X L (.BinOp a .Mult b pos) (fBin gMulF fa fb) := fe_op gs_mul op_mulA os_mul ha hb
theorem fe_fdiv (ha : HE X L a fa) (hb : HE X L b fb) : HE X L (.BinOp a .FloorDiv b pos) (fBin gFdivF fa fb) := fe_op gs_fdiv op_fdivA os_I ha hb
theorem fe_mod (ha : HE X L a fa) (hb : HE X L b fb) : HE X L (.BinOp a .Mod b pos) (fBin gModF fa fb) := fe_op gs_mod op_modN os_I ha hb
theorem fe_pow (ha : HE X L a fa) (hb : HE X L b fb) : HE X L (.BinOp a .Pow b pos) (fBin gPowF fa fb) := fe_op gs_pow op_pow os_I ha hb
theorem fe_shr (ha : HE X L a fa) (hb : HE X L b fb) : HE X L (.BinOp a .RShift b pos) (fBin gShrF fa fb) := fe_op gs_shr op_shr os_I ha hb
abbrev cLt := cIF fun i j => decide (i < j)
abbrev cLe := cIF fun i j => decide (i ≤ j)
abbrev cGt := cIF fun i j => decide (j < i)
abbrev cGe := cIF fun i j => decide (j ≤ i)
theorem fe_lt (ha : HE X L a fa) (hb : HE X L b fb) : HE X L (.Compare a [.Lt] [b] pos) (fCmp cLt fa fb) := fe_cmp cs_I' op_lt cs_I ha hb (nomark _)
theorem fe_le (ha : HE X L a fa) (hb : HE X L b fb) : HE X L (.Compare a [.LtE] [b] pos) (fCmp cLe fa fb) := fe_cmp cs_I' op_le cs_I ha hb (nomark _)
theorem fe_gt (ha : HE X L a fa) (hb : HE X L b fb) : HE X L (.Compare a [.Gt] [b] pos) (fCmp cGt fa fb) := fe_cmp cs_I' op_gt cs_I ha hb (nomark _)
theorem fe_ge (ha : HE X L a fa) (hb : HE X L b fb) : HE X L (.Compare a [.GtE] [b] pos) (fCmp cGe fa fb) := fe_cmp cs_I' op_ge cs_I ha hb (nomark _)
theorem ft_lt (ha : HE X L a fa) (hb : HE X L b fb) : HT' X L (.Compare a [.Lt] [b] pos) (fTst (fCmp cLt fa fb)) := ft_cmp cs_I' op_lt cs_I ha hb (nomark _)
theorem ft_le (ha : HE X L a fa) (hb : HE X L b fb) : HT' X L (.Compare a [.LtE] [b] pos) (fTst (fCmp cLe fa fb)) := ft_cmp cs_I' op_le cs_I ha hb (nomark _)
theorem ft_gt (ha : HE X L a fa) (hb : HE X L b fb) : HT' X L (.Compare a [.Gt] [b] pos) (fTst (fCmp cGt fa fb)) := ft_cmp cs_I' op_gt cs_I ha hb (nomark _)
theorem ft_ge (ha : HE X L a fa) (hb : HE X L b fb) : HT' X L (.Compare a [.GtE] [b] pos) (fTst (fCmp cGe fa fb)) := ft_cmp cs_I' op_ge cs_I ha hb (nomark _)
theorem fe_is (ha : HE X L a fa) (hb : HE X L b fb) : HE X L (.Compare a [.Is] [b] pos) (fCmp (cIsF false) fa fb) := fe_cmp cs_is' op_isN cs_isN ha hb (nomark _)
theorem fe_isnot (ha : HE X L a fa) (hb : HE X L b fb) : HE X L (.Compare a [.IsNot] [b] pos) (fCmp (cIsF true) fa fb) := fe_cmp cs_is' op_notN cs_notN ha hb (nomark _)
theorem ft_is (ha : HE X L a fa) (hb : HE X L b fb) : HT' X L (.Compare a [.Is] [b] pos) (fTst (fCmp (cIsF false) fa fb)) := ft_cmp cs_is' op_isN cs_isN ha hb (nomark _)
theorem ft_isnot (ha : HE X L a fa) (hb : HE X L b fb) : HT' X L (.Compare a [.IsNot] [b] pos) (fTst (fCmp (cIsF true) fa fb)) := ft_cmp cs_is' op_notN cs_notN ha hb (nomark _)
theorem fe_eq (hu : X.A.units + 64 < cLine) (ha : HE X L a fa) (hb : HE X L b fb) : HE X L (.Compare a [.Eq] [b] pos) (fCmp (cEqF false) fa fb) := fe_cmp cs_eq' (op_eqD hu) cs_eq ha hb (nomark _)
theorem fe_ne (hu : X.A.units + 64 < cLine) (ha : HE X L a fa) (hb : HE X L b fb) : HE X L (.Compare a [.NotEq] [b] pos) (fCmp (cEqF true) fa fb) := fe_cmp cs_eq' (op_neD hu) cs_ne ha hb (nomark _)
theorem ft_eq (hu : X.A.units + 64 < cLine) (ha : HE X L a fa) (hb : HE X L b fb) : HT' X L (.Compare a [.Eq] [b] pos) (fTst (fCmp (cEqF false) fa fb)) := ft_cmp cs_eq' (op_eqD hu) cs_eq ha hb (nomark _)
theorem ft_ne (hu : X.A.units + 64 < cLine) (ha : HE X L a fa) (hb : HE X L b fb) : HT' X L (.Compare a [.NotEq] [b] pos) (fTst (fCmp (cEqF true) fa fb)) := ft_cmp cs_eq' (op_neD hu) cs_ne ha hb (nomark _)
theorem fe_eqS (ha : HE X L a fa) (hb : HE X L b fb) : HE X L (.Compare a [.Eq] [b] pos) (fCmp cEqSF fa fb) := fe_cmp cs_eqS' op_eq cs_eqS ha hb (nomark _)
theorem ft_eqS (ha : HE X L a fa) (hb : HE X L b fb) : HT' X L (.Compare a [.Eq] [b] pos) (fTst (fCmp cEqSF fa fb)) := ft_cmp cs_eqS' op_eq cs_eqS ha hb (nomark _)
theorem fe_din (hu : X.A.units + 1 < cLine) (ha : HE X L a fa) (hb : HE X L b fb) (hm : behindInMarks .In b = false := by rfl) : HE X L (.Compare a [.In] [b] pos) (fCmp (cDinF false) fa fb) := PE.weak (de_din hu ha hb hm) (lift_imp (cmp_imp cs_din'))
theorem fe_dnotin (hu : X.A.units + 1 < cLine) (ha : HE X L a fa) (hb : HE X L b fb) (hm : behindInMarks .NotIn b = false := by rfl) : HE X L (.Compare a [.NotIn] [b] pos) (fCmp (cDinF true) fa fb) := PE.weak (de_dnotin hu ha hb hm) (lift_imp (cmp_imp cs_din'))
theorem ft_din (hu : X.A.units + 1 < cLine) (ha : HE X L a fa) (hb : HE X L b fb) (hm : behindInMarks .In b = false := by rfl) : HT' X L (.Compare a [.In] [b] pos) (fTst (fCmp (cDinF false) fa fb)) := PT.weak (dt_din hu ha hb hm) (liftT_imp (tst_imp (cmp_imp cs_din')))
theorem ft_dnotin (hu : X.A.units + 1 < cLine) (ha : HE X L a fa) (hb : HE X L b fb) (hm : behindInMarks .NotIn b = false := by rfl) : HT' X L (.Compare a [.NotIn] [b] pos) (fTst (fCmp (cDinF true) fa fb)) := PT.weak (dt_dnotin hu ha hb hm) (liftT_imp (tst_imp (cmp_imp cs_din')))
end
/-! ### built-ins -/
def bLenF : List D → Option R
  | [.lst xs] => some (.val (.int xs.length))
  | [.tup xs] => some (.val (.int xs.length))
  | [.str z] => if z.length ≤ sizeLine then some (.val (.int z.length)) else none
  | _ => none
def bIntF : List D → Option R
  | [.int i] => some (.val (.int i))
  | [.bl k] => some (.val (.int (if k = true then 1 else 0)))
  | _ => none
def bAbsF : List D → Option R
  | [.int i] => some (.val (.int (if i < 0 then -i else i)))
  | _ => none
def bMax2F : List D → Option R
  | [.int i, .int j] => some (.val (.int (if j > i then j else i)))
  | _ => none
def bMin2F : List D → Option R
  | [.int i, .int j] => some (.val (.int (if j < i then j else i)))
  | _ => none
def bListF : List D → Option R
  | [.lst xs] => some (.own (.lst xs))
  | [.tup xs] => some (.own (.lst xs))
  | _ => none
def bTupleF : List D → Option R
  | [.lst xs] => some (.val (.tup xs))
  | [.tup xs] => some (.val (.tup xs))
  | _ => none
instance {n w : Nat} {d : D} : Decidable (d.Fits n w) := by unfold D.Fits; exact inferInstance
def bReprF : List D → Option R
  | [d] => if d.Fits 60 16000000 then some (.val (.str d.py.shown)) else none
  | _ => none
def bDictF : List D → Option R
  | [.tup ps] => match pairsD ps with
    | some kvs => some (.own (.dic (mergeD [] kvs)))
    | none => none
  | _ => none
theorem bs_len : BS bLenF bLen := fun ds r P h hp => by
  unfold bLenF at h
  split at h
  · cases h; exact hp
  · cases h; exact hp
  · split at h
    · cases h; exact ⟨by assumption, hp⟩
    · cases h
  · cases h
theorem bs_int : BS bIntF bInt := fun ds r P h hp => by
  unfold bIntF at h
  split at h
  · cases h; exact hp
  · cases h; exact hp
  · cases h
theorem bs_abs : BS bAbsF bAbs := fun ds r P h hp => by
  unfold bAbsF at h
  split at h
  · cases h; exact hp
  · cases h
theorem bs_max2 : BS bMax2F bMax2 := fun ds r P h hp => by
  unfold bMax2F at h
  split at h
  · cases h; exact hp
  · cases h
theorem bs_min2 : BS bMin2F bMin2 := fun ds r P h hp => by
  unfold bMin2F at h
  split at h
  · cases h; exact hp
  · cases h
theorem bs_list : BS bListF bList := fun ds r P h hp => by
  unfold bListF at h
  split at h
  · cases h; exact hp
  · cases h; exact hp
  · cases h
theorem bs_tuple : BS bTupleF bTuple := fun ds r P h hp => by
  unfold bTupleF at h
  split at h
  · cases h; exact hp
  · cases h; exact hp
  · cases h
theorem bs_repr : BS bReprF bRepr := fun ds r P h hp => by
  unfold bReprF at h
  split at h
  · split at h
    · cases h; exact ⟨60, 16000000, by assumption, by decide, by decide, hp⟩
    · cases h
  · cases h
theorem bs_dict : BS bDictF bDict := fun ds r P h hp => by
  unfold bDictF at h
  split at h
  · split at h
    · cases h; exact ⟨_, by assumption, hp⟩
    · cases h
  · cases h
end DL

namespace DL
open PySem PySem.Spec L2
/-! ### statements -/
inductive SO where
  | nx (δ : List R) | rt (r : R) (δ : List R) | bk (δ : List R) | ct (δ : List R) | err (c : Addr) (fs : List (Str × D)) (δ : List R)
abbrev FS := List R → T SO
def SO.holds (x : Lx) (DD : DEnds) : SO → Prop
  | .nx δ => DD.nx δ
  | .rt r δ => DD.rt r δ
  | .bk δ => DD.bk δ
  | .ct δ => DD.ct δ
  | .err c fs δ => x c fs δ
def pS (x : Lx) (f : FS) : DS := fun DD δ => (f δ).all (SO.holds x DD)
/-- an expression ahead of a statement's rest -/
def EO.go {α : Type} (o : EO α) (k : α → FS) : T SO := match o with
  | .ok a δ => k a δ
  | .err c fs δ => .ret (.err c fs δ)
def eS {α : Type} (f : F α) (k : α → FS) : FS := fun δ => (f δ).bind fun o => o.go k
def fNext : FS := fun δ => .ret (.nx δ)
def fBreak : FS := fun δ => .ret (.bk δ)
def fCont : FS := fun δ => .ret (.ct δ)
def SO.andThen (o : SO) (b : FS) : T SO := match o with
  | .nx δ => b δ
  | .rt r δ => .ret (.rt r δ)
  | .bk δ => .ret (.bk δ)
  | .ct δ => .ret (.ct δ)
  | .err c fs δ => .ret (.err c fs δ)
def fSq (a b : FS) : FS := fun δ => (a δ).bind fun o => o.andThen b
def fExpr (fe : FE) : FS := eS fe fun _ δ => .ret (.nx δ)
def fRet (fe : FE) : FS := eS fe fun r δ => match retR r δ with
  | some (r', _) => .ret (.rt r' [])
  | none => .fail
/-- the same where a list was lent in slot i -/
def fRetM (i : Nat) (fe : FE) : FS := eS fe fun r δ => match retR r δ with
  | some (r', δ') => .ret (.rt r' (keepAt i δ'))
  | none => .fail
def fRetNM (i : Nat) : FS := fun δ => .ret (.rt (.val .non) (keepAt i δ))
def fRetN : FS := fun _ => .ret (.rt (.val .non) [])
def fIfS (t : FT) (a b : FS) : FS := eS t fun c => if c = true then a else b
def fSet (i : Nat) (fe : FE) : FS := eS fe fun r δ => match asR r δ with
  | some (r', δ') => .ret (.nx (st δ' i r'))
  | none => .fail
/-! ### targets -/
abbrev FG := D → List R → Option (List R)
abbrev FGs := List D → List R → Option (List R)
def pG (g : FG) : DG := fun d δ P => ∃ δ', g d δ = some δ' ∧ P δ'
def pGs (g : FGs) : DGs := fun d δ P => ∃ δ', g d δ = some δ' ∧ P δ'
def fgN (i : Nat) : FG := fun d δ => some (st δ i (.val d))
def fgNil : FGs
  | [], δ => some δ
  | _ :: _, _ => none
def fgCons (g : FG) (u : FGs) : FGs
  | d :: r, δ => (g d δ).bind fun δ' => u r δ'
  | [], _ => none
def fgT (n : Nat) (u : FGs) : FG
  | .tup ds, δ => if ds.length = n then u ds δ else none
  | _, _ => none
def fAsg (fe : FE) (g : FG) : FS := eS fe fun r => eS (useF r) fun d δ => match g d δ with
  | some δ' => .ret (.nx δ')
  | none => .fail
/-! ### loops -/
def SO.turn (o : SO) (k : FS) : T SO := match o with
  | .nx δ => k δ
  | .ct δ => k δ
  | .bk δ => .ret (.nx δ)
  | .rt r δ => .ret (.rt r δ)
  | .err c fs δ => .ret (.err c fs δ)
def fLoop (g : FG) (b : FS) : List D → FS
  | [], δ => .ret (.nx δ)
  | d :: ds, δ => match g d δ with
    | some δ1 => (b δ1).bind fun o => o.turn (fLoop g b ds)
    | none => .fail
def fFor (fi : FI) (g : FG) (b : FS) : FS := eS fi fun ds => fLoop g b ds
def listOf : D → Option (List D) := D.items
def fiSeq (fe : FE) : FI := fe.bind fun r => (useF r).bind fun d => F.of d.items
def fiRng1 (fa : FA) : FI := fa.bind fun rs => (peekAllF rs).bind fun ds => match ds with
  | [.int j] => if -(2 ^ 62) ≤ j ∧ j < 2 ^ 62 then F.ret (rngD 0 j.toNat) else F.fail
  | _ => F.fail
def fiRng2 (fa : FA) : FI := fa.bind fun rs => (peekAllF rs).bind fun ds => match ds with
  | [.int i, .int j] => if -(2 ^ 62) ≤ i ∧ i < 2 ^ 62 ∧ -(2 ^ 62) ≤ j ∧ j < 2 ^ 62 then F.ret (rngD i (j - i).toNat) else F.fail
  | _ => F.fail
def fiEnum (fa : FA) : FI := fa.bind fun rs => (useAllF rs).bind fun rs' => match rs' with
  | [.val (.tup ds)] => F.ret (enumD 0 ds)
  | _ => F.fail
/-! ### comprehensions -/
def fLc (g : FG) (t : FT) (e : FE) (vs : List Nat) : List D → List D → List R → T (List D × List R)
  | [], acc, δ => .ret (acc, δ)
  | d :: ds, acc, δ => match g d δ with
    | none => .fail
    | some δ1 => (t δ1).bind fun o => match o with
      | .err _ _ _ => .fail
      | .ok b δ2 => if b = true then (e.bind useF δ2).bind fun o => match o with
          | .err _ _ _ => .fail
          | .ok d' δ4 => if acc.length < sizeLine then fLc g t e vs ds (acc ++ [d']) (wipeD δ4 vs) else .fail
        else fLc g t e vs ds acc (wipeD δ2 vs)
def fComp (fi : FI) (g : FG) (t : FT) (e : FE) (vs : List Nat) : FE := fi.bind fun ds δ1 => (fLc g t e vs ds [] (wipeD δ1 vs)).bind fun p => .ret (.ok (.own (.lst p.1)) (backD p.2 δ1 vs))
def fYes : FT := F.ret true
/-! ### what is one's own is changed -/
def fApp (i : Nat) (fe : FE) : FE := fun δ => match wrOf δ i with
  | some (.lst _, _) => (fe.bind fun r => (useF r).bind fun d => fun δ2 => match wrOf δ2 i with
    | some (.lst ds, b) => if ds.length < sizeLine then .ret (.ok (.val .non) (st δ2 i (wrAs b (.lst (ds ++ [d]))))) else .fail
    | _ => .fail) δ
  | _ => .fail
section
variable {X : Cx} {K : PySem.W.Frag} {L : Lk} {pos : Pos} {e : Expr} {fe : FE} {sm : Stmt} {rest body orelse : List Stmt} {a b : FS} {ta : FT} {x : Lx} {DD : DEnds} {δ : List R}
abbrev HS (X : Cx) (L : Lk) (s : Stmt) (f : FS) : Prop := PS X s (liftS X.K L (pS L.x f))
abbrev HSs (X : Cx) (L : Lk) (s : List Stmt) (f : FS) : Prop := PSs X s (liftS X.K L (pS L.x f))
theorem eS_imp {α : Type} {f : F α} {k : α → FS} (h : pS x (eS f k) DD δ) {Q : α → List R → Prop} (w : ∀ a δ', pS x (k a) DD δ' → Q a δ') : pP x f δ Q := by
  unfold pS eS at h
  rw [T.all_bind] at h
  refine T.all_mono h fun o ho => ?_
  cases o with
  | ok a δ' => exact w a δ' ho
  | err c fs δ' => exact ho
theorem fss_nil : HSs X L [] fNext := PSs.weak dss_nil (liftS_imp fun DD δ h => h)
theorem sq_imp (DD : DEnds) (δ : List R) (h : pS x (fSq a b) DD δ) : dSq (pS x a) (pS x b) DD δ := by
  unfold pS fSq at h
  rw [T.all_bind] at h
  refine T.all_mono h fun o ho => ?_
  cases o <;> exact ho
theorem fss_cons (h1 : HS X L sm a) (h2 : HSs X L rest b) : HSs X L (sm :: rest) (fSq a b) := PSs.weak (dss_cons h1 h2) (liftS_imp sq_imp)
theorem fss_one (h1 : HS X L sm a) : HSs X L [sm] a := dss_one h1
theorem fs_pass : HS X L (.Pass pos) fNext := PS.weak ds_pass (liftS_imp fun DD δ h => h)
theorem fs_break : HS X L (.Break pos) fBreak := PS.weak ds_break (liftS_imp fun DD δ h => h)
theorem fs_continue : HS X L (.Continue pos) fCont := PS.weak ds_continue (liftS_imp fun DD δ h => h)
theorem fs_expr (he : HE X L e fe) (hs : swapsWith e none pos.line X.env = pure false := by rfl) : HS X L (.Expr e pos) (fExpr fe) := PS.weak (ds_expr he hs) (liftS_imp fun DD δ h => eS_imp h fun r δ' h => h)
theorem SI.nil {C : Ct} {σ : St} {H G : Hp} {W : Ow} (I : SI K C σ H G W δ) : SI K C σ H G W [] := ⟨I.gh, I.g0, I.hh, I.gz, I.b0, I.bag, I.tm, I.mu, Nat.zero_le _, fun i h => absurd rfl h⟩
theorem ret_links {C : Ct} {G : Hp} {D : Ends} (k : Links K C G D DD) : Links K C G D { DD with rt := fun r _ => DD.rt r [] } :=
  ⟨k.nx, fun v σ' H' G' W' δ' r x I o fi h => k.rt v σ' H' G' W' [] r x I.nil o fi h, k.bk, k.ct⟩
theorem fs_ret (he : HE X L e fe) : HS X L (.Return (some e) pos) (fRet fe) := PS.weak (ds_ret he) fun D σ H ⟨C, G, W, δ, DD, I, lk, hd, k⟩ =>
  ⟨C, G, W, δ, _, I, lk, eS_imp hd fun r δ' h => (by
    unfold pS at h; dsimp only at h
    split at h
    · exact ⟨_, _, by assumption, h⟩
    · exact h.elim), ret_links k⟩
theorem ret_linksM {C : Ct} {G : Hp} {D : Ends} (i : Nat) (k : Links K C G D DD) : Links K C G D { DD with rt := fun r δ => DD.rt r (keepAt i δ) } :=
  ⟨k.nx, fun v σ' H' G' W' δ' r x I o fi h => k.rt v σ' H' G' W' _ r x (I.keepAt i) o fi h, k.bk, k.ct⟩
theorem fs_retM (i : Nat) (he : HE X L e fe) : HS X L (.Return (some e) pos) (fRetM i fe) := PS.weak (ds_ret he) fun D σ H ⟨C, G, W, δ, DD, I, lk, hd, k⟩ =>
  ⟨C, G, W, δ, _, I, lk, eS_imp hd fun r δ' h => (by
    unfold pS at h; dsimp only at h
    split at h
    · exact ⟨_, _, by assumption, h⟩
    · exact h.elim), ret_linksM i k⟩
theorem fs_retNM (i : Nat) : HS X L (.Return none pos) (fRetNM i) := PS.weak ds_retN fun D σ H ⟨C, G, W, δ, DD, I, lk, hd, k⟩ => ⟨C, G, W, δ, { DD with rt := fun r δ => DD.rt r (keepAt i δ) }, I, lk, hd, ret_linksM i k⟩
theorem fs_retN : HS X L (.Return none pos) fRetN := PS.weak ds_retN fun D σ H ⟨C, G, W, δ, DD, I, lk, hd, k⟩ => ⟨C, G, W, δ, { DD with rt := fun r _ => DD.rt r [] }, I, lk, hd, ret_links k⟩
theorem iteS {c : Bool} (h : pS x (if c = true then a else b) DD δ) : (c = true → pS x a DD δ) ∧ (c = false → pS x b DD δ) := by
  cases c
  · exact ⟨fun z => (by cases z), fun _ => h⟩
  · exact ⟨fun _ => h, fun z => (by cases z)⟩
theorem fs_if {c : Expr} (hc : HT' X L c ta) (ha : HSs X L body a) (hb : HSs X L orelse b) : HS X L (.If c body orelse pos) (fIfS ta a b) := PS.weak (ds_if hc ha hb) (liftS_imp fun DD δ h => eS_imp h fun c δ' h => iteS h)
theorem set_imp {de : DE} {i : Nat} (w : ∀ δ P, pP x fe δ P → de δ P) (DD : DEnds) (δ : List R) (h : pS x (fSet i fe) DD δ) : dSet i de DD δ := w _ _ (eS_imp h fun r δ' h => by
  unfold pS at h; dsimp only at h
  split at h
  · exact ⟨_, _, by assumption, h⟩
  · exact h.elim)
theorem fs_set {i : Nat} {y : Str} {pos' : Pos} (hN : X.N.Nodup) (he : HE X L e fe) (hi : X.N[i]? = some y := by rfl) (hx : Loc X.env.scope y := by first | exact Or.inl rfl | exact Or.inr rfl) (hs : swapsWith e (some (.Name y pos')) pos.line X.env = pure false := by rfl) (hf : X.fn y = true ∨ X.env.scope.names.lookup y = some .local := by first | exact .inl rfl | exact .inr rfl | assumption) :
    HS X L (.Assign [.Name y pos'] e pos) (fSet i fe) := PS.weak (ds_set hN he hi hx hs hf) (liftS_imp (set_imp fun _ _ h => h))
/-! targets -/
variable {tg : Expr} {es : List Expr} {g : FG} {gs : FGs}
abbrev HG (X : Cx) (t : Expr) (g : FG) : Prop := PG X t (liftG X.K (pG g))
abbrev HGs (X : Cx) (ts : List Expr) (g : FGs) : Prop := PGs X ts (liftGs X.K (pGs g))
theorem gN_imp {i : Nat} (d : D) (δ : List R) (P : List R → Prop) (h : pG (fgN i) d δ P) : gN i d δ P := by
  obtain ⟨δ', e, hp⟩ := h
  cases e; exact hp
theorem gNil_imp (d : List D) (δ : List R) (P : List R → Prop) (h : pGs fgNil d δ P) : gsNil d δ P := by
  obtain ⟨δ', e, hp⟩ := h
  cases d with
  | nil => cases e; exact ⟨rfl, hp⟩
  | cons => cases e
theorem gCons_imp {g' : DG} {gs' : DGs} (w1 : ∀ d δ P, pG g d δ P → g' d δ P) (w2 : ∀ d δ P, pGs gs d δ P → gs' d δ P) (d : List D) (δ : List R) (P : List R → Prop) (h : pGs (fgCons g gs) d δ P) : gsCons g' gs' d δ P := by
  obtain ⟨δ', e, hp⟩ := h
  cases d with
  | nil => cases e
  | cons d r =>
    obtain ⟨δ1, e1, e2⟩ := Option.bind_eq_some_iff.mp e
    exact ⟨d, r, rfl, w1 _ _ _ ⟨δ1, e1, w2 _ _ _ ⟨δ', e2, hp⟩⟩⟩
theorem gT_imp {n : Nat} {gs' : DGs} (w : ∀ d δ P, pGs gs d δ P → gs' d δ P) (d : D) (δ : List R) (P : List R → Prop) (h : pG (fgT n gs) d δ P) : gT n gs' d δ P := by
  obtain ⟨δ', e, hp⟩ := h
  unfold fgT at e
  split at e
  · split at e
    · exact ⟨_, rfl, by assumption, w _ _ _ ⟨δ', e, hp⟩⟩
    · cases e
  · cases e
theorem fg_name {i : Nat} {y : Str} (hN : X.N.Nodup) (hi : X.N[i]? = some y := by rfl) (hx : Loc X.env.scope y := by first | exact Or.inl rfl | exact Or.inr rfl) (hf : X.fn y = true ∨ X.env.scope.names.lookup y = some .local := by first | exact .inl rfl | exact .inr rfl | assumption) : HG X (.Name y pos) (fgN i) :=
  PG.weak (dg_name hN hi hx hf) (liftG_imp gN_imp)
theorem fgs_nil : HGs X [] fgNil := PGs.weak dgs_nil (liftGs_imp gNil_imp)
theorem fgs_cons (h1 : HG X tg g) (h2 : HGs X es gs) (hs : (assignEach (tg :: es) X.env).map (·.2) = assign tg X.env :: (assignEach es X.env).map (·.2) := by rfl) : HGs X (tg :: es) (fgCons g gs) :=
  PGs.weak (dgs_cons h1 h2 hs) (liftGs_imp (gCons_imp (fun _ _ _ h => h) fun _ _ _ h => h))
theorem fg_tup {kk n : Nat} (hc : X.calm = true) (h : HGs X es gs) (hn : (assignEach es X.env).length = n := by rfl) (hst : (assignEach es X.env).findIdx? (·.1) = none := by rfl) : HG X (.Tuple es kk pos) (fgT n gs) :=
  PG.weak (dg_tup hc h hn hst) (liftG_imp (gT_imp fun _ _ _ h => h))
theorem fs_asg (he : HE X L e fe) (hg : HG X tg g) (hs : swapsWithSole [tg] e pos.line X.env = pure false := by rfl) (hw : swappedStores [tg] e X.env = pure none := by rfl) (h1 : (assignEach [tg] X.env).map (·.2) = [assign tg X.env] := by rfl) : HS X L (.Assign [tg] e pos) (fAsg fe g) :=
  PS.weak (ds_asg he hg hs hw h1) (liftS_imp fun DD δ h => eS_imp h fun r δ' h => by
    obtain ⟨d, δ2, e1, h⟩ := pP_use (eS_imp h (Q := fun d δ2 => pG g d δ2 DD.nx) fun d δ2 h => by
      unfold pS at h; dsimp only at h
      split at h
      · exact ⟨_, by assumption, h⟩
      · exact h.elim)
    exact ⟨d, δ2, e1, h⟩)
/-! loops -/
abbrev HI (X : Cx) (L : Lk) (t i : Expr) (f : FI) : Prop := PI X t i (liftI X.K L (pP L.x f))
theorem loop_imp {g' : DG} (w : ∀ d δ P, pG g d δ P → g' d δ P) : ∀ (ds : List D) (δ : List R), pS x (fLoop g b ds) DD δ → dLoop g' (pS x b) DD ds δ
  | [], δ, h => h
  | d :: ds, δ, h => by
    unfold pS fLoop at h
    cases q : g d δ with
    | none => rw [q] at h; exact h.elim
    | some δ1 =>
      rw [q] at h
      refine w _ _ _ ⟨δ1, q, ?_⟩
      have h := T.all_bind.mp h
      refine T.all_mono h fun o ho => ?_
      cases o with
      | nx δ => exact loop_imp w ds _ ho
      | ct δ => exact loop_imp w ds _ ho
      | rt r δ => exact ho
      | bk δ => exact ho
      | err c fs δ => exact ho
theorem fs_for {iter : Expr} {fi : FI} (hp : PassesOwn (model X.prog X.w) X.A X.env X.xe) (hc : X.calm = true) (hi : HI X L tg iter fi) (hg : HG X tg g) (hb : HSs X L body b)
    (hs : ∀ x, foldedSetIterable iter X.env x = pure x := by intro _; rfl) : HS X L (.For tg iter body [] pos) (fFor fi g b) :=
  PS.weak (ds_for hp hc hi hg hb hs) (liftS_imp fun DD δ h => eS_imp h fun ds δ' h => loop_imp (fun _ _ _ h => h) ds δ' h)
theorem fi_seq {l : Expr} (hl : HE X L l fe) : HI X L tg l (fiSeq fe) := PI.weak (di_seq hl) (liftI_imp fun δ P h => pP_then h fun r δ1 h => by
  obtain ⟨d, δ2, e1, h⟩ := pP_use (pP_bind.mp h)
  obtain ⟨ds, e2, h⟩ := pP_of h
  exact ⟨d, δ2, ds, e1, e2, h⟩)
theorem fi_rng1 {a : Expr} {fa : FA} {p pos : Pos} (hg : Gl X "range") (hm : X.mg "range" = none) (ha : HA X L [a] fa) (hs : starEach [a] X.env = [(false, eval a X.env)] := by rfl) : HI X L tg (.Call (.Name "range" p) [a] [] pos) (fiRng1 fa) :=
  PI.weak (di_rng1 hg hm ha hs) (liftI_imp fun δ P h => pP_then h fun rs δ1 h => by
    obtain ⟨ds, e1, h⟩ := pP_peekAll (pP_bind.mp h)
    split at h
    · split at h
      · exact ⟨_, e1, by assumption, h⟩
      · exact h.elim
    · exact h.elim)
theorem fi_rng2 {a b : Expr} {fa : FA} {p pos : Pos} (hg : Gl X "range") (hm : X.mg "range" = none) (ha : HA X L [a, b] fa) (hs : starEach [a, b] X.env = [(false, eval a X.env), (false, eval b X.env)] := by rfl) (hs2 : starEach [b] X.env = [(false, eval b X.env)] := by rfl) :
    HI X L tg (.Call (.Name "range" p) [a, b] [] pos) (fiRng2 fa) :=
  PI.weak (di_rng2 hg hm ha hs hs2) (liftI_imp fun δ P h => pP_then h fun rs δ1 h => by
    obtain ⟨ds, e1, h⟩ := pP_peekAll (pP_bind.mp h)
    split at h
    · split at h
      · exact ⟨_, _, e1, by assumption, h⟩
      · exact h.elim
    · exact h.elim)
theorem fi_enum {elts : List Expr} {kk : Nat} {fa : FA} {p pos tpos : Pos} (hg : Gl X "enumerate") (hm : X.mg "enumerate" = none) (ha : HA X L [e] fa) (hs : starEach [e] X.env = [(false, eval e X.env)] := by rfl) : HI X L (.Tuple elts kk tpos) (.Call (.Name "enumerate" p) [e] [] pos) (fiEnum fa) :=
  PI.weak (di_enum hg hm ha hs) (liftI_imp fun δ P h => pP_then h fun rs δ1 h => by
    obtain ⟨rs', δ2, e1, h⟩ := pP_useAll (pP_bind.mp h)
    split at h
    · exact ⟨_, δ2, e1, h⟩
    · exact h.elim)
/-! comprehensions -/
theorem lc_imp {g' : DG} {t : FT} {vs : List Nat} {P : List D → List R → Prop} (w : ∀ d δ P, pG g d δ P → g' d δ P) : ∀ (ds acc : List D) (δ : List R), (fLc g t fe vs ds acc δ).all (fun p => P p.1 p.2) → dLc g' (pP L0.x t) (pP L0.x fe) vs ds acc δ P
  | [], acc, δ, h => h
  | d :: ds, acc, δ, h => by
    unfold fLc at h
    cases q : g d δ with
    | none => rw [q] at h; exact h.elim
    | some δ1 =>
      rw [q] at h
      refine w _ _ _ ⟨δ1, q, ?_⟩
      have h := T.all_bind.mp h
      refine T.all_mono h fun o ho => ?_
      cases o with
      | err c fs δ => exact ho.elim
      | ok b δ2 =>
        cases b with
        | false => exact ⟨fun z => (by cases z), fun _ => lc_imp w ds acc _ ho⟩
        | true =>
          refine ⟨fun _ => ?_, fun z => (by cases z)⟩
          have ho := T.all_bind.mp ho
          have h2 : pP L0.x (fe.bind useF) δ2 fun d' δ4 => acc.length < sizeLine ∧ dLc g' (pP L0.x t) (pP L0.x fe) vs ds (acc ++ [d']) (wipeD δ4 vs) P := T.all_mono ho fun o ho => by
            cases o with
            | err c fs δ => exact ho.elim
            | ok d' δ4 =>
              by_cases hl : acc.length < sizeLine
              · have ho : (if acc.length < sizeLine then fLc g t fe vs ds (acc ++ [d']) (wipeD δ4 vs) else T.fail).all _ := ho
                rw [if_pos hl] at ho
                exact ⟨hl, lc_imp w ds _ _ ho⟩
              · have ho : (if acc.length < sizeLine then fLc g t fe vs ds (acc ++ [d']) (wipeD δ4 vs) else T.fail).all _ := ho
                rw [if_neg hl] at ho
                exact ho.elim
          refine pP_mono (pP_bind.mp h2) fun r δ3 h3 => ?_
          obtain ⟨d', δ4, e, h4⟩ := pP_use h3
          exact ⟨d', δ4, e, h4.1, h4.2⟩
theorem comp_imp {g' : DG} {fi : FI} {t : FT} {vs : List Nat} (w : ∀ d δ P, pG g d δ P → g' d δ P) (δ : List R) (P : R → List R → Prop) (h : pP x (fComp fi g t fe vs) δ P) : dComp (pP x fi) g' (pP L0.x t) (pP L0.x fe) vs δ P :=
  pP_then h fun ds δ1 h => lc_imp w ds [] _ (T.all_mono (T.all_bind.mp h) fun p hp => hp)
theorem fe_lc {elt tg iter : Expr} {ifs : List Expr} {scope : Scope} {own : List (Str × Nat)} {fi : FI} {g : FG} {g' : DG} {tgt : TG} {t : FT} {fe : FE} {vs : List Nat} (w : ∀ d δ P, pG g d δ P → g' d δ P) (hc : X.calm = true) (hN : X.N.Nodup) (hi : HI X L tg iter fi) (ok : BlkOk X.N X.env.scope scope own)
    (gok : GOk g' tgt X.K vs) (hv : own.map (·.2) = vs)
    (hg : ∀ (s : Shared) (H : Hp) (C : Addr) (cl : List (Str × Addr)) (fp : List Addr), PG (X.blk s H scope (compEnvC scope cl C X.env) fp) tg tgt) (ht : ∀ (s : Shared) (H : Hp) (C : Addr) (cl : List (Str × Addr)) (fp : List Addr), PTs (X.blk s H scope (compEnvC scope cl C X.env) fp) ifs (liftT X.K L0 (pP L0.x t)))
    (he : ∀ (s : Shared) (H : Hp) (C : Addr) (cl : List (Str × Addr)) (fp : List Addr), PE (X.blk s H scope (compEnvC scope cl C X.env) fp) elt (lift X.K L0 (pP L0.x fe))) (hs : ∀ x, foldedSetIterable iter X.env x = pure x := by intro _; rfl) :
    HE X L (.ListComp elt [⟨tg, iter, ifs, 0⟩] scope pos) (fComp fi g t fe vs) := PE.weak (de_lc hc hN hi ok gok hv hg ht he hs) (lift_imp (comp_imp w))
theorem fs_setLc {i : Nat} {y : Str} {py spos : Pos} {elt tg iter : Expr} {ifs : List Expr} {scope : Scope} {own : List (Str × Nat)} {fi : FI} {g : FG} {g' : DG} {tgt : TG} {t : FT} {fe : FE} {vs : List Nat} (w : ∀ d δ P, pG g d δ P → g' d δ P) (hc : X.calm = true) (hN : X.N.Nodup)
    (hsw : swapsWith (.ListComp elt [⟨tg, iter, ifs, 0⟩] scope pos) (some (.Name y py)) spos.line X.env = pure true) (hi : HI X L tg iter fi) (ok : BlkOk X.N X.env.scope scope own)
    (gok : GOk g' tgt X.K vs) (hv : own.map (·.2) = vs)
    (hg : ∀ (s : Shared) (H : Hp) (C : Addr) (cl : List (Str × Addr)) (fp : List Addr), PG (X.blk s H scope (compEnvC scope cl C X.env) fp) tg tgt) (ht : ∀ (s : Shared) (H : Hp) (C : Addr) (cl : List (Str × Addr)) (fp : List Addr), PTs (X.blk s H scope (compEnvC scope cl C X.env) fp) ifs (liftT X.K L0 (pP L0.x t)))
    (he : ∀ (s : Shared) (H : Hp) (C : Addr) (cl : List (Str × Addr)) (fp : List Addr), PE (X.blk s H scope (compEnvC scope cl C X.env) fp) elt (lift X.K L0 (pP L0.x fe))) (hy : X.N[i]? = some y := by rfl) (hyl : X.env.scope.names.lookup y = some .local := by rfl) (hs : ∀ x, foldedSetIterable iter X.env x = pure x := by intro _; rfl) :
    HS X L (.Assign [.Name y py] (.ListComp elt [⟨tg, iter, ifs, 0⟩] scope pos) spos) (fSet i (fComp fi g t fe vs)) := PS.weak (ds_setLc hc hN hsw hi ok gok hv hg ht he hy hyl hs) (liftS_imp (set_imp (comp_imp w)))
theorem fts_nil : PTs X [] (liftT X.K L (pP L.x fYes)) := ⟨fun pins s σ H Q I h => dts_nil.run pins s σ H Q I (liftT_imp (fun δ P h => h) σ H Q h)⟩
theorem fts_one {c : Expr} {t : FT} (h : HT' X L c t) : PTs X [c] (liftT X.K L (pP L.x t)) := dts_one h
theorem fe_append {i : Nat} {y : Str} {px apos cpos : Pos} (ho : PE X (.Name y px) (tVar i)) (ha : HE X L e fe)
    (hbase : attributeBase (.Name y px) "append" X.env (eval (.Name y px) X.env) = eval (.Name y px) X.env := by rfl)
    (hfew : ((backTo cpos (starEach [e] X.env)).all (fun x => !x.1) && (backToKw cpos (keywordEach [] X.env)).all (fun x => x.1.isSome) && decide (([e] : List Expr).length + ([] : List Keyword).length + (if ([] : List Keyword).isEmpty then 0 else 1) < 30)) = true := by rfl)
    (hline : (apos.endLine == cpos.line) = true := by rfl) (hs : starEach [e] X.env = (false, eval e X.env) :: starEach [] X.env := by rfl) (hplain : (backTo cpos (starEach [] X.env)).any (·.1) = false := by rfl) :
    HE X L (.Call (.Attribute (.Name y px) "append" apos) [e] [] cpos) (fApp i fe) :=
  PE.weak (de_append ho ha hbase hfew hline hs hplain) (lift_imp fun δ P h => by
    unfold pP fApp at h
    split at h
    · rename_i ds0 b0 e0
      refine ⟨⟨ds0, b0, e0⟩, pP_then (show pP L.x _ δ P from h) fun r δ1 h => ?_⟩
      obtain ⟨d, δ2, e1, h⟩ := pP_use (pP_bind.mp h)
      unfold pP at h; dsimp only at h
      split at h
      · split at h
        · exact ⟨d, δ2, _, _, e1, by assumption, by assumption, h⟩
        · exact h.elim
      · exact h.elim
    · exact h.elim)
end
end DL

namespace DL
open PySem PySem.Spec L2
/-! ### defs -/
inductive FR where
  | val (r : R) | exc (c : Addr) (fs : List (Str × D)) | valM (r : R) (d : D)
abbrev FM := List R → T FR
def SO.out (o : SO) : T FR := match o with
  | .nx _ => .ret (.val (.val .non))
  | .rt r _ => .ret (.val r)
  | .err c fs _ => .ret (.exc c fs)
  | .bk _ => .fail
  | .ct _ => .fail
/-- the end of a def to which a list was lent -/
def outB (r : R) (m : Option D) : T FR := match m with
  | some d => .ret (.valM r d)
  | none => .fail
def SO.outM (o : SO) : T FR := match o with
  | .nx δ => outB (.val .non) (borOf δ)
  | .rt r δ => outB r (borOf δ)
  | .err c fs _ => .ret (.exc c fs)
  | .bk _ => .fail
  | .ct _ => .fail
def startK : Nat → List R → List R
  | 0, _ => []
  | n + 1, [] => .no :: startK n []
  | n + 1, r :: rs => r :: startK n rs
theorem startK_nil : ∀ n : Nat, startK n [] = List.replicate n .no
  | 0 => rfl
  | n + 1 => by simp only [startK, List.replicate_succ]; rw [startK_nil n]
theorem startK_eq : ∀ (n : Nat) (rs : List R), rs.length ≤ n → startK n rs = rs ++ List.replicate (n - rs.length) .no
  | 0, [], _ => rfl
  | 0, _ :: _, h => by simp at h
  | n + 1, [], _ => by rw [startK_nil]; simp
  | n + 1, r :: rs, h => by
    simp only [startK, List.cons_append, List.length_cons]
    rw [startK_eq n rs (by simpa using h), Nat.add_sub_add_right]
def mk (n : Nat) (fs : FS) : FM := fun rs => (fs (startK n rs)).bind SO.out
def mkM (n : Nat) (fs : FS) : FM := fun rs => (fs (startK n rs)).bind SO.outM
def FR.holds (P : R → Option D → Prop) (Xc : Addr → List (Str × D) → Prop) : FR → Prop
  | .val r => P r none
  | .valM r d => P r (some d)
  | .exc c fs => Xc c fs
def spM (n : Nat) (m : FM) : DSp := fun rs P Xc => rs.length = n ∧ (m rs).all (FR.holds P Xc)
def spM0 (n : Nat) (m : FM) : DSp := fun rs P _ => rs.length = n ∧ (m rs).all (FR.holds P fun _ _ => False)
/-- a call, nothing is raised -/
def fCall (m : FM) (fa : FA) : FE := fa.bind fun rs => (useAllF rs).bind fun rs' => fun δ => (m rs').bind fun o => match o with
  | .val r => .ret (.ok r δ)
  | _ => .fail
/-- slot i is lent -/
def useBF (i : Nat) (rs : List R) : FA := fun δ => match useB i rs δ with
  | some (rs', δ') => .ret (.ok rs' δ')
  | none => .fail
def backB (i : Nat) (b : Bool) (δ : List R) (o : FR) : T (EO R) := match o with
  | .valM r d => .ret (.ok r (st δ i (wrAs b d)))
  | _ => .fail
def callB (m : FM) (i : Nat) (rs : List R) (w : Option (D × Bool)) (δ : List R) : T (EO R) := match w with
  | some (d, b) => (m (rs.map (lend i d))).bind (backB i b δ)
  | none => .fail
def fCallB (m : FM) (i : Nat) (fa : FA) : FE := fa.bind fun rs => (useBF i rs).bind fun rs' => fun δ => callB m i rs' (wrOf δ i) δ
/-- a new list is lent as the last argument -/
def fLast (fe : FE) : FA := fe.bind fun r => F.ret [r]
def backN (δ : List R) (o : FR) : T (EO R) := match o with
  | .valM r _ => .ret (.ok r δ)
  | .val r => .ret (.ok r δ)
  | .exc _ _ => .fail
def callN (m : FM) (w : Option (List R × D)) : FE := match w with
  | some (ri, d) => (useAllF ri).bind fun rs' => fun δ => (m (rs' ++ [.bor d])).bind (backN δ)
  | none => F.fail
def fCallN (m : FM) (fa : FA) : FE := fa.bind fun rs => callN m (lastOwn rs)
def fCallX (m : FM) (fa : FA) : FE := fa.bind fun rs => (useAllF rs).bind fun rs' => fun δ => (m rs').bind fun o => match o with
  | .val r => .ret (.ok r δ)
  | .exc c fs => .ret (.err c fs δ)
  | .valM _ _ => .fail
/-! ### forgetting -/
def SO.wipe (vs : List Nat) (o : SO) : SO := match o with
  | .nx δ => .nx (wipeD δ vs)
  | .rt r δ => .rt r δ
  | .bk δ => .bk (wipeD δ vs)
  | .ct δ => .ct (wipeD δ vs)
  | .err c fs δ => .err c fs δ
def fWipe (vs : List Nat) (f : FS) : FS := fun δ => (f δ).bind fun o => .ret (o.wipe vs)
def fiWipe (vs : List Nat) (fi : FI) : FI := fi.bind fun ds => fun δ => .ret (.ok ds (wipeD δ vs))
/-! ### raise, try -/
def fRaise (C : Addr) (f : Str) (fa : FA) : FS := eS fa fun rs => eS (useAllF rs) fun rs' => match rs' with
  | [.val d] => fun δ => .ret (.err C [(f, d)] δ)
  | _ => fun _ => .fail
def SO.suite (i : Nat) (o : SO) : T SO := match o with
  | .nx δ => .ret (.nx (st δ i .no))
  | .rt r δ => .ret (.rt r δ)
  | .bk δ => .ret (.bk (st δ i .no))
  | .ct δ => .ret (.ct (st δ i .no))
  | .err _ _ _ => .fail
def fTry (C : Addr) (i : Nat) (fb : FS) (fu : Addr → Value → Option Addr → FS) : FS := fun δ => (fb δ).bind fun o => match o with
  | .err c fs δ1 => if c = C then .any fun a d => (fu a (.ref c) (some d) (st δ1 i (.val (.exc a d fs)))).bind (SO.suite i) else .fail
  | .nx δ => .ret (.nx δ)
  | .rt r δ => .ret (.rt r δ)
  | .bk δ => .ret (.bk δ)
  | .ct δ => .ret (.ct δ)
def refOf : Value → Option Addr
  | .ref c => some c
  | _ => none
def fXf (a : Addr) (cls : Value) (d : Option Addr) (Cl : Addr) (f : Str) (fe : FE) : FE := fe.bind fun r => (peekF r).bind fun x => match x with
  | .exc a' dd fs => if a' = a ∧ refOf cls = some Cl ∧ d = some dd then (F.of (fs.lookup f)).bind fun y => F.ret (.val y) else F.fail
  | _ => F.fail
section
variable {P : Program} {w : World} {K : PySem.W.Frag} {mg : Str → Option Value} {base : Heap} {f : Addr} {fd : FuncData} {k : Nat} {x qual : Str} {sm : Stmt} {N ps : List Str} {fs : FS}
theorem mk_imp {rs : List R} {P : R → Option D → Prop} {Xc : Addr → List (Str × D) → Prop} {xx : Lx} (hl : rs.length ≤ N.length) (hx : ∀ c fs δ, Xc c fs → xx c fs δ) (h : (mk N.length fs rs).all (FR.holds P Xc)) : pS xx fs (endD P) (startD N rs) := by
  unfold mk at h
  rw [startK_eq _ _ hl] at h
  refine T.all_mono (T.all_bind.mp h) fun o ho => ?_
  cases o with
  | nx => exact .inl ho
  | rt => exact .inl ho
  | bk => exact ho
  | ct => exact ho
  | err c fs δ => exact hx _ _ _ ho
theorem outB_imp {r : R} {m : Option D} {P : R → Option D → Prop} {Xc : Addr → List (Str × D) → Prop} (h : (outB r m).all (FR.holds P Xc)) : P r none ∨ P r m := by
  cases m with
  | none => exact h.elim
  | some d => exact .inr h
theorem mkM_imp {rs : List R} {P : R → Option D → Prop} {Xc : Addr → List (Str × D) → Prop} {xx : Lx} (hl : rs.length ≤ N.length) (hx : ∀ c fs δ, Xc c fs → xx c fs δ) (h : (mkM N.length fs rs).all (FR.holds P Xc)) : pS xx fs (endD P) (startD N rs) := by
  unfold mkM at h
  rw [startK_eq _ _ hl] at h
  refine T.all_mono (T.all_bind.mp h) fun o ho => ?_
  cases o with
  | nx => exact outB_imp ho
  | rt => exact outB_imp ho
  | bk => exact ho
  | ct => exact ho
  | err c fs δ => exact hx _ _ _ ho
theorem fn_fM (F : Fun K x qual sm f fd) (Sc : FnScope N ps (defScope sm)) (hN : ps.length ≤ N.length)
    (hb : ∀ (cdv : Value) (A : Around) (outer : List Env) (s : Shared) (H : Hp) (E : XK), Room k (A.deeper (PyProof.Rows.envOfC qual (defScope sm) s.heap.objs.size f cdv)) → HSs (cxOf CX0 P w K mg base N qual (defScope sm) f cdv A outer s H E).nox L0 (defBody sm) fs) :
    FnOk P w K mg base CX0 (k + 1) f fd ps (spOf K (spM0 ps.length (mkM N.length fs))) :=
  fn_d F Sc (fun rs P Xc h => h.1) hN fun cdv A outer s H E hr => ⟨_, hb cdv A outer s H E hr, fun rs P Xc h => mkM_imp (by rw [h.1]; exact hN) (fun _ _ _ z => z.elim) h.2⟩
theorem fn_f (F : Fun K x qual sm f fd) (Sc : FnScope N ps (defScope sm)) (hN : ps.length ≤ N.length)
    (hb : ∀ (cdv : Value) (A : Around) (outer : List Env) (s : Shared) (H : Hp) (E : XK), Room k (A.deeper (PyProof.Rows.envOfC qual (defScope sm) s.heap.objs.size f cdv)) → HSs (cxOf CX0 P w K mg base N qual (defScope sm) f cdv A outer s H E).nox L0 (defBody sm) fs) :
    FnOk P w K mg base CX0 (k + 1) f fd ps (spOf K (spM0 ps.length (mk N.length fs))) :=
  fn_d F Sc (fun rs P Xc h => h.1) hN fun cdv A outer s H E hr => ⟨_, hb cdv A outer s H E hr, fun rs P Xc h => mk_imp (by rw [h.1]; exact hN) (fun _ _ _ z => z.elim) h.2⟩
theorem fn_fg (F : Fun K x qual sm f fd) (Sc : FnScope N ps (defScope sm)) (hN : ps.length ≤ N.length)
    (hb : ∀ (cdv : Value) (A : Around) (outer : List Env) (s : Shared) (H : Hp) (E : XK), Quiet A → Room k (A.deeper (PyProof.Rows.envOfC qual (defScope sm) s.heap.objs.size f cdv)) → HSs (cxOf CX0 P w K mg base N qual (defScope sm) f cdv A outer s H E).nox L0 (defBody sm) fs) :
    FnG P w K mg base CX0 (k + 1) f fd ps (spOf K (spM0 ps.length (mk N.length fs))) :=
  fn_dg F Sc (fun rs P Xc h => h.1) hN fun cdv A outer s H E hq hr => ⟨_, hb cdv A outer s H E hq hr, fun rs P Xc h => mk_imp (by rw [h.1]; exact hN) (fun _ _ _ z => z.elim) h.2⟩
theorem fn_fx (F : Fun K x qual sm f fd) (Sc : FnScope N ps (defScope sm)) (hN : ps.length ≤ N.length)
    (hb : ∀ (cdv : Value) (A : Around) (outer : List Env) (s : Shared) (H : Hp) (E : XK) (L : Lk), Room k (A.deeper (PyProof.Rows.envOfC qual (defScope sm) s.heap.objs.size f cdv)) → Takes (cxOf (L2.CX P w) P w K mg base N qual (defScope sm) f cdv A outer s H E) L.E →
      PassesOwn (model P w) (cxOf (L2.CX P w) P w K mg base N qual (defScope sm) f cdv A outer s H E).A (cxOf (L2.CX P w) P w K mg base N qual (defScope sm) f cdv A outer s H E).env (cxOf (L2.CX P w) P w K mg base N qual (defScope sm) f cdv A outer s H E).xe →
      HSs (cxOf (L2.CX P w) P w K mg base N qual (defScope sm) f cdv A outer s H E) L (defBody sm) fs) : FnOk P w K mg base (L2.CX P w) (k + 1) f fd ps (spOf K (spM ps.length (mk N.length fs))) :=
  fn_dx F Sc (fun rs P Xc h => h.1) hN (fun xx => pS xx fs) (fun cdv A outer s H E L hr tk ps => hb cdv A outer s H E L hr tk ps) fun rs P Xc h => mk_imp (by rw [h.1]; exact hN) (fun _ _ _ z => z) h.2
theorem fn_flaw {sm st0 : Stmt} {rest : List Stmt} (F : Fun K "law" "law" sm f fd) (Sc : FnScope N ["_law_script"] (defScope sm)) (hN : 2 ≤ N.length) (hb : defBody sm = st0 :: rest)
    (h : ∀ (cdv : Value) (A : Around) (outer : List Env) (s : Shared) (H : Hp) (E : XK), Quiet A → Room k (A.deeper (PyProof.Rows.envOfC "law" (defScope sm) s.heap.objs.size f cdv)) →
      PS (cxOf CX0 P w K mg base N "law" (defScope sm) f cdv A outer s H E).nox st0 (tAsg (tCall (spBag K) [] E0 (tCons (tVar 0) tNil)) (gName 1)) ∧ HSs (cxOf CX0 P w K mg base N "law" (defScope sm) f cdv A outer s H E).nox L0 rest fs)
    (hd : (mk N.length fs [.no, .bag]).all fun o => o = .val (.val (.bl true))) : FnG P w K mg base CX0 (k + 1) f fd ["_law_script"] (spLaw K) :=
  fn_law F Sc hN hb h (by
    unfold mk at hd
    have e : startK N.length [.no, .bag] = bagStart N := by
      rw [startK_eq _ _ (by simpa using hN)]; rfl
    rw [e] at hd
    refine T.all_mono (T.all_bind.mp hd) fun o ho => ?_
    cases o with
    | nx => cases ho
    | rt r δ => cases ho; exact rfl
    | bk => exact ho
    | ct => exact ho
    | err => cases ho)
/-- no fuel -/
def m_none : FM := fun _ => .fail
theorem fn_none {CX : CXT} (S : DSp) (h : ∀ rs P Xc, ¬ S rs P Xc) : FnOk P w K mg base CX k f fd ps (spOf K S) :=
  ⟨fun vs H Q E z => by obtain ⟨_, _, _, rs, P, Xc, _, _, _, _, hs, _⟩ := z; exact (h rs P Xc hs).elim, fun A o s H args us vs Q E _ _ _ _ z => by obtain ⟨_, _, _, rs, P, Xc, _, _, _, _, hs, _⟩ := z; exact (h rs P Xc hs).elim⟩
theorem none_no {n : Nat} (rs : List R) (P : R → Option D → Prop) (Xc : Addr → List (Str × D) → Prop) : ¬ spM0 n m_none rs P Xc := fun h => h.2
theorem none_noX {n : Nat} (rs : List R) (P : R → Option D → Prop) (Xc : Addr → List (Str × D) → Prop) : ¬ spM n m_none rs P Xc := fun h => h.2
/-- drawing -/
def m_take : FM := fun rs => match rs with
  | [.bag, .val (.int n)] => .take n fun r => .ret (.val (.val (.int r)))
  | _ => .fail
theorem take_imp (rs : List R) (P : R → Option D → Prop) (Xc : Addr → List (Str × D) → Prop) (h : spM0 2 m_take rs P Xc) : takeS rs P Xc := by
  obtain ⟨_, h⟩ := h
  unfold m_take at h
  split at h
  · exact ⟨_, rfl, h.1, h.2.1, h.2.2⟩
  · exact h.elim
theorem spOf_imp {S S' : DSp} (h : ∀ rs P Xc, S' rs P Xc → S rs P Xc) (vs : List V) (H : Hp) (Q : VK) (E : XK) (q : spOf K S' vs H Q E) : spOf K S vs H Q E := by
  obtain ⟨bo, mo, G, rs, P, Xc, h1, h2, h2', h3, h4, h5⟩ := q
  exact ⟨bo, mo, G, rs, P, Xc, h1, h2, h2', h3, h _ _ _ h4, h5⟩
end
section
variable {X : Cx} {L : Lk} {k : Nat} {ps : List Str} {m : FM} {y : Str} {p pos : Pos} {e : Expr} {es : List Expr} {fa : FA} {x : Lx} {n : Nat}
theorem call_imp (δ : List R) (P : R → List R → Prop) (h : pP x (fCall m fa) δ P) (hn : ∀ rs δ1 rs' δ2, useAll rs δ1 = some (rs', δ2) → rs'.length = rs.length) (hl : ∀ Q, pP x fa δ Q → pP x fa δ fun rs δ' => rs.length = n ∧ Q rs δ') : dCall (spM0 n m) (pP x fa) δ P :=
  pP_mono (hl _ (pP_bind.mp h)) fun rs δ1 ⟨e0, h⟩ => by
    obtain ⟨rs', δ2, e1, h⟩ := pP_useAll (pP_bind.mp h)
    refine ⟨rs', δ2, e1, (hn _ _ _ _ e1).trans e0, T.all_mono (T.all_bind.mp h) fun o ho => ?_⟩
    cases o with
    | val r => exact ho
    | exc c fs => exact ho
    | valM r d => exact ho.elim
theorem callX_imp (δ : List R) (P : R → List R → Prop) (h : pP x (fCallX m fa) δ P) (hn : ∀ rs δ1 rs' δ2, useAll rs δ1 = some (rs', δ2) → rs'.length = rs.length) (hl : ∀ Q, pP x fa δ Q → pP x fa δ fun rs δ' => rs.length = n ∧ Q rs δ') : dCallX (spM n m) x (pP x fa) δ P :=
  pP_mono (hl _ (pP_bind.mp h)) fun rs δ1 ⟨e0, h⟩ => by
    obtain ⟨rs', δ2, e1, h⟩ := pP_useAll (pP_bind.mp h)
    refine ⟨rs', δ2, e1, (hn _ _ _ _ e1).trans e0, T.all_mono (T.all_bind.mp h) fun o ho => ?_⟩
    cases o with
    | val r => exact ho
    | exc c fs => exact ho
    | valM r d => exact ho.elim
theorem useAll_len : ∀ (rs δ1 rs' δ2 : List R), useAll rs δ1 = some (rs', δ2) → rs'.length = rs.length
  | [], _, _, _, e => by cases e; rfl
  | r :: rs, δ1, rs', δ2, e => by
    unfold useAll at e
    split at e
    · split at e
      · cases e
        simp only [List.length_cons]
        rw [useAll_len _ _ _ _ (by assumption)]
      · cases e
    · cases e
/-- so many arguments -/
def ArgN (fa : FA) (n : Nat) : Prop := ∀ (x : Lx) (δ : List R) Q, pP x fa δ Q → pP x fa δ fun rs δ' => rs.length = n ∧ Q rs δ'
theorem argN_nil : ArgN fNil 0 := fun x δ Q h => ⟨rfl, h⟩
theorem argN_cons {fe : FE} (h : ArgN fa n) : ArgN (fCons fe fa) (n + 1) := fun x δ Q hq => by
  refine pP_bind.mpr (pP_then hq fun r δ1 h1 => pP_bind.mpr (pP_mono (h x δ1 _ (pP_bind.mp h1)) fun rs δ2 h2 => ?_))
  exact ⟨by simp [h2.1], h2.2⟩
theorem fe_fc (F : Fc X.prog X.w X.K X.mg X.base k y ps (spM0 n m)) (hr : Room k X.A) (hg : Gl X y) (ha : HA X L (e :: es) fa) (hl : ArgN fa n) (hdb : (y == ("__debug__" : Str)) = false := by decide)
    (he : starEach (e :: es) X.env = (false, eval e X.env) :: starEach es X.env := by rfl) (hpl : (backTo pos (starEach es X.env)).any (·.1) = false := by rfl) : HE X L (.Call (.Name y p) (e :: es) [] pos) (fCall m fa) :=
  PE.weak (de_fc F hr hg ha hdb he hpl) (lift_imp fun δ P h => call_imp δ P h useAll_len (hl _ δ))
theorem callB_imp {i : Nat} (δ : List R) (P : R → List R → Prop) (h : pP x (fCallB m i fa) δ P) (hl : ∀ Q, pP x fa δ Q → pP x fa δ fun rs δ' => rs.length = n ∧ Q rs δ') : dCallB (spM0 n m) i (pP x fa) δ P :=
  pP_mono (hl _ (pP_bind.mp h)) fun rs δ1 ⟨e0, h⟩ => by
    have h := pP_bind.mp h
    unfold pP useBF at h
    split at h
    · rename_i rs' δ2 e1
      have h : (callB m i rs' (wrOf δ2 i) δ2).all (EO.holds x P) := h
      cases q : wrOf δ2 i with
      | none => rw [q] at h; exact h.elim
      | some db =>
        obtain ⟨d, b⟩ := db
        rw [q] at h
        refine ⟨rs', δ2, d, b, e1, q, by rw [List.length_map]; exact (useB_len _ _ _ _ e1).trans e0, T.all_mono (T.all_bind.mp h) fun o ho => ?_⟩
        cases o with
        | val r => exact ho.elim
        | exc c fs => exact ho.elim
        | valM r d' => exact ⟨d', rfl, ho⟩
    · exact h.elim
theorem fe_fcB {i : Nat} (F : Fc X.prog X.w X.K X.mg X.base k y ps (spM0 n m)) (hr : Room k X.A) (hg : Gl X y) (ha : HA X L (e :: es) fa) (hl : ArgN fa n) (hdb : (y == ("__debug__" : Str)) = false := by decide)
    (he : starEach (e :: es) X.env = (false, eval e X.env) :: starEach es X.env := by rfl) (hpl : (backTo pos (starEach es X.env)).any (·.1) = false := by rfl) : HE X L (.Call (.Name y p) (e :: es) [] pos) (fCallB m i fa) :=
  PE.weak (de_fcB F hr hg ha hdb he hpl) (lift_imp fun δ P h => callB_imp δ P h (hl _ δ))
abbrev HAL (X : Cx) (L : Lk) (es : List Expr) (fa : FA) : Prop := PA X es (liftAL X.K L (pP L.x fa))
theorem liftAL_imp {K : PySem.W.Frag} {da da' : DA} (h : ∀ δ P, da' δ P → da δ P) : ∀ σ H Q, liftAL K L da' σ H Q → liftAL K L da σ H Q := fun σ H Q ⟨C, G, W, δ, P, I, lk, hd, k⟩ => ⟨C, G, W, δ, P, I, lk, h δ P hd, k⟩
theorem fal_last {fe : FE} (ha : HE X L e fe) (hs : starEach (e :: []) X.env = (false, eval e X.env) :: starEach [] X.env := by rfl) : HAL X L [e] (fLast fe) :=
  PA.weak (dal_last ha hs) (liftAL_imp fun δ P h => pP_then h fun r δ1 h => h)
theorem fal_cons {fe : FE} {fa : FA} (ha : HE X L e fe) (hr : HAL X L es fa) (hs : starEach (e :: es) X.env = (false, eval e X.env) :: starEach es X.env := by rfl) : HAL X L (e :: es) (fCons fe fa) :=
  PA.weak (dal_cons ha hr hs) (liftAL_imp fun δ P h => pP_then h fun r δ1 h => pP_then h fun rs δ2 h => h)
theorem argN_last {fe : FE} : ArgN (fLast fe) 1 := fun x δ Q hq => pP_bind.mpr (pP_then hq fun r δ1 h1 => ⟨rfl, h1⟩)
theorem lastOwn_len {rs ri : List R} {d : D} (h : lastOwn rs = some (ri, d)) : rs.length = ri.length + 1 := by rw [lastOwn_eq h]; simp
theorem callN_imp (δ : List R) (P : R → List R → Prop) (h : pP x (fCallN m fa) δ P) (hl : ∀ Q, pP x fa δ Q → pP x fa δ fun rs δ' => rs.length = n ∧ Q rs δ') : dCallN (spM0 n m) (pP x fa) δ P :=
  pP_mono (hl _ (pP_bind.mp h)) fun rs δ1 ⟨e0, h⟩ => by
    cases q : lastOwn rs with
    | none => rw [q] at h; exact h.elim
    | some p =>
      obtain ⟨ri, d⟩ := p
      rw [q] at h
      obtain ⟨rs', δ2, e1, h⟩ := pP_useAll (pP_bind.mp h)
      refine ⟨ri, d, rs', δ2, rfl, e1, ?_, T.all_mono (T.all_bind.mp h) fun o ho => ?_⟩
      · have := lastOwn_len q
        have := useAll_len _ _ _ _ e1
        simp; omega
      · cases o with
        | val r => exact ho
        | exc c fs => exact ho.elim
        | valM r d' => exact ho
theorem fe_fcN (F : Fc X.prog X.w X.K X.mg X.base k y ps (spM0 n m)) (hr : Room k X.A) (hg : Gl X y) (ha : HAL X L (e :: es) fa) (hl : ArgN fa n) (hdb : (y == ("__debug__" : Str)) = false := by decide)
    (he : starEach (e :: es) X.env = (false, eval e X.env) :: starEach es X.env := by rfl) (hpl : (backTo pos (starEach es X.env)).any (·.1) = false := by rfl) : HE X L (.Call (.Name y p) (e :: es) [] pos) (fCallN m fa) :=
  PE.weak (de_fcN F hr hg ha hdb he hpl) (lift_imp fun δ P h => callN_imp δ P h (hl _ δ))
theorem fe_fc0 (F : Fc X.prog X.w X.K X.mg X.base k y ps (spM0 0 m)) (hr : Room k X.A) (hg : Gl X y) (hdb : (y == ("__debug__" : Str)) = false := by decide) : HE X L (.Call (.Name y p) [] [] pos) (fCall m fNil) :=
  PE.weak (de_fc0 F hr hg hdb) (lift_imp fun δ P h => call_imp δ P h useAll_len (argN_nil _ δ))
theorem fe_fcG (F : FcG X.prog X.w X.K X.mg X.base k y ps (spM0 n m)) (hq : Quiet X.A) (hr : Room k X.A) (hg : Gl X y) (ha : HA X L (e :: es) fa) (hl : ArgN fa n) (hdb : (y == ("__debug__" : Str)) = false := by decide)
    (he : starEach (e :: es) X.env = (false, eval e X.env) :: starEach es X.env := by rfl) (hpl : (backTo pos (starEach es X.env)).any (·.1) = false := by rfl) : HE X L (.Call (.Name y p) (e :: es) [] pos) (fCall m fa) :=
  PE.weak (de_fcG F hq hr hg ha hdb he hpl) (lift_imp fun δ P h => call_imp δ P h useAll_len (hl _ δ))
theorem fe_fcx (F : FcX X.prog X.w X.K X.mg X.base k y ps (spM n m)) (hr : Room k X.A) (tk : Takes X L.E) (hg : Gl X y) (ha : HA X L (e :: es) fa) (hl : ArgN fa n) (hdb : (y == ("__debug__" : Str)) = false := by decide)
    (he : starEach (e :: es) X.env = (false, eval e X.env) :: starEach es X.env := by rfl) (hpl : (backTo pos (starEach es X.env)).any (·.1) = false := by rfl) : HE X L (.Call (.Name y p) (e :: es) [] pos) (fCallX m fa) :=
  PE.weak (de_fcx F hr tk hg ha hdb he hpl) (lift_imp fun δ P h => callX_imp δ P h useAll_len (hl _ δ))
/-! forgetting -/
theorem SI.wiped {K : PySem.W.Frag} {C : Ct} {σ : St} {H G : Hp} {W : Ow} {δ : List R} (I : SI K C σ H G W δ) : ∀ vs : List Nat, SI K C σ H G W (wipeD δ vs)
  | [] => I
  | v :: vs => (I.wiped vs).drop v
theorem wipe_links {K : PySem.W.Frag} {C : Ct} {G : Hp} {D : Ends} {DD : DEnds} (vs : List Nat) (k : Links K C G D DD) : Links K C G D ⟨fun δ => DD.nx (wipeD δ vs), DD.rt, fun δ => DD.bk (wipeD δ vs), fun δ => DD.ct (wipeD δ vs)⟩ :=
  ⟨fun σ' H' G' W' δ' x I h => k.nx σ' H' G' W' _ x (I.wiped vs) h, k.rt, fun σ' H' G' W' δ' x I h => k.bk σ' H' G' W' _ x (I.wiped vs) h, fun σ' H' G' W' δ' x I h => k.ct σ' H' G' W' _ x (I.wiped vs) h⟩
variable {sm : Stmt} {sms : List Stmt} {f : FS}
theorem lift_wipe {K : PySem.W.Frag} (vs : List Nat) : ∀ D σ H, liftS K L (pS L.x (fWipe vs f)) D σ H → liftS K L (pS L.x f) D σ H := fun D σ H ⟨C, G, W, δ, DD, I, lk, hd, k⟩ =>
  ⟨C, G, W, δ, _, I, lk, T.all_mono (T.all_bind.mp hd) fun o ho => by cases o <;> exact ho, wipe_links vs k⟩
theorem fs_wipe (vs : List Nat) (h : HS X L sm f) : HS X L sm (fWipe vs f) := PS.weak h (lift_wipe vs)
theorem fss_wipe (vs : List Nat) (h : HSs X L sms f) : HSs X L sms (fWipe vs f) := PSs.weak h (lift_wipe vs)
theorem fi_wipe {t i : Expr} {fi : FI} (vs : List Nat) (h : HI X L t i fi) : HI X L t i (fiWipe vs fi) := PI.weak h fun σ H Q ⟨C, G, W, δ, P, I, lk, hd, k⟩ =>
  ⟨C, G, W, δ, fun ds δ' => P ds (wipeD δ' vs), I, lk, pP_then hd fun ds δ' h => h, fun ds δ' J H' G' W' hp x I' jo => k ds _ J H' G' W' hp x (I'.wiped vs) jo⟩
/-! raise, try -/
variable {Cl : Addr} {g : Str}
theorem fs_raise {pos2 : Pos} (T : ErrC X.prog X.w X.K X.mg X.base y Cl g) (hc : X.calm = true) (hr : Room 2 X.A) (tk : Takes X L.E) (hg : Gl X y) (ha : HA X L [e] fa)
    (hdb : (y == ("__debug__" : Str)) = false := by decide) (he : starEach (e :: []) X.env = (false, eval e X.env) :: starEach [] X.env := by rfl) (hpl : (backTo pos (starEach [] X.env)).any (·.1) = false := by rfl) :
    HS X L (.Raise (some (.Call (.Name y p) [e] [] pos)) none pos2) (fRaise Cl g fa) :=
  PS.weak (ds_raise T hc hr tk hg ha hdb he hpl) (liftS_imp fun DD δ h => eS_imp h fun rs δ1 h => by
    obtain ⟨rs', δ2, e1, h⟩ := pP_useAll (eS_imp h (Q := fun rs' δ2 => ∃ d, rs' = [.val d] ∧ L.x Cl [(g, d)] δ2) fun rs' δ2 h => by
      unfold pS at h
      split at h
      · exact ⟨_, rfl, h⟩
      · exact h.elim)
    obtain ⟨d, rfl, h⟩ := h
    exact ⟨d, δ2, e1, h⟩)
theorem fs_try {i : Nat} {n : Str} {body sf : List Stmt} {b1 : Stmt} {np pos' : Pos} {hds : List ExceptHandler} {fb : FS} {fu : Addr → Value → Option Addr → FS} (hs : X.stack = X.env :: X.outer) (hf : X.env.frame = some X.env.locals) (nd : X.N.Nodup) (hi : X.N[i]? = some n) (hl : X.env.kindOf n = some .local) (hc : Names X y (.ref Cl)) (hx : PySem.W.exmOne X.K (.ref Cl) (.ref Cl) = some true)
    (hb : ∀ (L' : Lk) (pn : List (Addr × Obj)) (xe : Value → Shared → Prop), Takes (X.tr pn xe) L'.E → PassesOwn (model X.prog X.w) X.A X.env xe → HSs (X.tr pn xe) L' body fb)
    (hu : ∀ (a : Addr) (oe : Obj) (cls : Value) (d : Option Addr) (pn : List (Addr × Obj)), Zc cls d oe → (∃ vs, oe.data = .fields vs) → HSs (X.suite a ((a, oe) :: pn)) L0 (b1 :: sf) (fu a cls d)) :
    HS X L (.Try body (.ExceptHandler (some (.Name y np)) (some n) (b1 :: sf) pos' :: hds) [] [] pos) (fTry Cl i fb fu) :=
  PS.weak (ds_try (bd := fun xx => pS xx fb) (su := fun a cls d => pS L0.x (fu a cls d)) hs hf nd hi hl hc hx hb hu) (liftS_imp fun DD δ h => by
    refine T.all_mono (T.all_bind.mp h) fun o ho => ?_
    cases o with
    | nx => exact ho
    | rt => exact ho
    | bk => exact ho
    | ct => exact ho
    | err c fs δ1 =>
      by_cases hcl : c = Cl
      · have ho : (if c = Cl then T.any fun a d => (fu a (.ref c) (some d) (st δ1 i (.val (.exc a d fs)))).bind (SO.suite i) else T.fail).all _ := ho
        rw [if_pos hcl] at ho
        refine ⟨hcl, fun a d => T.all_mono (T.all_bind.mp (ho a d)) fun o ho => ?_⟩
        cases o <;> exact ho
      · have ho : (if c = Cl then T.any fun a d => (fu a (.ref c) (some d) (st δ1 i (.val (.exc a d fs)))).bind (SO.suite i) else T.fail).all _ := ho
        rw [if_neg hcl] at ho
        exact ho.elim)
theorem fe_xf {a : Addr} {oe : Obj} {cls : Value} {d : Option Addr} {pn : List (Addr × Obj)} {fe : FE} (T : XfC X.K Cl) (hno : PySem.W.findIn X.K (.ref Cl) g = some none) (hz : Zc cls d oe) (hf : ∃ vs, oe.data = .fields vs) (he : HE (X.suite a ((a, oe) :: pn)) L e fe) (hb : attributeBase e g X.env (eval e X.env) = eval e X.env := by rfl) :
    HE (X.suite a ((a, oe) :: pn)) L (.Attribute e g pos) (fXf a cls d Cl g fe) :=
  PE.weak (de_xf T hno hz hf he hb) (lift_imp fun δ P h => pP_then h fun r δ1 h => by
    obtain ⟨z, e1, h'⟩ := pP_peek (pP_bind.mp h)
    clear h
    split at h'
    · split at h'
      · rename_i hh
        obtain ⟨w, e2, h9⟩ := pP_of (pP_bind.mp h')
        obtain ⟨rfl, h2, rfl⟩ := hh
        cases cls <;> cases h2
        exact ⟨_, _, w, e1, rfl, rfl, e2, h9⟩
      · exact h'.elim
    · exact h'.elim)
end
end DL

namespace DL
open PySem PySem.Spec L2
/-! ### reckoning with readings -/
theorem ofS_inj {a b : String} : (Str.ofString a = Str.ofString b) = (a = b) := by
  apply propext
  constructor
  · intro h
    rw [Str.ofString_eq_toList, Str.ofString_eq_toList] at h
    have h := congrArg (fun s : Str => s.cps.toList) h
    simp only at h
    have inj : ∀ (xs ys : List Char), xs.map Char.toNat = ys.map Char.toNat → xs = ys := by
      intro xs
      induction xs with
      | nil => intro ys h; cases ys with
        | nil => rfl
        | cons => cases h
      | cons x xs ih => intro ys h; cases ys with
        | nil => cases h
        | cons y ys =>
          simp only [List.map_cons, List.cons.injEq] at h
          have : x = y := by
            have h1 := h.1
            have : x.val = y.val := by
              apply UInt32.toNat_inj.mp
              exact h1
            exact Char.ext this
          rw [this, ih ys h.2]
    have := inj _ _ h
    exact String.toList_inj.mp this
  · intro h; rw [h]
theorem ofS_beq {a b : String} : (Str.ofString a == Str.ofString b) = decide (a = b) := by
  by_cases h : a = b
  · subst h; simp
  · have : Str.ofString a ≠ Str.ofString b := fun e => h (ofS_inj ▸ e)
    simp [this, h]
theorem strOk_ofS (s : String) : PyData.strOk (Str.ofString s) = true := by
  unfold PyData.strOk
  rw [Str.ofString_eq_toList]
  simp only [List.all_toArray, List.all_map, List.all_eq_true]
  intro c hc
  have := c.valid
  simp only [Function.comp, decide_eq_true_eq]
  have h : c.toNat < 0x110000 := by
    rcases this with h | ⟨_, h⟩
    · have : c.val.toNat < 0xd800 := h
      show c.val.toNat < _
      omega
    · exact h
  exact h

/-! ### the rules of reckoning: each with the state it is at -/
section
variable {α β : Type} {a : α} {c : Addr} {fs : List (Str × D)} {δ : List R} {f : F α} {k : α → F β} {kS : α → FS} {d : D} {i : Nat} {fa fb fe : FE} {t u : FT} {fA : FA} {A B : FS} {r : R} {rs : List R}
theorem v_ret : F.ret a δ = .ret (.ok a δ) := (rfl)
theorem v_fail : (F.fail : F α) δ = .fail := (rfl)
theorem v_bind : F.bind f k δ = (f δ).bind fun o => o.on k := (rfl)
theorem v_on : (EO.ok a δ).on k = k a δ := (rfl)
theorem v_onE : (EO.err c fs δ : EO α).on k = .ret (.err c fs δ) := (rfl)
theorem v_go : (EO.ok a δ).go kS = kS a δ := (rfl)
theorem v_goE : (EO.err c fs δ : EO α).go kS = .ret (.err c fs δ) := (rfl)
theorem v_of : F.of (some a) δ = .ret (.ok a δ) := (rfl)
theorem v_ofN : F.of (none : Option α) δ = .fail := (rfl)
theorem v_ofI {p : Prop} [Decidable p] {x y : Option α} : F.of (if p then x else y) δ = if p then F.of x δ else F.of y δ := by split <;> rfl
/-- a slot's value, handed on; looked at -/
def useK (r : R) (i : Nat) (δ : List R) : T (EO D) := match r with
  | .val d => .ret (.ok d δ)
  | .own d => .ret (.ok d (st δ i (.val d)))
  | _ => .fail
def lookK (r : R) (δ : List R) : T (EO D) := match r with
  | .val d => .ret (.ok d δ)
  | .own d => .ret (.ok d δ)
  | .bor d => .ret (.ok d δ)
  | _ => .fail
def handK (r : R) (i : Nat) (δ : List R) : T (EO R) := match r with
  | .val d => .ret (.ok (.val d) δ)
  | .own d => .ret (.ok (.val d) (st δ i (.val d)))
  | .bag => .ret (.ok .bag δ)
  | _ => .fail
def handF (r : R) : F R := fun δ => match r with
  | .val d => .ret (.ok (.val d) δ)
  | .own d => .ret (.ok (.val d) δ)
  | .bag => .ret (.ok .bag δ)
  | .pk i => handK (gt δ i) i δ
  | _ => .fail
theorem v_useV : useF (.val d) δ = .ret (.ok d δ) := (rfl)
theorem v_useO : useF (.own d) δ = .ret (.ok d δ) := (rfl)
theorem v_useP : useF (.pk i) δ = useK (gt δ i) i δ := by
  show (match usePk (gt δ i) i δ with
    | some (.val d, δ') => T.ret (EO.ok d δ')
    | _ => .fail) = _
  cases gt δ i <;> rfl
theorem v_useKV : useK (.val d) i δ = .ret (.ok d δ) := (rfl)
theorem v_useKO : useK (.own d) i δ = .ret (.ok d (st δ i (.val d))) := (rfl)
theorem v_peekV : peekF (.val d) δ = .ret (.ok d δ) := (rfl)
theorem v_peekO : peekF (.own d) δ = .ret (.ok d δ) := (rfl)
theorem v_peekP : peekF (.pk i) δ = lookK (gt δ i) δ := by
  show (match (gt δ i).dat with
    | some d => T.ret (EO.ok d δ)
    | none => .fail) = _
  cases gt δ i <;> rfl
theorem v_lookV : lookK (.val d) δ = .ret (.ok d δ) := (rfl)
theorem v_lookB : lookK (.bor d) δ = .ret (.ok d δ) := (rfl)
theorem v_lookO : lookK (.own d) δ = .ret (.ok d δ) := (rfl)
theorem v_handV : handF (.val d) δ = .ret (.ok (.val d) δ) := (rfl)
theorem v_handO : handF (.own d) δ = .ret (.ok (.val d) δ) := (rfl)
theorem v_handB : handF .bag δ = .ret (.ok .bag δ) := (rfl)
theorem v_handP : handF (.pk i) δ = handK (gt δ i) i δ := (rfl)
theorem v_handKV : handK (.val d) i δ = .ret (.ok (.val d) δ) := (rfl)
theorem v_handKO : handK (.own d) i δ = .ret (.ok (.val d) (st δ i (.val d))) := (rfl)
theorem v_handKB : handK .bag i δ = .ret (.ok .bag δ) := (rfl)
theorem v_allN : useAllF [] δ = .ret (.ok [] δ) := (rfl)
theorem v_allC : useAllF (r :: rs) δ = (handF r δ).bind fun o => o.on fun r' => (useAllF rs).bind fun rs' => F.ret (r' :: rs') := by
  have key : ∀ (r' : R) (δ' : List R), use r δ = some (r', δ') → useAllF (r :: rs) δ = ((useAllF rs).bind fun rs' => F.ret (r' :: rs')) δ' := fun r' δ' e => by
    unfold useAllF F.bind
    simp only [useAll, e]
    cases useAll rs δ' with
    | none => rfl
    | some p => rfl
  have keyN : use r δ = none → useAllF (r :: rs) δ = .fail := fun e => by
    unfold useAllF
    simp only [useAll, e]
  cases r with
  | no => exact keyN rfl
  | bor d => exact keyN rfl
  | val d => exact key _ _ rfl
  | own d => exact key _ _ rfl
  | bag => exact key _ _ rfl
  | pk i =>
    show _ = (handK (gt δ i) i δ).bind _
    cases q : gt δ i with
    | no => exact keyN (by show usePk (gt δ i) i δ = _; rw [q]; rfl)
    | pk j => exact keyN (by show usePk (gt δ i) i δ = _; rw [q]; rfl)
    | bor j => exact keyN (by show usePk (gt δ i) i δ = _; rw [q]; rfl)
    | val d => exact key _ _ (by show usePk (gt δ i) i δ = _; rw [q]; rfl)
    | own d => exact key _ _ (by show usePk (gt δ i) i δ = _; rw [q]; rfl)
    | bag => exact key _ _ (by show usePk (gt δ i) i δ = _; rw [q]; rfl)
theorem v_lkN : peekAllF [] δ = .ret (.ok [] δ) := (rfl)
theorem v_lkC : peekAllF (r :: rs) δ = (peekF r δ).bind fun o => o.on fun d => (peekAllF rs).bind fun ds => F.ret (d :: ds) := by
  unfold peekAllF peekF F.bind
  simp only [peekAll]
  cases peek r δ with
  | none => rfl
  | some d =>
    simp only [T.bind, EO.on]
    cases peekAll rs δ <;> rfl
/-- a name -/
def varK (r : R) (i : Nat) (δ : List R) : T (EO R) := match r with
  | .no => .fail
  | _ => .ret (.ok (.pk i) δ)
theorem v_var : fVar i δ = varK (gt δ i) i δ := by
  unfold fVar varK
  cases gt δ i <;> rfl
theorem v_varV : varK (.val d) i δ = .ret (.ok (.pk i) δ) := (rfl)
theorem v_varO : varK (.own d) i δ = .ret (.ok (.pk i) δ) := (rfl)
theorem v_varM : varK (.bor d) i δ = .ret (.ok (.pk i) δ) := (rfl)
theorem v_varB : varK .bag i δ = .ret (.ok (.pk i) δ) := (rfl)
theorem v_c : fC d δ = .ret (.ok (.val d) δ) := (rfl)
theorem v_bin {g : D → D → Option R} : fBin g fa fb δ = (fa δ).bind fun o => o.on fun r1 => fb.bind fun r2 => (useF r1).bind fun d1 => (useF r2).bind fun d2 => F.of (g d1 d2) := (rfl)
theorem v_cmp {g : D → D → Option Bool} : fCmp g fa fb δ = (fa δ).bind fun o => o.on fun r1 => fb.bind fun r2 => (peekF r1).bind fun d1 => (peekF r2).bind fun d2 => (F.of (g d1 d2)).bind fun b => F.ret (.val (.bl b)) := (rfl)
theorem v_tst : fTst fe δ = (fe δ).bind fun o => o.on fun r => (peekF r).bind fun d => F.of (blOf d) := (rfl)
theorem v_bl {b : Bool} : blOf (.bl b) = some b := (rfl)
theorem v_int {n : Int} : intOf (.int n) = some n := (rfl)
theorem v_and : fAnd t u δ = (t δ).bind fun o => o.on fun c => if c = true then u else F.ret false := (rfl)
theorem v_or : fOr t u δ = (t δ).bind fun o => o.on fun c => if c = true then F.ret true else u := (rfl)
theorem v_not : fNot t δ = (t δ).bind fun o => o.on fun c => F.ret (!c) := (rfl)
theorem v_andV : fAndV fa fb δ = (fa δ).bind fun o => o.on fun r => (peekF r).bind fun d => (F.of (blOf d)).bind fun c => if c = true then fb else F.ret (.val (.bl false)) := (rfl)
theorem v_orV : fOrV fa fb δ = (fa δ).bind fun o => o.on fun r => (peekF r).bind fun d => (F.of (blOf d)).bind fun c => if c = true then F.ret (.val (.bl true)) else fb := (rfl)
theorem v_notV : fNotV fa δ = (fa δ).bind fun o => o.on fun r => (peekF r).bind fun d => (F.of (blOf d)).bind fun c => F.ret (.val (.bl (!c))) := (rfl)
theorem v_if : fIf t fa fb δ = (t δ).bind fun o => o.on fun c => if c = true then fa else fb := (rfl)
theorem v_nil : fNil δ = .ret (.ok [] δ) := (rfl)
theorem v_cons {fr : FA} : fCons fa fr δ = (fa δ).bind fun o => o.on fun r => fr.bind fun rs => F.ret (r.pub :: rs) := (rfl)
theorem v_vals : valsF rs δ = (useAllF rs δ).bind fun o => o.on fun rs' => (F.of (vals? rs')).bind fun ds => if ds.length ≤ sizeLine then F.ret ds else F.fail := (rfl)
theorem v_tup : fTup fA δ = (fA δ).bind fun o => o.on fun rs => (valsF rs).bind fun ds => F.ret (.val (.tup ds)) := (rfl)
theorem v_lst : fLst fA δ = (fA δ).bind fun o => o.on fun rs => (valsF rs).bind fun ds => F.ret (.own (.lst ds)) := (rfl)
theorem v_neg : fNeg fa δ = (fa δ).bind fun o => o.on fun r => (peekF r).bind fun d => (F.of (intOf d)).bind fun i => F.ret (.val (.int (-i))) := (rfl)
theorem v_ix : fIx fa fb δ = (fa δ).bind fun o => o.on fun r1 => fb.bind fun r2 => (peekF r1).bind fun d => (peekF r2).bind fun e => (F.of (intOf e)).bind fun i => (F.of (ixF d i)).bind fun d' => F.ret (.val d') := (rfl)
theorem v_oN : foNone δ = .ret (.ok none δ) := (rfl)
theorem v_oS : foSome fe δ = (fe δ).bind fun o => o.on fun r => (peekF r).bind fun d => (F.of (intOf d)).bind fun i => F.ret (some i) := (rfl)
theorem v_sl {fl fh : FO} : fSl fa fl fh δ = (fa δ).bind fun o => o.on fun r1 => fl.bind fun lo => fh.bind fun hi => (peekF r1).bind fun d => F.of (slF d lo hi) := (rfl)
theorem v_cb {b : List D → Option R} : fCB b fA δ = (fA δ).bind fun o => o.on fun rs => (peekAllF rs).bind fun ds => F.of (b ds) := (rfl)
theorem v_lrng : fLrng2 fa fb δ = (fa δ).bind fun o => o.on fun r1 => fb.bind fun r2 => (peekF r1).bind fun d => (peekF r2).bind fun e => (F.of (intOf d)).bind fun i => (F.of (intOf e)).bind fun j =>
  if -(2 ^ 62) ≤ i ∧ i < 2 ^ 62 ∧ -(2 ^ 62) ≤ j ∧ j < 2 ^ 62 ∧ (j - i).toNat ≤ 2 ^ 24 then F.ret (.own (.lst (rngD i (j - i).toNat))) else F.fail := rfl
def dixK (d k : D) : FE := match d, keyD k with
  | .dic kvs, some k => (F.of (valD kvs k)).bind fun d => F.ret (.val d)
  | _, _ => F.fail
theorem v_dix : fDix fa fb δ = (fa δ).bind fun o => o.on fun r1 => fb.bind fun r2 => (peekF r1).bind fun d => (peekF r2).bind fun k => dixK d k := (rfl)
theorem v_dixI {kvs : List (Key × D)} {n : Int} : dixK (.dic kvs) (.int n) δ = (F.of (valD kvs (.inl n)) δ).bind fun o => o.on fun d => F.ret (.val d) := (rfl)
theorem v_dixS {kvs : List (Key × D)} {n : Str} : dixK (.dic kvs) (.str n) δ = (F.of (valD kvs (.inr n)) δ).bind fun o => o.on fun d => F.ret (.val d) := (rfl)
/-! statements -/
theorem v_eS {f : F α} : eS f kS δ = (f δ).bind fun o => o.go kS := (rfl)
theorem v_next : fNext δ = .ret (.nx δ) := (rfl)
theorem v_break : fBreak δ = .ret (.bk δ) := (rfl)
theorem v_cont : fCont δ = .ret (.ct δ) := (rfl)
theorem v_sq : fSq A B δ = (A δ).bind fun o => o.andThen B := (rfl)
theorem v_thN : (SO.nx δ).andThen B = B δ := (rfl)
theorem v_thR : (SO.rt r δ).andThen B = .ret (.rt r δ) := (rfl)
theorem v_thB : (SO.bk δ).andThen B = .ret (.bk δ) := (rfl)
theorem v_thC : (SO.ct δ).andThen B = .ret (.ct δ) := (rfl)
theorem v_thE : (SO.err c fs δ).andThen B = .ret (.err c fs δ) := (rfl)
theorem v_expr : fExpr fe δ = (fe δ).bind fun o => o.go fun _ δ => .ret (.nx δ) := (rfl)
def retK (r : R) : T SO := match r with
  | .val d => .ret (.rt (.val d) [])
  | .own d => .ret (.rt (.own d) [])
  | .bag => .ret (.rt .bag [])
  | _ => .fail
def retF (r : R) : FS := fun δ => match r with
  | .val d => .ret (.rt (.val d) [])
  | .own d => .ret (.rt (.own d) [])
  | .bag => .ret (.rt .bag [])
  | .pk i => retK (gt δ i)
  | .no => .fail
  | .bor _ => .fail
theorem v_retS : fRet fe δ = (fe δ).bind fun o => o.go retF := by
  unfold fRet eS
  congr 1
  funext o
  cases o with
  | err => rfl
  | ok r δ =>
    cases r with
    | pk i =>
      simp only [EO.go, retR, retF]
      cases gt δ i <;> rfl
    | _ => rfl
theorem v_rV : retF (.val d) δ = .ret (.rt (.val d) []) := (rfl)
theorem v_rO : retF (.own d) δ = .ret (.rt (.own d) []) := (rfl)
theorem v_rB : retF .bag δ = .ret (.rt .bag []) := (rfl)
theorem v_rP : retF (.pk i) δ = retK (gt δ i) := (rfl)
theorem v_rKV : retK (.val d) = .ret (.rt (.val d) []) := (rfl)
theorem v_rKO : retK (.own d) = .ret (.rt (.own d) []) := (rfl)
theorem v_rKB : retK .bag = .ret (.rt .bag []) := (rfl)
def retMK (i : Nat) (r : R) (j : Nat) (δ : List R) : T SO := match r with
  | .val d => .ret (.rt (.val d) (keepAt i δ))
  | .own d => .ret (.rt (.own d) (keepAt i (st δ j .no)))
  | .bag => .ret (.rt .bag (keepAt i δ))
  | _ => .fail
def retMF (i : Nat) (r : R) : FS := fun δ => match r with
  | .val d => .ret (.rt (.val d) (keepAt i δ))
  | .own d => .ret (.rt (.own d) (keepAt i δ))
  | .bag => .ret (.rt .bag (keepAt i δ))
  | .pk j => retMK i (gt δ j) j δ
  | _ => .fail
theorem v_retM : fRetM i fe δ = (fe δ).bind fun o => o.go (retMF i) := by
  unfold fRetM eS
  congr 1
  funext o
  cases o with
  | err => rfl
  | ok r δ =>
    cases r with
    | pk j =>
      simp only [EO.go, retR, retMF]
      cases gt δ j <;> rfl
    | _ => rfl
theorem v_rmV : retMF i (.val d) δ = .ret (.rt (.val d) (keepAt i δ)) := (rfl)
theorem v_rmO : retMF i (.own d) δ = .ret (.rt (.own d) (keepAt i δ)) := (rfl)
theorem v_rmP {j : Nat} : retMF i (.pk j) δ = retMK i (gt δ j) j δ := (rfl)
theorem v_rmKV {j : Nat} : retMK i (.val d) j δ = .ret (.rt (.val d) (keepAt i δ)) := (rfl)
theorem v_rmKO {j : Nat} : retMK i (.own d) j δ = .ret (.rt (.own d) (keepAt i (st δ j .no))) := (rfl)
theorem v_retNM : fRetNM i δ = .ret (.rt (.val .non) (keepAt i δ)) := (rfl)
theorem v_retN : fRetN δ = .ret (.rt (.val .non) []) := (rfl)
theorem v_ifS : fIfS t A B δ = (t δ).bind fun o => o.go fun c => if c = true then A else B := (rfl)
def setK (r : R) (i j : Nat) (δ : List R) : T SO := match r with
  | .val d => .ret (.nx (st δ i (.val d)))
  | .own d => .ret (.nx (st (st δ j (.val d)) i (.val d)))
  | .bag => .ret (.nx (st δ i .bag))
  | _ => .fail
def setF (i : Nat) (r : R) : FS := fun δ => match r with
  | .val d => .ret (.nx (st δ i (.val d)))
  | .own d => .ret (.nx (st δ i (.own d)))
  | .bag => .ret (.nx (st δ i .bag))
  | .pk j => setK (gt δ j) i j δ
  | _ => .fail
theorem v_set : fSet i fe δ = (fe δ).bind fun o => o.go (setF i) := by
  unfold fSet eS
  congr 1
  funext o
  cases o with
  | err => rfl
  | ok r δ =>
    cases r with
    | pk j =>
      simp only [EO.go, asR, use, setF]
      cases gt δ j <;> rfl
    | _ => rfl
theorem v_sV : setF i (.val d) δ = .ret (.nx (st δ i (.val d))) := (rfl)
theorem v_sO : setF i (.own d) δ = .ret (.nx (st δ i (.own d))) := (rfl)
theorem v_sB : setF i .bag δ = .ret (.nx (st δ i .bag)) := (rfl)
theorem v_sP {j : Nat} : setF i (.pk j) δ = setK (gt δ j) i j δ := (rfl)
theorem v_sKV {j : Nat} : setK (.val d) i j δ = .ret (.nx (st δ i (.val d))) := (rfl)
theorem v_sKO {j : Nat} : setK (.own d) i j δ = .ret (.nx (st (st δ j (.val d)) i (.val d))) := (rfl)
theorem v_sKB {j : Nat} : setK .bag i j δ = .ret (.nx (st δ i .bag)) := (rfl)
def optS (o : Option (List R)) : T SO := match o with
  | some δ => .ret (.nx δ)
  | none => .fail
theorem v_asg {g : FG} : fAsg fe g δ = (fe δ).bind fun o => o.go fun r => eS (useF r) fun d δ => optS (g d δ) := (rfl)
theorem v_optS : optS (some δ) = .ret (.nx δ) := (rfl)
theorem v_gN : fgN i d δ = some (st δ i (.val d)) := (rfl)
theorem v_gT {n : Nat} {u : FGs} {ds : List D} : fgT n u (.tup ds) δ = if ds.length = n then u ds δ else none := (rfl)
theorem v_gC {g : FG} {u : FGs} {ds : List D} : fgCons g u (d :: ds) δ = (g d δ).bind fun δ' => u ds δ' := (rfl)
theorem v_gNil : fgNil [] δ = some δ := (rfl)
/-! loops -/
def turnK (o : Option (List R)) (b : FS) (k : FS) : T SO := match o with
  | some δ => (b δ).bind fun o => o.turn k
  | none => .fail
theorem v_loopN {g : FG} {b : FS} : fLoop g b [] δ = .ret (.nx δ) := (rfl)
theorem v_loopC {g : FG} {b : FS} {ds : List D} : fLoop g b (d :: ds) δ = turnK (g d δ) b (fLoop g b ds) := (rfl)
theorem v_turnK {b k : FS} : turnK (some δ) b k = (b δ).bind fun o => o.turn k := (rfl)
theorem v_tuN {k : FS} : (SO.nx δ).turn k = k δ := (rfl)
theorem v_tuC {k : FS} : (SO.ct δ).turn k = k δ := (rfl)
theorem v_tuB {k : FS} : (SO.bk δ).turn k = .ret (.nx δ) := (rfl)
theorem v_tuR {k : FS} : (SO.rt r δ).turn k = .ret (.rt r δ) := (rfl)
theorem v_tuE {k : FS} : (SO.err c fs δ).turn k = .ret (.err c fs δ) := (rfl)
theorem v_for {fi : FI} {g : FG} {b : FS} : fFor fi g b δ = (fi δ).bind fun o => o.go fun ds => fLoop g b ds := (rfl)
theorem v_iW {vs : List Nat} {fi : FI} : fiWipe vs fi δ = (fi δ).bind fun o => o.on fun ds δ => .ret (.ok ds (wipeD δ vs)) := (rfl)
theorem v_wipe {vs : List Nat} {f : FS} : fWipe vs f δ = (f δ).bind fun o => .ret (o.wipe vs) := (rfl)
theorem v_wN {vs : List Nat} : (SO.nx δ).wipe vs = .nx (wipeD δ vs) := (rfl)
theorem v_wR {vs : List Nat} : (SO.rt r δ).wipe vs = .rt r δ := (rfl)
theorem v_wB {vs : List Nat} : (SO.bk δ).wipe vs = .bk (wipeD δ vs) := (rfl)
theorem v_wC {vs : List Nat} : (SO.ct δ).wipe vs = .ct (wipeD δ vs) := (rfl)
theorem v_wE {vs : List Nat} : (SO.err c fs δ).wipe vs = .err c fs δ := (rfl)
theorem v_iS : fiSeq fe δ = (fe δ).bind fun o => o.on fun r => (useF r).bind fun d => F.of d.items := (rfl)
def rng1K (ds : List D) : FI := match ds with
  | [.int j] => if -(2 ^ 62) ≤ j ∧ j < 2 ^ 62 then F.ret (rngD 0 j.toNat) else F.fail
  | _ => F.fail
def rng2K (ds : List D) : FI := match ds with
  | [.int i, .int j] => if -(2 ^ 62) ≤ i ∧ i < 2 ^ 62 ∧ -(2 ^ 62) ≤ j ∧ j < 2 ^ 62 then F.ret (rngD i (j - i).toNat) else F.fail
  | _ => F.fail
theorem v_r1 : fiRng1 fA δ = (fA δ).bind fun o => o.on fun rs => (peekAllF rs).bind rng1K := (rfl)
theorem v_r2 : fiRng2 fA δ = (fA δ).bind fun o => o.on fun rs => (peekAllF rs).bind rng2K := (rfl)
theorem v_r1K {j : Int} : rng1K [.int j] δ = (if -(2 ^ 62) ≤ j ∧ j < 2 ^ 62 then F.ret (rngD 0 j.toNat) else F.fail) δ := (rfl)
theorem v_r2K {i j : Int} : rng2K [.int i, .int j] δ = (if -(2 ^ 62) ≤ i ∧ i < 2 ^ 62 ∧ -(2 ^ 62) ≤ j ∧ j < 2 ^ 62 then F.ret (rngD i (j - i).toNat) else F.fail) δ := (rfl)
def enumK (rs : List R) : FI := match rs with
  | [.val (.tup ds)] => F.ret (enumD 0 ds)
  | _ => F.fail
theorem v_en : fiEnum fA δ = (fA δ).bind fun o => o.on fun rs => (useAllF rs).bind enumK := (rfl)
theorem v_enK {ds : List D} : enumK [.val (.tup ds)] δ = .ret (.ok (enumD 0 ds) δ) := (rfl)
/-! comprehensions -/
def lcE (acc : List D) (vs : List Nat) (k : List D → List R → T (List D × List R)) (o : EO D) : T (List D × List R) := match o with
  | .err _ _ _ => .fail
  | .ok d' δ4 => if acc.length < sizeLine then k (acc ++ [d']) (wipeD δ4 vs) else .fail
def lcT (e : FE) (acc : List D) (vs : List Nat) (k : List D → List R → T (List D × List R)) (o : EO Bool) : T (List D × List R) := match o with
  | .err _ _ _ => .fail
  | .ok b δ2 => if b = true then (e.bind useF δ2).bind (lcE acc vs k) else k acc (wipeD δ2 vs)
def lcG (t : FT) (e : FE) (acc : List D) (vs : List Nat) (k : List D → List R → T (List D × List R)) (o : Option (List R)) : T (List D × List R) := match o with
  | none => .fail
  | some δ1 => (t δ1).bind (lcT e acc vs k)
theorem v_lcN {g : FG} {e : FE} {vs : List Nat} {acc : List D} : fLc g t e vs [] acc δ = .ret (acc, δ) := (rfl)
theorem v_lcC {g : FG} {e : FE} {vs : List Nat} {ds acc : List D} : fLc g t e vs (d :: ds) acc δ = lcG t e acc vs (fLc g t e vs ds) (g d δ) := by
  rw [fLc.eq_2]
  unfold lcG lcT lcE
  cases g d δ <;> rfl
theorem v_lcG {e : FE} {vs : List Nat} {acc : List D} {k : List D → List R → T (List D × List R)} : lcG t e acc vs k (some δ) = (t δ).bind (lcT e acc vs k) := (rfl)
theorem v_lcT {e : FE} {vs : List Nat} {acc : List D} {k : List D → List R → T (List D × List R)} {b : Bool} : lcT e acc vs k (.ok b δ) = if b = true then (e.bind useF δ).bind (lcE acc vs k) else k acc (wipeD δ vs) := (rfl)
theorem v_lcE {vs : List Nat} {acc : List D} {k : List D → List R → T (List D × List R)} : lcE acc vs k (.ok d δ) = if acc.length < sizeLine then k (acc ++ [d]) (wipeD δ vs) else .fail := (rfl)
theorem v_yes : fYes δ = .ret (.ok true δ) := (rfl)
theorem v_comp {fi : FI} {g : FG} {e : FE} {vs : List Nat} : fComp fi g t e vs δ = (fi δ).bind fun o => o.on fun ds δ1 => (fLc g t e vs ds [] (wipeD δ1 vs)).bind fun p => .ret (.ok (.own (.lst p.1)) (backD p.2 δ1 vs)) := (rfl)
def appK (i : Nat) (d : D) (w : Option (D × Bool)) (δ : List R) : T (EO R) := match w with
  | some (.lst ds, b) => if ds.length < sizeLine then .ret (.ok (.val .non) (st δ i (wrAs b (.lst (ds ++ [d]))))) else .fail
  | _ => .fail
def appF (i : Nat) (d : D) : FE := fun δ => appK i d (wrOf δ i) δ
def appG (i : Nat) (fe : FE) (w : Option (D × Bool)) (δ : List R) : T (EO R) := match w with
  | some (.lst _, _) => (fe δ).bind fun o => o.on fun r => (useF r).bind fun d => appF i d
  | _ => .fail
theorem v_app : fApp i fe δ = appG i fe (wrOf δ i) δ := (rfl)
theorem v_appG {ds : List D} {b : Bool} : appG i fe (some (.lst ds, b)) δ = (fe δ).bind fun o => o.on fun r => (useF r).bind fun d => appF i d := (rfl)
theorem v_appF : appF i d δ = appK i d (wrOf δ i) δ := (rfl)
theorem v_appK {ds : List D} {b : Bool} : appK i d (some (.lst ds, b)) δ = if ds.length < sizeLine then .ret (.ok (.val .non) (st δ i (wrAs b (.lst (ds ++ [d]))))) else .fail := (rfl)
theorem v_wrOf : wrOf δ i = wrR (gt δ i) (borOf (st δ i .no)) := (rfl)
theorem v_wrO {m : Option D} : wrR (.own d) m = some (d, false) := (rfl)
theorem v_wrB : wrR (.bor d) none = some (d, true) := (rfl)
theorem v_wrAsO : wrAs false d = .own d := (rfl)
theorem v_wrAsB : wrAs true d = .bor d := (rfl)
theorem v_bor0 : borOf [] = none := (rfl)
theorem v_bor1 : borOf (.no :: rs) = borOf rs := (rfl)
theorem v_bor2 : borOf (.val d :: rs) = borOf rs := (rfl)
theorem v_bor3 : borOf (.own d :: rs) = borOf rs := (rfl)
theorem v_bor4 : borOf (.bag :: rs) = borOf rs := (rfl)
theorem v_bor5 : borOf (.bor d :: rs) = some d := (rfl)
theorem v_kp0 {r : R} : keepAt 0 (r :: rs) = [r] := (rfl)
theorem v_kp1 {r : R} {n : Nat} : keepAt (n + 1) (r :: rs) = .no :: keepAt n rs := (rfl)
/-! defs -/
def callK (δ : List R) (o : FR) : T (EO R) := match o with
  | .val r => .ret (.ok r δ)
  | _ => .fail
def callXK (δ : List R) (o : FR) : T (EO R) := match o with
  | .val r => .ret (.ok r δ)
  | .exc c fs => .ret (.err c fs δ)
  | .valM _ _ => .fail
def callF (m : FM) (rs : List R) : FE := fun δ => (m rs).bind (callK δ)
def callXF (m : FM) (rs : List R) : FE := fun δ => (m rs).bind (callXK δ)
theorem v_call {m : FM} : fCall m fA δ = (fA δ).bind fun o => o.on fun rs => (useAllF rs).bind (callF m) := (rfl)
theorem v_callX {m : FM} : fCallX m fA δ = (fA δ).bind fun o => o.on fun rs => (useAllF rs).bind (callXF m) := (rfl)
theorem v_callF {m : FM} : callF m rs δ = (m rs).bind (callK δ) := (rfl)
theorem v_callXF {m : FM} : callXF m rs δ = (m rs).bind (callXK δ) := (rfl)
theorem v_callK : callK δ (.val r) = .ret (.ok r δ) := (rfl)
theorem v_callXK : callXK δ (.val r) = .ret (.ok r δ) := (rfl)
theorem v_callXE : callXK δ (.exc c fs) = .ret (.err c fs δ) := (rfl)
def callBF (m : FM) (i : Nat) (rs : List R) : FE := fun δ => callB m i rs (wrOf δ i) δ
theorem v_callB {m : FM} : fCallB m i fA δ = (fA δ).bind fun o => o.on fun rs => (useBF i rs).bind (callBF m i) := (rfl)
theorem v_callBF {m : FM} : callBF m i rs δ = callB m i rs (wrOf δ i) δ := (rfl)
theorem v_callBW {m : FM} {b : Bool} : callB m i rs (some (d, b)) δ = (m (rs.map (lend i d))).bind (backB i b δ) := (rfl)
theorem v_backB {b : Bool} : backB i b δ (.valM r d) = .ret (.ok r (st δ i (wrAs b d))) := (rfl)
theorem v_lendP {j : Nat} : lend i d (.pk j) = .bor d := (rfl)
theorem v_lendV {x : D} : lend i d (.val x) = .val x := (rfl)
theorem v_lendG : lend i d .bag = .bag := (rfl)
def lendF (i : Nat) (r : R) : F R := fun δ => match r with
  | .pk j => if j = i then .ret (.ok (.pk i) δ) else handK (gt δ j) j δ
  | r => handF r δ
theorem v_lfP {j : Nat} : lendF i (.pk j) δ = if j = i then .ret (.ok (.pk i) δ) else handK (gt δ j) j δ := (rfl)
theorem v_lfV : lendF i (.val d) δ = .ret (.ok (.val d) δ) := (rfl)
theorem v_lfO : lendF i (.own d) δ = .ret (.ok (.val d) δ) := (rfl)
theorem v_lfB : lendF i .bag δ = .ret (.ok .bag δ) := (rfl)
theorem v_ubN : useBF i [] δ = .ret (.ok [] δ) := (rfl)
theorem v_ubC : useBF i (r :: rs) δ = (lendF i r δ).bind fun o => o.on fun r' => (useBF i rs).bind fun rs' => F.ret (r' :: rs') := by
  have key : ∀ (r' : R) (δ' : List R), useOr i r δ = some (r', δ') → useBF i (r :: rs) δ = ((useBF i rs).bind fun rs' => F.ret (r' :: rs')) δ' := fun r' δ' e => by
    unfold useBF F.bind
    simp only [useB, e]
    cases useB i rs δ' with
    | none => rfl
    | some p => rfl
  have keyN : useOr i r δ = none → useBF i (r :: rs) δ = .fail := fun e => by
    unfold useBF
    simp only [useB, e]
  cases r with
  | no => exact keyN rfl
  | bor d => exact keyN rfl
  | val d => exact key _ _ rfl
  | own d => exact key _ _ rfl
  | bag => exact key _ _ rfl
  | pk j =>
    rw [v_lfP]
    by_cases hj : j = i
    · rw [if_pos hj]
      exact key _ _ (by simp only [useOr, if_pos hj])
    · rw [if_neg hj]
      have un : useOr i (.pk j) δ = usePk (gt δ j) j δ := by simp only [useOr, if_neg hj, use]
      cases q : gt δ j with
      | no => exact keyN (by rw [un, q]; rfl)
      | pk j => exact keyN (by rw [un, q]; rfl)
      | bor j => exact keyN (by rw [un, q]; rfl)
      | val d => exact key _ _ (by rw [un, q]; rfl)
      | own d => exact key _ _ (by rw [un, q]; rfl)
      | bag => exact key _ _ (by rw [un, q]; rfl)
theorem v_callN {m : FM} : fCallN m fA δ = (fA δ).bind fun o => o.on fun rs => callN m (lastOwn rs) := (rfl)
def callNF (m : FM) (d : D) (rs : List R) : FE := fun δ => (m (rs ++ [.bor d])).bind (backN δ)
theorem v_callNS {m : FM} : callN m (some (rs, d)) δ = ((useAllF rs).bind (callNF m d)) δ := (rfl)
theorem v_callNF {m : FM} : callNF m d rs δ = (m (rs ++ [.bor d])).bind (backN δ) := (rfl)
theorem v_backNM : backN δ (.valM r d) = .ret (.ok r δ) := (rfl)
theorem v_backNV : backN δ (.val r) = .ret (.ok r δ) := (rfl)
theorem v_last : fLast fe δ = (fe δ).bind fun o => o.on fun r => F.ret [r] := (rfl)
theorem v_lo1 : lastOwn [.own d] = some ([], d) := (rfl)
def lastK (r : R) (w : Option (List R × D)) : Option (List R × D) := match w with
  | some (ri, d) => some (r :: ri, d)
  | none => none
theorem v_lo2 {s : R} : lastOwn (r :: s :: rs) = lastK r (lastOwn (s :: rs)) := by cases r <;> rfl
theorem v_lo3 {ri : List R} : lastK r (some (ri, d)) = some (r :: ri, d) := (rfl)
theorem v_mkM {n : Nat} {f : FS} : mkM n f rs = (f (startK n rs)).bind SO.outM := (rfl)
theorem v_outMN : SO.outM (.nx δ) = outB (.val .non) (borOf δ) := (rfl)
theorem v_outMR : SO.outM (.rt r δ) = outB r (borOf δ) := (rfl)
theorem v_outME : SO.outM (.err c fs δ) = .ret (.exc c fs) := (rfl)
theorem v_outB : outB r (some d) = .ret (.valM r d) := (rfl)
theorem v_mk {n : Nat} {f : FS} : mk n f rs = (f (startK n rs)).bind SO.out := (rfl)
theorem v_outN : SO.out (.nx δ) = .ret (.val (.val .non)) := (rfl)
theorem v_outR : SO.out (.rt r δ) = .ret (.val r) := (rfl)
theorem v_outE : SO.out (.err c fs δ) = .ret (.exc c fs) := (rfl)
theorem v_take {n : Int} : m_take [.bag, .val (.int n)] = .take n fun r => .ret (.val (.val (.int r))) := (rfl)
/-! raise, try -/
def raiK (C : Addr) (f : Str) (rs : List R) : FS := match rs with
  | [.val d] => fun δ => .ret (.err C [(f, d)] δ)
  | _ => fun _ => .fail
theorem v_rai {C : Addr} {f : Str} : fRaise C f fA δ = (fA δ).bind fun o => o.go fun rs => eS (useAllF rs) (raiK C f) := (rfl)
theorem v_raiK {C : Addr} {f : Str} : raiK C f [.val d] δ = .ret (.err C [(f, d)] δ) := (rfl)
def tryK (C : Addr) (i : Nat) (fu : Addr → Value → Option Addr → FS) (o : SO) : T SO := match o with
  | .err c fs δ1 => if c = C then .any fun a d => (fu a (.ref c) (some d) (st δ1 i (.val (.exc a d fs)))).bind (SO.suite i) else .fail
  | .nx δ => .ret (.nx δ)
  | .rt r δ => .ret (.rt r δ)
  | .bk δ => .ret (.bk δ)
  | .ct δ => .ret (.ct δ)
variable {C : Addr} {fu : Addr → Value → Option Addr → FS}
theorem v_try : fTry C i A fu δ = (A δ).bind (tryK C i fu) := (rfl)
theorem v_tryN : tryK C i fu (.nx δ) = .ret (.nx δ) := (rfl)
theorem v_tryR : tryK C i fu (.rt r δ) = .ret (.rt r δ) := (rfl)
theorem v_tryB : tryK C i fu (.bk δ) = .ret (.bk δ) := (rfl)
theorem v_tryC : tryK C i fu (.ct δ) = .ret (.ct δ) := (rfl)
theorem v_tryE : tryK C i fu (.err c fs δ) = if c = C then .any fun a d => (fu a (.ref c) (some d) (st δ i (.val (.exc a d fs)))).bind (SO.suite i) else .fail := (rfl)
theorem v_suN : SO.suite i (.nx δ) = .ret (.nx (st δ i .no)) := (rfl)
theorem v_suR : SO.suite i (.rt r δ) = .ret (.rt r δ) := (rfl)
theorem v_suB : SO.suite i (.bk δ) = .ret (.bk (st δ i .no)) := (rfl)
theorem v_suC : SO.suite i (.ct δ) = .ret (.ct (st δ i .no)) := (rfl)
def xfK (a : Addr) (cls : Value) (d : Option Addr) (Cl : Addr) (f : Str) (x : D) : FE := match x with
  | .exc a' dd fs => if a' = a ∧ refOf cls = some Cl ∧ d = some dd then (F.of (fs.lookup f)).bind fun y => F.ret (.val y) else F.fail
  | _ => F.fail
theorem v_xf {a : Addr} {cls : Value} {dd : Option Addr} {Cl : Addr} {f : Str} : fXf a cls dd Cl f fe δ = (fe δ).bind fun o => o.on fun r => (peekF r).bind (xfK a cls dd Cl f) := (rfl)
theorem v_xfK {a dd : Addr} {Cl : Addr} {f : Str} : xfK a (.ref Cl) (some dd) Cl f (.exc a dd fs) δ = (F.of (fs.lookup f) δ).bind fun o => o.on fun y => F.ret (.val y) := by
  show (if a = a ∧ refOf (Value.ref Cl) = some Cl ∧ some dd = some dd then _ else _ : FE) δ = _
  rw [if_pos ⟨rfl, rfl, rfl⟩]; rfl
theorem ite_ap {p : Prop} [Decidable p] {x y : α → β} {z : α} : (if p then x else y) z = if p then x z else y z := by split <;> rfl

variable {n m : Int} {xs ys : List D} {x y : Str} {lo hi : Option Int} {kvs : List (Key × D)} {k' : Bool}
theorem v_pubO : (R.own d).pub = .val d := (rfl)
theorem v_pubV : (R.val d).pub = .val d := (rfl)
theorem v_pubB : R.bag.pub = .bag := (rfl)
theorem v_pubP : (R.pk i).pub = .pk i := (rfl)
theorem v_ixL : ixF (.lst xs) n = atI xs n := (rfl)
theorem v_ixT : ixF (.tup xs) n = atI xs n := (rfl)
theorem v_ixS : ixF (.str x) n = if x.length ≤ sizeLine then (atI x.cps.toList n).map fun c => .str ⟨#[c]⟩ else none := (rfl)
theorem v_slL : slF (.lst xs) lo hi = some (.own (.lst (cut xs lo hi))) := (rfl)
theorem v_slT : slF (.tup xs) lo hi = some (.val (.tup (cut xs lo hi))) := (rfl)
theorem v_slS : slF (.str x) lo hi = if x.length ≤ sizeLine then some (.val (.str (cutS x lo hi))) else none := (rfl)
theorem v_addI : gAddF (.int n) (.int m) = some (.val (.int (n + m))) := (rfl)
theorem v_addS : gAddF (.str x) (.str y) = if x.length + y.length ≤ sizeLine then some (.val (.str (x ++ y))) else none := (rfl)
theorem v_addL : gAddF (.lst xs) (.lst ys) = if xs.length + ys.length ≤ sizeLine then some (.own (.lst (xs ++ ys))) else none := (rfl)
theorem v_addT : gAddF (.tup xs) (.tup ys) = if xs.length + ys.length ≤ sizeLine then some (.val (.tup (xs ++ ys))) else none := (rfl)
theorem v_sub : gSubF (.int n) (.int m) = some (.val (.int (n - m))) := (rfl)
theorem v_mod : gModF (.int n) (.int m) = if decide (m ≠ 0) = true then some (.val (.int (n.fmod m))) else none := (rfl)
theorem v_pow : gPowF (.int n) (.int m) = if (decide (0 ≤ m) && decide (m ≤ 1000000) && decide (n.natAbs < 18446744073709551616)) = true then some (.val (.int (n ^ m.toNat))) else none := (rfl)
theorem v_shr : gShrF (.int n) (.int m) = if decide (0 ≤ m) = true then some (.val (.int (n / 2 ^ m.toNat))) else none := (rfl)
theorem v_fdiv : gFdivF (.int n) (.int m) = if (decide (m ≠ 0) && decide (m.natAbs.log2 < 9000)) = true then some (.val (.int (n.fdiv m))) else none := (rfl)
theorem v_mulI : gMulF (.int n) (.int m) = if mulB n m = true then some (.val (.int (n * m))) else none := (rfl)
theorem v_mulL : gMulF (.lst xs) (.int m) = if -(2 ^ 63) ≤ m ∧ m < 2 ^ 63 ∧ xs.length * m.toNat ≤ sizeLine then some (.own (.lst (List.replicate m.toNat xs).flatten)) else none := (rfl)
theorem v_cI {f : Int → Int → Bool} : cIF f (.int n) (.int m) = some (f n m) := (rfl)
theorem v_cIs : cIsF k' d .non = some (if k' = true then !d.isN else d.isN) := by cases d <;> rfl
theorem v_cES : cEqSF (.str x) (.str y) = some (decide (x = y)) := (rfl)
theorem v_dinI : cDinF k' (.int n) (.dic kvs) = some (if k' = true then !(valD kvs (.inl n)).isSome else (valD kvs (.inl n)).isSome) := (rfl)
theorem v_dinS : cDinF k' (.str x) (.dic kvs) = some (if k' = true then !(valD kvs (.inr x)).isSome else (valD kvs (.inr x)).isSome) := (rfl)
theorem v_lenL : bLenF [.lst xs] = some (.val (.int xs.length)) := (rfl)
theorem v_lenT : bLenF [.tup xs] = some (.val (.int xs.length)) := (rfl)
theorem v_lenS : bLenF [.str x] = if x.length ≤ sizeLine then some (.val (.int x.length)) else none := (rfl)
theorem v_intI : bIntF [.int n] = some (.val (.int n)) := (rfl)
theorem v_intB : bIntF [.bl k'] = some (.val (.int (if k' = true then 1 else 0))) := (rfl)
theorem v_abs : bAbsF [.int n] = some (.val (.int (if n < 0 then -n else n))) := (rfl)
theorem v_max2 : bMax2F [.int n, .int m] = some (.val (.int (if m > n then m else n))) := (rfl)
theorem v_min2 : bMin2F [.int n, .int m] = some (.val (.int (if m < n then m else n))) := (rfl)
theorem v_listL : bListF [.lst xs] = some (.own (.lst xs)) := (rfl)
theorem v_listT : bListF [.tup xs] = some (.own (.lst xs)) := (rfl)
theorem v_tupleL : bTupleF [.lst xs] = some (.val (.tup xs)) := (rfl)
theorem v_tupleT : bTupleF [.tup xs] = some (.val (.tup xs)) := (rfl)
theorem v_dictT {kvs : List (Key × D)} (h : pairsD xs = some kvs) : bDictF [.tup xs] = some (.own (.dic (mergeD [] kvs))) := by unfold bDictF; simp only [h]
theorem v_itN : D.isN .non = true := (rfl)
theorem v_itI : D.isN (.int n) = false := (rfl)
theorem v_itS : D.isN (.str x) = false := (rfl)
theorem v_itB : D.isN (.bl k') = false := (rfl)
theorem v_itL : D.isN (.lst xs) = false := (rfl)
theorem v_itT : D.isN (.tup xs) = false := (rfl)
theorem v_itD : D.isN (.dic kvs) = false := (rfl)
theorem v_itemsL : D.items (.lst xs) = some xs := (rfl)
theorem v_itemsT : D.items (.tup xs) = some xs := (rfl)
end
end DL

namespace DL
open PySem PySem.Spec L2
/-! ### loops -/
def SO.next (o : SO) (Iv : List R → Prop) (P : SO → Prop) : Prop := match o with
  | .nx δ => Iv δ
  | .ct δ => Iv δ
  | .bk δ => P (.nx δ)
  | .rt r δ => P (.rt r δ)
  | .err c fs δ => P (.err c fs δ)
theorem loop_inv {g : FG} {b : FS} {P : SO → Prop} (Iv : List D → List R → Prop) (step : ∀ d ds δ, Iv (d :: ds) δ → ∃ δ1, g d δ = some δ1 ∧ (b δ1).All fun o => o.next (Iv ds) P) (fin : ∀ δ, Iv [] δ → P (.nx δ)) : ∀ ds δ, Iv ds δ → (fLoop g b ds δ).All P
  | [], δ, h => by rw [v_loopN, T.All_retE]; exact fin δ h
  | d :: ds, δ, h => by
    obtain ⟨δ1, e, hb⟩ := step d ds δ h
    rw [v_loopC, e, v_turnK]
    refine T.All_of hb fun o ho => ?_
    cases o with
    | nx δ' => exact loop_inv Iv step fin ds δ' ho
    | ct δ' => exact loop_inv Iv step fin ds δ' ho
    | bk δ' => rw [v_tuB, T.All_retE]; exact ho
    | rt r δ' => rw [v_tuR, T.All_retE]; exact ho
    | err c fs δ' => rw [v_tuE, T.All_retE]; exact ho
/-- each turn leaves all as it was -/
theorem loop_same {g : FG} {b : FS} {δ0 : List R} {ds : List D} (step : ∀ d ∈ ds, ∃ δ1, g d δ0 = some δ1 ∧ (b δ1).All fun o => o = .nx δ0) : (fLoop g b ds δ0).All fun o => o = .nx δ0 :=
  loop_inv (P := fun o => o = .nx δ0) (fun r δ => δ = δ0 ∧ ∀ d ∈ r, d ∈ ds) (fun d r δ ⟨e, h⟩ => by
    subst e
    obtain ⟨δ1, e1, hb⟩ := step d (h d (List.mem_cons_self ..))
    exact ⟨δ1, e1, T.All_mono hb fun o ho => by subst ho; exact ⟨rfl, fun x hx => h x (List.mem_cons_of_mem _ hx)⟩⟩) (fun δ ⟨e, _⟩ => by rw [e]) ds δ0 ⟨rfl, fun _ h => h⟩
/-! ### comprehensions -/
theorem lc_all {g : FG} {t : FT} {e : FE} {vs : List Nat} {δ0 : List R} {P : List D × List R → Prop} (Iv : List D → List D → Prop)
    (step : ∀ d ds acc, Iv (d :: ds) acc → ∃ δ1, g d δ0 = some δ1 ∧ (t δ1).All fun o => ∃ b δ2, o = .ok b δ2 ∧ (b = true → acc.length < sizeLine ∧ (e.bind useF δ2).All fun o => ∃ d' δ4, o = .ok d' δ4 ∧ wipeD δ4 vs = δ0 ∧ Iv ds (acc ++ [d'])) ∧ (b = false → wipeD δ2 vs = δ0 ∧ Iv ds acc))
    (fin : ∀ acc, Iv [] acc → P (acc, δ0)) : ∀ ds acc, Iv ds acc → (fLc g t e vs ds acc δ0).All P
  | [], acc, h => by rw [v_lcN, T.All_retE]; exact fin acc h
  | d :: ds, acc, h => by
    obtain ⟨δ1, e1, ht⟩ := step d ds acc h
    rw [v_lcC, e1, v_lcG]
    refine T.All_of ht fun o ho => ?_
    obtain ⟨b, δ2, rfl, h1, h2⟩ := ho
    rw [v_lcT]
    cases b with
    | false =>
      obtain ⟨ew, hi⟩ := h2 rfl
      rw [if_neg (by decide), ew]
      exact lc_all Iv step fin ds acc hi
    | true =>
      obtain ⟨hl, he⟩ := h1 rfl
      rw [if_pos rfl]
      refine T.All_of he fun o ho => ?_
      obtain ⟨d', δ4, rfl, ew, hi⟩ := ho
      rw [v_lcE, if_pos hl, ew]
      exact lc_all Iv step fin ds _ hi
theorem lc_eq {g : FG} {t : FT} {e : FE} {vs : List Nat} {δ0 : List R} (f : D → Option D) : ∀ (ds acc : List D), (∀ d ∈ ds, ∀ (acc : List D) k, acc.length < sizeLine → lcG t e acc vs k (g d δ0) = match f d with
      | some d' => k (acc ++ [d']) δ0
      | none => k acc δ0) → acc.length + ds.length ≤ sizeLine → fLc g t e vs ds acc δ0 = .ret (acc ++ ds.filterMap f, δ0)
  | [], acc, h, hl => by rw [v_lcN]; simp
  | d :: ds, acc, h, hl => by
    simp only [List.length_cons] at hl
    rw [v_lcC, h d (List.mem_cons_self ..) acc _ (by omega)]
    cases q : f d with
    | none =>
      simp only [List.filterMap_cons, q]
      exact lc_eq f ds acc (fun x hx => h x (List.mem_cons_of_mem _ hx)) (by omega)
    | some d' =>
      simp only [List.filterMap_cons, q]
      rw [lc_eq f ds (acc ++ [d']) (fun x hx => h x (List.mem_cons_of_mem _ hx)) (by simp; omega)]
      simp
theorem all_take {α : Type} {n : Int} {k : Int → T α} {P : α → Prop} (h : ∀ r : Int, 0 ≤ r → r < n → (k r).All P) (n0 : 0 < n := by decide) (n1 : n < 1073741824 := by decide) : (T.take n k).All P := by
  simp only [T.All_eq] at h ⊢
  exact ⟨n0, n1, h⟩
theorem all_ret {α : Type} {a : α} {P : α → Prop} (h : P a) : (T.ret a).All P := by rw [T.All_retE]; exact h
theorem eq_ret {α : Type} {t : T α} {a : α} (h : t = .ret a) : t.All fun x => x = a := by rw [h, T.All_retE]
theorem atI_ok {α : Type} {xs : List α} {r : Int} (h0 : 0 ≤ r) (h1 : r < xs.length) : atI xs r = some (xs[r.toNat]'(by omega)) := by
  have hr : r.toNat < xs.length := by omega
  have := atI_nat (List.getElem?_eq_getElem hr)
  rwa [Int.toNat_of_nonneg h0] at this
section
variable {α : Type} {l : List α} {a0 a1 a2 a3 a4 a5 a6 a7 : α}
theorem v_at0 : atI (a0 :: l) 0 = some a0 := by
  have := atI_ok (xs := a0 :: l) (r := 0) (by decide) (by simp only [List.length_cons]; omega)
  simpa using this
theorem v_at1 : atI (a0 :: a1 :: l) 1 = some a1 := by
  have := atI_ok (xs := a0 :: a1 :: l) (r := 1) (by decide) (by simp only [List.length_cons]; omega)
  simpa using this
theorem v_at2 : atI (a0 :: a1 :: a2 :: l) 2 = some a2 := by
  have := atI_ok (xs := a0 :: a1 :: a2 :: l) (r := 2) (by decide) (by simp only [List.length_cons]; omega)
  simpa using this
theorem v_at3 : atI (a0 :: a1 :: a2 :: a3 :: l) 3 = some a3 := by
  have := atI_ok (xs := a0 :: a1 :: a2 :: a3 :: l) (r := 3) (by decide) (by simp only [List.length_cons]; omega)
  simpa using this
theorem v_at4 : atI (a0 :: a1 :: a2 :: a3 :: a4 :: l) 4 = some a4 := by
  have := atI_ok (xs := a0 :: a1 :: a2 :: a3 :: a4 :: l) (r := 4) (by decide) (by simp only [List.length_cons]; omega)
  simpa using this
theorem v_at5 : atI (a0 :: a1 :: a2 :: a3 :: a4 :: a5 :: l) 5 = some a5 := by
  have := atI_ok (xs := a0 :: a1 :: a2 :: a3 :: a4 :: a5 :: l) (r := 5) (by decide) (by simp only [List.length_cons]; omega)
  simpa using this
theorem v_at6 : atI (a0 :: a1 :: a2 :: a3 :: a4 :: a5 :: a6 :: l) 6 = some a6 := by
  have := atI_ok (xs := a0 :: a1 :: a2 :: a3 :: a4 :: a5 :: a6 :: l) (r := 6) (by decide) (by simp only [List.length_cons]; omega)
  simpa using this
theorem v_at7 : atI (a0 :: a1 :: a2 :: a3 :: a4 :: a5 :: a6 :: a7 :: l) 7 = some a7 := by
  have := atI_ok (xs := a0 :: a1 :: a2 :: a3 :: a4 :: a5 :: a6 :: a7 :: l) (r := 7) (by decide) (by simp only [List.length_cons]; omega)
  simpa using this
theorem v_atL : atI (l ++ [a0]) (-1) = some a0 := by
  unfold atI ixN
  rw [if_neg (by decide), if_pos (by simp; omega)]
  have e : (-1 + (((l ++ [a0]).length : Nat) : Int)).toNat = l.length := by simp; omega
  simp only [Option.bind_some, e]
  simp
theorem v_atM1 : atI [a0] (-1) = some a0 := v_atL (l := [])
theorem v_atM2 : atI [a0, a1] (-1) = some a1 := v_atL (l := [a0])
theorem v_atM3 : atI [a0, a1, a2] (-1) = some a2 := v_atL (l := [a0, a1])
end
theorem yes {p A B : Prop} (h : p) (k : A) : (p → A) ∧ (¬ p → B) := ⟨fun _ => k, fun z => absurd h z⟩
theorem nope {p A B : Prop} (h : ¬ p) (k : B) : (p → A) ∧ (¬ p → B) := ⟨fun z => absurd z h, fun _ => k⟩
theorem rngD_map (a : Int) (n : Nat) : rngD a n = ((List.range n).map fun (i : Nat) => a + (i : Int)).map D.int := by unfold rngD; rw [List.map_map]; rfl
theorem rngD_len (a : Int) (n : Nat) : (rngD a n).length = n := by simp [rngD]
theorem cutTo (xs : List D) (k : Nat) : cut xs none (some (k : Int)) = xs.take k := by
  unfold cut
  rw [HT.sIx_none, List.drop_zero, Nat.sub_zero, HT.sIx_nat, List.take_eq_take_iff]; omega
end DL

set_option maxHeartbeats 1000000
namespace DL
open PySem PySem.Spec L2
/-! ### the facts that the top leaves -/
section
variable {K : PySem.W.Frag} {h : Heap} {mg : Str → Option Value} {C : Addr}
def excB (K : PySem.W.Frag) (C : Addr) : Bool := match K.lookup C with
  | some ⟨.type "type", _, .cls cd, sl⟩ => (match cd.mro, sl.toList with
    | .ref C' :: bm, [_, _, _, _, some (.builtin n), _] => C' == C && n == "ValueError.__new__" && !cd.hasDel && cd.hasDict && PySem.HandSPX.refsVE bm
    | _, _ => false)
  | _ => false
theorem excB_ok (q : excB K C = true) : ∃ nm qn N bs bm sn sub ab col dd k0 k1 k2 k3 k5, K.lookup C = some (excClassObj nm qn C N bs bm true sn sub ab col dd k0 k1 k2 k3 k5 "ValueError.__new__") ∧ PySem.HandSPX.refsVE bm = true := by
  unfold excB at q
  split at q
  · rename_i dd cd sl ho
    split at q
    · rename_i C' bm k0 k1 k2 k3 n k5 hm hs
      simp only [Bool.and_eq_true, beq_iff_eq, Bool.not_eq_true'] at q
      obtain ⟨⟨⟨⟨rfl, rfl⟩, hdel⟩, hdc⟩, ht⟩ := q
      obtain ⟨nm, bs, mro, ns, qn, hd, sn, sub, ab, col, del⟩ := cd
      dsimp only at hm hdel hdc
      subst hm hdel hdc
      have hsl : sl = #[k0, k1, k2, k3, some (.builtin "ValueError.__new__"), k5] := by
        obtain ⟨l⟩ := sl
        simp only at hs
        rw [hs]
      subst hsl
      exact ⟨nm, qn, ns, bs, bm, sn, sub, ab, col, dd, k0, k1, k2, k3, k5, ho, ht⟩
    · cases q
  · cases q
/-- an own error class x with the field f -/
def errB (K : PySem.W.Frag) (x f : Str) : Bool := He.eqO (PySem.W.nsIn K mainGlobals x) (some (some (.ref (He.ga K x)))) && (excB K (He.ga K x) && (He.eqO (PySem.W.findIn K (.ref (He.ga K x)) "__setattr__") (some (some (.builtin "object.__setattr__"))) &&
  (decide (PySem.W.subIn K (.ref (He.ga K x)) (.type "BaseException") = some true) && (decide (PySem.W.typeIn K (.ref (He.ga K x)) = some (.type "type")) && (PySem.W.keepIn K (.ref (He.ga K x)) && (xfB K (He.ga K x) &&
  (He.eqO (PySem.W.findIn K (.ref (He.ga K x)) f) (some none) && (decide (PySem.W.exmOne K (.ref (He.ga K x)) (.ref (He.ga K x)) = some true) && (He.eqO (PySem.W.findIn K (.ref (He.ga K x)) "__init__") (some (some (.ref (He.ma K (He.ga K x) "__init__")))) &&
  decide (PySem.W.typeIn K (.ref (He.ma K (He.ga K x) "__init__")) = some (.type "function")))))))))))
theorem errC_of {P : Program} {w : World} {base : Heap} {x f g qual : Str} {sm : Stmt} {fd : FuncData} {ps : List Str} (X : K.In h) (G : h.Ns mainGlobals mg) (q : errB K x f = true) (F : Fun K "__init__" qual sm (He.ma K (He.ga K x) "__init__") fd) (Sc : FnScope ["self", g] ps (defScope sm)) (hl : ps.length = 2) (hbd : Binds K fd ps [])
    (hb : ∀ (cdv : Value) (A : Around) (outer : List Env) (s : Shared) (H : Hp) (E : XK), PSs (cxOf CX0 P w K mg base ["self", g] qual (defScope sm) (He.ma K (He.ga K x) "__init__") cdv A outer s H E).nox (defBody sm) (tOst K f (tVar 0) (tVar 1))) : ErrC P w K mg base x (He.ga K x) f := by
  unfold errB at q
  simp only [Bool.and_eq_true, decide_eq_true_eq] at q
  obtain ⟨q1, q2, q3, q4, q5, q6, q7, q8, q9, q10, q11⟩ := q
  exact ⟨⟨excB_ok q2, He.eqO_ok q3, q4, q5, q6⟩, xfB_ok q7, He.eqO_ok q8, PySem.W.mg_of X G (He.eqO_ok q1), q9, _, fd, ps, He.eqO_ok q10, q11, fn_init F Sc hl hb, hbd⟩
theorem fun_of {x qual : Str} {sm : Stmt} {f : Addr} {fd : FuncData} (F : FunD K x qual (defArgs sm) (defBody sm) (defScope sm) [] [] f fd) : Fun K x qual sm f fd := by
  obtain ⟨⟨oc, od, dV, kV, doc, pm, an, cdv, ct, osl, rfl, lk, hcd, hd, _⟩, kp⟩ := F
  rcases hd with ⟨_, rfl⟩ | ⟨e, _⟩
  · exact ⟨⟨oc, od, kV, doc, pm, an, cdv, ct, osl, rfl, lk, hcd⟩, kp⟩
  · exact absurd rfl e
def gloB (K : PySem.W.Frag) (x : Str) : Bool := He.eqO (PySem.W.nsIn K mainGlobals x) (some (some (.ref (He.ga K x))))
def freeB (K : PySem.W.Frag) (x : Str) : Bool := He.eqO (PySem.W.nsIn K mainGlobals x) (some none)
theorem glo_of (X : K.In h) (G : h.Ns mainGlobals mg) {x : Str} (q : gloB K x = true) : mg x = some (.ref (He.ga K x)) := PySem.W.mg_of X G (He.eqO_ok q)
theorem free_of (X : K.In h) (G : h.Ns mainGlobals mg) {x : Str} (q : freeB K x = true) : mg x = none := PySem.W.mg_none_of X G (He.eqO_ok q)
end
/-! ### the Hook -/
structure SaysE (fn : List He.DefD) (ex : List (PySem.W.Frag → Bool)) (K : PySem.W.Frag) : Prop where
  d : He.SaysD [] fn K
  x : ∀ e ∈ ex, e K = true
def obsE (n : Nat) (fn : List He.DefD) (ex : List (PySem.W.Frag → Bool)) (g : Addr → Option Obj) : He.AlD × Bool := (He.obsD [] fn (He.frG g (He.asD g n)), ex.all fun e => e (He.frG g (He.asD g n)))
def hookE (n : Nat) (fn : List He.DefD) (ex : List (PySem.W.Frag → Bool)) : PySem.W.Hook where
  α := He.AlD × Bool
  obs := fun s => obsE n fn ex s.heap.get?
  val := fun _ => (He.valD fn, true)
  says := fun _ h => ∃ K : PySem.W.Frag, K.In h ∧ SaysE fn ex K
  of := fun _ _ e => ⟨_, He.frG_in, congrArg (fun z : He.AlD × Bool => z.1) e, fun x hx => List.all_eq_true.mp (congrArg (fun z : He.AlD × Bool => z.2) e) x hx⟩
  keeps := fun _ _ _ ⟨K, hK, c⟩ k => ⟨K, PySem.W.Frag.In.keeps hK k, c⟩
theorem obsE_eq {n : Nat} {fn : List He.DefD} {ex : List (PySem.W.Frag → Bool)} {g : Addr → Option Obj} {s : Shared} (h : ∀ a, g a = s.heap.get? a) : obsE n fn ex g = (hookE n fn ex).obs s := by
  have e : g = s.heap.get? := funext h
  rw [e] <;> rfl
section
variable {fn : List He.DefD} {ex : List (PySem.W.Frag → Bool)} {K : PySem.W.Frag}
theorem SaysE.at (c : SaysE fn ex K) (i : Nat) {e : PySem.W.Frag → Bool} (h : ex[i]? = some e := by rfl) : e K = true := c.x e (List.mem_of_getElem? h)
end
/-! ### drawing, the bag: as in every law's text -/
section
variable {P : Program} {w : World} {K : PySem.W.Frag} {mg : Str → Option Value} {base : Heap}
theorem take_fc {x : Str} {f : Addr} {fd : FuncData} (F : FnOk P w K mg base CX0 1 f fd ["_law_bag_here", "_law_many"] (spOf K takeS)) (hm : mg x = some (.ref f)) (hk : PySem.W.keepIn K (.ref f) = true) (hb : Binds K fd ["_law_bag_here", "_law_many"] []) : Fc P w K mg base 1 x ["_law_bag_here", "_law_many"] (spM0 2 m_take) :=
  ⟨f, fd, F.imp (spOf_imp take_imp), hm, hk, hb⟩
end
end DL

set_option maxHeartbeats 1000000
namespace DL
open PySem PySem.Spec L2
section
variable {X : Cx} {K : PySem.W.Frag} {L : Lk} {pos : Pos} {a b e : Expr} {es : List Expr} {fa fb fe : FE} {ta tb : FT} {x : Lx} {δ : List R} {H : Hp}
/-! ### in -/
def flatD : D → Bool
  | .non => true
  | .bl _ => true
  | .int _ => true
  | .str _ => true
  | _ => false
def inD (d : D) (ds : List D) : Bool := ds.any fun z => eqD 60 z d
def ng (neg b : Bool) : Bool := if neg = true then !b else b
def cInF (neg : Bool) : D → D → Option Bool
  | d, .lst ds => if okk 60 d = true ∧ ds.all (okk 60) = true then some (ng neg (inD d ds)) else none
  | d, .tup ds => if flatD d = true ∧ ds.all flatD = true then some (ng neg (inD d ds)) else none
  | _, _ => none
theorem flat_den {v : V} {d : D} (h : Den K H v d) (f : flatD d = true) : flatV v = true := by
  cases h <;> first | rfl | (cases f; done)
theorem eqV_eqD {v w : V} {d e : D} (h1 : Den K H v d) (h2 : Den K H w e) (f1 : flatD d = true) (f2 : flatD e = true) : eqV v w = eqD 60 d e := by
  cases d with
  | non => cases h1; cases e <;> first | (cases h2; simp [eqV, eqD]; done) | (cases f2; done)
  | bl b => cases h1; cases e <;> first | (cases h2; simp [eqV, eqD]; done) | (cases f2; done)
  | int b => cases h1; cases e <;> first | (cases h2; simp [eqV, eqD]; done) | (cases f2; done)
  | str b => cases h1; cases e <;> first | (cases h2; simp [eqV, eqD]; done) | (cases f2; done)
  | _ => cases f1
theorem any_eqD {w : V} {e : D} (h2 : Den K H w e) (f2 : flatD e = true) : ∀ {vs : List V} {ds : List D}, Dens K H vs ds → ds.all flatD = true → inV w vs = inD e ds
  | vs, [], h, _ => by rw [h.nil_right]; rfl
  | vs, d :: ds, h, f => by
    obtain ⟨v, vr, rfl, h1, h3⟩ := All2.cons_right h
    rw [List.all_cons, Bool.and_eq_true] at f
    have ih := any_eqD h2 f2 h3 f.2
    unfold inV inD at ih ⊢
    rw [List.any_cons, List.any_cons, ih, eqV_eqD h1 h2 f.1 f2]
theorem all_flat : ∀ {vs : List V} {ds : List D}, Dens K H vs ds → ds.all flatD = true → vs.all flatV = true
  | vs, [], h, _ => by rw [h.nil_right]; rfl
  | vs, d :: ds, h, f => by
    obtain ⟨v, vr, rfl, h1, h3⟩ := All2.cons_right h
    rw [List.all_cons, Bool.and_eq_true] at f ⊢
    exact ⟨flat_den h1 f.1, all_flat h3 f.2⟩
theorem any_eqv {e : D} (oe : e.Ok 60) : ∀ {ds : List D}, (∀ d ∈ ds, d.Ok 60) → ((D.pys ds).any fun z => PyData.eqv z e.py) = inD e ds
  | [], _ => rfl
  | d :: ds, h => by
    have ih := any_eqv oe (ds := ds) fun z hz => h z (List.mem_cons_of_mem _ hz)
    unfold inD at ih ⊢
    show (D.py d :: D.pys ds).any _ = _
    rw [List.any_cons, List.any_cons, ih, eqv_eq (h d (List.mem_cons_self ..)) oe]
def rInA (K : PySem.W.Frag) (neg : Bool) : R2 := fun x y H Q => (if neg = true then rNotInD K x y H Q else rInD K x y H Q) ∨ rIn K neg x y H Q
theorem cs_in (neg : Bool) : CmpSem K (rInA K neg) (fun d1 d2 b => cInF neg d1 d2 = some b) := fun H x y d1 d2 r Q h1 h2 hc q => by
  have hc : cInF neg d1 d2 = some r := hc
  cases d2 with
  | lst ds =>
    have hc : (if okk 60 d1 = true ∧ ds.all (okk 60) = true then some (ng neg (inD d1 ds)) else none) = some r := hc
    split at hc
    · rename_i z
      cases hc
      have o1 := okk_ok z.1
      have o2 : ∀ d ∈ ds, D.Ok 60 d := fun d hd => okk_ok (List.all_eq_true.mp z.2 d hd)
      have ol : (D.lst ds).Ok 61 := o2
      have e := any_eqv o1 o2
      cases neg with
      | false => exact .inl ⟨d1.py, D.pys ds, h1.dp o1, h2.dp ol, Ok_shaped o1 (by decide), Ok_shaped ol (by decide), by rw [e]; exact q⟩
      | true => exact .inl ⟨d1.py, D.pys ds, h1.dp o1, h2.dp ol, Ok_shaped o1 (by decide), Ok_shaped ol (by decide), by rw [e]; exact q⟩
    · cases hc
  | tup ds =>
    have hc : (if flatD d1 = true ∧ ds.all flatD = true then some (ng neg (inD d1 ds)) else none) = some r := hc
    split at hc
    · rename_i z
      cases hc
      obtain ⟨p, vs, rfl, hs, hd⟩ := h2.of_tup
      refine .inr ⟨p, vs, rfl, .inr hs, flat_den h1 z.1, all_flat hd z.2, ?_⟩
      rw [any_eqD h1 z.1 hd z.2]
      cases neg <;> exact q
    · cases hc
  | _ => cases hc
theorem op_inA (hu : X.A.units + 65 < cLine) : OpR X (compareOp .In) (rInA X.K false) := OpR.or (op_inD hu) op_in_seq
theorem op_notInA (hu : X.A.units + 65 < cLine) : OpR X (compareOp .NotIn) (rInA X.K true) := OpR.or (op_notInD hu) op_notIn_seq
theorem units65 {A : Around} {k : Nat} (hr : Room k A) : A.units + 65 < cLine := by
  have := hr.un
  omega
theorem fe_in (hu : X.A.units + 65 < cLine) (ha : HE X L a fa) (hb : HE X L b fb) (hm : behindInMarks .In b = false := by rfl) : HE X L (.Compare a [.In] [b] pos) (fCmp (cInF false) fa fb) := fe_cmp (fun _ _ _ h => h) (op_inA hu) (cs_in false) ha hb hm
theorem fe_notin (hu : X.A.units + 65 < cLine) (ha : HE X L a fa) (hb : HE X L b fb) (hm : behindInMarks .NotIn b = false := by rfl) : HE X L (.Compare a [.NotIn] [b] pos) (fCmp (cInF true) fa fb) := fe_cmp (fun _ _ _ h => h) (op_notInA hu) (cs_in true) ha hb hm
theorem ft_in (hu : X.A.units + 65 < cLine) (ha : HE X L a fa) (hb : HE X L b fb) (hm : behindInMarks .In b = false := by rfl) : HT' X L (.Compare a [.In] [b] pos) (fTst (fCmp (cInF false) fa fb)) := ft_cmp (fun _ _ _ h => h) (op_inA hu) (cs_in false) ha hb hm
theorem ft_notin (hu : X.A.units + 65 < cLine) (ha : HE X L a fa) (hb : HE X L b fb) (hm : behindInMarks .NotIn b = false := by rfl) : HT' X L (.Compare a [.NotIn] [b] pos) (fTst (fCmp (cInF true) fa fb)) := ft_cmp (fun _ _ _ h => h) (op_notInA hu) (cs_in true) ha hb hm
/-! ### a, b = e, f -/
def putAll2 : List Nat → List R → List R → Option (List R)
  | [], [], δ => some δ
  | i :: is, r :: rs, δ => putAll2 is rs (st δ i r)
  | _, _, _ => none
def fPar (is : List Nat) (fA : FA) : FS := eS fA fun rs => eS (useAllF rs) fun rs' δ => optS (putAll2 is rs' δ)
theorem SI.stores {C : Ct} : ∀ {is : List Nat} {rs δ δ' : List R} {vs : List V} {σ : St} {G : Hp} {W : Ow}, SI K C σ H G W δ → All2 (fun v r => ROk K C σ H G W none v r ∧ r.pub = r) vs rs → (∀ r ∈ rs, r.on = true ∧ ∀ j, r ≠ .pk j) → putAll2 is rs δ = some δ' →
    ∃ W', SI K C ((is.zip vs).foldl (fun σ p => σ.set p.1 (some p.2)) σ) H G W' δ'
  | [], [], δ, δ', vs, σ, G, W, I, h, n, e => by cases e; exact ⟨W, by simpa using I⟩
  | [], _ :: _, δ, δ', vs, σ, G, W, I, h, n, e => by cases e
  | _ :: _, [], δ, δ', vs, σ, G, W, I, h, n, e => by cases e
  | i :: is, r :: rs, δ, δ', vs, σ, G, W, I, h, n, e => by
    obtain ⟨v, vr, rfl, h1, h2⟩ := All2.cons_right h
    obtain ⟨W1, I1⟩ := I.store (i := i) h1.1 (n r (List.mem_cons_self ..)).2
    have h3 : All2 (fun v r => ROk K C (σ.set i (some v)) H G W1 none v r ∧ r.pub = r) vr rs := by
      refine ⟨h2.1, fun j u q hu hq => ?_⟩
      obtain ⟨z1, z2⟩ := h2.2 j u q hu hq
      refine ⟨?_, z2⟩
      cases q with
      | no => exact trivial
      | val d => exact z1
      | bag => exact z1
      | own d => cases z2
      | bor d => exact absurd rfl z1.1
      | pk k => exact absurd rfl ((n _ (List.mem_cons_of_mem _ (List.mem_of_getElem? hq))).2 k)
    have h3 : All2 (fun w r => ROk K C (σ.set i (some v)) H G W1 none w r ∧ r.pub = r) vr rs := by
      refine ⟨h2.1, fun j u q hu hq => ?_⟩
      obtain ⟨z1, z2⟩ := h2.2 j u q hu hq
      refine ⟨?_, z2⟩
      cases q with
      | no => exact trivial
      | val d => exact z1
      | bag => exact z1
      | own d => cases z2
      | bor d => exact absurd rfl z1.1
      | pk k => exact absurd rfl ((n _ (List.mem_cons_of_mem _ (List.mem_of_getElem? hq))).2 k)
    obtain ⟨W2, I2⟩ := SI.stores I1 h3 (fun q hq => n q (List.mem_cons_of_mem _ hq)) (show putAll2 is rs (st δ i r) = some δ' from e)
    exact ⟨W2, I2⟩
theorem par_imp {is : List Nat} {fA : FA} {DD : DEnds} (h : pS x (fPar is fA) DD δ) : pP x fA δ fun rs δ1 => ∃ rs' δ2 δ3, useAll rs δ1 = some (rs', δ2) ∧ putAll2 is rs' δ2 = some δ3 ∧ DD.nx δ3 := eS_imp h fun rs δ1 h => by
  obtain ⟨rs', δ2, e1, h⟩ := pP_useAll (eS_imp h (Q := fun rs' δ2 => ∃ δ3, putAll2 is rs' δ2 = some δ3 ∧ DD.nx δ3) fun rs' δ2 h => by
    unfold pS at h; dsimp only at h
    cases q : putAll2 is rs' δ2 with
    | none => rw [q] at h; exact h.elim
    | some δ3 => rw [q] at h; exact ⟨δ3, rfl, h⟩)
  obtain ⟨δ3, e2, h⟩ := h
  exact ⟨rs', δ2, δ3, e1, e2, h⟩
theorem fs_par2 {i j : Nat} {y z : Str} {px py pt : Pos} {kt k2 pt2} {fA : FA} (hc : X.calm = true) (hN : X.N.Nodup) (hi : X.N[i]? = some y) (hj : X.N[j]? = some z) (hij : i ≠ j)
    (hx : X.env.scope.names.lookup y = some .local) (hy : X.env.scope.names.lookup z = some .local) (ha : HA X L [a, b] fA)
    (hw : swappedStores [.Tuple [.Name y px, .Name z py] kt pt] (.Tuple [a, b] k2 pt2) X.env = pure (some [y, z]) := by rfl)
    (hs : swapsWithSole [.Tuple [.Name y px, .Name z py] kt pt] (.Tuple [a, b] k2 pt2) pos.line X.env = pure false := by rfl) :
    HS X L (.Assign [.Tuple [.Name y px, .Name z py] kt pt] (.Tuple [a, b] k2 pt2) pos) (fPar [i, j] fA) :=
  PS.weak (ps_par hc hN hi hj hij hx hy ha hw hs) <| liftS_of fun C D σ H G W δ DD I lk h k => ⟨C, G, W, δ, _, I, lk, par_imp h, fun rs δ1 vs H1 G1 W1 h1 x1 I1 o1 => by
    obtain ⟨rs', δ2, δ3, e1, e2, hn⟩ := h1
    obtain ⟨G2, x2, I2, o2⟩ := I1.useAllOk o1 e1
    obtain ⟨W3, I3⟩ := SI.stores I2 o2 (useAll_on e1) e2
    match rs', e2, o2 with
    | [r1, r2], e2, o2 =>
      obtain ⟨v1, vr, rfl, _, o3⟩ := All2.cons_right o2
      obtain ⟨v2, vr, rfl, _, o4⟩ := All2.cons_right o3
      rw [o4.nil_right] at I3 ⊢
      exact ⟨v1, v2, rfl, k.nx _ H1 G2 W3 δ3 (x1.trans x2) I3 hn⟩
    | [], e2, _ => cases e2
    | [_], e2, _ => cases e2
    | _ :: _ :: _ :: _, e2, _ => cases e2⟩
theorem fs_par3 {i j l : Nat} {y z u : Str} {c : Expr} {px py pz pt : Pos} {kt k2 pt2} {fA : FA} (hc : X.calm = true) (hN : X.N.Nodup) (hi : X.N[i]? = some y) (hj : X.N[j]? = some z) (hl : X.N[l]? = some u) (hij : i ≠ j) (hil : i ≠ l) (hjl : j ≠ l)
    (hx : X.env.scope.names.lookup y = some .local) (hy : X.env.scope.names.lookup z = some .local) (hz : X.env.scope.names.lookup u = some .local) (ha : HA X L [a, b, c] fA)
    (hw : swappedStores [.Tuple [.Name y px, .Name z py, .Name u pz] kt pt] (.Tuple [a, b, c] k2 pt2) X.env = pure (some [y, z, u]) := by rfl)
    (hs : swapsWithSole [.Tuple [.Name y px, .Name z py, .Name u pz] kt pt] (.Tuple [a, b, c] k2 pt2) pos.line X.env = pure false := by rfl) :
    HS X L (.Assign [.Tuple [.Name y px, .Name z py, .Name u pz] kt pt] (.Tuple [a, b, c] k2 pt2) pos) (fPar [i, j, l] fA) :=
  PS.weak (ps_par3 hc hN hi hj hl hij hil hjl hx hy hz ha hw hs) <| liftS_of fun C D σ H G W δ DD I lk h k => ⟨C, G, W, δ, _, I, lk, par_imp h, fun rs δ1 vs H1 G1 W1 h1 x1 I1 o1 => by
    obtain ⟨rs', δ2, δ3, e1, e2, hn⟩ := h1
    obtain ⟨G2, x2, I2, o2⟩ := I1.useAllOk o1 e1
    obtain ⟨W3, I3⟩ := SI.stores I2 o2 (useAll_on e1) e2
    match rs', e2, o2 with
    | [r1, r2, r3], e2, o2 =>
      obtain ⟨v1, vr, rfl, _, o3⟩ := All2.cons_right o2
      obtain ⟨v2, vr, rfl, _, o4⟩ := All2.cons_right o3
      obtain ⟨v3, vr, rfl, _, o5⟩ := All2.cons_right o4
      rw [o5.nil_right] at I3 ⊢
      exact ⟨v1, v2, v3, rfl, k.nx _ H1 G2 W3 δ3 (x1.trans x2) I3 hn⟩
    | [], e2, _ => cases e2
    | [_], e2, _ => cases e2
    | [_, _], e2, _ => cases e2
    | _ :: _ :: _ :: _ :: _, e2, _ => cases e2⟩
end
end DL

set_option maxHeartbeats 1000000
namespace DL
open PySem PySem.Spec L2
section
variable {X : Cx} {K : PySem.W.Frag} {L : Lk} {pos : Pos} {a b e : Expr} {es : List Expr} {fa fb fe : FE} {ta tb : FT} {x : Lx} {δ : List R} {H G : Hp}
/-! ### isinstance -/
def tyName : D → Option String
  | .non => some "NoneType"
  | .bl _ => some "bool"
  | .int _ => some "int"
  | .str _ => some "str"
  | .lst _ => some "list"
  | .tup _ => some "tuple"
  | .dic _ => some "dict"
  | _ => none
def isTy (t : String) (d : D) : Option Bool := (tyName d).bind fun n => kitB n t
def isTys : List String → D → Option Bool
  | [], d => (tyName d).map fun _ => false
  | t :: ts, d => match isTy t d with
    | some true => some true
    | some false => isTys ts d
    | none => none
theorem tyX_of {v : V} {d : D} {n : String} (h : Den K H v d) (e : tyName d = some n) : TyX K H v (.type n) := by
  cases h with
  | non => cases e; exact .base .non
  | bl b => cases e; exact .base (.bl b)
  | int b => cases e; exact .base (.int b)
  | str b => cases e; exact .base (.str b)
  | ty => cases e
  | lst h l k => cases e; exact .base (.lst h)
  | tup h l k =>
    cases e
    rcases h with ⟨o, h, _⟩ | ⟨o, its, n, h1, h2, _⟩
    · exact .fTuple h
    · exact .kTuple h1 h2
  | dic h l k e' =>
    cases e
    exact .base (.dK h)
  | ins => cases e
  | exc => cases e
def fIsi (t : String) (fe : FE) : FE := fe.bind fun r => (peekF r).bind fun d => (F.of (isTy t d)).bind fun b => F.ret (.val (.bl b))
def fIsis (ts : List String) (fe : FE) : FE := fe.bind fun r => (peekF r).bind fun d => (F.of (isTys ts d)).bind fun b => F.ret (.val (.bl b))
theorem isi_imp {k : Bool → FE} {g : D → Option Bool} {r : R} {P : R → List R → Prop} {δ1 : List R} (h : pP x ((peekF r).bind fun d => (F.of (g d)).bind k) δ1 P) : ∃ d b, peek r δ1 = some d ∧ g d = some b ∧ pP x (k b) δ1 P := by
  obtain ⟨d, e1, h⟩ := pP_peek (pP_bind.mp h)
  obtain ⟨b, e2, h⟩ := pP_of (pP_bind.mp h)
  exact ⟨d, b, e1, e2, h⟩
theorem fe_isi {t : String} {y : Str} {p py : Pos} (he : HE X L e fe) (hg : Gl X "isinstance") (hm : X.mg "isinstance" = none) (hgy : Gl X y) (hmy : X.mg y = none) (hy : bootBuiltins y = some (.type t)) (hv : bootBuiltins "isinstance" = some (.builtin "isinstance")) (hny : y ≠ "__name__" := by decide) (hdy : (y == ("__debug__" : Str)) = false := by decide)
    (h1 : starEach [e, .Name y py] X.env = (false, eval e X.env) :: starEach [.Name y py] X.env := by rfl) (h2 : starEach [.Name y py] X.env = (false, eval (.Name y py) X.env) :: starEach [] X.env := by rfl) (hpl : (backTo pos (starEach [.Name y py] X.env)).any (·.1) = false := by rfl) :
    HE X L (.Call (.Name "isinstance" p) [e, .Name y py] [] pos) (fIsi t fe) :=
  PE.weak (pe_callB call_isi hg hm hv (pa_cons he (pa_cons (pe_bltn (v := .ty t) hgy hmy hy rfl hny hdy) pa_nil h2) h1) (by decide) (by decide) h1 hpl) <| lift_of fun C σ H G W δ P Q I lk h k => ⟨C, G, W, δ, _, I, lk, pP_bind.mp h, fun r δ1 v H1 G1 W1 h1 x1 I1 o1 => by
    obtain ⟨d, b, e1, e2, hp⟩ := isi_imp h1
    obtain ⟨n, e3, e4⟩ := Option.bind_eq_some_iff.mp e2
    exact ⟨v, .ty t, .type n, .type t, b, rfl, .ty t, tyX_of ((I1.peekOk o1 e1).den I1.gh) e3, kit_ty e4, k _ δ1 _ H1 G1 W1 hp x1 I1 (.bl b)⟩⟩
theorem isTys_any {d : D} {n : String} (e3 : tyName d = some n) : ∀ {ts : List String} {b : Bool}, isTys ts d = some b → PySem.W.kitAny K (.type n) (ts.map Value.type) = some b
  | [], b, e => by
    unfold isTys at e
    rw [e3] at e
    cases e; rfl
  | t :: ts, b, e => by
    unfold isTys at e
    have e4 : isTy t d = kitB n t := by unfold isTy; rw [e3]; rfl
    rw [e4] at e
    cases q : kitB n t with
    | none => rw [q] at e; cases e
    | some c =>
      rw [q] at e
      refine kitAny_cons (kit_ty q) (fun z => ?_) (fun z => ?_)
      · subst z; exact isTys_any e3 e
      · subst z; cases e; rfl
theorem paired_ty : ∀ ts : List String, Paired ClsV (ts.map V.ty) (ts.map Value.type)
  | [] => .nil
  | t :: ts => .cons (.ty t) (paired_ty ts)
/-- isinstance(e, (T1, T2, ..)) -/
theorem fe_isis {ts : List String} {ct : List Expr} {x1 : Nat} {p pt : Pos} (he : HE X L e fe) (hc : PA X ct (fun σ H Q => Q (ts.map V.ty) H)) (hl : ts.length ≤ 100) (hg : Gl X "isinstance") (hm : X.mg "isinstance" = none) (hv : bootBuiltins "isinstance" = some (.builtin "isinstance"))
    (h1 : starEach [e, .Tuple ct x1 pt] X.env = (false, eval e X.env) :: starEach [.Tuple ct x1 pt] X.env := by rfl) (h2 : starEach [.Tuple ct x1 pt] X.env = (false, eval (.Tuple ct x1 pt) X.env) :: starEach [] X.env := by rfl) (hpl : (backTo pos (starEach [.Tuple ct x1 pt] X.env)).any (·.1) = false := by rfl) :
    HE X L (.Call (.Name "isinstance" p) [e, .Tuple ct x1 pt] [] pos) (fIsis ts fe) :=
  PE.weak (pe_callB call_isiT hg hm hv (pa_cons he (pa_cons (pe_tup hc) pa_nil h2) h1) (by decide) (by decide) h1 hpl) <| lift_of fun C σ H G W δ P Q I lk h k => ⟨C, G, W, δ, _, I, lk, pP_bind.mp h, fun r δ1 v H1 G1 W1 h1 x1 I1 o1 => by
    obtain ⟨d, b, e1, e2, hp⟩ := isi_imp h1
    refine ⟨by rw [List.length_map, sizeLine_eq]; omega, fun tp ntp => ?_⟩
    have dn := ((I1.peekOk o1 e1).den I1.gh).mono (Ex.new (o := .tup (ts.map V.ty)) ntp)
    have I2 := I1.laid (o := .tup (ts.map V.ty)) ntp
    have q : ∃ n, tyName d = some n := by
      cases q : tyName d with
      | some n => exact ⟨n, rfl⟩
      | none =>
        cases ts with
        | nil => unfold isTys at e2; rw [q] at e2; cases e2
        | cons t ts => unfold isTys isTy at e2; rw [q] at e2; cases e2
    obtain ⟨n, q⟩ := q
    exact ⟨v, tp, _, .type n, _, b, rfl, upd_same, paired_ty _, tyX_of dn q, isTys_any q e2, k _ δ1 _ _ G1 W1 hp x1 I2 (.bl b)⟩⟩
/-! ### any, all, sum, max, min of a list -/
def blsOf : List D → Option (List Bool)
  | [] => some []
  | .bl b :: ds => (blsOf ds).map (b :: ·)
  | _ => none
def intsOf : List D → Option (List Int)
  | [] => some []
  | .int b :: ds => (intsOf ds).map (b :: ·)
  | _ => none
theorem bls_den : ∀ {ds : List D} {bs : List Bool} {vs : List V}, blsOf ds = some bs → Dens K G vs ds → vs = bs.map V.bl
  | [], bs, vs, e, h => by cases e; exact h.nil_right
  | d :: ds, bs, vs, e, h => by
    obtain ⟨v, vr, rfl, h1, h3⟩ := All2.cons_right h
    cases d with
    | bl b =>
      obtain ⟨cs, e1, rfl⟩ := Option.map_eq_some_iff.mp (show (blsOf ds).map (b :: ·) = some bs from e)
      rw [bls_den e1 h3, h1.of_bl]; rfl
    | _ => cases e
theorem ints_den : ∀ {ds : List D} {bs : List Int} {vs : List V}, intsOf ds = some bs → Dens K G vs ds → vs = bs.map V.int
  | [], bs, vs, e, h => by cases e; exact h.nil_right
  | d :: ds, bs, vs, e, h => by
    obtain ⟨v, vr, rfl, h1, h3⟩ := All2.cons_right h
    cases d with
    | int b =>
      obtain ⟨cs, e1, rfl⟩ := Option.map_eq_some_iff.mp (show (intsOf ds).map (b :: ·) = some bs from e)
      rw [ints_den e1 h3, h1.of_int]; rfl
    | _ => cases e
def bAnyF : List D → Option R
  | [.lst ds] => (blsOf ds).map fun bs => .val (.bl (bs.any id))
  | _ => none
def bAllF : List D → Option R
  | [.lst ds] => (blsOf ds).map fun bs => .val (.bl (bs.all id))
  | _ => none
def bSumF : List D → Option R
  | [.lst ds] => (intsOf ds).map fun ns => .val (.int ns.sum)
  | _ => none
def maxI : List Int → Int
  | [] => 0
  | [n] => n
  | n :: ns => if maxI ns > n then maxI ns else n
def minI : List Int → Int
  | [] => 0
  | [n] => n
  | n :: ns => if minI ns < n then minI ns else n
theorem maxI_max : ∀ {ns : List Int}, ns ≠ [] → maxI ns ∈ ns ∧ ∀ m ∈ ns, m ≤ maxI ns
  | [], h => absurd rfl h
  | [n], _ => ⟨by simp [maxI], by simp [maxI]⟩
  | n :: m :: ns, _ => by
    obtain ⟨h1, h2⟩ := maxI_max (ns := m :: ns) (by simp)
    unfold maxI
    split
    · exact ⟨List.mem_cons_of_mem _ h1, fun k hk => by rcases List.mem_cons.mp hk with rfl | z; omega; exact h2 k z⟩
    · exact ⟨List.mem_cons_self .., fun k hk => by rcases List.mem_cons.mp hk with rfl | z; omega; have := h2 k z; omega⟩
theorem minI_min : ∀ {ns : List Int}, ns ≠ [] → minI ns ∈ ns ∧ ∀ m ∈ ns, minI ns ≤ m
  | [], h => absurd rfl h
  | [n], _ => ⟨by simp [minI], by simp [minI]⟩
  | n :: m :: ns, _ => by
    obtain ⟨h1, h2⟩ := minI_min (ns := m :: ns) (by simp)
    unfold minI
    split
    · exact ⟨List.mem_cons_of_mem _ h1, fun k hk => by rcases List.mem_cons.mp hk with rfl | z; omega; exact h2 k z⟩
    · exact ⟨List.mem_cons_self .., fun k hk => by rcases List.mem_cons.mp hk with rfl | z; omega; have := h2 k z; omega⟩
def bMaxLF : List D → Option R
  | [.lst ds] => (intsOf ds).bind fun ns => if ns = [] then none else some (.val (.int (maxI ns)))
  | _ => none
def bMinLF : List D → Option R
  | [.lst ds] => (intsOf ds).bind fun ns => if ns = [] then none else some (.val (.int (minI ns)))
  | _ => none
/-- as CallLook asks -/
def bOf (bf : List D → Option R) : List D → (R → Prop) → Prop := fun ds P => ∃ r, bf ds = some r ∧ P r
theorem bs_of {bf : List D → Option R} : BS bf (bOf bf) := fun ds r P h hp => ⟨r, h, hp⟩
theorem one_lst {C : Ct} {σ : St} {W : Ow} {vs : List V} {ds : List D} (I : SI K C σ H G W δ) (h : All2 (Seen K G H) vs [.lst ds]) : ∃ p us, vs = [.ref p] ∧ H p = some (.lst us) ∧ Dens K G us ds := by
  obtain ⟨v, rfl, s⟩ := one_of h
  obtain ⟨p, us, rfl, hl, dn⟩ := s.lst I.gh
  exact ⟨p, us, rfl, hl, dn⟩
theorem cl_any : CallLook K (rAny K) (bOf bAnyF) := fun C σ H G W δ vs ds P Q I a hg k => by
  obtain ⟨r, e, hp⟩ := hg
  match ds, e, a with
  | [.lst xs], e, a =>
    obtain ⟨bs, e1, rfl⟩ := Option.map_eq_some_iff.mp (show (blsOf xs).map _ = some r from e)
    obtain ⟨p, us, rfl, hl, dn⟩ := one_lst I a
    have := bls_den e1 dn
    subst this
    exact ⟨p, bs, rfl, .of hl, k _ _ H G W hp (Ex.refl G) I (.bl _)⟩
theorem cl_all : CallLook K (rAll K) (bOf bAllF) := fun C σ H G W δ vs ds P Q I a hg k => by
  obtain ⟨r, e, hp⟩ := hg
  match ds, e, a with
  | [.lst xs], e, a =>
    obtain ⟨bs, e1, rfl⟩ := Option.map_eq_some_iff.mp (show (blsOf xs).map _ = some r from e)
    obtain ⟨p, us, rfl, hl, dn⟩ := one_lst I a
    have := bls_den e1 dn
    subst this
    exact ⟨p, bs, rfl, .of hl, k _ _ H G W hp (Ex.refl G) I (.bl _)⟩
theorem cl_sum : CallLook K (rSum K) (bOf bSumF) := fun C σ H G W δ vs ds P Q I a hg k => by
  obtain ⟨r, e, hp⟩ := hg
  match ds, e, a with
  | [.lst xs], e, a =>
    obtain ⟨bs, e1, rfl⟩ := Option.map_eq_some_iff.mp (show (intsOf xs).map _ = some r from e)
    obtain ⟨p, us, rfl, hl, dn⟩ := one_lst I a
    have := ints_den e1 dn
    subst this
    exact ⟨p, bs, rfl, .of hl, k _ _ H G W hp (Ex.refl G) I (.int _)⟩
theorem cl_maxL : CallLook K (rMax K) (bOf bMaxLF) := fun C σ H G W δ vs ds P Q I a hg k => by
  obtain ⟨r, e, hp⟩ := hg
  match ds, e, a with
  | [.lst xs], e, a =>
    obtain ⟨bs, e1, e2⟩ := Option.bind_eq_some_iff.mp (show (intsOf xs).bind _ = some r from e)
    split at e2
    · cases e2
    · rename_i ne
      cases e2
      obtain ⟨p, us, rfl, hl, dn⟩ := one_lst I a
      have := ints_den e1 dn
      subst this
      obtain ⟨m1, m2⟩ := maxI_max ne
      refine ⟨p, bs, rfl, .of hl, List.length_pos_iff.mpr ne, fun m hm hle => ?_⟩
      have e : m = maxI bs := by have z1 := hle _ m1; have z2 := m2 _ hm; omega
      subst e
      exact k _ _ H G W hp (Ex.refl G) I (.int _)
theorem cl_minL : CallLook K (rMin K) (bOf bMinLF) := fun C σ H G W δ vs ds P Q I a hg k => by
  obtain ⟨r, e, hp⟩ := hg
  match ds, e, a with
  | [.lst xs], e, a =>
    obtain ⟨bs, e1, e2⟩ := Option.bind_eq_some_iff.mp (show (intsOf xs).bind _ = some r from e)
    split at e2
    · cases e2
    · rename_i ne
      cases e2
      obtain ⟨p, us, rfl, hl, dn⟩ := one_lst I a
      have := ints_den e1 dn
      subst this
      obtain ⟨m1, m2⟩ := minI_min ne
      refine ⟨p, bs, rfl, .of hl, List.length_pos_iff.mpr ne, fun m hm hle => ?_⟩
      have e : m = minI bs := by have z1 := hle _ m1; have z2 := m2 _ hm; omega
      subst e
      exact k _ _ H G W hp (Ex.refl G) I (.int _)
end
end DL

set_option maxHeartbeats 1000000
namespace DL
open PySem PySem.Spec L2
section
variable {X : Cx} {K : PySem.W.Frag} {L : Lk} {pos : Pos} {a b c e ix : Expr} {es : List Expr} {fa fb fc fe fx : FE} {ta tb : FT} {fA : FA} {x : Lx} {δ : List R} {H G : Hp} {i : Nat} {y : Str} {px apos cpos : Pos}
/-! ### x.extend(e), x.insert(k, e), x one's own -/
def ownL (i : Nat) (f : F α) : F α := fun δ => match gt δ i with
  | .own (.lst _) => f δ
  | _ => .fail
theorem ownL_imp {α : Type} {f : F α} {P : α → List R → Prop} (h : pP x (ownL i f) δ P) : (∃ ds, gt δ i = .own (.lst ds)) ∧ pP x f δ P := by
  unfold pP ownL at h; (try dsimp only at h)
  split at h
  · exact ⟨⟨_, by assumption⟩, h⟩
  · exact h.elim
def lstOf : D → Option (List D)
  | .lst ds => some ds
  | _ => none
def putOwn (i : Nat) (g : List D → Option (List D)) : FE := fun δ => match gt δ i with
  | .own (.lst ds) => (match g ds with
    | some ds' => .ret (.ok (.val .non) (st δ i (.own (.lst ds'))))
    | none => .fail)
  | _ => .fail
theorem putOwn_imp {g : List D → Option (List D)} {P : R → List R → Prop} (h : pP x (putOwn i g) δ P) : ∃ ds ds', gt δ i = .own (.lst ds) ∧ g ds = some ds' ∧ P (.val .non) (st δ i (.own (.lst ds'))) := by
  unfold pP putOwn at h; (try dsimp only at h)
  split at h
  · split at h
    · exact ⟨_, _, by assumption, by assumption, h⟩
    · exact h.elim
  · exact h.elim
def extG (es ds : List D) : Option (List D) := if ds.length + es.length ≤ sizeLine then some (ds ++ es) else none
def fExt (i : Nat) (fe : FE) : FE := ownL i (fe.bind fun r => (peekF r).bind fun d => (F.of (lstOf d)).bind fun es => putOwn i (extG es))
theorem fe_extend (ho : PE X (.Name y px) (tVar i)) (ha : HE X L e fe)
    (hbase : attributeBase (.Name y px) "extend" X.env (eval (.Name y px) X.env) = eval (.Name y px) X.env := by rfl)
    (hfew : ((backTo cpos (starEach [e] X.env)).all (fun x => !x.1) && (backToKw cpos (keywordEach [] X.env)).all (fun x => x.1.isSome) && decide (([e] : List Expr).length + ([] : List Keyword).length + (if ([] : List Keyword).isEmpty then 0 else 1) < 30)) = true := by rfl)
    (hline : (apos.endLine == cpos.line) = true := by rfl) (hs : starEach [e] X.env = (false, eval e X.env) :: starEach [] X.env := by rfl) (hplain : (backTo cpos (starEach [] X.env)).any (·.1) = false := by rfl) :
    HE X L (.Call (.Attribute (.Name y px) "extend" apos) [e] [] cpos) (fExt i fe) :=
  PE.weak (pe_bm PySem.F.plainAttrs_list PySem.F.slot_list_extend PySem.F.type_list_extend mt_extend ho (pa_cons ha pa_nil hs) hbase hfew hline hs hplain) <| lift_of fun C σ H G W δ P Q I lk h k => by
    obtain ⟨⟨ds0, h0⟩, h⟩ := ownL_imp h
    obtain ⟨p, hp, vs0, ht, _⟩ := I.ownAt h0
    refine ⟨.ref p, hp, .inl ⟨rfl, vs0, .of ht⟩, C, G, W, δ, _, I, lk, pP_bind.mp h, fun r δ1 v H1 G1 W1 h1 x1 I1 o1 => ?_⟩
    obtain ⟨d, e1, h1⟩ := pP_peek (pP_bind.mp h1)
    obtain ⟨es', e2, h1⟩ := pP_of (pP_bind.mp h1)
    obtain ⟨ds, ds', e3, e4, hp'⟩ := putOwn_imp h1
    cases d with
    | lst es =>
      cases e2
      obtain ⟨q, us, rfl, hq, dn2⟩ := (I1.peekOk o1 e1).lst I1.gh
      obtain ⟨q2, hq2, vs, hv, dn⟩ := I1.ownAt e3
      rw [hp] at hq2
      have eq : p = q2 := by simpa using hq2
      subst eq
      unfold extG at e4
      split at e4
      · rename_i hl
        cases e4
        refine ⟨p, q, vs, us, rfl, rfl, hv, hq, by rw [dn.1, dn2.1]; exact hl, ?_⟩
        exact k _ _ _ _ G1 W1 hp' x1 (I1.write e3 hp ⟨_, upd_same, dn.append dn2⟩) Den.non
      · cases e4
    | _ => cases e2
def insG (k : Int) (d : D) (ds : List D) : Option (List D) := if ds.length < sizeLine ∧ 0 ≤ k ∧ k < 2 ^ 63 then some (ds.take k.toNat ++ [d] ++ ds.drop k.toNat) else none
def insK (i : Nat) (rs : List R) : FE := match rs with
  | [.val (.int k), .val d] => putOwn i (insG k d)
  | _ => F.fail
def fIns (i : Nat) (fA : FA) : FE := ownL i (fA.bind fun rs => (useAllF rs).bind (insK i))
theorem all2_ins {F : V → D → Prop} {vs : List V} {ds : List D} {v : V} {d : D} (h : All2 F vs ds) (e : F v d) (k : Nat) : All2 F (vs.take k ++ [v] ++ vs.drop k) (ds.take k ++ [d] ++ ds.drop k) := by
  have ht : All2 F (vs.take k) (ds.take k) := ⟨by simp [h.1], fun j x y hx hy => by
    rw [List.getElem?_take] at hx hy
    split at hx
    · rename_i hk; rw [if_pos hk] at hy; exact h.2 j x y hx hy
    · cases hx⟩
  have hd : All2 F (vs.drop k) (ds.drop k) := ⟨by simp [h.1], fun j x y hx hy => by
    rw [List.getElem?_drop] at hx hy; exact h.2 _ x y hx hy⟩
  exact (ht.append (.cons e .nil)).append hd
theorem fe_insert (ho : PE X (.Name y px) (tVar i)) (ha : HA X L [a, b] fA)
    (hbase : attributeBase (.Name y px) "insert" X.env (eval (.Name y px) X.env) = eval (.Name y px) X.env := by rfl)
    (hfew : ((backTo cpos (starEach [a, b] X.env)).all (fun x => !x.1) && (backToKw cpos (keywordEach [] X.env)).all (fun x => x.1.isSome) && decide (([a, b] : List Expr).length + ([] : List Keyword).length + (if ([] : List Keyword).isEmpty then 0 else 1) < 30)) = true := by rfl)
    (hline : (apos.endLine == cpos.line) = true := by rfl) (hs : starEach [a, b] X.env = (false, eval a X.env) :: starEach [b] X.env := by rfl) (hplain : (backTo cpos (starEach [b] X.env)).any (·.1) = false := by rfl) :
    HE X L (.Call (.Attribute (.Name y px) "insert" apos) [a, b] [] cpos) (fIns i fA) :=
  PE.weak (pe_bm PySem.F.plainAttrs_list PySem.F.slot_list_insert PySem.F.type_list_insert mt_insert ho ha hbase hfew hline hs hplain) <| lift_of fun C σ H G W δ P Q I lk h k => by
    obtain ⟨⟨ds0, h0⟩, h⟩ := ownL_imp h
    obtain ⟨p, hp, vs0, ht, _⟩ := I.ownAt h0
    refine ⟨.ref p, hp, .inl ⟨rfl, vs0, .of ht⟩, C, G, W, δ, _, I, lk, pP_bind.mp h, fun rs δ1 vs H1 G1 W1 h1 x1 I1 o1 => ?_⟩
    obtain ⟨rs', δ2, e1, h1⟩ := pP_useAll (pP_bind.mp h1)
    obtain ⟨G2, x2, I2, o2⟩ := I1.useAllOk o1 e1
    unfold insK at h1
    split at h1
    · rename_i k' d
      obtain ⟨ds, ds', e3, e4, hp'⟩ := putOwn_imp h1
      obtain ⟨v1, vr, rfl, z1, o3⟩ := All2.cons_right o2
      obtain ⟨v2, vr, rfl, z2, o4⟩ := All2.cons_right o3
      rw [o4.nil_right]
      have d1 : Den X.K G2 v1 (.int k') := z1.1
      have d2 : Den X.K G2 v2 d := z2.1
      obtain rfl := d1.of_int
      obtain ⟨q2, hq2, us, hv, dn⟩ := I2.ownAt e3
      rw [hp] at hq2
      have eq : p = q2 := by simpa using hq2
      subst eq
      unfold insG at e4
      split at e4
      · rename_i hl
        cases e4
        refine ⟨p, us, k', v2, rfl, rfl, hv, by rw [dn.1]; exact hl.1, hl.2.1, hl.2.2, ?_⟩
        exact k _ _ _ _ G2 W1 hp' (x1.trans x2) (I2.write e3 hp ⟨_, upd_same, all2_ins dn d2 _⟩) Den.non
      · cases e4
    · exact h1.elim
/-! ### x[i] = e, x[i] += e, x one's own -/
def setIxK (i : Nat) (d k : D) : FS := fun δ => match k, gt δ i with
  | .int k, .own (.lst ds) => (match ixN ds.length k with
    | some j => .ret (.nx (st δ i (.own (.lst (ds.set j d)))))
    | none => .fail)
  | _, _ => .fail
def ownS (i : Nat) (f : FS) : FS := fun δ => match gt δ i with
  | .own (.lst _) => f δ
  | _ => .fail
theorem ownS_imp {f : FS} {DD : DEnds} (h : pS x (ownS i f) DD δ) : (∃ ds, gt δ i = .own (.lst ds)) ∧ pS x f DD δ := by
  unfold pS ownS at h; (try dsimp only at h)
  split at h
  · exact ⟨⟨_, by assumption⟩, h⟩
  · exact h.elim
def fSetIx (i : Nat) (fx fe : FE) : FS := eS fe fun r => ownS i (eS fx fun r2 => eS (useF r) fun d => eS (peekF r2) fun k => setIxK i d k)
theorem fs_setIx {tpos : Pos} (he : HE X L e fe) (pg : PG X (.Subscript (.Name y px) ix tpos) (L2.gSub (tVar i) (lift X.K L (pP L.x fx)) rSetL))
    (hs : swapsWithSole [.Subscript (.Name y px) ix tpos] e pos.line X.env = pure false := by rfl) (hw : swappedStores [.Subscript (.Name y px) ix tpos] e X.env = pure none := by rfl) (h1 : (assignEach [.Subscript (.Name y px) ix tpos] X.env).map (·.2) = [assign (.Subscript (.Name y px) ix tpos) X.env] := by rfl) :
    HS X L (.Assign [.Subscript (.Name y px) ix tpos] e pos) (fSetIx i fx fe) :=
  PS.weak (ds_setIx he pg hs hw h1) (liftS_imp fun DD δ h => eS_imp h fun r δ1 h => by
    obtain ⟨h0, h⟩ := ownS_imp h
    refine ⟨h0, eS_imp h fun r2 δ2 h => ?_⟩
    obtain ⟨d, δ3, e1, h⟩ := pP_use (eS_imp h (Q := fun d δ3 => pS L.x (eS (peekF r2) fun k => setIxK i d k) DD δ3) fun _ _ z => z)
    obtain ⟨k, e2, h⟩ := pP_peek (eS_imp h (Q := fun k δ3 => pS L.x (setIxK i d k) DD δ3) fun _ _ z => z)
    unfold pS setIxK at h; (try dsimp only at h)
    split at h
    · split at h
      · exact ⟨d, δ3, _, _, _, e1, e2, by assumption, by assumption, h⟩
      · exact h.elim
    · exact h.elim)
def augIxK (i : Nat) (k : D) (fe : FE) : FS := fun δ => match k, gt δ i with
  | .int (.ofNat k), .own (.lst ds) => (match ds[k]? with
    | some (.int a) => if k < 2 ^ 62 then (eS fe fun r2 => eS (peekF r2) fun b => fun δ2 => match b, gt δ2 i with
        | .int b, .own (.lst ds2) => .ret (.nx (st δ2 i (.own (.lst (ds2.set k (.int (a + b)))))))
        | _, _ => .fail) δ else .fail
    | _ => .fail)
  | _, _ => .fail
def fAugIx (i : Nat) (fx fe : FE) : FS := ownS i (eS fx fun r1 => eS (peekF r1) fun k => augIxK i k fe)
/-! ### constants of the module -/
theorem fe_gl {v : V} {u : Value} {d : D} (hg : Gl X y) (hm : X.mg y = some u) (r : RelV v u) (hd : ∀ G, Den X.K G v d) (hdb : (y == ("__debug__" : Str)) = false := by decide) : HE X L (.Name y pos) (fC d) :=
  PE.weak (pe_glob hg hm r hdb) (lift_c hd)
/-! ### a < b < c -/
def fChain (c1 c2 : D → D → Option Bool) (fa fb fc : FE) : FE := fa.bind fun r1 => fb.bind fun r2 => (peekF r1).bind fun d1 => (peekF r2).bind fun d2 => (F.of (c1 d1 d2)).bind fun k =>
  if k = true then fc.bind fun r3 => (peekF r3).bind fun d3 => (F.of (c2 d2 d3)).bind fun k2 => F.ret (.val (.bl k2)) else F.ret (.val (.bl false))
theorem lift_chain {r r' : R2} {c1 c2 : D → D → Option Bool} (hi : ∀ d1 d2 b, c1 d1 d2 = some b → ∃ j, d2 = .int j) (hs : CmpSem K r fun d1 d2 b => c1 d1 d2 = some b) (hs' : CmpSem K r' fun d1 d2 b => c2 d1 d2 = some b) : ∀ σ H Q, lift K L (pP L.x (fChain c1 c2 fa fb fc)) σ H Q → tChain r r' (lift K L (pP L.x fa)) (lift K L (pP L.x fb)) (lift K L (pP L.x fc)) σ H Q :=
  lift_of fun C σ H G W δ P Q I lk h k => lift_two I lk (pP_then h fun r1 δ1 h => pP_bind.mp h) fun r1 r2 δ2 x y H2 G2 W2 h2 x2 I2 o1 o2 => by
    obtain ⟨d1, e1, h2⟩ := pP_peek (pP_bind.mp h2)
    obtain ⟨d2, e2, h2⟩ := pP_peek (pP_bind.mp h2)
    obtain ⟨kk, e3, h2⟩ := pP_of (pP_bind.mp h2)
    rw [← peek_pub] at e1 e2
    have s1 := I2.peekOk o1 e1
    have s2 := I2.peekOk o2 e2
    refine hs H2 x y d1 d2 kk _ (s1.den I2.gh) (s2.den I2.gh) e3 ⟨kk, rfl, ?_⟩
    cases kk with
    | false =>
      rw [if_neg (by decide)] at h2 ⊢
      exact k _ δ2 _ H2 G2 W2 h2 x2 I2 (.bl false)
    | true =>
      rw [if_pos rfl] at h2 ⊢
      refine ⟨C, G2, W2, δ2, _, I2, lk.mono x2, pP_bind.mp h2, fun r3 δ3 z H3 G3 W3 h3 x3 I3 o3 => ?_⟩
      obtain ⟨d3, e4, h4⟩ := pP_peek (pP_bind.mp h3)
      obtain ⟨k2, e5, h5⟩ := pP_of (pP_bind.mp h4)
      obtain ⟨j, ej⟩ := hi _ _ _ e3
      have dn2 : Den K H3 y d2 := by
        have s3 := s2.den I2.gh
        rw [ej] at s3 ⊢
        rw [s3.of_int]; exact .int j
      exact hs' H3 y z d2 d3 k2 Q dn2 ((I3.peekOk o3 e4).den I3.gh) e5 (k _ δ3 _ H3 G3 W3 h5 (x2.trans x3) I3 (Den.bl k2))
theorem cI_int {f : Int → Int → Bool} (d1 d2 : D) (b : Bool) (h : cIF f d1 d2 = some b) : ∃ j, d2 = .int j := by
  unfold cIF at h
  split at h
  · exact ⟨_, rfl⟩
  · cases h
theorem cs_of {r : R2} {cf : D → D → Option Bool} {c : D → D → Bool → Prop} (s : CS cf c) (hs : CmpSem K r c) : CmpSem K r fun d1 d2 b => cf d1 d2 = some b := fun H x y d1 d2 b Q h1 h2 hc q => hs H x y d1 d2 b Q h1 h2 (s _ _ _ hc) q
theorem fe_leLe (ha : HE X L a fa) (hb : HE X L b fb) (hc : HE X L c fc) (hm : lastMarks [.LtE, .LtE] [b, c] = false := by with_unfolding_all rfl) : HE X L (.Compare a [.LtE, .LtE] [b, c] pos) (fChain cLe cLe fa fb fc) :=
  PE.weak (pe_chain op_le op_le ha hb hc hm) (lift_chain cI_int (cs_of cs_I' cs_I) (cs_of cs_I' cs_I))
theorem fe_ltLt (ha : HE X L a fa) (hb : HE X L b fb) (hc : HE X L c fc) (hm : lastMarks [.Lt, .Lt] [b, c] = false := by with_unfolding_all rfl) : HE X L (.Compare a [.Lt, .Lt] [b, c] pos) (fChain cLt cLt fa fb fc) :=
  PE.weak (pe_chain op_lt op_lt ha hb hc hm) (lift_chain cI_int (cs_of cs_I' cs_I) (cs_of cs_I' cs_I))
theorem fe_ltLe (ha : HE X L a fa) (hb : HE X L b fb) (hc : HE X L c fc) (hm : lastMarks [.Lt, .LtE] [b, c] = false := by with_unfolding_all rfl) : HE X L (.Compare a [.Lt, .LtE] [b, c] pos) (fChain cLt cLe fa fb fc) :=
  PE.weak (pe_chain op_lt op_le ha hb hc hm) (lift_chain cI_int (cs_of cs_I' cs_I) (cs_of cs_I' cs_I))
theorem fe_leLt (ha : HE X L a fa) (hb : HE X L b fb) (hc : HE X L c fc) (hm : lastMarks [.LtE, .Lt] [b, c] = false := by with_unfolding_all rfl) : HE X L (.Compare a [.LtE, .Lt] [b, c] pos) (fChain cLe cLt fa fb fc) :=
  PE.weak (pe_chain op_le op_lt ha hb hc hm) (lift_chain cI_int (cs_of cs_I' cs_I) (cs_of cs_I' cs_I))
/-! ### x[::-1] of a list -/
def fRev (fe : FE) : FE := fe.bind fun r => (peekF r).bind fun d => (F.of (lstOf d)).bind fun ds => F.ret (.own (.lst ds.reverse))
theorem all2_rev {F : V → D → Prop} : ∀ {vs : List V} {ds : List D}, All2 F vs ds → All2 F vs.reverse ds.reverse
  | vs, [], h => by rw [h.nil_right]; exact .nil
  | vs, d :: ds, h => by
    obtain ⟨v, vr, rfl, h1, h2⟩ := All2.cons_right h
    rw [List.reverse_cons, List.reverse_cons]
    exact (all2_rev h2).append (.cons h1 .nil)
theorem fe_rev {k : Nat} {p1 p2 p3 : Pos} (he : HE X L e fe) : HE X L (.Subscript e (.Slice none none (some (.UnaryOp .USub (.Constant (.int 1) k p1) p2)) p3) pos) (fRev fe) :=
  PE.weak (pe_revL he) <| lift_of fun C σ H G W δ P Q I lk h k => ⟨C, G, W, δ, _, I, lk, pP_bind.mp h, fun r δ1 v H1 G1 W1 h1 x1 I1 o1 => by
    obtain ⟨d, e1, h1⟩ := pP_peek (pP_bind.mp h1)
    obtain ⟨ds, e2, h1⟩ := pP_of (pP_bind.mp h1)
    cases d with
    | lst es =>
      cases e2
      obtain ⟨q, us, rfl, hq, dn⟩ := (I1.peekOk o1 e1).lst I1.gh
      refine ⟨q, us, rfl, .of hq, fun t ht => ?_⟩
      obtain ⟨I', o⟩ := I1.newLst ht (all2_rev dn)
      exact k _ _ _ _ _ _ h1 x1 I' o
    | _ => cases e2⟩
end
end DL

namespace DL
open PySem PySem.Spec L2 StX
section
variable {X : Cx} {L : Lk} {pos p : Pos} {e : Expr} {es : List Expr} {fe : FE} {fa : FA} {x : Lx} {δ : List R}
/-! ### star in displays -/
def fStar (fe : FE) (fa : FA) : FA := fe.bind fun r => (peekF r).bind fun d => (F.of d.items).bind fun ds => fa.bind fun rs => F.ret (ds.map R.val ++ rs)
theorem Seen.items {K : PySem.W.Frag} {G H : Hp} {v : V} {d : D} {ds : List D} (h : Seen K G H v d) (x : Ex G H) (e : d.items = some ds) : ∃ a vs, v = .ref a ∧ (SqT K H a vs ∨ SqL K H a vs) ∧ Dens K G vs ds := by
  cases d with
  | lst xs => cases e; obtain ⟨a, vs, e1, h1, h2⟩ := h.lst x; exact ⟨a, vs, e1, .inr (.of h1), h2⟩
  | tup xs => cases e; obtain ⟨a, vs, e1, h1, h2⟩ := h.tup x; exact ⟨a, vs, e1, .inl h1, h2⟩
  | non => cases e
  | bl => cases e
  | int => cases e
  | str => cases e
  | dic => cases e
  | ins => cases e
  | ty => cases e
  | exc => cases e
theorem fa_star (he : HE X L e fe) (hr : HA X L es fa) (hs : starEach (.Starred e p :: es) X.env = (true, eval e X.env) :: starEach es X.env := by rfl) : HA X L (.Starred e p :: es) (fStar fe fa) :=
  PA.weak (pa_star he hr hs) <| liftA_of fun C σ H G W δ P Q I lk h k => ⟨C, G, W, δ, _, I, lk, pP_bind.mp h, fun r δ1 v H1 G1 W1 h1 x1 I1 o1 => by
    obtain ⟨d, e1, h1⟩ := pP_peek (pP_bind.mp h1)
    obtain ⟨ds, e2, h1⟩ := pP_of (pP_bind.mp h1)
    obtain ⟨a, vs, rfl, sq, dn⟩ := (I1.peekOk o1 e1).items I1.gh e2
    refine ⟨a, vs, rfl, sq, C, G1, W1, δ1, _, I1, lk.mono x1, pP_bind.mp h1, fun rs δ2 us H2 G2 W2 h2 x2 I2 o2 => ?_⟩
    refine k _ δ2 _ H2 G2 W2 h2 (x1.trans x2) I2 (All2.append ?_ o2)
    exact (dn.mono x2).mapR fun v d _ z => z⟩
theorem v_star {fA : FA} : fStar fe fA δ = (fe δ).bind fun o => o.on fun r => (peekF r).bind fun d => (F.of d.items).bind fun ds => fA.bind fun rs => F.ret (ds.map R.val ++ rs) := (rfl)
end
end DL

namespace DL
open PySem PySem.Spec L2
section
variable {X : Cx} {L : Lk} {pos p : Pos} {tg e : Expr} {es : List Expr} {fe : FE} {fa : FA} {x : Lx} {δ : List R} {K : PySem.W.Frag}
/-! ### range with a step -/
def rngC (lo c : Int) (n : Nat) : List D := (List.range n).map fun (i : Nat) => D.int (lo + (i : Int) * c)
theorem jok_rangeC {C : Ct} {G : Hp} {lo c : Int} {n : Nat} : JOk K C G (Itc lo c n) (rngC lo c n) where
  go := fun i σ H G' W δ hi x I => by show i < n; simpa [rngC] using hi
  stop := fun σ H G' W δ x I => by show n ≤ (rngC lo c n).length; simp [rngC]
  yld := fun i d σ H G' W δ v H' hd x I y => by
    obtain ⟨rfl, rfl⟩ := y
    have : d = .int (lo + i * c) := by
      unfold rngC at hd
      rw [List.getElem?_map] at hd
      cases q : (List.range n)[i]? with
      | none => rw [q] at hd; cases hd
      | some j =>
        rw [q] at hd
        have hj : j = i := by
          rw [List.getElem?_eq_some_iff] at q
          obtain ⟨h1, h2⟩ := q
          simpa using h2.symm
        subst hj
        simpa using hd.symm
    subst this
    exact ⟨G', W, Ex.refl G', I, .int _⟩
def rng3K (ds : List D) : FI := match ds with
  | [.int i, .int j, .int c] => if c ≠ 0 ∧ c.natAbs < 1073741824 ∧ Builtin.Range.small i j c = true ∧ 0 ≤ Builtin.Range.rangeSize i j c then F.ret (rngC i c (Builtin.Range.rangeSize i j c).toNat) else F.fail
  | _ => F.fail
def fiRng3 (fa : FA) : FI := fa.bind fun rs => (peekAllF rs).bind rng3K
theorem fi_rng3 {a b c : Expr} {fa : FA} (hg : Gl X "range") (hm : X.mg "range" = none) (ha : HA X L [a, b, c] fa)
    (hs : starEach [a, b, c] X.env = (false, eval a X.env) :: starEach [b, c] X.env := by rfl) (hpl : (backTo pos (starEach [b, c] X.env)).any (·.1) = false := by rfl) :
    HI X L tg (.Call (.Name "range" p) [a, b, c] [] pos) (fiRng3 fa) :=
  PI.weak (pi_range3 hg hm ha hs hpl) <| liftI_of fun C σ H G W δ P Q I lk h k => ⟨C, G, W, δ, _, I, lk, pP_bind.mp h, fun rs δ1 vs H1 G1 W1 h1 x1 I1 o1 => by
    obtain ⟨ds, e1, h1⟩ := pP_peekAll (pP_bind.mp h1)
    unfold rng3K at h1
    split at h1
    · rename_i i j c
      split at h1
      · rename_i hc
        have z := I1.peekAllOk o1 e1
        obtain ⟨v, r, rfl, z1, z2⟩ := z.cons_right
        obtain ⟨v', r', rfl, z3, z4⟩ := z2.cons_right
        obtain ⟨v'', r'', rfl, z5, z6⟩ := z4.cons_right
        rw [z6.nil_right]
        have := (z1.den I1.gh).of_int
        subst this
        have := (z3.den I1.gh).of_int
        subst this
        have := (z5.den I1.gh).of_int
        subst this
        exact ⟨i, j, c, _, rfl, ⟨hc.1, hc.2.1, hc.2.2.1, (Int.toNat_of_nonneg hc.2.2.2).symm⟩, k _ δ1 _ H1 G1 W1 h1 x1 I1 fun _ _ => jok_rangeC⟩
      · exact h1.elim
    · exact h1.elim⟩
end
section
variable {X : Cx} {L : Lk} {pos : Pos} {e ix : Expr} {de dx : DE} {fe fx : FE}
def dAugIx2 (i : Nat) (dx de : DE) : DS := fun DD δ => (∃ ds0, gt δ i = .own (.lst ds0)) ∧ dx δ fun r1 δ1 => (∃ (k : Nat) (ds : List D) (a : Int), peek r1 δ1 = some (.int k) ∧ k < 2 ^ 62 ∧ gt δ1 i = .own (.lst ds) ∧ ds[k]? = some (.int a) ∧
  de δ1 fun r2 δ2 => ∃ b ds2, peek r2 δ2 = some (.int b) ∧ gt δ2 i = .own (.lst ds2) ∧ k < ds2.length ∧ DD.nx (st δ2 i (.own (.lst (ds2.set k (.int (a + b)))))))
theorem ds_augIx2 {i : Nat} {x : Str} {px tpos : Pos} (ho : PE X (.Name x px) (tVar i)) (hx : PE X ix (lift X.K L dx)) (he : PE X e (lift X.K L de))
    (ha : ∀ ov iv new, augStore ix ov iv new = (do holding [new, ov, iv] (setItem ov iv new); release [new, ov, iv] []; pure .next) := by intros; rfl) : PS X (.AugAssign (.Subscript (.Name x px) ix tpos) .Add e pos) (liftS X.K L (dAugIx2 i dx de)) :=
  PS.weak (ps_augS ho hx get_listG he ip_add set_list ha) <| liftS_of fun C D σ H G W δ DD I lk h k => by
    obtain ⟨⟨ds0, h0⟩, h⟩ := h
    obtain ⟨p, hp, _⟩ := I.ownAt h0
    refine ⟨.ref p, hp, C, G, W, δ, _, I, lk, h, fun r1 δ1 y H1 G1 W1 h1 x1 I1 o1 => ?_⟩
    obtain ⟨k', ds, a, e1, hk, e2, e3, h1⟩ := h1
    have ey := ((I1.peekOk o1 e1).den I1.gh).of_int
    subst ey
    obtain ⟨q, hq, vs, hv, dn⟩ := I1.ownAt e2
    rw [hp] at hq
    have eq : p = q := by simpa using hq
    subst eq
    obtain ⟨va, hva, da⟩ := dn.get e3
    have eva := da.of_int
    subst eva
    refine ⟨p, vs, k', .int a, rfl, rfl, .of hv, hva, hk, C, G1, W1, δ1, _, I1, lk.mono x1, h1, fun r2 δ2 z H2 G2 W2 h2 x2 I2 o2 => ?_⟩
    obtain ⟨b, ds2, e4, e5, hkl, hn⟩ := h2
    have ez := ((I2.peekOk o2 e4).den I2.gh).of_int
    subst ez
    obtain ⟨q, hq, vs2, hv2, dn2⟩ := I2.ownAt e5
    rw [hp] at hq
    have eq : p = q := by simpa using hq
    subst eq
    refine ⟨a, b, rfl, rfl, p, vs2, (k' : Int), k', rfl, rfl, hv2, ?_, ?_⟩
    · unfold ixN
      rw [if_pos (by omega), if_pos (by rw [dn2.1]; omega)]; simp
    · exact k.nx σ _ G2 W2 _ (x1.trans x2) (I2.write (d' := .lst (ds2.set k' (.int (a + b)))) e5 hp ⟨_, upd_same, All2.set dn2 k' (Den.int _)⟩) hn

def augBK (i k : Nat) (a : Int) (b : D) (r : R) (δ : List R) : T SO := match b, r with
  | .int b, .own (.lst ds2) => if k < ds2.length then .ret (.nx (st δ i (.own (.lst (ds2.set k (.int (a + b))))))) else .fail
  | _, _ => .fail
def augB (i k : Nat) (a : Int) (b : D) : FS := fun δ => augBK i k a b (gt δ i) δ
def augAK (i k : Nat) (fe : FE) (o : Option D) (δ : List R) : T SO := match o with
  | some (.int a) => eS fe (fun r2 => eS (peekF r2) fun b => augB i k a b) δ
  | _ => .fail
def augRK (i : Nat) (fe : FE) (k : D) (r : R) (δ : List R) : T SO := match k, r with
  | .int k, .own (.lst ds) => if 0 ≤ k ∧ k < 2 ^ 62 then augAK i k.toNat fe ds[k.toNat]? δ else .fail
  | _, _ => .fail
def augR (i : Nat) (fe : FE) (k : D) : FS := fun δ => augRK i fe k (gt δ i) δ
def fAug (i : Nat) (fx fe : FE) : FS := ownS i (eS fx fun r1 => eS (peekF r1) fun k => augR i fe k)
theorem fs_aug {i : Nat} {x : Str} {px tpos : Pos} (ho : PE X (.Name x px) (tVar i)) (hx : HE X L ix fx) (he : HE X L e fe)
    (ha : ∀ ov iv new, augStore ix ov iv new = (do holding [new, ov, iv] (setItem ov iv new); release [new, ov, iv] []; pure .next) := by intros; rfl) : HS X L (.AugAssign (.Subscript (.Name x px) ix tpos) .Add e pos) (fAug i fx fe) :=
  PS.weak (ds_augIx2 ho hx he ha) (liftS_imp fun DD δ h => by
    obtain ⟨h0, h⟩ := ownS_imp h
    refine ⟨h0, eS_imp h fun r1 δ1 h => ?_⟩
    obtain ⟨k, e1, h⟩ := pP_peek (eS_imp h (Q := fun k δ1 => pS L.x (augR i fe k) DD δ1) fun k δ1 h => h)
    unfold pS augR augRK at h
    split at h
    · rename_i k ds hg
      split at h
      · rename_i hk
        unfold augAK at h
        split at h
        · rename_i a ha
          refine ⟨k.toNat, ds, a, by rw [Int.toNat_of_nonneg hk.1]; exact e1, by omega, hg, ha, eS_imp h fun r2 δ2 h => ?_⟩
          obtain ⟨b, e4, h⟩ := pP_peek (eS_imp h (Q := fun b δ2 => pS L.x (augB i k.toNat a b) DD δ2) fun b δ2 h => h)
          unfold pS augB augBK at h
          split at h
          · rename_i b ds2 hg2
            split at h
            · exact ⟨b, ds2, e4, hg2, by assumption, h⟩
            · exact h.elim
          · exact h.elim
        · exact h.elim
      · exact h.elim
    · exact h.elim)
end
section
variable {δ : List R}
theorem v_r3 {fA : FA} : fiRng3 fA δ = (fA δ).bind fun o => o.on fun rs => (peekAllF rs).bind rng3K := (rfl)
theorem v_r3K {i j c : Int} : rng3K [.int i, .int j, .int c] δ = (if c ≠ 0 ∧ c.natAbs < 1073741824 ∧ Builtin.Range.small i j c = true ∧ 0 ≤ Builtin.Range.rangeSize i j c then F.ret (rngC i c (Builtin.Range.rangeSize i j c).toNat) else F.fail) δ := (rfl)
end
end DL

namespace DL
open PySem PySem.Spec L2
section
variable {X : Cx} {L : Lk} {pos p apos cpos : Pos} {o e f : Expr} {fo fe ff : FE} {x : Lx} {δ : List R} {K : PySem.W.Frag}
/-! ### d.get(k, x) -/
def getK (d k z : D) : Option D := match d, keyD k with
  | .dic kvs, some k => some ((valD kvs k).getD z)
  | _, _ => none
def fGet2 (fo fe ff : FE) : FE := fo.bind fun r1 => fe.bind fun r2 => ff.bind fun r3 => (useF r3).bind fun z => (peekF r1).bind fun d => (peekF r2).bind fun k => (F.of (getK d k z)).bind fun y => F.ret (.val y)
def isDic : D → Bool
  | .dic _ => true
  | _ => false
theorem val_none {G : Hp} {kvs : List (Key × V)} {kds : List (Key × D)} (h : DensP K G kvs kds) {k : Key} (e : valD kds k = none) : valV kvs k = none := by
  have := val_isSome h k
  rw [e] at this
  cases q : valV kvs k with
  | none => rfl
  | some v => rw [q] at this; cases this
/-- the dict is looked at ahead of the rest, too -/
def fGet (fo fe ff : FE) : FE := fo.bind fun r1 => (peekF r1).bind fun d0 => if isDic d0 = true then fe.bind fun r2 => ff.bind fun r3 => (useF r3).bind fun z => (peekF r1).bind fun d => (peekF r2).bind fun k => (F.of (getK d k z)).bind fun y => F.ret (.val y) else F.fail
theorem fe_get (hu : X.A.units + 1 < cLine) (ho : HE X L o fo) (he : HE X L e fe) (hf : HE X L f ff) (m : M2 X o "get" apos e f cpos := by exact ⟨rfl, rfl, rfl, rfl⟩) : HE X L (.Call (.Attribute o "get" apos) [e, f] [] cpos) (fGet fo fe ff) :=
  PE.weak (pe_dget2 hu ho he hf m) <| lift_of fun C σ H G W δ P Q I lk h k => ⟨C, G, W, δ, _, I, lk, pP_bind.mp h, fun r1 δ1 v1 H1 G1 W1 h1 x1 I1 o1 => by
    obtain ⟨d0, e0, h1⟩ := pP_peek (pP_bind.mp h1)
    split at h1
    · rename_i hd
      cases d0 with
      | dic kv0 =>
        obtain ⟨a, vs0, rfl, hr0, _⟩ := (I1.peekOk o1 e0).dic I1.gh
        obtain ⟨G1', x1', I1', o1'⟩ := I1.pub o1
        refine ⟨a, rfl, .inl ⟨vs0, hr0⟩, C, G1', W1, δ1, _, I1', lk.mono (x1.trans x1'), pP_bind.mp h1, fun r2 δ2 v2 H2 G2 W2 h2 x2 I2 o2 => ?_⟩
        obtain ⟨G2', x2', I2', o2'⟩ := I2.pub o2
        refine ⟨C, G2', W2, δ2, _, I2', lk.mono (((x1.trans x1').trans x2).trans x2'), pP_bind.mp h2, fun r3 δ3 v3 H3 G3 W3 h3 x3 I3 o3 => ?_⟩
        obtain ⟨z, δ4, e4, h3⟩ := pP_use (pP_bind.mp h3)
        obtain ⟨G4, x4, I4, o4, _⟩ := I3.useOk o3 e4
        obtain ⟨d, e5, h3⟩ := pP_peek (pP_bind.mp h3)
        obtain ⟨kk, e6, h3⟩ := pP_peek (pP_bind.mp h3)
        obtain ⟨y, e7, h3⟩ := pP_of (pP_bind.mp h3)
        rw [← peek_pub] at e5 e6
        have s1 := I4.peekOk (ROk.keep o1' ((x2.trans x2').trans (x3.trans x4))) e5
        have s2 := I4.peekOk (ROk.keep o2' (x3.trans x4)) e6
        cases ek : keyD kk with
        | none => rw [getK.eq_def, ek] at e7; cases d <;> cases e7
        | some k9 =>
        cases d with
        | dic kvs =>
          have e7 : some ((valD kvs k9).getD z) = some y := by rw [← e7]; simp only [getK, ek]
          obtain ⟨a', vs, ea, hr, dn⟩ := s1.dic I4.gh
          cases ea
          have k1 := key_of_den (s2.den I4.gh) ek
          have xx : Ex G G4 := ((((x1.trans x1').trans x2).trans x2').trans x3).trans x4
          cases q : valD kvs k9 with
          | some d9 =>
            obtain ⟨v, y1, y2⟩ := val_some dn q
            rw [q] at e7; cases e7
            exact ⟨some v, .inl ⟨vs, k9, hr, k1, y1.symm⟩, k _ δ4 _ H3 G4 W3 h3 xx I4 y2⟩
          | none =>
            rw [q] at e7; cases e7
            exact ⟨none, .inl ⟨vs, k9, hr, k1, (val_none dn q).symm⟩, k _ δ4 _ H3 G4 W3 h3 xx I4 o4⟩
        | _ => cases e7
      | _ => cases hd
    · exact h1.elim⟩
end
end DL

namespace DL
open PySem PySem.Spec L2
section
variable {X : Cx} {L : Lk} {pos p apos cpos : Pos} {o e f : Expr} {fo fe ff : FE} {x : Lx} {δ : List R} {K : PySem.W.Frag} {C : Ct} {σ : St} {H G : Hp} {W : Ow}
/-! ### {k: v, ..} -/
def fPairs : List (FE × FE) → F (List (D × D))
  | [] => F.ret []
  | (k, v) :: r => k.bind fun rk => v.bind fun rv => (useF rk).bind fun dk => (useF rv).bind fun dv => (fPairs r).bind fun l => F.ret ((dk, dv) :: l)
theorem pairs_walk : ∀ {ps : List (FE × FE)} {C : Ct} {σ : St} {H G : Hp} {W : Ow} {δ : List R} {P : List (D × D) → List R → Prop} {Q : List (V × V) → Hp → Prop}, SI K C σ H G W δ → Lnk K L C G → pP L.x (fPairs ps) δ P →
    (∀ l δ' vs H' G' W', P l δ' → Ex G G' → SI K C σ H' G' W' δ' → All2 (fun (u : V × V) (q : D × D) => Den K G' u.1 q.1 ∧ Den K G' u.2 q.2) vs l → Q vs H') →
    tPairs (ps.map fun q => (lift K L (pP L.x q.1), lift K L (pP L.x q.2))) σ H Q
  | [], C, σ, H, G, W, δ, P, Q, I, lk, h, k => k [] δ [] H G W h (Ex.refl G) I .nil
  | (fk, fv) :: r, C, σ, H, G, W, δ, P, Q, I, lk, h, k => by
    refine ⟨C, G, W, δ, _, I, lk, pP_bind.mp h, fun r1 δ1 x H1 G1 W1 h1 x1 I1 o1 => ?_⟩
    obtain ⟨G1', x1', I1', o1'⟩ := I1.pub o1
    refine ⟨C, G1', W1, δ1, _, I1', lk.mono (x1.trans x1'), pP_bind.mp h1, fun r2 δ2 y H2 G2 W2 h2 x2 I2 o2 => ?_⟩
    obtain ⟨G2', x2', I2', o2'⟩ := I2.pub o2
    obtain ⟨d1, δ3, e3, h2⟩ := pP_use (pP_bind.mp h2)
    obtain ⟨d2, δ4, e4, h2⟩ := pP_use (pP_bind.mp h2)
    rw [← use_pub] at e3 e4
    obtain ⟨G3, x3, I3, p1, _⟩ := I2'.useOk (ROk.keep o1' (x2.trans x2')) e3
    obtain ⟨G4, x4, I4, p2, _⟩ := I3.useOk (ROk.keep o2' x3) e4
    have xx : Ex G G4 := (((((x1.trans x1').trans x2).trans x2').trans x3).trans x4)
    refine pairs_walk I4 (lk.mono xx) (pP_bind.mp h2) fun l δ5 vs H5 G5 W5 h5 x5 I5 o5 => ?_
    exact k _ δ5 _ H5 G5 W5 h5 (xx.trans x5) I5 (.cons ⟨Den.mono (show Den K G3 x d1 from p1) (x4.trans x5), Den.mono (show Den K G4 y d2 from p2) x5⟩ o5)
def keysD : List (D × D) → Option (List (Key × D))
  | [] => some []
  | (k, v) :: r => match keyD k, keysD r with
    | some k, some l => some ((k, v) :: l)
    | _, _ => none
theorem keys_ok : ∀ {l : List (D × D)} {vs : List (V × V)} {kds : List (Key × D)}, All2 (fun (u : V × V) (q : D × D) => Den K G u.1 q.1 ∧ Den K G u.2 q.2) vs l → keysD l = some kds → ∃ kvs : List (Key × V), vs = kvs.map (fun kv => (kV kv.1, kv.2)) ∧ DensP K G kvs kds ∧ kvs.length = l.length
  | [], vs, kds, h, e => by cases e; rw [h.nil_right]; exact ⟨[], rfl, .nil, rfl⟩
  | (k, v) :: r, vs, kds, h, e => by
    obtain ⟨u, us, rfl, h1, h2⟩ := h.cons_right
    unfold keysD at e
    split at e
    · rename_i k9 l9 ek el
      cases e
      obtain ⟨kvs, e1, e2, e3⟩ := keys_ok h2 el
      obtain ⟨u1, u2⟩ := u
      have k1 := key_of_den h1.1 ek
      exact ⟨(k9, u2) :: kvs, by rw [e1]; simp only [List.map_cons]; rw [← k1], .cons ⟨rfl, h1.2⟩ e2, by simp [e3]⟩
    · cases e
theorem SI.unholdD {p : Addr} {kvs : List (Key × V)} {kds : List (Key × D)} (I : SI K (C.hold p (.dK kvs)) σ H G W δ) (n0 : C.H0 p = none) (nt : C.T p = none) (h : DensP K G kvs kds) : ∃ W', SI K C σ H G W' δ ∧ ROk K C σ H G W' none (.ref p) (.own (.dic kds)) := by
  have hpT : (C.hold p (.dK kvs)).T p = some (.dK kvs) := upd_same
  obtain ⟨t1, t2, t3⟩ := I.tm p _ hpT
  have J : SI K (C.hold p (.dK kvs)) σ H G (fun a => if a = p then none else W a) δ := I.disown fun i d q hi hw ht hs => by
    obtain ⟨v, h1, h2⟩ := I.sl i (by rw [hi]; simp)
    rw [hs] at h1; cases h1
    rw [hi] at h2
    obtain ⟨a, e, ⟨_, _, _, m4⟩, _⟩ := h2
    cases e
    rintro rfl
    rw [hpT] at m4; cases m4
  exact ⟨_, SI.less (Ct.hold_less nt) J, p, rfl, ⟨t2, n0, t3, nt⟩, if_pos rfl, kvs, t1, h⟩
def dictK (l : List (D × D)) : Option R := if l.length ≤ 15 then (keysD l).map fun kds => .own (.dic (mergeD [] kds)) else none
def fDisp (ps : List (FE × FE)) : FE := (fPairs ps).bind fun l => F.of (dictK l)
theorem fe_disp {ps : List (FE × FE)} {keys : List (Option Expr)} {values : List Expr} (h : PPs X pos keys values (ps.map fun q => (lift X.K L (pP L.x q.1), lift X.K L (pP L.x q.2)))) (hall : keys.all (·.isSome) = true := by rfl) (hl : keys.length = values.length := by rfl) (h0 : keys ≠ [] := by simp)
    (h15 : keys.length ≤ 15 := by decide) : HE X L (.Dict keys values pos) (fDisp ps) :=
  PE.weak (pe_disp h hall hl h0 h15) <| lift_of fun C σ H G W δ P Q I lk h k => fun p np => by
    have m := I.fresh np
    have lk' : Lnk X.K L (C.hold p (.dK [])) G := fun c fs δ d σ H G W fvs hx x I gd dn => lk c fs δ d σ H G W fvs hx x (I.less (Ct.hold_less m.2.2.2)) gd dn
    refine pairs_walk (C := C.hold p (.dK [])) (I.hold np) lk' (pP_bind.mp h) fun l δ1 vs H1 G1 W1 h1 x1 I1 o1 => ?_
    obtain ⟨r, e1, h1⟩ := pP_of h1
    have t := I1.tm p (.dK []) upd_same
    unfold dictK at e1
    split at e1
    · rename_i h15
      cases q : keysD l with
      | none => rw [q] at e1; cases e1
      | some kds =>
        rw [q] at e1; cases e1
        obtain ⟨kvs, rfl, dn, hn⟩ := keys_ok o1 q
        refine ⟨t.1, kvs, rfl, by omega, ?_⟩
        have J := I1.rehold (o' := .dK (mergeK [] kvs)) m.2.1
        obtain ⟨W', J', o'⟩ := J.unholdD m.2.1 m.2.2.2 (merge_ok dn .nil)
        exact k _ δ1 _ _ G1 W' h1 x1 J' o'
    · cases e1
theorem fpp_nil : PPs X pos [] [] (([] : List (FE × FE)).map fun q => (lift X.K L (pP L.x q.1), lift X.K L (pP L.x q.2))) := pps_nil
theorem fpp_cons {k v : Expr} {fk fv : FE} {ps : List (FE × FE)} {ks : List (Option Expr)} {vs : List Expr} (hk : HE X L k fk) (hv : HE X L v fv) (h : PPs X pos ks vs (ps.map fun q => (lift X.K L (pP L.x q.1), lift X.K L (pP L.x q.2)))) :
    PPs X pos (some k :: ks) (v :: vs) (((fk, fv) :: ps).map fun q => (lift X.K L (pP L.x q.1), lift X.K L (pP L.x q.2))) := pps_cons hk hv h
/-! ### {} -/
def fDnew : FE := fun δ => .ret (.ok (.own (.dic [])) δ)
theorem fe_dnew : HE X L (.Dict [] [] pos) fDnew := PE.weak pe_dnewK <| lift_of fun C σ H G W δ P Q I lk h k => fun p np => by
  have m := I.fresh np
  obtain ⟨W', J', o'⟩ := (I.hold (o := .dK []) np).unholdD m.2.1 m.2.2.2 (kds := []) .nil
  exact k _ δ _ _ G W' h (Ex.refl G) J' o'
end
end DL

set_option maxHeartbeats 1000000
namespace DL
open PySem PySem.Spec L2
/-! ### try .. except C: .. -/
def w1stN (K : PySem.W.Frag) (c : Value) (ts : Addr → Value → Option Addr → TS) (D : Ends) : WX := fun cls d σ H => PySem.W.exmOne K cls c = some true ∧ ∀ a, H a = none → ts a cls d D σ H
section
variable {X : Cx} {x n : Str} {c : Value} {i : Nat} {body sf : List Stmt} {b1 : Stmt} {np pos pos' : Pos} {hds : List ExceptHandler} {tb : WX → TS} {ts : Addr → Value → Option Addr → TS}
theorem ps_try0 (hs : X.stack = X.env :: X.outer) (hf : X.env.frame = some X.env.locals) (hc : Names X x c)
    (hb : ∀ (W : WX) (pn : List (Addr × Obj)) (xe : Value → Shared → Prop), Takes (X.tr pn xe) W → PassesOwn (model X.prog X.w) X.A X.env xe → PSs (X.tr pn xe) body (tb W))
    (hu : ∀ (a : Addr) (oe : Obj) (cls : Value) (d : Option Addr) (pn : List (Addr × Obj)), Zc cls d oe → (∃ vs, oe.data = .fields vs) → PSs (X.suite a ((a, oe) :: pn)) (b1 :: sf) (ts a cls d)) :
    PS X (.Try body (.ExceptHandler (some (.Name x np)) none (b1 :: sf) pos' :: hds) [] [] pos) (fun D σ H => tb (w1stN X.K c ts D) D σ H) := by
  constructor
  intro pins s σ H D I h
  have fr : X.A.frames = some (X.env :: X.outer) := by rw [I.ok.frames, hs]
  refine wpAny_Try_except (wpAny_mono ((hb (w1stN X.K c ts D) (X.pn ++ pins) _ ?caught PassesOwn.looking).run [] s σ H D (I.toTry _) h) (fun f s1 z => ?done) fun _ _ z => z)
  case done =>
    cases f with
    | next => obtain ⟨σ1, H1, J, q⟩ := z; exact wpAny_execs_nil ⟨σ1, H1, J.ofTry I.ok, q⟩
    | brk => obtain ⟨σ1, H1, J, q⟩ := z; exact ⟨σ1, H1, J.ofTry I.ok, q⟩
    | cont => obtain ⟨σ1, H1, J, q⟩ := z; exact ⟨σ1, H1, J.ofTry I.ok, q⟩
    | ret u => obtain ⟨v, σ1, H1, J, r, q⟩ := z; exact ⟨v, σ1, H1, J.ofTry I.ok, r, q⟩
  case caught =>
    rintro u s1 ⟨a, B, sI, pins1, σ1, H1, cls, d, rfl, J0, nb, up, sky, na, os, ag, hx, hy⟩
    have J := J0.ofTry I.ok
    rw [show (X.tr (X.pn ++ pins) _).stack = X.env :: X.outer from hs] at sky
    refine Sky.land Zc.steady fr hf sky fun h3 fl up3 => ?_
    obtain ⟨oe, vs, he, hz, hd⟩ := fl.there
    have off := off_frames fl.2.2.1 he hd
    have aL : a ≠ X.env.locals := fun z => off (List.mem_filterMap.mpr ⟨X.env, List.mem_cons_self, by rw [hf, z]⟩)
    have aF : a ∉ X.fs := fun m => by
      obtain ⟨e, e1, e2⟩ := List.mem_filterMap.mp m
      exact off (List.mem_filterMap.mpr ⟨e, List.mem_cons_of_mem _ e1, e2⟩)
    have J3 : Inv X pins σ1 H1 ⟨h3, s1.gens, s1.drawn, s1.toks, s1.os⟩ := J.landed nb fl.1 (up.trans up3) os ag
    have S3 := J3.suite he hd na aL aF
    refine wpAny_handleBy_cons (codeAny_handlers_test ?_) (by intro q; cases q)
    have asked : ∀ {Q : Value → Shared → Prop} {E : Value → Shared → Prop}, Q c { s1 with heap := h3 } → wpAny (model X.prog X.w) (X.A.mark (some (.ref a))) (eval (.Name x np) X.env) Q E { s1 with heap := h3 } := fun {Q E} q => by
      obtain ⟨hg, hn, hm | ⟨hm, hv, hw⟩⟩ := hc
      · exact ld_glob (X := X.suite a ((a, oe) :: (X.pn ++ pins))) S3 hg hm q hn
      · exact ld_blt (X := X.suite a ((a, oe) :: (X.pn ++ pins))) S3 hg hm hv q hw hn
    have look : PySem.W.Looks (model X.prog X.w) h3 (typeOf (.ref a)) cls := fun A Q E s k q => wpAny_typeOf_ref (k _ _ he) (by rw [hz.1]; exact q)
    refine asked ((PySem.W.exm_one (M := model X.prog X.w) J3.kIn look hx).here ?_)
    refine codeAny_handlers_suite ?_
    refine HandSPX.lands_againZ fl fun h4 fl4 up4 => ?_
    obtain ⟨oe4, vs4, he4, hz4, hd4⟩ := fl4.there
    have J4 : Inv X pins σ1 H1 ⟨h4, s1.gens, s1.drawn, s1.toks, s1.os⟩ := J.landed nb fl4.1 ((up.trans up3).trans up4) os ag
    have S4 := J4.suite he4 hd4 na aL aF
    refine wpAny_mono ((hu a oe4 cls d (X.pn ++ pins) hz4 ⟨_, hd4⟩).run [] _ _ H1 _ S4 (hy a na)) (fun f s6 z => ?_) fun _ _ z => z.elim
    cases f with
    | next => obtain ⟨σ6, H6, S6, q⟩ := z; exact ⟨_, _, S6.unsuite I.ok, q⟩
    | brk => obtain ⟨σ6, H6, S6, q⟩ := z; exact ⟨_, _, S6.unsuite I.ok, q⟩
    | cont => obtain ⟨σ6, H6, S6, q⟩ := z; exact ⟨_, _, S6.unsuite I.ok, q⟩
    | ret u => obtain ⟨v6, σ6, H6, S6, r6, q⟩ := z; exact ⟨_, _, _, S6.unsuite I.ok, r6, q⟩
end
def xTry0 (C : Addr) (su : DS) (DD : DEnds) : Lx := fun c _ δ => c = C ∧ su DD δ
def SO.suite0 (o : SO) : T SO := match o with
  | .err _ _ _ => .fail
  | o => .ret o
def tryB0 (C : Addr) (fu : FS) (o : SO) : T SO := match o with
  | .err c _ δ1 => if c = C then (fu δ1).bind SO.suite0 else .fail
  | o => .ret o
def fTry0 (C : Addr) (fb fu : FS) : FS := fun δ => (fb δ).bind (tryB0 C fu)
section
variable {X : Cx} {L : Lk} {y : Str} {Cl : Addr} {body sf : List Stmt} {b1 : Stmt} {np pos pos' : Pos} {hds : List ExceptHandler} {fb fu : FS}
theorem fs_try0 (hs : X.stack = X.env :: X.outer) (hf : X.env.frame = some X.env.locals) (hc : Names X y (.ref Cl)) (hx : PySem.W.exmOne X.K (.ref Cl) (.ref Cl) = some true)
    (hb : ∀ (L' : Lk) (pn : List (Addr × Obj)) (xe : Value → Shared → Prop), Takes (X.tr pn xe) L'.E → PassesOwn (model X.prog X.w) X.A X.env xe → HSs (X.tr pn xe) L' body fb)
    (hu : ∀ (a : Addr) (oe : Obj) (cls : Value) (d : Option Addr) (pn : List (Addr × Obj)), Zc cls d oe → (∃ vs, oe.data = .fields vs) → HSs (X.suite a ((a, oe) :: pn)) L0 (b1 :: sf) fu) :
    HS X L (.Try body (.ExceptHandler (some (.Name y np)) none (b1 :: sf) pos' :: hds) [] [] pos) (fTry0 Cl fb fu) := by
  refine PS.weak (ps_try0 (tb := fun W D σ H => ∃ xx, liftS X.K ⟨W, xx⟩ (pS xx fb) D σ H) (ts := fun _ _ _ => liftS X.K L0 (pS L0.x fu)) hs hf hc (fun W pn xe tk ps => ⟨fun pins s σ H D I q => ?_⟩) hu) ?_
  · obtain ⟨xx, q⟩ := q
    exact (hb ⟨W, xx⟩ pn xe tk ps).run pins s σ H D I q
  · refine liftS_of fun C D σ H G W δ DD I lk h k => ⟨xTry0 Cl (pS L0.x fu) DD, C, G, W, δ, DD, I, ?_, T.all_mono (T.all_bind.mp h) fun o ho => ?_, k⟩
    · rintro c fs δ1 d σ1 H1 G1 W1 fvs ⟨rfl, hsu⟩ x1 I1 gd dn
      exact ⟨hx, fun a na => ⟨C, G1, W1, _, _, I1, Lnk.zero, hsu, k.mono x1⟩⟩
    · cases o with
      | nx => exact ho
      | rt => exact ho
      | bk => exact ho
      | ct => exact ho
      | err c fs δ1 =>
        by_cases hcl : c = Cl
        · have ho : (if c = Cl then (fu δ1).bind SO.suite0 else T.fail).all _ := ho
          rw [if_pos hcl] at ho
          refine ⟨hcl, T.all_mono (T.all_bind.mp ho) fun o ho => ?_⟩
          cases o <;> exact ho
        · have ho : (if c = Cl then (fu δ1).bind SO.suite0 else T.fail).all _ := ho
          rw [if_neg hcl] at ho
          exact ho.elim
end
end DL

namespace DL
open PySem PySem.Spec L2
/-! ### a dict that is a constant of the module, text keys -/
structure KTab (K : PySem.W.Frag) (w : World) (a : Addr) (tbl : List (Str × D)) : Prop where
  kd : ∃ es n, KDict K w a es n
  hit : ∀ z d, tbl.lookup z = some d → ∃ u v, PySem.W.nsIn K a z = some (some u) ∧ RelV v u ∧ ∀ G, Den K G v d
  miss : ∀ z, tbl.lookup z = none → PySem.W.nsIn K a z = some none
def strOf : D → Option Str
  | .str z => some z
  | _ => none
section
variable {X : Cx} {L : Lk} {pos p px apos cpos : Pos} {i o e f : Expr} {fo fe ff : FE} {x : Lx} {δ : List R} {K : PySem.W.Frag} {y : Str} {a : Addr} {tbl : List (Str × D)}
def fKix (tbl : List (Str × D)) (fe : FE) : FE := fe.bind fun r => (peekF r).bind fun k => (F.of ((strOf k).bind fun z => tbl.lookup z)).bind fun d => F.ret (.val d)
theorem strOf_eq {d : D} {z : Str} (h : strOf d = some z) : d = .str z := by
  cases d with
  | str x => cases h; rfl
  | _ => cases h
theorem fe_kix (T : KTab X.K X.w a tbl) (hg : Gl X y) (hm : X.mg y = some (.ref a)) (he : HE X L i fe) (hs : PlainIx i := by exact fun _ _ => rfl) (hdb : (y == ("__debug__" : Str)) = false := by decide) : HE X L (.Subscript (.Name y px) i pos) (fKix tbl fe) :=
  PE.weak (pe_ix ix_kdict (pe_glob (v := .ref a) hg hm rfl hdb) he hs) <| lift_of fun C σ H G W δ P Q I lk h k => ⟨C, G, W, δ, _, I, lk, pP_bind.mp h, fun r δ1 v H1 G1 W1 h1 x1 I1 o1 => by
    obtain ⟨d, e1, h1⟩ := pP_peek (pP_bind.mp h1)
    obtain ⟨d', e2, h9⟩ := pP_of (pP_bind.mp h1)
    cases q : strOf d with
    | none => rw [q] at e2; cases e2
    | some z =>
      rw [q] at e2
      obtain rfl := strOf_eq q
      have ev := ((I1.peekOk o1 e1).den I1.gh).of_str
      subst ev
      obtain ⟨u, v, n1, n2, n3⟩ := T.hit z d' e2
      obtain ⟨es, n, kd⟩ := T.kd
      exact ⟨a, z, v, rfl, rfl, ⟨es, n, u, kd.at_, kd.lit, n1, n2⟩, k _ δ1 _ H1 G1 W1 h9 x1 I1 (n3 G1)⟩⟩
/-- k in d -/
def fKin (neg : Bool) (tbl : List (Str × D)) (fe : FE) : FE := fe.bind fun r => (peekF r).bind fun k => (F.of (strOf k)).bind fun z => F.ret (.val (.bl (if neg then !(tbl.lookup z).isSome else (tbl.lookup z).isSome)))
theorem KTab.sees (T : KTab K w a tbl) (z : Str) : ∃ r, PySem.W.nsIn K a z = some r ∧ r.isSome = (tbl.lookup z).isSome := by
  cases q : tbl.lookup z with
  | none => exact ⟨none, T.miss z q, rfl⟩
  | some d => obtain ⟨u, v, n1, _⟩ := T.hit z d q; exact ⟨some u, n1, rfl⟩
theorem fe_kin (T : KTab X.K X.w a tbl) (hg : Gl X y) (hm : X.mg y = some (.ref a)) (he : HE X L e fe) (hmk : behindInMarks .In (.Name y px) = false := by rfl) (hdb : (y == ("__debug__" : Str)) = false := by decide) : HE X L (.Compare e [.In] [.Name y px] pos) (fKin false tbl fe) := by
  obtain ⟨es, n, kd⟩ := T.kd
  refine PE.weak (pe_cmpR (op_in_kd kd) he (pe_glob (v := .ref a) hg hm rfl hdb) hmk) <| lift_of fun C σ H G W δ P Q I lk h k => ⟨C, G, W, δ, _, I, lk, pP_bind.mp h, fun r δ1 v H1 G1 W1 h1 x1 I1 o1 => ?_⟩
  obtain ⟨d, e1, h1⟩ := pP_peek (pP_bind.mp h1)
  obtain ⟨z, e2, h1⟩ := pP_of (pP_bind.mp h1)
  obtain rfl := strOf_eq e2
  have ev := ((I1.peekOk o1 e1).den I1.gh).of_str
  subst ev
  obtain ⟨r', n1, n2⟩ := T.sees z
  exact ⟨z, r', rfl, rfl, n1, by rw [n2]; exact k _ δ1 _ H1 G1 W1 h1 x1 I1 (Den.bl _)⟩
theorem fe_knotin (T : KTab X.K X.w a tbl) (hg : Gl X y) (hm : X.mg y = some (.ref a)) (he : HE X L e fe) (hmk : behindInMarks .NotIn (.Name y px) = false := by rfl) (hdb : (y == ("__debug__" : Str)) = false := by decide) : HE X L (.Compare e [.NotIn] [.Name y px] pos) (fKin true tbl fe) := by
  obtain ⟨es, n, kd⟩ := T.kd
  refine PE.weak (pe_cmpR (op_notIn_kd kd) he (pe_glob (v := .ref a) hg hm rfl hdb) hmk) <| lift_of fun C σ H G W δ P Q I lk h k => ⟨C, G, W, δ, _, I, lk, pP_bind.mp h, fun r δ1 v H1 G1 W1 h1 x1 I1 o1 => ?_⟩
  obtain ⟨d, e1, h1⟩ := pP_peek (pP_bind.mp h1)
  obtain ⟨z, e2, h1⟩ := pP_of (pP_bind.mp h1)
  obtain rfl := strOf_eq e2
  have ev := ((I1.peekOk o1 e1).den I1.gh).of_str
  subst ev
  obtain ⟨r', n1, n2⟩ := T.sees z
  exact ⟨z, r', rfl, rfl, n1, by rw [n2]; exact k _ δ1 _ H1 G1 W1 h1 x1 I1 (Den.bl _)⟩
/-- d.get(k, x) -/
def tKGet (K : PySem.W.Frag) (a : Addr) (ty tx : TE) : TE := fun σ H Q => ty σ H fun k H2 => tx σ H2 fun z H3 => ∃ w r, k = .str w ∧ PySem.W.nsIn K a w = some r ∧ ((∃ u v, r = some u ∧ RelV v u ∧ Q v H3) ∨ (r = none ∧ Q z H3))
theorem pe_kget2 {es : Array DictEntry} {n : Nat} {ty tx : TE} (D : KDict X.K X.w a es n) (ho : PE X o (tC (.ref a))) (he : PE X e ty) (hf : PE X f tx) (m : M2 X o "get" apos e f cpos) : PE X (.Call (.Attribute o "get" apos) [e, f] [] cpos) (tKGet X.K a ty tx) := by
  refine ⟨fun pins s σ H Q I h => ?_⟩
  refine wpAny_Call_method m.base m.few m.line PySem.F.plainAttrs_dict PySem.F.slot_dict_get PySem.F.type_dict_get (thn (ho.run pins s σ H (fun x H1 => x = .ref a ∧ tKGet X.K a ty tx σ H1 Q) I ⟨rfl, h⟩) fun u s1 ⟨x, H1, I1, rx, ex, q1⟩ => ?_)
  subst ex
  obtain rfl : u = Value.ref a := rx
  refine ⟨kd_type D I1, fun b hb => ?_, ?_⟩
  · cases hb
    exact ⟨_, I1.kIn _ _ D.at_, rfl⟩
  rw [m.trees]
  refine PySem.Calls.callWith_builtin rfl (PySem.Calls.evalArgs_plain (PySem.Calls.spliced_cons (thn (he.run pins s1 σ H1 _ I1 q1) fun iv s2 ⟨y, H2, I2, ry, q2⟩ =>
    PySem.Calls.spliced_cons (thn (hf.run pins s2 σ H2 _ I2 q2) fun fv s3 ⟨z, H3, I3, rz, w, r, ew, nr, q3⟩ => PySem.Calls.spliced_nil ?_))))
  subst ew
  obtain ⟨t, rfl⟩ := ry
  refine call_meetsIn PySem.F.slot_dict_get (kd_type D I3) PySem.F.entry_dict_get (PySem.F.args_dict_get_3 _ _ _) (meets_dict_get_default (strKind X.prog X.w) a (strKind_is X.prog X.w w t) D.low fv) ⟨_, PySem.W.mapOf_K (prog := X.prog) I3.kIn D.at_ D.lit, ?_⟩
  rw [PySem.W.find_K D.at_ nr]
  rcases q3 with ⟨u, v, rfl, ru, q⟩ | ⟨rfl, q⟩
  · exact ⟨v, H3, I3.tok _, ru, q⟩
  · exact ⟨z, H3, I3.tok _, rz, q⟩
def fKget (tbl : List (Str × D)) (fe ff : FE) : FE := fe.bind fun r => ff.bind fun r2 => (useF r2).bind fun z => (peekF r).bind fun k => (F.of (strOf k)).bind fun w => F.ret (.val ((tbl.lookup w).getD z))
theorem fe_kget (T : KTab X.K X.w a tbl) (hg : Gl X y) (hm : X.mg y = some (.ref a)) (he : HE X L e fe) (hf : HE X L f ff) (m : M2 X (.Name y px) "get" apos e f cpos := by exact ⟨rfl, rfl, rfl, rfl⟩) (hdb : (y == ("__debug__" : Str)) = false := by decide) : HE X L (.Call (.Attribute (.Name y px) "get" apos) [e, f] [] cpos) (fKget tbl fe ff) := by
  obtain ⟨es, n, kd⟩ := T.kd
  refine PE.weak (pe_kget2 kd (pe_glob (v := .ref a) hg hm rfl hdb) he hf m) <| lift_of fun C σ H G W δ P Q I lk h k => ⟨C, G, W, δ, _, I, lk, pP_bind.mp h, fun r1 δ1 v1 H1 G1 W1 h1 x1 I1 o1 => ?_⟩
  obtain ⟨G1', x1', I1', o1'⟩ := I1.pub o1
  refine ⟨C, G1', W1, δ1, _, I1', lk.mono (x1.trans x1'), pP_bind.mp h1, fun r2 δ2 v2 H2 G2 W2 h2 x2 I2 o2 => ?_⟩
  obtain ⟨z, δ3, e3, h3⟩ := pP_use (pP_bind.mp h2)
  obtain ⟨G3, x3, I3, o3, _⟩ := I2.useOk o2 e3
  obtain ⟨d, e4, h4⟩ := pP_peek (pP_bind.mp h3)
  obtain ⟨w, e5, h5⟩ := pP_of (pP_bind.mp h4)
  obtain rfl := strOf_eq e5
  rw [← peek_pub] at e4
  have ev := ((I3.peekOk (ROk.keep o1' (x2.trans x3)) e4).den I3.gh).of_str
  subst ev
  have xx : Ex G G3 := ((x1.trans x1').trans x2).trans x3
  have h5 : P (.val ((tbl.lookup w).getD z)) δ3 := h5
  cases q : tbl.lookup w with
  | none =>
    rw [q] at h5
    exact ⟨w, none, rfl, T.miss w q, .inr ⟨rfl, k _ δ3 _ H2 G3 W2 h5 xx I3 o3⟩⟩
  | some d =>
    rw [q] at h5
    obtain ⟨u, v, n1, n2, n3⟩ := T.hit w d q
    exact ⟨w, some u, rfl, n1, .inl ⟨u, v, rfl, n2, k _ δ3 _ H2 G3 W2 h5 xx I3 (n3 G3)⟩⟩
end
end DL

namespace DL
open PySem PySem.Spec L2
/-! ### the Hook, with tables -/
structure SaysF (fn : List He.DefD) (ex : List (PySem.W.Frag → Bool)) (ts : List He.Tab) (w : World) (K : PySem.W.Frag) : Prop where
  e : SaysE fn ex K
  t : ts.map (fun t => He.dicW K (t.1 K)) = ts.map fun t => some (He.keysIn w.params t.2)
abbrev AlF : Type := (He.AlD × Bool) × List (Option (List (Option (Str × Int))))
def obsF (n : Nat) (fn : List He.DefD) (ex : List (PySem.W.Frag → Bool)) (ts : List He.Tab) (g : Addr → Option Obj) : AlF := (obsE n fn ex g, ts.map fun t => He.dicW (He.frG g (He.asD g n)) (t.1 (He.frG g (He.asD g n))))
def hookF (n : Nat) (fn : List He.DefD) (ex : List (PySem.W.Frag → Bool)) (ts : List He.Tab) : PySem.W.Hook where
  α := AlF
  obs := fun s => obsF n fn ex ts s.heap.get?
  val := fun w => ((He.valD fn, true), ts.map fun (t : He.Tab) => some (He.keysIn w.params t.2))
  says := fun w h => ∃ K : PySem.W.Frag, K.In h ∧ SaysF fn ex ts w K
  of := fun _ _ e => ⟨_, He.frG_in, ⟨congrArg (fun z : AlF => z.1.1) e, fun x hx => List.all_eq_true.mp (congrArg (fun z : AlF => z.1.2) e) x hx⟩, congrArg (fun z : AlF => z.2) e⟩
  keeps := fun _ _ _ ⟨K, hK, c⟩ k => ⟨K, PySem.W.Frag.In.keeps hK k, c⟩
theorem obsF_eq {n : Nat} {fn : List He.DefD} {ex : List (PySem.W.Frag → Bool)} {ts : List He.Tab} {g : Addr → Option Obj} {s : Shared} (h : ∀ a, g a = s.heap.get? a) : obsF n fn ex ts g = (hookF n fn ex ts).obs s := by
  have e : g = s.heap.get? := funext h
  rw [e] <;> rfl
/-- a table's values: texts -/
def tabB (K : PySem.W.Frag) (a : Addr) (tbl : List (Str × Str)) : Bool := tbl.all fun q => match PySem.W.nsIn K a q.1 with
  | some (some (.str v _)) => decide (v = q.2)
  | _ => false
def tabD (tbl : List (Str × Str)) : List (Str × D) := tbl.map fun q => (q.1, .str q.2)
theorem lookup_tabD {z : Str} {d : D} : ∀ {tbl : List (Str × Str)}, (tabD tbl).lookup z = some d → ∃ v, d = .str v ∧ (z, v) ∈ tbl
  | [], h => by cases h
  | (k, v) :: r, h => by
    have h : (List.lookup z ((k, D.str v) :: tabD r)) = some d := h
    rw [List.lookup_cons] at h
    split at h
    · rename_i e
      have e : z = k := by simpa using e
      have hd : D.str v = d := Option.some.inj h
      exact ⟨v, hd.symm, by rw [e]; exact List.mem_cons_self ..⟩
    · obtain ⟨v', e1, e2⟩ := lookup_tabD h
      exact ⟨v', e1, List.mem_cons_of_mem _ e2⟩
theorem lookup_tabN {z : Str} : ∀ {tbl : List (Str × Str)}, (tabD tbl).lookup z = none → z ∉ tbl.map (·.1)
  | [], h => by simp
  | (k, v) :: r, h => by
    have h : (List.lookup z ((k, D.str v) :: tabD r)) = none := h
    rw [List.lookup_cons] at h
    split at h
    · cases h
    · rename_i e
      have ne : z ≠ k := by simpa using e
      simp only [List.map_cons, List.mem_cons, not_or]
      exact ⟨ne, lookup_tabN h⟩
theorem keys_find {z : Str} {P : Params} : ∀ {l : List DictEntry} {ks : List Str}, l.map He.keyOf = He.keysIn P ks → z ∉ ks → l.find? (·.key.isStr z) = none ∧ l.any (·.refKey) = false
  | [], _, _, _ => ⟨rfl, rfl⟩
  | e :: r, [], h, _ => by cases h
  | e :: r, k :: ks, h, hz => by
    have h1 : He.keyOf e :: r.map He.keyOf = some (k, PyData.keyHash P k) :: He.keysIn P ks := h
    injection h1 with h2 h3
    simp only [List.mem_cons, not_or] at hz
    obtain ⟨i1, i2⟩ := keys_find h3 hz.2
    unfold He.keyOf at h2
    split at h2
    · rename_i x t q
      have h4 := Option.some.inj h2
      obtain ⟨h5, h6⟩ := Prod.mk.inj h4
      refine ⟨?_, ?_⟩
      · rw [List.find?_cons]
        have : e.key.isStr z = false := by
          rw [q]
          show (x == z) = false
          rw [h5]
          simpa using fun e : k = z => hz.1 e.symm
        rw [this]; exact i1
      · rw [List.any_cons, i2]
        show (e.refKey || false) = false
        unfold DictEntry.refKey
        rw [q]; rfl
    · cases h2
theorem tab_of {fn : List He.DefD} {ex : List (PySem.W.Frag → Bool)} {ts : List He.Tab} {w : World} {K : PySem.W.Frag} (c : SaysF fn ex ts w K) (i : Nat) {x : Str} {tbl : List (Str × Str)} (h : ts[i]? = some ((fun K => He.ga K x), tbl.map (·.1))) (hv : tabB K (He.ga K x) tbl = true) : KTab K w (He.ga K x) (tabD tbl) := by
  have e2 : (ts.map fun t => He.dicW K (t.1 K))[i]? = (ts.map fun t => some (He.keysIn w.params t.2))[i]? := by rw [c.t]
  rw [List.getElem?_map, List.getElem?_map, h] at e2
  have e3 : He.dicW K (He.ga K x) = some (He.keysIn w.params (tbl.map (·.1))) := Option.some.inj e2
  obtain ⟨es, n, kd⟩ := He.dicW_ok e3
  refine ⟨⟨es, n, kd⟩, fun z d hz => ?_, fun z hz => ?_⟩
  · obtain ⟨v, rfl, hm⟩ := lookup_tabD hz
    have := List.all_eq_true.mp hv _ hm
    simp only at this
    split at this
    · rename_i u t q
      obtain rfl := of_decide_eq_true this
      exact ⟨_, .str _, q, ⟨_, rfl⟩, fun G => .str _⟩
    · cases this
  · have hk := kd.at_
    have e4 : es.toList.map He.keyOf = He.keysIn w.params (tbl.map (·.1)) := by
      unfold He.dicW at e3
      rw [hk] at e3
      dsimp only at e3
      split at e3
      · exact Option.some.inj e3
      · cases e3
    obtain ⟨f1, f2⟩ := keys_find e4 (lookup_tabN hz)
    unfold PySem.W.nsIn
    rw [hk]
    dsimp only
    rw [f1, f2]
    rfl
end DL

namespace DL
open PySem PySem.Spec L2
/-! ### comprehensions with two fors -/
def dLc2 (g : DG) (t : DT) (di1 : DI) (g1 : DG) (t1 : DT) (e : DE) (vs vs1 : List Nat) : List D → List D → List R → (List D → List R → Prop) → Prop
  | [], acc, δ, P => P acc δ
  | d :: ds, acc, δ, P => g d δ fun δ1 => t δ1 fun b δ2 => (b = true → di1 δ2 fun ds1 δ3 => dLc g1 t1 e vs1 ds1 acc (wipeD δ3 vs1) fun acc' δ4 => dLc2 g t di1 g1 t1 e vs vs1 ds acc' (wipeD δ4 vs) P) ∧ (b = false → dLc2 g t di1 g1 t1 e vs vs1 ds acc (wipeD δ2 vs) P)
def dComp2 (di : DI) (g : DG) (t : DT) (di1 : DI) (g1 : DG) (t1 : DT) (e : DE) (vs vs1 : List Nat) : DE := fun δ P => di δ fun ds δ1 => dLc2 g t di1 g1 t1 e vs vs1 ds [] (wipeD δ1 vs) fun acc δ2 => P (.own (.lst acc)) (backD δ2 δ1 vs)
section
variable {X : Cx} {K : PySem.W.Frag} {L : Lk} {pos : Pos} {e elt tg iter : Expr} {de : DE} {ta ta1 : DT} {di di1 : DI} {g g1 : DG}
theorem wipe_in {σ σ2 : St} {vs vs1 : List Nat} (hv : ∀ i ∈ vs1, i ∈ vs) (e : L2.wipe σ2 vs1 = L2.wipe σ vs1) : L2.wipe σ2 vs = L2.wipe σ vs := by
  have h : ∀ τ : St, L2.wipe (L2.wipe τ vs1) vs = L2.wipe τ vs := fun τ => by
    have : ∀ us, (∀ u ∈ us, u ∈ vs) → L2.wipe (L2.wipe τ us) vs = L2.wipe τ vs := by
      intro us
      induction us with
      | nil => intro _; rfl
      | cons u us ih =>
        intro h
        show L2.wipe ((L2.wipe τ us).set u none) vs = _
        rw [wipe_set (h u (List.mem_cons_self ..))]
        exact ih fun w hw => h w (List.mem_cons_of_mem _ hw)
    exact this vs1 hv
  rw [← h σ2, e, h σ]
theorem lift_lc2 {tgt tgt1 : TG} {vs vs1 : List Nat} (hg : GOk g tgt K vs) (hg1 : GOk g1 tgt1 K vs1) (hv : ∀ i ∈ vs1, i ∈ vs) : ∀ σ H Q, lift K L (dComp2 di g ta di1 g1 ta1 de vs vs1) σ H Q → tLc2 (liftI K L di) tgt (liftT K L0 ta) (liftI K L0 di1) tgt1 (liftT K L0 ta1) (lift K L0 de) vs vs1 σ H Q := by
  refine lift_of fun C σ H G W δ P Q I lk h k => ⟨C, G, W, δ, _, I, lk, h, fun ds δ1 J H1 G1 W1 h1 x1 I1 jo Da hD => ?_⟩
  have mD := I1.fresh hD
  have less : ∀ o, Less C (C.hold Da o) := fun o => Ct.hold_less mD.2.2.2
  let Fin : List D → Hp → Prop := fun rest H' => ∃ accV acc G' W' δ', Ex G1 G' ∧ SI K (C.hold Da (.lst accV)) (L2.wipe σ vs) H' G' W' δ' ∧ Dens K G' accV acc ∧ dLc2 g ta di1 g1 ta1 de vs vs1 rest acc δ' fun acc δ2 => P (.own (.lst acc)) (backD δ2 δ1 vs)
  refine ⟨fun i m H' => i + m = ds.length ∧ Fin (ds.drop i) H', ⟨ds.length, Nat.zero_add _, [], [], G1, W1, wipeD δ1 vs, Ex.refl G1, ((I1.wipe rfl).hold hD), .nil, h1⟩, fun i m H2 hW => ?_⟩
  obtain ⟨em, accV, acc, G2, W2, δ2, x2, I2, da, h2⟩ := hW
  have J0 := jo (C.hold Da (.lst accV)) trivial
  by_cases hi : i < ds.length
  · refine .inr ⟨J0.go i _ H2 G2 W2 δ2 hi x2 I2, Fin (ds.drop (i + 1)), fun H' h' => ⟨m - 1, by omega, by omega, h'⟩, fun x H3 hy => ?_⟩
    have hd : ds[i]? = some ds[i] := List.getElem?_eq_getElem hi
    obtain ⟨G3, W3, x3, I3, dn⟩ := J0.yld i ds[i] _ H2 G2 W2 δ2 x H3 hd x2 I2 hy
    rw [drop_get hd] at h2
    have ew : L2.wipe (L2.wipe σ vs) vs = L2.wipe σ vs := wipe_wipe σ vs
    let Inn : St → It → Hp → Prop := fun σ2 J1 H4 => ∃ W1 : Nat → Nat → Hp → Prop, (∃ m, W1 0 m H4) ∧ ∀ j k H, W1 j k H →
      (J1.stop j H ∧ Fin (ds.drop (i + 1)) H) ∨ (J1.go j H ∧ ∃ Nx1 : Hp → Prop, (∀ H', Nx1 H' → ∃ k', k' < k ∧ W1 (j + 1) k' H') ∧ ∀ x H', J1.yld j H x H' → tgt1 x (L2.wipe σ2 vs1) H' fun σ3 H5 => L2.wipe σ3 vs1 = L2.wipe σ2 vs1 ∧ liftT K L0 ta1 σ3 H5 fun b H6 =>
        if b = true then lift K L0 de σ3 H6 fun y H7 => ∃ acc, H7 Da = some (.lst acc) ∧ acc.length < sizeLine ∧ Nx1 (upd H7 Da (.lst (acc ++ [y]))) else Nx1 H6)
    refine (fun step => by rw [ew] at step; exact step) (hg (C.hold Da (.lst accV)) G3 W3 δ2 ds[i] _ x (L2.wipe σ vs) H3 (fun σ' H' => liftT K L0 ta σ' H' fun b H3 => if b = true then liftI K L0 di1 σ' H3 (Inn σ') else Fin (ds.drop (i + 1)) H3) I3 dn h2 fun σ4 H4 G4 W4 δ4 e4 h4 x4 I4 => ?_)
    have e4' : L2.wipe σ4 vs = L2.wipe σ vs := e4.trans ew
    refine ⟨_, G4, W4, δ4, _, I4, Lnk.zero, h4, fun b δ5 H5 G5 W5 h5 x5 I5 => ?_⟩
    cases b with
    | false => exact ⟨accV, acc, G5, W5, _, ((x2.trans x3).trans x4).trans x5, I5.wipe e4', da.mono ((x3.trans x4).trans x5), h5.2 rfl⟩
    | true =>
      refine ⟨_, G5, W5, δ5, _, I5, Lnk.zero, h5.1 rfl, fun ds1 δ6 J1 H6 G6 W6 h6 x6 I6 jo1 => ?_⟩
      have xx6 : Ex G2 G6 := ((x3.trans x4).trans x5).trans x6
      let Fi1 : List D → Hp → Prop := fun rest H' => ∃ accV acc G' W' δ', Ex G6 G' ∧ SI K (C.hold Da (.lst accV)) (L2.wipe σ4 vs1) H' G' W' δ' ∧ Dens K G' accV acc ∧ dLc g1 ta1 de vs1 rest acc δ' fun acc' δ4 => dLc2 g ta di1 g1 ta1 de vs vs1 (ds.drop (i + 1)) acc' (wipeD δ4 vs) fun acc δ2 => P (.own (.lst acc)) (backD δ2 δ1 vs)
      refine ⟨fun j k H' => j + k = ds1.length ∧ Fi1 (ds1.drop j) H', ⟨ds1.length, Nat.zero_add _, accV, acc, G6, W6, wipeD δ6 vs1, Ex.refl G6, I6.wipe rfl, da.mono xx6, h6⟩, fun j k H7 hW7 => ?_⟩
      obtain ⟨em7, accV7, acc7, G7, W7, δ7, x7, I7, da7, h7⟩ := hW7
      have J1' := jo1 (C.hold Da (.lst accV7)) trivial
      by_cases hj : j < ds1.length
      · refine .inr ⟨J1'.go j _ H7 G7 W7 δ7 hj x7 I7, Fi1 (ds1.drop (j + 1)), fun H' h' => ⟨k - 1, by omega, by omega, h'⟩, fun x H8 hy8 => ?_⟩
        have hd1 : ds1[j]? = some ds1[j] := List.getElem?_eq_getElem hj
        obtain ⟨G8, W8, x8, I8, dn8⟩ := J1'.yld j ds1[j] _ H7 G7 W7 δ7 x H8 hd1 x7 I7 hy8
        rw [drop_get hd1] at h7
        have ew1 : L2.wipe (L2.wipe σ4 vs1) vs1 = L2.wipe σ4 vs1 := wipe_wipe σ4 vs1
        refine (fun step => by rw [ew1] at step; exact step) (hg1 (C.hold Da (.lst accV7)) G8 W8 δ7 ds1[j] _ x (L2.wipe σ4 vs1) H8 (fun σ3 H5 => liftT K L0 ta1 σ3 H5 fun b H6 => if b = true then lift K L0 de σ3 H6 fun y H7 => ∃ acc, H7 Da = some (.lst acc) ∧ acc.length < sizeLine ∧ Fi1 (ds1.drop (j + 1)) (upd H7 Da (.lst (acc ++ [y]))) else Fi1 (ds1.drop (j + 1)) H6) I8 dn8 h7 fun σ9 H9 G9 W9 δ9 e9 h9 x9 I9 => ?_)
        have e9' : L2.wipe σ9 vs1 = L2.wipe σ4 vs1 := e9.trans ew1
        refine ⟨_, G9, W9, δ9, _, I9, Lnk.zero, h9, fun b δ10 H10 G10 W10 h10 x10 I10 => ?_⟩
        cases b with
        | false => exact ⟨accV7, acc7, G10, W10, _, ((x7.trans x8).trans x9).trans x10, I10.wipe e9', da7.mono ((x8.trans x9).trans x10), h10.2 rfl⟩
        | true =>
          refine ⟨_, G10, W10, δ10, _, I10, Lnk.zero, h10.1 rfl, fun r δ11 y H11 G11 W11 h11 x11 I11 o11 => ?_⟩
          obtain ⟨d', δ12, e12, hz, h12⟩ := h11
          obtain ⟨G12, x12, I12, o12, _⟩ := I11.useOk o11 e12
          have hT : (C.hold Da (.lst accV7)).T Da = some (.lst accV7) := upd_same
          have xx : Ex G7 G12 := (((x8.trans x9).trans x10).trans x11).trans x12
          exact ⟨accV7, (I12.tm Da _ hT).1, by rw [da7.1]; exact hz, accV7 ++ [y], acc7 ++ [d'], G12, W11, _, x7.trans xx, (I12.wipe e9').rehold mD.2.1, (da7.mono xx).append (.cons o12 .nil), h12⟩
      · have e : j = ds1.length := by omega
        subst e
        rw [List.drop_length] at h7
        refine .inl ⟨J1'.stop _ H7 G7 W7 δ7 x7 I7, accV7, acc7, G7, W7, wipeD δ7 vs, (x2.trans xx6).trans x7, ?_, da7, h7⟩
        exact I7.wipe ((wipe_in hv (wipe_wipe σ4 vs1)).trans e4')
  · have e : i = ds.length := by omega
    subst e
    rw [List.drop_length] at h2
    obtain ⟨W', J, o⟩ := I2.unhold mD.2.1 mD.2.2.2 da
    exact .inl ⟨J0.stop _ H2 G2 W2 δ2 x2 I2, k _ _ _ H2 G2 W' h2 (x1.trans x2) (J.back I1 x2) o⟩
end
/-! as functions -/
def fLc2 (g : FG) (t : FT) (fi1 : FI) (g1 : FG) (t1 : FT) (e : FE) (vs vs1 : List Nat) : List D → List D → List R → T (List D × List R)
  | [], acc, δ => .ret (acc, δ)
  | d :: ds, acc, δ => match g d δ with
    | none => .fail
    | some δ1 => (t δ1).bind fun o => match o with
      | .err _ _ _ => .fail
      | .ok b δ2 => if b = true then (fi1 δ2).bind fun o => match o with
          | .err _ _ _ => .fail
          | .ok ds1 δ3 => (fLc g1 t1 e vs1 ds1 acc (wipeD δ3 vs1)).bind fun p => fLc2 g t fi1 g1 t1 e vs vs1 ds p.1 (wipeD p.2 vs)
        else fLc2 g t fi1 g1 t1 e vs vs1 ds acc (wipeD δ2 vs)
def fComp2 (fi : FI) (g : FG) (t : FT) (fi1 : FI) (g1 : FG) (t1 : FT) (e : FE) (vs vs1 : List Nat) : FE := fi.bind fun ds δ1 => (fLc2 g t fi1 g1 t1 e vs vs1 ds [] (wipeD δ1 vs)).bind fun p => .ret (.ok (.own (.lst p.1)) (backD p.2 δ1 vs))
section
variable {X : Cx} {L : Lk} {pos : Pos} {g g1 : FG} {fe : FE} {x : Lx}
theorem lc2_imp {g' g1' : DG} {t t1 : FT} {fi1 : FI} {vs vs1 : List Nat} {P : List D → List R → Prop} (w : ∀ d δ P, pG g d δ P → g' d δ P) (w1 : ∀ d δ P, pG g1 d δ P → g1' d δ P) : ∀ (ds acc : List D) (δ : List R), (fLc2 g t fi1 g1 t1 fe vs vs1 ds acc δ).all (fun p => P p.1 p.2) → dLc2 g' (pP L0.x t) (pP L0.x fi1) g1' (pP L0.x t1) (pP L0.x fe) vs vs1 ds acc δ P
  | [], acc, δ, h => h
  | d :: ds, acc, δ, h => by
    unfold fLc2 at h
    cases q : g d δ with
    | none => rw [q] at h; exact h.elim
    | some δ1 =>
      rw [q] at h
      refine w _ _ _ ⟨δ1, q, ?_⟩
      have h := T.all_bind.mp h
      refine T.all_mono h fun o ho => ?_
      cases o with
      | err c fs δ => exact ho.elim
      | ok b δ2 =>
        cases b with
        | false => exact ⟨fun z => (by cases z), fun _ => lc2_imp w w1 ds acc _ ho⟩
        | true =>
          refine ⟨fun _ => ?_, fun z => (by cases z)⟩
          have ho := T.all_bind.mp ho
          refine T.all_mono ho fun o ho => ?_
          cases o with
          | err c fs δ => exact ho.elim
          | ok ds1 δ3 => exact lc_imp w1 ds1 acc _ (T.all_mono (T.all_bind.mp ho) fun p hp => lc2_imp w w1 ds p.1 _ hp)
theorem comp2_imp {g' g1' : DG} {fi fi1 : FI} {t t1 : FT} {vs vs1 : List Nat} (w : ∀ d δ P, pG g d δ P → g' d δ P) (w1 : ∀ d δ P, pG g1 d δ P → g1' d δ P) (δ : List R) (P : R → List R → Prop) (h : pP x (fComp2 fi g t fi1 g1 t1 fe vs vs1) δ P) : dComp2 (pP x fi) g' (pP L0.x t) (pP L0.x fi1) g1' (pP L0.x t1) (pP L0.x fe) vs vs1 δ P :=
  pP_then h fun ds δ1 h => lc2_imp w w1 ds [] _ (T.all_mono (T.all_bind.mp h) fun p hp => hp)
theorem fe_lc2 {elt tg iter tg1 iter1 : Expr} {ifs ifs1 : List Expr} {scope : Scope} {own : List (Str × Nat)} {fi fi1 : FI} {g' g1' : DG} {tgt tgt1 : TG} {t t1 : FT} {vs vs1 : List Nat} (w : ∀ d δ P, pG g d δ P → g' d δ P) (w1 : ∀ d δ P, pG g1 d δ P → g1' d δ P) (hc : X.calm = true) (hN : X.N.Nodup) (hi : HI X L tg iter fi) (ok : BlkOk X.N X.env.scope scope own)
    (gok : GOk g' tgt X.K vs) (gok1 : GOk g1' tgt1 X.K vs1) (hv : own.map (·.2) = vs) (hv1 : ∀ i ∈ vs1, i ∈ vs)
    (hg : ∀ (s : Shared) (H : Hp) (C : Addr) (cl : List (Str × Addr)) (fp : List Addr), PG (X.blk s H scope (compEnvC scope cl C X.env) fp) tg tgt) (ht : ∀ (s : Shared) (H : Hp) (C : Addr) (cl : List (Str × Addr)) (fp : List Addr), PTs (X.blk s H scope (compEnvC scope cl C X.env) fp) ifs (liftT X.K L0 (pP L0.x t)))
    (hi1 : ∀ (s : Shared) (H : Hp) (C : Addr) (cl : List (Str × Addr)) (fp : List Addr), PI (X.blk s H scope (compEnvC scope cl C X.env) fp) tg1 iter1 (liftI X.K L0 (pP L0.x fi1)))
    (hg1 : ∀ (s : Shared) (H : Hp) (C : Addr) (cl : List (Str × Addr)) (fp : List Addr), PG (X.blk s H scope (compEnvC scope cl C X.env) fp) tg1 tgt1) (ht1 : ∀ (s : Shared) (H : Hp) (C : Addr) (cl : List (Str × Addr)) (fp : List Addr), PTs (X.blk s H scope (compEnvC scope cl C X.env) fp) ifs1 (liftT X.K L0 (pP L0.x t1)))
    (he : ∀ (s : Shared) (H : Hp) (C : Addr) (cl : List (Str × Addr)) (fp : List Addr), PE (X.blk s H scope (compEnvC scope cl C X.env) fp) elt (lift X.K L0 (pP L0.x fe))) (hs : ∀ x, foldedSetIterable iter X.env x = pure x := by intro _; rfl) (hs1 : ∀ env x, foldedSetIterable iter1 env x = pure x := by intro _ _; rfl) :
    HE X L (.ListComp elt [⟨tg, iter, ifs, 0⟩, ⟨tg1, iter1, ifs1, 0⟩] scope pos) (fComp2 fi g t fi1 g1 t1 fe vs vs1) := by
  have h := pe_lc2 (pos := pos) (own := own) (vs1 := vs1) hc hN hi ok (by rw [hv]; exact hv1) hg ht hi1 hg1 ht1 he hs hs1
  rw [hv] at h
  exact PE.weak (PE.weak h (lift_lc2 gok gok1 hv1)) (lift_imp (comp2_imp w w1))
theorem fs_setLc2 {i : Nat} {y : Str} {py spos : Pos} {elt tg iter tg1 iter1 : Expr} {ifs ifs1 : List Expr} {scope : Scope} {own : List (Str × Nat)} {fi fi1 : FI} {g' g1' : DG} {tgt tgt1 : TG} {t t1 : FT} {vs vs1 : List Nat} (w : ∀ d δ P, pG g d δ P → g' d δ P) (w1 : ∀ d δ P, pG g1 d δ P → g1' d δ P) (hc : X.calm = true) (hN : X.N.Nodup)
    (hsw : swapsWith (.ListComp elt [⟨tg, iter, ifs, 0⟩, ⟨tg1, iter1, ifs1, 0⟩] scope pos) (some (.Name y py)) spos.line X.env = pure true) (hi : HI X L tg iter fi) (ok : BlkOk X.N X.env.scope scope own)
    (gok : GOk g' tgt X.K vs) (gok1 : GOk g1' tgt1 X.K vs1) (hv : own.map (·.2) = vs) (hv1 : ∀ i ∈ vs1, i ∈ vs)
    (hg : ∀ (s : Shared) (H : Hp) (C : Addr) (cl : List (Str × Addr)) (fp : List Addr), PG (X.blk s H scope (compEnvC scope cl C X.env) fp) tg tgt) (ht : ∀ (s : Shared) (H : Hp) (C : Addr) (cl : List (Str × Addr)) (fp : List Addr), PTs (X.blk s H scope (compEnvC scope cl C X.env) fp) ifs (liftT X.K L0 (pP L0.x t)))
    (hi1 : ∀ (s : Shared) (H : Hp) (C : Addr) (cl : List (Str × Addr)) (fp : List Addr), PI (X.blk s H scope (compEnvC scope cl C X.env) fp) tg1 iter1 (liftI X.K L0 (pP L0.x fi1)))
    (hg1 : ∀ (s : Shared) (H : Hp) (C : Addr) (cl : List (Str × Addr)) (fp : List Addr), PG (X.blk s H scope (compEnvC scope cl C X.env) fp) tg1 tgt1) (ht1 : ∀ (s : Shared) (H : Hp) (C : Addr) (cl : List (Str × Addr)) (fp : List Addr), PTs (X.blk s H scope (compEnvC scope cl C X.env) fp) ifs1 (liftT X.K L0 (pP L0.x t1)))
    (he : ∀ (s : Shared) (H : Hp) (C : Addr) (cl : List (Str × Addr)) (fp : List Addr), PE (X.blk s H scope (compEnvC scope cl C X.env) fp) elt (lift X.K L0 (pP L0.x fe))) (hy : X.N[i]? = some y := by rfl) (hyl : X.env.scope.names.lookup y = some .local := by rfl) (hs : ∀ x, foldedSetIterable iter X.env x = pure x := by intro _; rfl) (hs1 : ∀ env x, foldedSetIterable iter1 env x = pure x := by intro _ _; rfl) :
    HS X L (.Assign [.Name y py] (.ListComp elt [⟨tg, iter, ifs, 0⟩, ⟨tg1, iter1, ifs1, 0⟩] scope pos) spos) (fSet i (fComp2 fi g t fi1 g1 t1 fe vs vs1)) := by
  have h := ps_setLc2 (i := i) (own := own) (vs1 := vs1) hc hN hy hyl hsw hi ok (by rw [hv]; exact hv1) hg ht hi1 hg1 ht1 he hs hs1
  rw [hv] at h
  refine PS.weak h fun D σ H q => ?_
  obtain ⟨C, G, W, δ, DD, I, lk, h, k⟩ := liftS_imp (set_imp (comp2_imp w w1)) D σ H q
  refine lift_lc2 gok gok1 hv1 σ H _ ⟨C, G, W, δ, _, I, lk, h, fun r δ1 v H1 G1 W1 h1 x1 I1 o1 => ?_⟩
  obtain ⟨r', δ2, e, hp⟩ := h1
  obtain ⟨G2, x2, I2, o2, nk⟩ := I1.asOk o1 e
  obtain ⟨W3, I3⟩ := I2.store (i := i) o2 nk
  exact k.nx _ H1 G2 W3 _ (x1.trans x2) I3 hp
end
end DL

set_option maxHeartbeats 2000000
namespace DL
open PySem PySem.Spec L2
/-! ### list(d.items()) -/
def putF (ob : Addr → List Value) : Hp → List Addr → List (Key × V) → Hp
  | H, a :: as, p :: kvs => putF ob (upd H a (.frz (tupObj (ob a)) (.tup [kV p.1, p.2]))) as kvs
  | H, _, _ => H
theorem putF_off {ob : Addr → List Value} {b : Addr} : ∀ (as : List Addr) (kvs : List (Key × V)) (H : Hp), b ∉ as → putF ob H as kvs b = H b
  | [], _, _, _ => rfl
  | _ :: _, [], _, _ => rfl
  | a :: as, p :: kvs, H, h => by
    show putF ob (upd H a _) as kvs b = H b
    rw [putF_off as kvs _ (fun z => h (List.mem_cons_of_mem _ z)), upd_ne (fun z => h (by rw [z]; exact List.mem_cons_self))]
theorem putF_at {ob : Addr → List Value} : ∀ (as : List Addr) (kvs : List (Key × V)) (H : Hp), as.length = kvs.length → as.Nodup → Paired (fun (t : Addr) (p : Key × V) => putF ob H as kvs t = some (.frz (tupObj (ob t)) (.tup [kV p.1, p.2]))) as kvs
  | [], [], _, _, _ => .nil
  | [], _ :: _, _, h, _ => by cases h
  | _ :: _, [], _, h, _ => by cases h
  | a :: as, p :: kvs, H, h, hn => by
    have hn' := List.nodup_cons.mp hn
    have ih := putF_at (ob := ob) as kvs (upd H a (.frz (tupObj (ob a)) (.tup [kV p.1, p.2]))) (Nat.succ.inj h) hn'.2
    refine .cons ?_ ih
    show putF ob (upd H a (.frz (tupObj (ob a)) (.tup [kV p.1, p.2]))) as kvs a = _
    rw [putF_off as kvs _ hn'.1, upd_same]
def rItemsF : V → Hp → VK → Prop := fun x H Q => ∃ (d : Addr) (kvs : List (Key × V)), x = .ref d ∧ H d = some (.dK kvs) ∧
  ∀ (ob : Addr → List Value) (p : Addr) (ts : List Addr), ts.length = kvs.length → ts.Nodup → H p = none → (∀ t ∈ ts, H t = none) → p ∉ ts → Q (.ref p) (upd (putF ob H ts kvs) p (.lst (ts.map V.ref)))
def tListItemsF (te : TE) : TE := fun σ H Q => te σ H fun x H1 => rItemsF x H1 Q
section
variable {X : Cx} {e : Expr} {te : TE} {p apos cpos pos : Pos}
theorem items_laidF {pins : List (Addr × Obj)} {σ : L2.St} {H : Hp} {s : Shared} {h' : Heap} {tk : Nat} {kvs : List (Key × V)} {vs : List (Key × Value)} {acc : Array Value} {c : Nat} {as : List Addr} (I : Inv X pins σ H s) (hz : kvs.length ≤ sizeLine) (kv : KV kvs vs)
    (hk : ∀ b o, s.heap.get? b = some o → h'.get? b = some o) (hS : h'.get? s.heap.objs.size = some { cls := .type "list", dict := none, data := .seq acc c, slots := #[] }) (hl : as.length = vs.length) (hG : PySem.W.KdxG (mixKind X.prog X.w) vs s.heap.objs.size h' as) (hacc : acc.toList = as.map Value.ref) :
    ∃ ob : Addr → List Value, as.length = kvs.length ∧ as.Nodup ∧ H s.heap.objs.size = none ∧ (∀ t ∈ as, H t = none) ∧ s.heap.objs.size ∉ as ∧ Inv X pins σ (upd (putF ob H as kvs) s.heap.objs.size (.lst (as.map V.ref))) { s with heap := h', toks := tk } := by
  have lk : kvs.length = vs.length := Paired.length kv
  have hSn : s.heap.objs.size ∉ as := fun z => Nat.lt_irrefl _ (hG.above _ z)
  have nd : as.Nodup := List.Pairwise.imp (fun {a b} (h : a < b) => Nat.ne_of_lt h) hG.rise
  have new : ∀ t ∈ as, H t = none := fun t ht => I.hok.fresh (Nat.le_of_lt (hG.above t ht))
  have newS : H s.heap.objs.size = none := I.hok.fresh (Nat.le_refl _)
  refine ⟨fun a => match h'.get? a with | some o => (match o.data with | .seq xs _ => xs.toList | _ => []) | none => [], by omega, nd, newS, new, hSn, ?_⟩
  generalize hob : (fun a => match h'.get? a with | some o => (match o.data with | .seq xs _ => xs.toList | _ => []) | none => [] : Addr → List Value) = ob
  have atP := putF_at (ob := ob) as kvs H (by omega) nd
  have off : ∀ b, b ∉ as → b ≠ s.heap.objs.size → upd (putF ob H as kvs) s.heap.objs.size (.lst (as.map V.ref)) b = H b := fun b h1 h2 => by rw [upd_ne h2, putF_off as kvs _ h1]
  have low : ∀ b o, s.heap.get? b = some o → b ∉ as ∧ b ≠ s.heap.objs.size := fun b o e => ⟨fun z => absurd (Heap.lt_size e) (Nat.not_lt.mpr (Nat.le_of_lt (hG.above b z))), Nat.ne_of_lt (Heap.lt_size e)⟩
  have kp : ∀ b u, H b = some u → (upd (putF ob H as kvs) s.heap.objs.size (.lst (as.map V.ref))) b = some u := fun b u e => by
    rw [off b (fun z => by rw [new b z] at e; cases e) (fun z => by rw [z, newS] at e; cases e)]
    exact e
  have eS : upd (putF ob H as kvs) s.heap.objs.size (.lst (as.map V.ref)) s.heap.objs.size = some (.lst (as.map V.ref)) := upd_same
  refine I.call' (ch := []) rfl ⟨fun b o q _ _ _ => hk b o q, fun b o q _ _ _ => ⟨o.slots, hk b o q⟩, fun b o q n _ => ?_, fun b o q _ => ⟨o, hk b o q⟩, fun b xs q => kp b _ q, fun b o u q => kp b _ q, fun b ps q => ⟨#[], by rw [kp b _ q]; simp⟩⟩ (fun b u q => ?_) I.bare fun b z => by simp at z
  · obtain ⟨z1, z2⟩ := low b o q
    rw [off b z1 z2]
    exact n
  · by_cases hb : b ∈ as
    · have hb2 : b ≠ s.heap.objs.size := fun z => hSn (z ▸ hb)
      obtain ⟨j, pk, e1, e2, e3⟩ := LiI.paired_ix atP hb
      rw [upd_ne hb2, e3] at q
      cases q
      obtain ⟨key, k, x, f1, f2, f3⟩ := hG.pairs j b e1
      obtain ⟨qv, g1, g2, g3⟩ := LiI.paired_get kv e2
      rw [f1] at g1
      cases g1
      have rk : RelV (kV pk.1) key := by
        rw [g2]
        exact relV_key (show keyIs k key = true from f2)
      have eo : ob b = [key, x] := by rw [← hob]; simp only [f3]
      refine ⟨by rw [eo]; exact f3, by show 2 ≤ sizeLine; decide, [key, x], .cons rk (.cons g3 .nil), ⟨_, f3, rfl, _, rfl⟩⟩
    · by_cases hb2 : b = s.heap.objs.size
      · rw [hb2] at q ⊢
        rw [eS] at q
        cases q
        refine ⟨by rw [List.length_map]; omega, acc.toList, c, by rw [hacc]; exact LiI.vals_refs as, ?_⟩
        rw [Array.toArray_toList]
        exact hS
      · rw [off b hb hb2] at q
        exact (I.hok b u q).stay (fun d v _ y => hk d v y) (fun d y => kp d _ y) fun d xs y => kp d _ y
theorem pe_listItemsF (hc : X.calm = true) (he : PE X e te) (hg : Gl X "list") (hm : X.mg "list" = none) (hbase : attributeBase e "items" X.env (eval e X.env) = eval e X.env := by rfl) (hline : (apos.endLine == cpos.line) = true := by rfl)
    (hs : starEach [.Call (.Attribute e "items" apos) [] [] cpos] X.env = (false, eval (.Call (.Attribute e "items" apos) [] [] cpos) X.env) :: starEach [] X.env := by rfl) :
    PE X (.Call (.Name "list" p) [.Call (.Attribute e "items" apos) [] [] cpos] [] pos) (tListItemsF te) := by
  refine ⟨fun pins s σ H Q I hq => ?_⟩
  refine wpAny_Call_Name_kw (ld_blt I hg hm (by decide +kernel : bootBuiltins "list" = some (.type "list")) ?_)
  refine PyProof.Rows.callWith_type1 ?_ hs rfl
  rw [hs]
  show wpAny _ _ (spliced ((false, eval (.Call (.Attribute e "items" apos) [] [] cpos) X.env) :: backTo pos (starEach [] X.env))) _ _ s
  refine Calls.spliced_cons ?_
  refine wpAny_Call_method (T := "dict") (id := "dict.items") hbase rfl hline F.plainAttrs_dict F.slot_dict_items F.type_dict_items (thn (he.run pins s σ H _ I hq) fun u s1 ⟨x, H1, I1, rx, d, kvs, ex, hd, q⟩ => ?_)
  subst ex
  obtain rfl : u = Value.ref d := rx
  obtain ⟨hz, hs0, vs, kv, hdo⟩ := I1.hok d _ hd
  obtain ⟨ep, hat⟩ := hdo.dictAt
  have lk : kvs.length = vs.length := Paired.length kv
  have I2 : Inv X pins σ H1 { s1 with heap := s1.heap.push { cls := .type "dict_items", data := .fields #[.ref d] } } := I1.kept (t' := s1.toks) fun b ob q => Heap.get?_push_of_some _ q
  refine ⟨hdo.typeIs, hdo.mapOf.noDict, ?_⟩
  show wpAny _ _ (callWith cpos (.builtin "dict.items") [.ref d] [] []) _ X.xe s1
  refine method_meetsIn F.slot_dict_items F.entry_dict_items rfl (PySem.evalArgs_none ⟨rfl, hdo.typeIs, F.args_dict_items_1 _, _, meets_dict_items (mixKind X.prog X.w) d hs0, ⟨vs, hdo⟩, ?_⟩)
  refine Calls.spliced_nil ?_
  refine PySem.W.kdx_call (knd := mixKind X.prog X.w) (kvs := vs) (ep := ep) (I1.ok.hd hc) ⟨_, Heap.get?_push_size _ rfl, rfl, rfl⟩ (hat.push _) (by omega) fun h' tk acc c as hk hS hl hG hacc => ?_
  obtain ⟨ob, k1, k2, k3, k4, k5, J⟩ := items_laidF (tk := tk) I2 hz kv hk hS hl hG hacc
  exact ⟨.ref _, _, J, rfl, q ob _ as k1 k2 k3 k4 k5⟩
end
def kD : Key → D
  | .inl i => .int i
  | .inr x => .str x
def pairsOf (kds : List (Key × D)) : List D := kds.map fun p => .tup [kD p.1, p.2]
section
variable {K : PySem.W.Frag} {C : Ct} {σ : St} {δ : List R}
theorem den_kV {G : Hp} : ∀ k : Key, Den K G (kV k) (kD k)
  | .inl i => .int i
  | .inr x => .str x
theorem SI.newTups {ob : Addr → List Value} : ∀ {ts : List Addr} {kvs : List (Key × V)} {kds : List (Key × D)} {H G : Hp} {W : Ow}, SI K C σ H G W δ → ts.length = kvs.length → ts.Nodup → (∀ t ∈ ts, H t = none) → DensP K G kvs kds →
    ∃ G' W', Ex G G' ∧ SI K C σ (putF ob H ts kvs) G' W' δ ∧ Dens K G' (ts.map V.ref) (pairsOf kds)
  | [], [], kds, H, G, W, I, _, _, _, d => by
    have : kds = [] := by cases kds with | nil => rfl | cons => have := d.1; simp at this
    subst this
    exact ⟨G, W, Ex.refl G, I, .nil⟩
  | [], _ :: _, _, _, _, _, _, h, _, _, _ => by cases h
  | _ :: _, [], _, _, _, _, _, h, _, _, _ => by cases h
  | t :: ts, p :: kvs, [], H, G, W, I, _, _, _, d => by have := d.1; simp at this
  | t :: ts, p :: kvs, q :: kds, H, G, W, I, hl, hn, hf, d => by
    have hn' := List.nodup_cons.mp hn
    have dp := All2.head d
    have dd : Dens K G [kV p.1, p.2] [kD q.1, q.2] := .cons (dp.1 ▸ den_kV p.1) (.cons dp.2 .nil)
    obtain ⟨I1, d1⟩ := I.newTup (its := ob t) (hf t List.mem_cons_self) dd
    have x1 : Ex G (upd G t (.frz (tupObj (ob t)) (.tup [kV p.1, p.2]))) := Ex.new (I.fresh (hf t List.mem_cons_self)).1
    obtain ⟨G', W', x2, I2, d2⟩ := SI.newTups (ob := ob) (kds := kds) I1 (Nat.succ.inj hl) hn'.2 (fun a ha => by rw [upd_ne (show a ≠ t from fun z => hn'.1 (by rw [← z]; exact ha))]; exact hf a (List.mem_cons_of_mem _ ha)) ((All2.tail d).imp fun _ _ z => ⟨z.1, z.2.mono x1⟩)
    exact ⟨G', W', x1.trans x2, I2, .cons (d1.mono x2) d2⟩
end
def dItems (de : DE) : DE := fun δ P => de δ fun r δ1 => ∃ kds, peek r δ1 = some (.dic kds) ∧ P (.own (.lst (pairsOf kds))) δ1
def fItems (fa : FE) : FE := fa.bind fun r => (peekF r).bind fun d => match d with
  | .dic kds => F.ret (.own (.lst (pairsOf kds)))
  | _ => F.fail
section
variable {X : Cx} {K : PySem.W.Frag} {L : Lk} {e : Expr} {de : DE} {fa : FE} {p apos cpos pos : Pos}
theorem de_items (hc : X.calm = true) (he : PE X e (lift X.K L de)) (hg : Gl X "list") (hm : X.mg "list" = none) (hbase : attributeBase e "items" X.env (eval e X.env) = eval e X.env := by rfl) (hline : (apos.endLine == cpos.line) = true := by rfl)
    (hs : starEach [.Call (.Attribute e "items" apos) [] [] cpos] X.env = (false, eval (.Call (.Attribute e "items" apos) [] [] cpos) X.env) :: starEach [] X.env := by rfl) :
    PE X (.Call (.Name "list" p) [.Call (.Attribute e "items" apos) [] [] cpos] [] pos) (lift X.K L (dItems de)) :=
  PE.weak (pe_listItemsF hc he hg hm hbase hline hs) <| lift_of fun C σ H G W δ P Q I lk h k => ⟨C, G, W, δ, _, I, lk, h, fun r δ1 v H1 G1 W1 h1 x1 I1 o1 => by
    obtain ⟨kds, e1, hp⟩ := h1
    obtain ⟨a, vs, rfl, h3, dn⟩ := (I1.peekOk o1 e1).dicE I1.gh
    refine ⟨a, vs, rfl, h3, fun ob p ts hl hn hpn hf hpt => ?_⟩
    obtain ⟨G2, W2, x2, I2, d2⟩ := I1.newTups (ob := ob) hl hn hf dn
    obtain ⟨I3, o3⟩ := I2.newLst (p := p) (by rw [putF_off ts vs _ hpt]; exact hpn) d2
    exact k _ δ1 _ _ _ _ hp (x1.trans x2) I3 o3⟩
theorem fe_items (hc : X.calm = true) (he : HE X L e fa) (hg : Gl X "list") (hm : X.mg "list" = none) (hbase : attributeBase e "items" X.env (eval e X.env) = eval e X.env := by rfl) (hline : (apos.endLine == cpos.line) = true := by rfl)
    (hs : starEach [.Call (.Attribute e "items" apos) [] [] cpos] X.env = (false, eval (.Call (.Attribute e "items" apos) [] [] cpos) X.env) :: starEach [] X.env := by rfl) :
    HE X L (.Call (.Name "list" p) [.Call (.Attribute e "items" apos) [] [] cpos] [] pos) (fItems fa) :=
  PE.weak (de_items hc he hg hm hbase hline hs) (lift_imp fun δ P h => pP_then h fun r δ1 h => by
    obtain ⟨d, e1, h⟩ := pP_peek (pP_bind.mp h)
    split at h
    · exact ⟨_, e1, h⟩
    · exact h.elim)
end
/-! ### dict of a tuple, a list, a dict -/
def rDictA (K : PySem.W.Frag) : List V → Hp → VK → Prop := fun xs H Q => rDictT K xs H Q ∨ (∃ (a : Addr) (ps : List Addr) (kvs : List (Key × V)), xs = [.ref a] ∧ SqL K H a (ps.map V.ref) ∧ Paired (fun p kv => SqT K H p [kV kv.1, kv.2]) ps kvs ∧ ∀ p, H p = none → Q (.ref p) (upd H p (.dK (mergeK [] kvs)))) ∨
  (∃ (a : Addr) (kvs : List (Key × V)), xs = [.ref a] ∧ Rd H a (.dK kvs) ∧ ∀ p, H p = none → Q (.ref p) (upd H p (.dK kvs)))
def bDictA : List D → (R → Prop) → Prop
  | [.tup ps], P => ∃ kvs, pairsD ps = some kvs ∧ P (.own (.dic (mergeD [] kvs)))
  | [.lst ps], P => ∃ kvs, pairsD ps = some kvs ∧ P (.own (.dic (mergeD [] kvs)))
  | [.dic kvs], P => P (.own (.dic kvs))
  | _, _ => False
def bDictAF : List D → Option R
  | [.tup ps] => match pairsD ps with
    | some kvs => some (.own (.dic (mergeD [] kvs)))
    | none => none
  | [.lst ps] => match pairsD ps with
    | some kvs => some (.own (.dic (mergeD [] kvs)))
    | none => none
  | [.dic kvs] => some (.own (.dic kvs))
  | _ => none
theorem bs_dictA : BS bDictAF bDictA := fun ds r P h hp => by
  unfold bDictAF at h
  split at h
  · split at h
    · cases h; exact ⟨_, by assumption, hp⟩
    · cases h
  · split at h
    · cases h; exact ⟨_, by assumption, hp⟩
    · cases h
  · cases h; exact hp
  · cases h
theorem call_dictA {X : Cx} (hc : X.calm = true) : CallR X (.type "dict") (rDictA X.K) := fun pins s σ H xs us Q I r h => by
  rcases h with h | h | h
  · exact call_dictT hc pins s σ H xs us Q I r h
  · exact call_dictP hc pins s σ H xs us Q I r h
  · exact call_dictD pins s σ H xs us Q I r h
theorem cl_dictA {K : PySem.W.Frag} : CallLook K (rDictA K) bDictA := fun C σ H G W δ vs ds P Q I a hg k => by
  match ds, hg with
  | [.tup xs], hg => exact .inl (cl_dict C σ H G W δ vs [.tup xs] P Q I a hg k)
  | [.lst xs], hg =>
    obtain ⟨kds, e, hp⟩ := hg
    obtain ⟨v, rfl, s⟩ := one_of a
    obtain ⟨p, us, rfl, h1, h2⟩ := s.lst I.gh
    obtain ⟨as, kvs, rfl, y2, y3⟩ := pairs_ok I.gh h2 e
    refine .inr (.inl ⟨_, as, kvs, rfl, .of h1, y2, fun t ht => ?_⟩)
    have m := I.fresh ht
    exact k _ _ _ _ _ hp (Ex.refl G) (I.lay ht) ⟨t, rfl, m, if_pos rfl, _, upd_same, merge_ok y3 .nil⟩
  | [.dic kds], hp =>
    obtain ⟨v, rfl, s⟩ := one_of a
    obtain ⟨p, us, rfl, h1, h2⟩ := s.dicE I.gh
    refine .inr (.inr ⟨_, us, rfl, .inl h1, fun t ht => ?_⟩)
    have m := I.fresh ht
    exact k _ _ _ _ _ hp (Ex.refl G) (I.lay ht) ⟨t, rfl, m, if_pos rfl, _, upd_same, h2⟩
end DL

namespace DL
open PySem PySem.Spec L2
section
variable {X : Cx} {K : PySem.W.Frag} {L : Lk} {e : Expr} {fe : FE} {tbl : List (Str × D)} {a : Addr} {y : Str} {px pos : Pos}
theorem ft_kin (T : KTab X.K X.w a tbl) (hg : Gl X y) (hm : X.mg y = some (.ref a)) (he : HE X L e fe) (hmk : behindInMarks .In (.Name y px) = false := by rfl) (hdb : (y == ("__debug__" : Str)) = false := by decide) : HT' X L (.Compare e [.In] [.Name y px] pos) (fTst (fKin false tbl fe)) := by
  obtain ⟨es, n, kd⟩ := T.kd
  refine PT.weak (pt_cmpR (op_in_kd kd) he (pe_glob (v := .ref a) hg hm rfl hdb) hmk) fun σ H Q h => ?_
  refine lift_of (K := X.K) (L := L) (de := pP L.x (fKin false tbl fe)) (fun C σ H G W δ P Q I lk h k => ⟨C, G, W, δ, _, I, lk, pP_bind.mp h, fun r δ1 v H1 G1 W1 h1 x1 I1 o1 => ?_⟩) σ H _ (lift_tst σ H Q (liftT_imp (tst_imp fun _ _ h => h) σ H Q h))
  obtain ⟨d, e1, h1⟩ := pP_peek (pP_bind.mp h1)
  obtain ⟨z, e2, h1⟩ := pP_of (pP_bind.mp h1)
  obtain rfl := strOf_eq e2
  have ev := ((I1.peekOk o1 e1).den I1.gh).of_str
  subst ev
  obtain ⟨r', n1, n2⟩ := T.sees z
  exact ⟨z, r', rfl, rfl, n1, by rw [n2]; exact k _ δ1 _ H1 G1 W1 h1 x1 I1 (Den.bl _)⟩
theorem ft_knotin (T : KTab X.K X.w a tbl) (hg : Gl X y) (hm : X.mg y = some (.ref a)) (he : HE X L e fe) (hmk : behindInMarks .NotIn (.Name y px) = false := by rfl) (hdb : (y == ("__debug__" : Str)) = false := by decide) : HT' X L (.Compare e [.NotIn] [.Name y px] pos) (fTst (fKin true tbl fe)) := by
  obtain ⟨es, n, kd⟩ := T.kd
  refine PT.weak (pt_cmpR (op_notIn_kd kd) he (pe_glob (v := .ref a) hg hm rfl hdb) hmk) fun σ H Q h => ?_
  refine lift_of (K := X.K) (L := L) (de := pP L.x (fKin true tbl fe)) (fun C σ H G W δ P Q I lk h k => ⟨C, G, W, δ, _, I, lk, pP_bind.mp h, fun r δ1 v H1 G1 W1 h1 x1 I1 o1 => ?_⟩) σ H _ (lift_tst σ H Q (liftT_imp (tst_imp fun _ _ h => h) σ H Q h))
  obtain ⟨d, e1, h1⟩ := pP_peek (pP_bind.mp h1)
  obtain ⟨z, e2, h1⟩ := pP_of (pP_bind.mp h1)
  obtain rfl := strOf_eq e2
  have ev := ((I1.peekOk o1 e1).den I1.gh).of_str
  subst ev
  obtain ⟨r', n1, n2⟩ := T.sees z
  exact ⟨z, r', rfl, rfl, n1, by rw [n2]; exact k _ δ1 _ H1 G1 W1 h1 x1 I1 (Den.bl _)⟩
end
/-! ### a dict at the top: the world says by a flag whether an error of a special method's look-up is dropped -/
def putW (w : World) (b : Bool) : World := { w with params := { w.params with followText := fun s => if s = "special-get-raises" then b else w.params.followText s } }
theorem putW_eq {w : World} {b : Bool} (h : w.params.followText "special-get-raises" = b) : w = putW w b := by
  have e : (fun s => if s = "special-get-raises" then b else w.params.followText s) = w.params.followText := by
    funext s
    by_cases hs : s = "special-get-raises"
    · rw [if_pos hs, hs, h]
    · rw [if_neg hs]
  unfold putW
  rw [e]
theorem by_flag {p : World → Prop} (h1 : ∀ w, p (putW w true)) (h2 : ∀ w, p (putW w false)) (w : World) : p w := by
  cases h : w.params.followText "special-get-raises" with
  | true => rw [putW_eq h]; exact h1 w
  | false => rw [putW_eq h]; exact h2 w
end DL

namespace DL
open PySem PySem.Spec L2
/-! ### two texts that differ -/
section
variable {X : Cx} {K : PySem.W.Frag} {L : Lk} {a b e : Expr} {da db de : DE} {pos p q : Pos} {fa fb fe : FE}
def cNeS : D → D → Bool → Prop := fun d1 d2 r => ∃ x y, d1 = .str x ∧ d2 = .str y ∧ r = !decide (x = y)
theorem cs_neS : CmpSem K rNe cNeS := fun H x y d1 d2 r Q h1 h2 hc k => by
  obtain ⟨x', y', rfl, rfl, rfl⟩ := hc
  have e1 := h1.of_str
  have e2 := h2.of_str
  subst e1; subst e2
  refine ⟨rfl, ?_⟩
  rw [show decide (V.str x' = V.str y') = decide (x' = y') by simp]
  exact k
def cNeSF : D → D → Option Bool
  | .str x, .str y => some (!decide (x = y))
  | _, _ => none
theorem cs_neS' : CS cNeSF cNeS := fun d1 d2 b h => by
  unfold cNeSF at h
  split at h
  · cases h; exact ⟨_, _, rfl, rfl, rfl⟩
  · cases h
theorem fe_neS (ha : HE X L a fa) (hb : HE X L b fb) : HE X L (.Compare a [.NotEq] [b] pos) (fCmp cNeSF fa fb) := fe_cmp cs_neS' op_ne cs_neS ha hb (nomark _)
theorem ft_neS (ha : HE X L a fa) (hb : HE X L b fb) : HT' X L (.Compare a [.NotEq] [b] pos) (fTst (fCmp cNeSF fa fb)) := ft_cmp cs_neS' op_ne cs_neS ha hb (nomark _)
theorem v_cNS {x y : Str} : cNeSF (.str x) (.str y) = some (!decide (x = y)) := (rfl)
end
end DL

namespace DL
open PySem PySem.Spec L2
/-! ### the rules of reckoning for G1 to G12 -/
/-- helpers -/
def extK0 (i : Nat) (fe : FE) (r : R) (δ : List R) : T (EO R) := match r with
  | .own (.lst _) => (fe.bind fun r => (peekF r).bind fun d => (F.of (lstOf d)).bind fun es => putOwn i (extG es)) δ
  | _ => .fail
def augK0 (i : Nat) (fx fe : FE) (r : R) (δ : List R) : T SO := match r with
  | .own (.lst _) => eS fx (fun r1 => eS (peekF r1) fun k => augR i fe k) δ
  | _ => .fail
def itemsK (d : D) : FE := match d with
  | .dic kds => F.ret (.own (.lst (pairsOf kds)))
  | _ => F.fail
def insK0 (i : Nat) (fA : FA) (r : R) (δ : List R) : T (EO R) := match r with
  | .own (.lst _) => (fA.bind fun rs => (useAllF rs).bind (insK i)) δ
  | _ => .fail
def setIxS (i : Nat) (fx : FE) (r : R) : FS := ownS i (eS fx fun r2 => eS (useF r) fun d => eS (peekF r2) fun k => setIxK i d k)
def setIx0 (i : Nat) (fx : FE) (r : R) (q : R) (δ : List R) : T SO := match q with
  | .own (.lst _) => eS fx (fun r2 => eS (useF r) fun d => eS (peekF r2) fun k => setIxK i d k) δ
  | _ => .fail
def setIx2 (i : Nat) (d : D) (ds : List D) (o : Option Nat) (δ : List R) : T SO := match o with
  | some j => .ret (.nx (st δ i (.own (.lst (ds.set j d)))))
  | none => .fail
def setIx1 (i : Nat) (d : D) (n : Int) (q : R) (δ : List R) : T SO := match q with
  | .own (.lst ds) => setIx2 i d ds (ixN ds.length n) δ
  | _ => .fail
def putOwnK (i : Nat) (o : Option (List D)) (δ : List R) : T (EO R) := match o with
  | some ds' => .ret (.ok (.val .non) (st δ i (.own (.lst ds'))))
  | none => .fail
section
variable {α β : Type} {C : Addr} {c : Addr} {fs : List (Str × D)} {δ : List R} {d : D} {i : Nat} {fa fb fc fe fo ff : FE} {t : FT} {fA fr : FA} {A B fu : FS} {r : R} {rs : List R} {ds es : List D} {is : List Nat} {kvs : List (Key × D)} {z : Str} {tbl : List (Str × D)} {neg : Bool}
theorem v_par : fPar is fA δ = (fA δ).bind fun o => o.go fun rs => eS (useAllF rs) fun rs' δ => optS (putAll2 is rs' δ) := (rfl)
theorem v_putN : putAll2 [] [] δ = some δ := (rfl)
theorem v_putC : putAll2 (i :: is) (r :: rs) δ = putAll2 is rs (st δ i r) := (rfl)
theorem v_inL : cInF neg d (.lst ds) = if okk 60 d = true ∧ ds.all (okk 60) = true then some (ng neg (inD d ds)) else none := (rfl)
theorem v_inT : cInF neg d (.tup ds) = if flatD d = true ∧ ds.all flatD = true then some (ng neg (inD d ds)) else none := (rfl)
theorem v_ngT {b : Bool} : ng true b = !b := (rfl)
theorem v_ngF {b : Bool} : ng false b = b := (rfl)
theorem v_inDN : inD d [] = false := (rfl)
theorem v_inDC {e : D} : inD d (e :: ds) = (eqD 60 e d || inD d ds) := (rfl)
theorem v_flN : flatD .non = true := (rfl)
theorem v_flB {b : Bool} : flatD (.bl b) = true := (rfl)
theorem v_flI {n : Int} : flatD (.int n) = true := (rfl)
theorem v_flS : flatD (.str z) = true := (rfl)
theorem v_flT : flatD (.tup ds) = false := (rfl)
theorem v_flL : flatD (.lst ds) = false := (rfl)
theorem v_isi {s : String} : fIsi s fe δ = (fe δ).bind fun o => o.on fun r => (peekF r).bind fun d => (F.of (isTy s d)).bind fun b => F.ret (.val (.bl b)) := (rfl)
theorem v_ext : fExt i fe δ = extK0 i fe (gt δ i) δ := by unfold fExt ownL extK0; rfl
theorem v_extO : extK0 i fe (.own (.lst ds)) δ = (fe δ).bind fun o => o.on fun r => (peekF r).bind fun d => (F.of (lstOf d)).bind fun es => putOwn i (extG es) := (rfl)
def putOwn1 (i : Nat) (g : List D → Option (List D)) (r : R) (δ : List R) : T (EO R) := match r with
  | .own (.lst ds) => putOwnK i (g ds) δ
  | _ => .fail
theorem v_putOwn {g : List D → Option (List D)} : putOwn i g δ = putOwn1 i g (gt δ i) δ := by
  unfold putOwn putOwn1
  cases gt δ i with
  | own e => cases e <;> first | rfl | (rename_i ds; unfold putOwnK; cases g ds <;> rfl)
  | _ => rfl
theorem v_putOwn1 {g : List D → Option (List D)} : putOwn1 i g (.own (.lst ds)) δ = putOwnK i (g ds) δ := (rfl)
theorem v_putOwnS : putOwnK i (some ds) δ = .ret (.ok (.val .non) (st δ i (.own (.lst ds)))) := (rfl)
theorem v_putOwnI {p : Prop} [Decidable p] {x y : Option (List D)} : putOwnK i (if p then x else y) δ = if p then putOwnK i x δ else putOwnK i y δ := by split <;> rfl
theorem v_putOwnN : putOwnK i none δ = .fail := (rfl)
theorem v_extG : extG es ds = if ds.length + es.length ≤ sizeLine then some (ds ++ es) else none := (rfl)
theorem v_insO : insK0 i fA (.own (.lst ds)) δ = (fA δ).bind fun o => o.on fun rs => (useAllF rs).bind (insK i) := (rfl)
theorem v_insK {n : Int} : insK i [.val (.int n), .val d] = putOwn i (insG n d) := (rfl)
theorem v_rev : fRev fe δ = (fe δ).bind fun o => o.on fun r => (peekF r).bind fun d => (F.of (lstOf d)).bind fun ds => F.ret (.own (.lst ds.reverse)) := (rfl)
theorem v_lstO : lstOf (.lst ds) = some ds := (rfl)
theorem v_aug {fx : FE} : fAug i fx fe δ = augK0 i fx fe (gt δ i) δ := by unfold fAug ownS augK0; rfl
theorem v_augO {fx : FE} : augK0 i fx fe (.own (.lst ds)) δ = (fx δ).bind fun o => o.go fun r1 => eS (peekF r1) fun k => augR i fe k := (rfl)
theorem v_augR {k : D} : augR i fe k δ = augRK i fe k (gt δ i) δ := (rfl)
theorem v_augRK {n : Int} : augRK i fe (.int n) (.own (.lst ds)) δ = if 0 ≤ n ∧ n < 2 ^ 62 then augAK i n.toNat fe ds[n.toNat]? δ else .fail := (rfl)
theorem v_augAK {n : Nat} {a : Int} : augAK i n fe (some (.int a)) δ = (fe δ).bind fun o => o.go fun r2 => eS (peekF r2) fun b => augB i n a b := (rfl)
theorem v_augB {n : Nat} {a : Int} {b : D} : augB i n a b δ = augBK i n a b (gt δ i) δ := (rfl)
theorem v_augBK {n : Nat} {a b : Int} : augBK i n a (.int b) (.own (.lst ds)) δ = if n < ds.length then .ret (.nx (st δ i (.own (.lst (ds.set n (.int (a + b))))))) else .fail := (rfl)
theorem v_get : fGet fo fe ff δ = (fo δ).bind fun o => o.on fun r1 => (peekF r1).bind fun d0 => if isDic d0 = true then fe.bind fun r2 => ff.bind fun r3 => (useF r3).bind fun z => (peekF r1).bind fun d => (peekF r2).bind fun k => (F.of (getK d k z)).bind fun y => F.ret (.val y) else F.fail := (rfl)
theorem v_isDic : isDic (.dic kvs) = true := (rfl)
theorem v_getKS : getK (.dic kvs) (.str z) d = some ((valD kvs (.inr z)).getD d) := (rfl)
theorem v_getKI {n : Int} : getK (.dic kvs) (.int n) d = some ((valD kvs (.inl n)).getD d) := (rfl)
theorem v_disp {ps : List (FE × FE)} : fDisp ps δ = (fPairs ps δ).bind fun o => o.on fun l => F.of (dictK l) := (rfl)
theorem v_ppN : fPairs [] δ = .ret (.ok [] δ) := (rfl)
theorem v_ppC {ps : List (FE × FE)} {k v : FE} : fPairs ((k, v) :: ps) δ = (k δ).bind fun o => o.on fun rk => v.bind fun rv => (useF rk).bind fun dk => (useF rv).bind fun dv => (fPairs ps).bind fun l => F.ret ((dk, dv) :: l) := (rfl)
theorem v_dnew : fDnew δ = .ret (.ok (.own (.dic [])) δ) := (rfl)
theorem v_dictK {l : List (D × D)} : dictK l = if l.length ≤ 15 then (keysD l).map fun kds => .own (.dic (mergeD [] kds)) else none := (rfl)
theorem v_try0 : fTry0 C A fu δ = (A δ).bind (tryB0 C fu) := (rfl)
theorem v_t0N : tryB0 C fu (.nx δ) = .ret (.nx δ) := (rfl)
theorem v_t0R : tryB0 C fu (.rt r δ) = .ret (.rt r δ) := (rfl)
theorem v_t0B : tryB0 C fu (.bk δ) = .ret (.bk δ) := (rfl)
theorem v_t0C : tryB0 C fu (.ct δ) = .ret (.ct δ) := (rfl)
theorem v_t0E : tryB0 C fu (.err c fs δ) = if c = C then (fu δ).bind SO.suite0 else .fail := (rfl)
theorem v_s0N : SO.suite0 (.nx δ) = .ret (.nx δ) := (rfl)
theorem v_s0R : SO.suite0 (.rt r δ) = .ret (.rt r δ) := (rfl)
theorem v_s0B : SO.suite0 (.bk δ) = .ret (.bk δ) := (rfl)
theorem v_s0C : SO.suite0 (.ct δ) = .ret (.ct δ) := (rfl)
theorem v_kix : fKix tbl fe δ = (fe δ).bind fun o => o.on fun r => (peekF r).bind fun k => (F.of ((strOf k).bind fun z => tbl.lookup z)).bind fun d => F.ret (.val d) := (rfl)
theorem v_kin : fKin neg tbl fe δ = (fe δ).bind fun o => o.on fun r => (peekF r).bind fun k => (F.of (strOf k)).bind fun z => F.ret (.val (.bl (if neg then !(tbl.lookup z).isSome else (tbl.lookup z).isSome))) := (rfl)
theorem v_kget : fKget tbl fe ff δ = (fe δ).bind fun o => o.on fun r => ff.bind fun r2 => (useF r2).bind fun z => (peekF r).bind fun k => (F.of (strOf k)).bind fun w => F.ret (.val ((tbl.lookup w).getD z)) := (rfl)
theorem v_strO : strOf (.str z) = some z := (rfl)
theorem v_items : fItems fe δ = (fe δ).bind fun o => o.on fun r => (peekF r).bind fun d => itemsK d := by
  unfold fItems itemsK; rfl
theorem v_itemsK : itemsK (.dic kvs) δ = .ret (.ok (.own (.lst (pairsOf kvs))) δ) := (rfl)
theorem v_dAL : bDictAF [.lst ds] = (pairsD ds).map fun kvs => .own (.dic (mergeD [] kvs)) := by show (match pairsD ds with | some kvs => some (R.own (D.dic (mergeD [] kvs))) | none => none) = _; cases pairsD ds <;> rfl
theorem v_dAT : bDictAF [.tup ds] = (pairsD ds).map fun kvs => .own (.dic (mergeD [] kvs)) := by show (match pairsD ds with | some kvs => some (R.own (D.dic (mergeD [] kvs))) | none => none) = _; cases pairsD ds <;> rfl
theorem v_dAD : bDictAF [.dic kvs] = some (.own (.dic kvs)) := (rfl)
theorem v_ins : fIns i fA δ = insK0 i fA (gt δ i) δ := by unfold fIns ownL insK0; rfl
theorem v_setIx {fx : FE} : fSetIx i fx fe δ = (fe δ).bind fun o => o.go fun r => setIxS i fx r := by unfold fSetIx setIxS; rfl
theorem v_setIxS {fx : FE} : setIxS i fx r δ = setIx0 i fx r (gt δ i) δ := by unfold setIxS ownS setIx0; rfl
theorem v_setIx0 {fx : FE} : setIx0 i fx r (.own (.lst ds)) δ = (fx δ).bind fun o => o.go fun r2 => eS (useF r) fun d => eS (peekF r2) fun k => setIxK i d k := (rfl)
theorem v_setIxK {n : Int} : setIxK i d (.int n) δ = setIx1 i d n (gt δ i) δ := by
  unfold setIxK setIx1
  cases gt δ i with
  | own e => cases e <;> rfl
  | _ => rfl
theorem v_setIx1 {n : Int} : setIx1 i d n (.own (.lst ds)) δ = setIx2 i d ds (ixN ds.length n) δ := (rfl)
theorem v_setIx2 {n : Nat} : setIx2 i d ds (some n) δ = .ret (.nx (st δ i (.own (.lst (ds.set n d))))) := (rfl)
theorem v_chain {c1 c2 : D → D → Option Bool} : fChain c1 c2 fa fb fc δ = (fa δ).bind fun o => o.on fun r1 => fb.bind fun r2 => (peekF r1).bind fun d1 => (peekF r2).bind fun d2 => (F.of (c1 d1 d2)).bind fun k =>
  if k = true then fc.bind fun r3 => (peekF r3).bind fun d3 => (F.of (c2 d2 d3)).bind fun k2 => F.ret (.val (.bl k2)) else F.ret (.val (.bl false)) := (rfl)
theorem v_bAny : bAnyF [.lst ds] = (blsOf ds).map fun bs => .val (.bl (bs.any id)) := (rfl)
theorem v_bAll : bAllF [.lst ds] = (blsOf ds).map fun bs => .val (.bl (bs.all id)) := (rfl)
theorem v_bSum : bSumF [.lst ds] = (intsOf ds).map fun ns => .val (.int ns.sum) := (rfl)
theorem v_comp2 {fi fi1 : FI} {g g1 : FG} {t1 : FT} {vs vs1 : List Nat} : fComp2 fi g t fi1 g1 t1 fe vs vs1 δ = (fi δ).bind fun o => o.on fun ds δ1 => (fLc2 g t fi1 g1 t1 fe vs vs1 ds [] (wipeD δ1 vs)).bind fun p => .ret (.ok (.own (.lst p.1)) (backD p.2 δ1 vs)) := (rfl)
theorem v_repr : bReprF [d] = if d.Fits 60 16000000 then some (.val (.str d.py.shown)) else none := (rfl)

theorem v_ty_int_int {n : Int} {b : Bool} : isTy "int" (.int n) = some true := (rfl)
theorem v_ty_int_bool {n : Int} {b : Bool} : isTy "int" (.bl b) = some true := (rfl)
theorem v_ty_int_str {n : Int} {b : Bool} : isTy "int" (.str z) = some false := (rfl)
theorem v_ty_int_list {n : Int} {b : Bool} : isTy "int" (.lst ds) = some false := (rfl)
theorem v_ty_int_tuple {n : Int} {b : Bool} : isTy "int" (.tup ds) = some false := (rfl)
theorem v_ty_int_dict {n : Int} {b : Bool} : isTy "int" (.dic kvs) = some false := (rfl)
theorem v_ty_int_NoneType {n : Int} {b : Bool} : isTy "int" (.non) = some false := (rfl)
theorem v_ty_bool_int {n : Int} {b : Bool} : isTy "bool" (.int n) = some false := (rfl)
theorem v_ty_bool_bool {n : Int} {b : Bool} : isTy "bool" (.bl b) = some true := (rfl)
theorem v_ty_bool_str {n : Int} {b : Bool} : isTy "bool" (.str z) = some false := (rfl)
theorem v_ty_bool_list {n : Int} {b : Bool} : isTy "bool" (.lst ds) = some false := (rfl)
theorem v_ty_bool_tuple {n : Int} {b : Bool} : isTy "bool" (.tup ds) = some false := (rfl)
theorem v_ty_bool_dict {n : Int} {b : Bool} : isTy "bool" (.dic kvs) = some false := (rfl)
theorem v_ty_bool_NoneType {n : Int} {b : Bool} : isTy "bool" (.non) = some false := (rfl)
theorem v_ty_str_int {n : Int} {b : Bool} : isTy "str" (.int n) = some false := (rfl)
theorem v_ty_str_bool {n : Int} {b : Bool} : isTy "str" (.bl b) = some false := (rfl)
theorem v_ty_str_str {n : Int} {b : Bool} : isTy "str" (.str z) = some true := (rfl)
theorem v_ty_str_list {n : Int} {b : Bool} : isTy "str" (.lst ds) = some false := (rfl)
theorem v_ty_str_tuple {n : Int} {b : Bool} : isTy "str" (.tup ds) = some false := (rfl)
theorem v_ty_str_dict {n : Int} {b : Bool} : isTy "str" (.dic kvs) = some false := (rfl)
theorem v_ty_str_NoneType {n : Int} {b : Bool} : isTy "str" (.non) = some false := (rfl)
theorem v_ty_list_int {n : Int} {b : Bool} : isTy "list" (.int n) = some false := (rfl)
theorem v_ty_list_bool {n : Int} {b : Bool} : isTy "list" (.bl b) = some false := (rfl)
theorem v_ty_list_str {n : Int} {b : Bool} : isTy "list" (.str z) = some false := (rfl)
theorem v_ty_list_list {n : Int} {b : Bool} : isTy "list" (.lst ds) = some true := (rfl)
theorem v_ty_list_tuple {n : Int} {b : Bool} : isTy "list" (.tup ds) = some false := (rfl)
theorem v_ty_list_dict {n : Int} {b : Bool} : isTy "list" (.dic kvs) = some false := (rfl)
theorem v_ty_list_NoneType {n : Int} {b : Bool} : isTy "list" (.non) = some false := (rfl)
theorem v_ty_tuple_int {n : Int} {b : Bool} : isTy "tuple" (.int n) = some false := (rfl)
theorem v_ty_tuple_bool {n : Int} {b : Bool} : isTy "tuple" (.bl b) = some false := (rfl)
theorem v_ty_tuple_str {n : Int} {b : Bool} : isTy "tuple" (.str z) = some false := (rfl)
theorem v_ty_tuple_list {n : Int} {b : Bool} : isTy "tuple" (.lst ds) = some false := (rfl)
theorem v_ty_tuple_tuple {n : Int} {b : Bool} : isTy "tuple" (.tup ds) = some true := (rfl)
theorem v_ty_tuple_dict {n : Int} {b : Bool} : isTy "tuple" (.dic kvs) = some false := (rfl)
theorem v_ty_tuple_NoneType {n : Int} {b : Bool} : isTy "tuple" (.non) = some false := (rfl)
theorem v_ty_dict_int {n : Int} {b : Bool} : isTy "dict" (.int n) = some false := (rfl)
theorem v_ty_dict_bool {n : Int} {b : Bool} : isTy "dict" (.bl b) = some false := (rfl)
theorem v_ty_dict_str {n : Int} {b : Bool} : isTy "dict" (.str z) = some false := (rfl)
theorem v_ty_dict_list {n : Int} {b : Bool} : isTy "dict" (.lst ds) = some false := (rfl)
theorem v_ty_dict_tuple {n : Int} {b : Bool} : isTy "dict" (.tup ds) = some false := (rfl)
theorem v_ty_dict_dict {n : Int} {b : Bool} : isTy "dict" (.dic kvs) = some true := (rfl)
theorem v_ty_dict_NoneType {n : Int} {b : Bool} : isTy "dict" (.non) = some false := (rfl)
end
end DL
namespace CN
open PySem PySem.Spec L2 DL
/-! ### steps, tests, conditions as they are -/
inductive Stp where
  | plus (k : Int) | times (k : Int) | into (k : Int) | over (k : Int) | found (ps : List (Int × Int))
def prD (p : Int × Int) : D := .tup [.int p.1, .int p.2]
def Stp.d : Stp → D
  | .plus k => .tup [.str "plus", .int k]
  | .times k => .tup [.str "times", .int k]
  | .into k => .tup [.str "into", .int k]
  | .over k => .tup [.str "over", .int k]
  | .found ps => .tup [.str "found", .tup (ps.map prD)]
abbrev Sm (k : Int) : Prop := -1000000000000 ≤ k ∧ k ≤ 1000000000000
def Stp.Ok : Stp → Prop
  | .plus k => Sm k
  | .times k => Sm k
  | .into k => Sm k ∧ 1 ≤ k
  | .over k => Sm k
  | .found ps => ps.length ≤ 7 ∧ (∀ p ∈ ps, Sm p.1 ∧ Sm p.2) ∧ (ps.map (·.1)).Nodup
def look : List (Int × Int) → Int → Option Int
  | [], _ => none
  | p :: ps, n => if p.1 = n then some p.2 else look ps n
def led1 : Stp → Int → Option Int
  | .plus k, n => some (n + k)
  | .times k, n => some (n * k)
  | .into k, n => some (n.fdiv k)
  | .over k, n => if n = 0 then none else some (k.fdiv n)
  | .found ps, n => look ps n
def led : List Stp → Int → Option Int
  | [], n => some n
  | s :: ss, n => match led1 s n with
    | none => none
    | some m => led ss m
def errAt : List Stp → Int → Option Int
  | [], _ => none
  | s :: ss, n => match led1 s n with
    | none => some n
    | some m => errAt ss m
def oD : Option Int → D
  | none => .non
  | some i => .int i
def Bg (e : Nat) (n : Int) : Prop := n.natAbs < 2 ^ e
theorem led_none {ss : List Stp} {n : Int} (h : led ss n = none) : ∃ m, errAt ss n = some m := by
  induction ss generalizing n with
  | nil => cases h
  | cons s ss ih =>
    unfold led at h
    unfold errAt
    cases q : led1 s n with
    | none => exact ⟨n, rfl⟩
    | some m => rw [q] at h; exact ih h
theorem look_mem {ps : List (Int × Int)} {n m : Int} (h : look ps n = some m) : (n, m) ∈ ps := by
  induction ps with
  | nil => cases h
  | cons p ps ih =>
    unfold look at h
    split at h
    · rename_i e
      cases h
      subst e
      exact List.mem_cons_self ..
    · exact List.mem_cons_of_mem _ (ih h)
theorem pow_mono {a b : Nat} (h : a ≤ b) : 2 ^ a ≤ 2 ^ b := Nat.pow_le_pow_right (by decide) h
theorem sm_bg {k : Int} (h : Sm k) : k.natAbs < 2 ^ 40 := by
  have : k.natAbs ≤ 1000000000000 := by unfold Sm at h; omega
  exact Nat.lt_of_le_of_lt this (by decide)
theorem bg_step {e : Nat} {s : Stp} {n m : Int} (he : 40 ≤ e) (hn : Bg e n) (hs : s.Ok) (h : led1 s n = some m) : Bg (e + 41) m := by
  unfold Bg at hn ⊢
  have p1 : (2 : Nat) ^ 40 ≤ 2 ^ e := pow_mono he
  have p2 : (2 : Nat) ^ (e + 1) ≤ 2 ^ (e + 41) := pow_mono (by omega)
  have p3 : (2 : Nat) ^ (e + 1) = 2 * 2 ^ e := by rw [Nat.pow_succ]; omega
  cases s with
  | plus k =>
    have hk := sm_bg (k := k) hs
    cases h
    have := Int.natAbs_add_le n k
    omega
  | times k =>
    have hk := sm_bg (k := k) hs
    cases h
    rw [Int.natAbs_mul]
    have p4 : (2 : Nat) ^ (e + 40) = 2 ^ e * 2 ^ 40 := Nat.pow_add 2 e 40
    have p5 : (2 : Nat) ^ (e + 40) ≤ 2 ^ (e + 41) := pow_mono (by omega)
    have p6 : n.natAbs * k.natAbs ≤ 2 ^ e * k.natAbs := Nat.mul_le_mul_right _ (Nat.le_of_lt hn)
    have p7 : 2 ^ e * k.natAbs < 2 ^ e * 2 ^ 40 := Nat.mul_lt_mul_of_pos_left hk (Nat.pow_pos (by decide))
    omega
  | into k =>
    cases h
    have := Int.natAbs_fdiv_le_natAbs n k
    omega
  | over k =>
    have hk := sm_bg (k := k) hs
    have h : (if n = 0 then none else some (k.fdiv n)) = some m := h
    split at h
    · cases h
    · cases h
      have := Int.natAbs_fdiv_le_natAbs k n
      omega
  | found ps =>
    have := sm_bg (hs.2.1 _ (look_mem h)).2
    simp only at this
    omega
/-- steps and a number, not too great -/
def Fair (ss : List Stp) (n : Int) : Prop := (∀ s ∈ ss, s.Ok) ∧ ∃ e, 40 ≤ e ∧ Bg e n ∧ e + 41 * ss.length ≤ 400
theorem Fair.head {s : Stp} {ss : List Stp} {n : Int} (h : Fair (s :: ss) n) : Fair [s] n := by
  obtain ⟨h1, e, h2, h3, h4⟩ := h
  exact ⟨fun t ht => h1 t (by simp at ht; simp [ht]), e, h2, h3, by simp at h4 ⊢; omega⟩
theorem Fair.tail {s : Stp} {ss : List Stp} {n m : Int} (h : Fair (s :: ss) n) (hm : led1 s n = some m) : Fair ss m := by
  obtain ⟨h1, e, h2, h3, h4⟩ := h
  exact ⟨fun t ht => h1 t (List.mem_cons_of_mem _ ht), e + 41, by omega, bg_step h2 h3 (h1 s (List.mem_cons_self ..)) hm, by simp at h4; omega⟩
theorem Fair.ok {s : Stp} {ss : List Stp} {n : Int} (h : Fair (s :: ss) n) : s.Ok := h.1 s (List.mem_cons_self ..)
theorem log_lt {n e : Nat} (h : n < 2 ^ e) (he : 0 < e) : n.log2 < e := by
  by_cases h0 : n = 0
  · subst h0; simpa using he
  · exact (Nat.log2_lt h0).mpr h
theorem mul_ok {n k : Int} {e : Nat} (h : Bg e n) (hk : Sm k) (he : e ≤ 400) (e0 : 40 ≤ e) : mulB n k = true := by
  unfold mulB
  have h1 := log_lt h (by omega)
  have h2 := log_lt (sm_bg hk) (by decide)
  simp only [decide_eq_true_eq]
  omega
/-! answers, signs, leaves -/
inductive Ans where
  | er | no | un | ye
deriving DecidableEq
def Ans.s : Ans → String
  | .er => "error" | .no => "no" | .un => "unknown" | .ye => "yes"
abbrev Ans.d (a : Ans) : D := .str a.s
def Ans.x : Ans → Ans
  | .no => .ye | .ye => .no | a => a
theorem Ans.xx (a : Ans) : a.x.x = a := by cases a <;> rfl
inductive Sg where
  | lt | le | ne | eq | gt | ge
def Sg.s : Sg → String
  | .lt => "<" | .le => "<=" | .ne => "<>" | .eq => "=" | .gt => ">" | .ge => ">="
def Sg.so : Sg → Int → Int → Bool
  | .lt, m, n => decide (m < n) | .le, m, n => decide (m ≤ n) | .ne, m, n => decide (m ≠ n) | .eq, m, n => decide (m = n) | .gt, m, n => decide (n < m) | .ge, m, n => decide (n ≤ m)
inductive Leaf where
  | emp (c : String) | num (c : String) | ask (c : String) (ss : List Stp) (g : Sg) (n : Int) | alw (a : Ans)
def Leaf.d : Leaf → D
  | .emp c => .tup [.str "empty", .str c]
  | .num c => .tup [.str "number", .str c]
  | .ask c ss g n => .tup [.str "asks", .str c, .tup (ss.map Stp.d), .str g.s, .int n]
  | .alw a => .tup [.str "always", .str a.s]
inductive Val where
  | non | int (i : Int) | wd (s : String)
def Val.d : Val → D
  | .non => .non | .int i => .int i | .wd s => .str s
abbrev Row := List (String × Val)
def rowK (r : Row) : List (Key × D) := r.map fun p => (.inr (Str.ofString p.1), p.2.d)
abbrev Row.d (r : Row) : D := .dic (rowK r)
def Row.get : Row → String → Option Val
  | [], _ => none
  | p :: r, c => if p.1 = c then some p.2 else Row.get r c
theorem row_val : ∀ (r : Row) (c : String), valD (rowK r) (.inr (Str.ofString c)) = (r.get c).map Val.d
  | [], c => rfl
  | p :: r, c => by
    have ih := row_val r c
    unfold rowK at ih ⊢
    unfold Row.get
    rw [List.map_cons]
    unfold valD at ih ⊢
    rw [List.find?_cons]
    by_cases h : p.1 = c
    · subst h; simp
    · rw [if_neg h]
      have : decide ((Sum.inr (Str.ofString p.1) : Key) = .inr (Str.ofString c)) = false := by
        simp only [Sum.inr.injEq, ofS_inj, h, decide_false]
      simp only [this]
      assumption
def numAns (ss : List Stp) (g : Sg) (n i : Int) : Ans := match led ss i with
  | none => .er
  | some m => if g.so m n = true then .ye else .no
def Leaf.ansV : Leaf → Val → Ans
  | .alw a, _ => a
  | .emp _, .non => .ye
  | .emp _, _ => .no
  | .num _, .non => .un
  | .num _, .int _ => .ye
  | .num _, .wd _ => .no
  | .ask _ _ _ _, .non => .un
  | .ask _ ss g n, .int i => numAns ss g n i
  | .ask _ _ _ _, .wd _ => .er
def Leaf.col : Leaf → Option String
  | .emp c => some c | .num c => some c | .ask c _ _ _ => some c | .alw _ => none
def Leaf.ans (l : Leaf) (r : Row) : Ans := match l.col with
  | none => l.ansV .non
  | some c => l.ansV ((r.get c).getD .non)
/-- a leaf, over some names -/
def Leaf.Ok (ns : List String) : Leaf → Prop
  | .emp c => c ∈ ns
  | .num c => c ∈ ns
  | .ask c ss g n => c ∈ ns ∧ ss.length ≤ 4 ∧ (∀ s ∈ ss, s.Ok) ∧ Sm n
  | .alw _ => True
/-- a row with all these names, of small integers -/
def Row.Ok (ns : List String) (r : Row) : Prop := (∀ c ∈ ns, ∃ v, r.get c = some v) ∧ ∀ p ∈ r, ∀ i, p.2 = .int i → Bg 60 i
theorem get_mem : ∀ {r : Row} {c : String} {v : Val}, r.get c = some v → (c, v) ∈ r
  | [], c, v, h => by cases h
  | p :: r, c, v, h => by
    unfold Row.get at h
    split at h
    · rename_i e
      cases h
      subst e
      exact List.mem_cons_self ..
    · exact List.mem_cons_of_mem _ (get_mem h)
/-! ### conditions -/
inductive K where
  | all | any | not | cas | fst
deriving DecidableEq
inductive Cnd where
  | leaf (l : Leaf) | node (k : K) (ps : List Cnd)
def pairsU : List D → List D
  | a :: b :: r => .tup [a, b] :: pairsU r
  | _ => []
def lastD (ds : List D) : D := ds.getLast?.getD .non
def nodeD : K → List D → D
  | .all, ds => .tup [.str "all", .tup ds]
  | .any, ds => .tup [.str "any", .tup ds]
  | .fst, ds => .tup [.str "first", .tup ds]
  | .not, ds => .tup [.str "not", lastD ds]
  | .cas, ds => .tup [.str "case", .tup (pairsU ds), lastD ds]
mutual
def Cnd.d : Cnd → D
  | .leaf l => l.d
  | .node k ps => nodeD k (Cnd.ds ps)
def Cnd.ds : List Cnd → List D
  | [] => []
  | c :: cs => c.d :: Cnd.ds cs
end
theorem ds_map : ∀ cs : List Cnd, Cnd.ds cs = cs.map Cnd.d
  | [] => by simp only [Cnd.ds, List.map_nil]
  | c :: cs => by simp only [Cnd.ds, List.map_cons, ds_map cs]
theorem Cnd.ind {P : Cnd → Prop} (hl : ∀ l, P (.leaf l)) (hn : ∀ k ps, (∀ p ∈ ps, P p) → P (.node k ps)) : ∀ c, P c :=
  fun c => Cnd.rec (motive_1 := P) (motive_2 := fun ps => ∀ p ∈ ps, P p) hl (fun k ps h => hn k ps h) (fun p h => by cases h) (fun c cs h1 h2 p hp => by
    rcases List.mem_cons.mp hp with z | z
    · rw [z]; exact h1
    · exact h2 p z) c
/-- well formed -/
def kOk : K → Nat → Prop
  | .not, n => n = 1
  | .cas, n => n % 2 = 1
  | _, _ => True
mutual
def Cnd.Wf (ns : List String) : Cnd → Prop
  | .leaf l => l.Ok ns
  | .node k ps => kOk k ps.length ∧ Cnd.Wfs ns ps
def Cnd.Wfs (ns : List String) : List Cnd → Prop
  | [] => True
  | c :: cs => c.Wf ns ∧ Cnd.Wfs ns cs
end
theorem wfs_iff {ns : List String} : ∀ {cs : List Cnd}, Cnd.Wfs ns cs ↔ ∀ c ∈ cs, c.Wf ns
  | [] => by simp [Cnd.Wfs]
  | c :: cs => by simp [Cnd.Wfs, wfs_iff (cs := cs)]
mutual
def Cnd.dep : Cnd → Nat
  | .leaf _ => 0
  | .node _ ps => Cnd.deps ps + 1
def Cnd.deps : List Cnd → Nat
  | [] => 0
  | c :: cs => max c.dep (Cnd.deps cs)
end
theorem deps_le {n : Nat} : ∀ {cs : List Cnd}, Cnd.deps cs ≤ n ↔ ∀ c ∈ cs, c.dep ≤ n
  | [] => by simp [Cnd.deps]
  | c :: cs => by simp only [Cnd.deps, List.mem_cons, forall_eq_or_imp, ← deps_le (cs := cs)]; omega
mutual
def Cnd.lv : Cnd → Nat
  | .leaf _ => 1
  | .node _ ps => Cnd.lvs ps
def Cnd.lvs : List Cnd → Nat
  | [] => 0
  | c :: cs => c.lv + Cnd.lvs cs
end
mutual
def Cnd.nd : Cnd → Nat
  | .leaf _ => 0
  | .node _ ps => Cnd.nds ps + 1
def Cnd.nds : List Cnd → Nat
  | [] => 0
  | c :: cs => c.nd + Cnd.nds cs
end
theorem lvs_le {n : Nat} : ∀ {cs : List Cnd}, (∀ c ∈ cs, c.lv ≤ n) → Cnd.lvs cs ≤ cs.length * n
  | [], _ => by simp [Cnd.lvs]
  | c :: cs, h => by
    have := h c (List.mem_cons_self ..)
    have := lvs_le (cs := cs) fun c hc => h c (List.mem_cons_of_mem _ hc)
    simp only [Cnd.lvs, List.length_cons, Nat.succ_mul]
    omega
theorem nds_le {n : Nat} : ∀ {cs : List Cnd}, (∀ c ∈ cs, c.nd ≤ n) → Cnd.nds cs ≤ cs.length * n
  | [], _ => by simp [Cnd.nds]
  | c :: cs, h => by
    have := h c (List.mem_cons_self ..)
    have := nds_le (cs := cs) fun c hc => h c (List.mem_cons_of_mem _ hc)
    simp only [Cnd.nds, List.length_cons, Nat.succ_mul]
    omega
/-! ### asked as written -/
abbrev Ask := List D → List D × Ans
def askN (dec : Ans) (a : List D) : List Ask → Nat → Ans → List D × Ans
  | [], _, found => ([], found)
  | f :: fs, i, found => if (f (a ++ [.int i])).2 = .er ∨ (f (a ++ [.int i])).2 = dec then f (a ++ [.int i]) else
      ((f (a ++ [.int i])).1 ++ (askN dec a fs (i + 1) (if (f (a ++ [.int i])).2 = .un then .un else found)).1, (askN dec a fs (i + 1) (if (f (a ++ [.int i])).2 = .un then .un else found)).2)
def askF (a : List D) : List Ask → Nat → List D × Ans
  | [], _ => ([], .un)
  | f :: fs, i => if (f (a ++ [.int i])).2 ≠ .un then f (a ++ [.int i]) else ((f (a ++ [.int i])).1 ++ (askF a fs (i + 1)).1, (askF a fs (i + 1)).2)
def askC (a : List D) : List Ask → Nat → List D × Ans
  | [], _ => ([], .un)
  | [e], i => e (a ++ [.int i])
  | w :: t :: r, i => if (w (a ++ [.int i])).2 = .er then w (a ++ [.int i]) else if (w (a ++ [.int i])).2 = .ye then ((w (a ++ [.int i])).1 ++ (t (a ++ [.int ((i + 1 : Nat) : Int)])).1, (t (a ++ [.int ((i + 1 : Nat) : Int)])).2)
      else ((w (a ++ [.int i])).1 ++ (askC a r (i + 2)).1, (askC a r (i + 2)).2)
def askT (a : List D) : List Ask → List D × Ans
  | f :: _ => ((f (a ++ [.int 0])).1, (f (a ++ [.int 0])).2.x)
  | [] => ([], .un)
def askK : K → List Ask → Ask
  | .all, fs, a => askN .no a fs 0 .ye
  | .any, fs, a => askN .ye a fs 0 .no
  | .fst, fs, a => askF a fs 0
  | .cas, fs, a => askC a fs 0
  | .not, fs, a => askT a fs
mutual
def Cnd.ask (r : Row) : Cnd → Ask
  | .leaf l => fun a => ([.tup [.tup a, (l.ans r).d]], l.ans r)
  | .node k ps => askK k (Cnd.asks r ps)
def Cnd.asks (r : Row) : List Cnd → List Ask
  | [] => []
  | c :: cs => c.ask r :: Cnd.asks r cs
end
theorem asks_map (r : Row) : ∀ cs : List Cnd, Cnd.asks r cs = cs.map (Cnd.ask r)
  | [] => by simp only [Cnd.asks, List.map_nil]
  | c :: cs => by simp only [Cnd.asks, List.map_cons, asks_map r cs]
/-! ### turned about -/
mutual
def Cnd.turn : Cnd → Cnd
  | .leaf (.alw a) => .leaf (.alw a.x)
  | .leaf (.emp c) => .node .not [.leaf (.emp c)]
  | .leaf (.num c) => .node .not [.leaf (.num c)]
  | .leaf (.ask c ss g n) => .node .not [.leaf (.ask c ss g n)]
  | .node .all ps => .node .any (Cnd.turns ps)
  | .node .any ps => .node .all (Cnd.turns ps)
  | .node .fst ps => .node .fst (Cnd.turns ps)
  | .node .cas ps => .node .cas (Cnd.turnC ps)
  | .node .not (p :: _) => p
  | .node .not [] => .node .not []
def Cnd.turns : List Cnd → List Cnd
  | [] => []
  | c :: cs => c.turn :: Cnd.turns cs
def Cnd.turnC : List Cnd → List Cnd
  | [] => []
  | [e] => [e.turn]
  | w :: t :: r => w :: t.turn :: Cnd.turnC r
end
theorem turns_map : ∀ cs : List Cnd, Cnd.turns cs = cs.map Cnd.turn
  | [] => by simp only [Cnd.turns, List.map_nil]
  | c :: cs => by simp only [Cnd.turns, List.map_cons, turns_map cs]
end CN

namespace CN
open PySem PySem.Spec L2 DL
inductive Rel2 {α : Type} (F : α → α → Prop) : List α → List α → Prop
  | nil : Rel2 F [] []
  | cons {x y : α} {xs ys : List α} (h : F x y) (t : Rel2 F xs ys) : Rel2 F (x :: xs) (y :: ys)
theorem Rel2.map {α β : Type} {F : α → α → Prop} {f g : β → α} : ∀ (xs : List β), (∀ x ∈ xs, F (f x) (g x)) → Rel2 F (xs.map f) (xs.map g)
  | [], _ => .nil
  | x :: xs, h => .cons (h x (List.mem_cons_self ..)) (Rel2.map xs fun y hy => h y (List.mem_cons_of_mem _ hy))
def Sam (f g : Ask) : Prop := ∀ a b, (g b).2 = (f a).2 ∧ (g b).1.length = (f a).1.length
def Opp (f g : Ask) : Prop := ∀ a b, (g b).2 = (f a).2.x ∧ (g b).1.length = (f a).1.length
theorem N_same {dec : Ans} {a b : List D} {fs gs : List Ask} (h : Rel2 Sam fs gs) : ∀ i j fo, (askN dec b gs j fo).2 = (askN dec a fs i fo).2 ∧ (askN dec b gs j fo).1.length = (askN dec a fs i fo).1.length := by
  induction h with
  | nil => intro i j fo; exact ⟨rfl, rfl⟩
  | @cons f g fs gs h t ih =>
    intro i j fo
    have h1 := h (a ++ [.int i]) (b ++ [.int j])
    simp only [askN, h1.1]
    split
    · exact h1
    · have := ih (i + 1) (j + 1) (if (f (a ++ [.int i])).2 = .un then .un else fo)
      exact ⟨this.1, by simp only [List.length_append, h1.2, this.2]⟩
theorem N_opp {a b : List D} {fs gs : List Ask} (dec : Ans) (h : Rel2 Opp fs gs) : ∀ i j fo, (askN dec.x b gs j fo.x).2 = (askN dec a fs i fo).2.x ∧ (askN dec.x b gs j fo.x).1.length = (askN dec a fs i fo).1.length := by
  induction h with
  | nil => intro i j fo; exact ⟨rfl, rfl⟩
  | @cons f g fs gs h t ih =>
    intro i j fo
    have h1 := h (a ++ [.int i]) (b ++ [.int j])
    simp only [askN, h1.1]
    have e1 : ((f (a ++ [.int i])).2.x = .er ∨ (f (a ++ [.int i])).2.x = dec.x) = ((f (a ++ [.int i])).2 = .er ∨ (f (a ++ [.int i])).2 = dec) := by
      generalize (f (a ++ [.int i])).2 = u
      cases u <;> cases dec <;> simp [Ans.x]
    simp only [e1]
    split
    · exact h1
    · have := ih (i + 1) (j + 1) (if (f (a ++ [.int i])).2 = .un then .un else fo)
      have e2 : (if (f (a ++ [.int i])).2 = Ans.un then Ans.un else fo).x = (if (f (a ++ [.int i])).2.x = Ans.un then Ans.un else fo.x) := by
        generalize (f (a ++ [.int i])).2 = u
        cases u <;> simp [Ans.x]
      rw [e2] at this
      exact ⟨this.1, by simp only [List.length_append, h1.2, this.2]⟩
theorem F_same {a b : List D} {fs gs : List Ask} (h : Rel2 Sam fs gs) : ∀ i j, (askF b gs j).2 = (askF a fs i).2 ∧ (askF b gs j).1.length = (askF a fs i).1.length := by
  induction h with
  | nil => intro i j; exact ⟨rfl, rfl⟩
  | @cons f g fs gs h t ih =>
    intro i j
    have h1 := h (a ++ [.int i]) (b ++ [.int j])
    simp only [askF, h1.1]
    split
    · exact h1
    · have := ih (i + 1) (j + 1)
      exact ⟨this.1, by simp only [List.length_append, h1.2, this.2]⟩
theorem F_opp {a b : List D} {fs gs : List Ask} (h : Rel2 Opp fs gs) : ∀ i j, (askF b gs j).2 = (askF a fs i).2.x ∧ (askF b gs j).1.length = (askF a fs i).1.length := by
  induction h with
  | nil => intro i j; exact ⟨rfl, rfl⟩
  | @cons f g fs gs h t ih =>
    intro i j
    have h1 := h (a ++ [.int i]) (b ++ [.int j])
    simp only [askF, h1.1]
    have e1 : ((f (a ++ [.int i])).2.x ≠ .un) = ((f (a ++ [.int i])).2 ≠ .un) := by
      generalize (f (a ++ [.int i])).2 = u
      cases u <;> simp [Ans.x]
    simp only [e1]
    split
    · exact h1
    · have := ih (i + 1) (j + 1)
      exact ⟨this.1, by simp only [List.length_append, h1.2, this.2]⟩
theorem C_same {a b : List D} : ∀ {fs gs : List Ask}, Rel2 Sam fs gs → ∀ i j, (askC b gs j).2 = (askC a fs i).2 ∧ (askC b gs j).1.length = (askC a fs i).1.length
  | _, _, .nil, i, j => ⟨rfl, rfl⟩
  | _, _, .cons h .nil, i, j => h _ _
  | _, _, .cons (x := w) (y := v) h (.cons (x := t) (y := u) h2 r), i, j => by
    have h1 := h (a ++ [.int i]) (b ++ [.int j])
    have h3 := h2 (a ++ [.int ((i + 1 : Nat) : Int)]) (b ++ [.int ((j + 1 : Nat) : Int)])
    simp only [askC, h1.1]
    split
    · exact h1
    · split
      · exact ⟨h3.1, by simp only [List.length_append, h1.2, h3.2]⟩
      · have := C_same (a := a) (b := b) r (i + 2) (j + 2)
        exact ⟨this.1, by simp only [List.length_append, h1.2, this.2]⟩
/-- whens alike, thens and the else turned -/
inductive RelC : List Ask → List Ask → Prop
  | nil : RelC [] []
  | one {e e' : Ask} (h : Opp e e') : RelC [e] [e']
  | cons {w w' t t' : Ask} {r r' : List Ask} (h : Sam w w') (k : Opp t t') (m : RelC r r') : RelC (w :: t :: r) (w' :: t' :: r')
theorem C_opp {a b : List D} {fs gs : List Ask} (h : RelC fs gs) : ∀ i j, (askC b gs j).2 = (askC a fs i).2.x ∧ (askC b gs j).1.length = (askC a fs i).1.length := by
  induction h with
  | nil => intro i j; exact ⟨rfl, rfl⟩
  | one h => intro i j; exact h _ _
  | @cons w w' t t' r r' h k m ih =>
    intro i j
    have h1 := h (a ++ [.int i]) (b ++ [.int j])
    have h3 := k (a ++ [.int ((i + 1 : Nat) : Int)]) (b ++ [.int ((j + 1 : Nat) : Int)])
    simp only [askC, h1.1]
    split
    · rename_i e
      rw [e]
      exact ⟨by rw [h1.1, e]; rfl, h1.2⟩
    · split
      · exact ⟨h3.1, by simp only [List.length_append, h1.2, h3.2]⟩
      · have := ih (i + 2) (j + 2)
        exact ⟨this.1, by simp only [List.length_append, h1.2, this.2]⟩
theorem ask_same (r : Row) : ∀ c : Cnd, Sam (c.ask r) (c.ask r) := by
  refine Cnd.ind (fun l a b => ?_) (fun k ps ih a b => ?_)
  · simp only [Cnd.ask]; exact ⟨trivial, rfl⟩
  · have hr : Rel2 Sam (Cnd.asks r ps) (Cnd.asks r ps) := by rw [asks_map]; exact Rel2.map ps ih
    simp only [Cnd.ask]
    cases k with
    | all => exact N_same hr 0 0 .ye
    | any => exact N_same hr 0 0 .no
    | fst => exact F_same hr 0 0
    | cas => exact C_same hr 0 0
    | not =>
      cases ps with
      | nil => simp only [askK, Cnd.asks]; exact ⟨rfl, rfl⟩
      | cons p ps =>
        have := ih p (List.mem_cons_self ..) (a ++ [.int 0]) (b ++ [.int 0])
        simp only [askK, Cnd.asks, askT, this.1]
        exact ⟨trivial, this.2⟩
theorem turnC_rel (r : Row) : ∀ ps : List Cnd, (∀ p ∈ ps, Opp (p.ask r) (p.turn.ask r)) → RelC (Cnd.asks r ps) (Cnd.asks r (Cnd.turnC ps))
  | [], _ => by simp only [Cnd.turnC, Cnd.asks]; exact .nil
  | [e], h => by simp only [Cnd.turnC, Cnd.asks]; exact .one (h e (List.mem_cons_self ..))
  | w :: t :: ps, h => by
    simp only [Cnd.turnC, Cnd.asks]
    exact .cons (ask_same r w) (h t (by simp)) (turnC_rel r ps fun p hp => h p (by simp [hp]))
theorem turn_opp (r : Row) (ns : List String) : ∀ c : Cnd, c.Wf ns → Opp (c.ask r) (c.turn.ask r) := by
  refine Cnd.ind (fun l _ a b => ?_) (fun k ps ih hw a b => ?_)
  · cases l with
    | alw u => simp only [Cnd.turn, Cnd.ask, Leaf.ans, Leaf.col, Leaf.ansV]; exact ⟨trivial, rfl⟩
    | emp c => simp only [Cnd.turn, Cnd.ask, Cnd.asks, askK, askT]; exact ⟨trivial, rfl⟩
    | num c => simp only [Cnd.turn, Cnd.ask, Cnd.asks, askK, askT]; exact ⟨trivial, rfl⟩
    | ask c ss g n => simp only [Cnd.turn, Cnd.ask, Cnd.asks, askK, askT]; exact ⟨trivial, rfl⟩
  · simp only [Cnd.Wf] at hw
    have hws := wfs_iff.mp hw.2
    have ih : ∀ p ∈ ps, Opp (p.ask r) (p.turn.ask r) := fun p hp => ih p hp (hws p hp)
    have hr : Rel2 Opp (Cnd.asks r ps) (Cnd.asks r (Cnd.turns ps)) := by
      rw [asks_map, asks_map, turns_map, List.map_map]; exact Rel2.map ps ih
    cases k with
    | all => simp only [Cnd.turn, Cnd.ask]; exact N_opp .no hr 0 0 .ye
    | any => simp only [Cnd.turn, Cnd.ask]; exact N_opp .ye hr 0 0 .no
    | fst => simp only [Cnd.turn, Cnd.ask]; exact F_opp hr 0 0
    | cas => simp only [Cnd.turn, Cnd.ask]; exact C_opp (turnC_rel r ps ih) 0 0
    | not =>
      cases ps with
      | nil => have := hw.1; simp [kOk] at this
      | cons p ps =>
        simp only [Cnd.turn, Cnd.ask, Cnd.asks, askK, askT, Ans.xx]
        exact ask_same r p _ _
/-! sizes -/
theorem turns_len (cs : List Cnd) : (Cnd.turns cs).length = cs.length := by rw [turns_map, List.length_map]
theorem turnC_len : ∀ cs : List Cnd, (Cnd.turnC cs).length = cs.length
  | [] => by simp only [Cnd.turnC]
  | [e] => by simp only [Cnd.turnC, List.length_singleton]
  | w :: t :: r => by simp only [Cnd.turnC, List.length_cons, turnC_len r]
theorem turnC_all {P : Cnd → Prop} : ∀ {cs : List Cnd}, (∀ c ∈ cs, P c ∧ P c.turn) → ∀ c ∈ Cnd.turnC cs, P c
  | [], _, c, h => by simp [Cnd.turnC] at h
  | [e], h, c, hc => by simp only [Cnd.turnC, List.mem_singleton] at hc; subst hc; exact (h e (by simp)).2
  | w :: t :: r, h, c, hc => by
    simp only [Cnd.turnC, List.mem_cons] at hc
    rcases hc with z | z | z
    · subst z; exact (h c (by simp)).1
    · subst z; exact (h t (by simp)).2
    · exact turnC_all (fun c hc => h c (by simp [hc])) c z
theorem turns_all {P : Cnd → Prop} {cs : List Cnd} (h : ∀ c ∈ cs, P c.turn) : ∀ c ∈ Cnd.turns cs, P c := fun c hc => by
  rw [turns_map] at hc
  obtain ⟨p, hp, rfl⟩ := List.mem_map.mp hc
  exact h p hp
theorem turn_wf (ns : List String) : ∀ c : Cnd, c.Wf ns → c.turn.Wf ns := by
  refine Cnd.ind (fun l h => ?_) (fun k ps ih hw => ?_)
  · cases l with
    | alw u => simp only [Cnd.turn, Cnd.Wf, Leaf.Ok]
    | emp c => simp only [Cnd.turn, Cnd.Wf, Cnd.Wfs, kOk, List.length_singleton, and_true, true_and] at h ⊢; exact h
    | num c => simp only [Cnd.turn, Cnd.Wf, Cnd.Wfs, kOk, List.length_singleton, and_true, true_and] at h ⊢; exact h
    | ask c ss g n => simp only [Cnd.turn, Cnd.Wf, Cnd.Wfs, kOk, List.length_singleton, and_true, true_and] at h ⊢; exact h
  · simp only [Cnd.Wf] at hw
    have hws := wfs_iff.mp hw.2
    cases k with
    | all => simp only [Cnd.turn, Cnd.Wf, kOk, true_and]; exact wfs_iff.mpr (turns_all fun c hc => ih c hc (hws c hc))
    | any => simp only [Cnd.turn, Cnd.Wf, kOk, true_and]; exact wfs_iff.mpr (turns_all fun c hc => ih c hc (hws c hc))
    | fst => simp only [Cnd.turn, Cnd.Wf, kOk, true_and]; exact wfs_iff.mpr (turns_all fun c hc => ih c hc (hws c hc))
    | cas => simp only [Cnd.turn, Cnd.Wf, turnC_len]; exact ⟨hw.1, wfs_iff.mpr (turnC_all fun c hc => ⟨hws c hc, ih c hc (hws c hc)⟩)⟩
    | not =>
      cases ps with
      | nil => have := hw.1; simp [kOk] at this
      | cons p ps => simp only [Cnd.turn]; exact hws p (List.mem_cons_self ..)
theorem turn_dep : ∀ c : Cnd, c.turn.dep ≤ c.dep + 1 := by
  refine Cnd.ind (fun l => ?_) (fun k ps ih => ?_)
  · cases l <;> simp [Cnd.turn, Cnd.dep, Cnd.deps]
  · have h1 : ∀ c ∈ ps, c.dep ≤ Cnd.deps ps := deps_le.mp (Nat.le_refl _)
    have h2 : Cnd.deps (Cnd.turns ps) ≤ Cnd.deps ps + 1 := deps_le.mpr (turns_all fun c hc => Nat.le_trans (ih c hc) (by have := h1 c hc; omega))
    have h3 : Cnd.deps (Cnd.turnC ps) ≤ Cnd.deps ps + 1 := deps_le.mpr (turnC_all fun c hc => ⟨by have := h1 c hc; omega, Nat.le_trans (ih c hc) (by have := h1 c hc; omega)⟩)
    cases k with
    | all => simp only [Cnd.turn, Cnd.dep]; omega
    | any => simp only [Cnd.turn, Cnd.dep]; omega
    | fst => simp only [Cnd.turn, Cnd.dep]; omega
    | cas => simp only [Cnd.turn, Cnd.dep]; omega
    | not =>
      cases ps with
      | nil => simp [Cnd.turn, Cnd.dep]
      | cons p ps =>
        have := h1 p (List.mem_cons_self ..)
        simp only [Cnd.turn]
        show p.dep ≤ Cnd.deps (p :: ps) + 1 + 1
        omega
theorem sizes_turns : ∀ ps : List Cnd, (∀ p ∈ ps, p.turn.lv ≤ p.lv ∧ p.turn.nd ≤ p.nd + p.lv) → Cnd.lvs (Cnd.turns ps) ≤ Cnd.lvs ps ∧ Cnd.nds (Cnd.turns ps) ≤ Cnd.nds ps + Cnd.lvs ps
  | [], _ => by simp [Cnd.turns, Cnd.lvs, Cnd.nds]
  | p :: ps, h => by
    have h1 := h p (List.mem_cons_self ..)
    have h2 := sizes_turns ps fun q hq => h q (List.mem_cons_of_mem _ hq)
    simp only [Cnd.turns, Cnd.lvs, Cnd.nds]
    omega
theorem sizes_turnC : ∀ ps : List Cnd, (∀ p ∈ ps, p.turn.lv ≤ p.lv ∧ p.turn.nd ≤ p.nd + p.lv) → Cnd.lvs (Cnd.turnC ps) ≤ Cnd.lvs ps ∧ Cnd.nds (Cnd.turnC ps) ≤ Cnd.nds ps + Cnd.lvs ps
  | [], _ => by simp [Cnd.turnC, Cnd.lvs, Cnd.nds]
  | [e], h => by
    have h1 := h e (List.mem_cons_self ..)
    simp only [Cnd.turnC, Cnd.lvs, Cnd.nds]
    omega
  | w :: t :: ps, h => by
    have h1 := h t (by simp)
    have h2 := sizes_turnC ps fun q hq => h q (by simp [hq])
    simp only [Cnd.turnC, Cnd.lvs, Cnd.nds]
    omega
theorem turn_sizes : ∀ c : Cnd, c.turn.lv ≤ c.lv ∧ c.turn.nd ≤ c.nd + c.lv := by
  refine Cnd.ind (fun l => ?_) (fun k ps ih => ?_)
  · cases l <;> simp [Cnd.turn, Cnd.lv, Cnd.nd, Cnd.lvs, Cnd.nds]
  · have h2 := sizes_turns ps ih
    have h3 := sizes_turnC ps ih
    cases k with
    | all => simp only [Cnd.turn, Cnd.lv, Cnd.nd]; omega
    | any => simp only [Cnd.turn, Cnd.lv, Cnd.nd]; omega
    | fst => simp only [Cnd.turn, Cnd.lv, Cnd.nd]; omega
    | cas => simp only [Cnd.turn, Cnd.lv, Cnd.nd]; omega
    | not =>
      cases ps with
      | nil => simp [Cnd.turn, Cnd.lv, Cnd.nd]
      | cons p ps => simp only [Cnd.turn, Cnd.lv, Cnd.nd, Cnd.lvs, Cnd.nds]; omega
end CN

namespace CN
open PySem PySem.Spec L2 DL
/-! ### how wide conditions are, shown -/
def Wd (n w : Nat) (d : D) : Prop := d.fit n = true ∧ d.wid n ≤ w
theorem Wd.le {n w v : Nat} {d : D} (h : Wd n w d) (k : w ≤ v) : Wd n v d := ⟨h.1, Nat.le_trans h.2 k⟩
theorem wd_str {n w : Nat} {s : String} (h : 10 * (Str.ofString s).length + 2 ≤ w) : Wd n w (.str s) := by
  unfold Wd D.fit D.wid
  exact ⟨strOk_ofS s, h⟩
theorem wd_int {n : Nat} {i : Int} (h : Sm i) : Wd n 42 (.int i) := by
  unfold Wd D.fit D.wid
  have := log_lt (sm_bg h) (by decide)
  exact ⟨decide_eq_true (by omega), by omega⟩
theorem wd_ans {n : Nat} (a : Ans) : Wd n 72 (.str a.s) := wd_str (by cases a <;> decide +kernel)
theorem wd_sg {n : Nat} (a : Sg) : Wd n 22 (.str a.s) := wd_str (by cases a <;> decide +kernel)
theorem wd_tup0 {n : Nat} : Wd (n + 1) 4 (.tup []) := ⟨rfl, by simp [D.wid]⟩
theorem wd_tup {n m k : Nat} {xs : List D} (hl : xs.length ≤ k) (h : ∀ d ∈ xs, Wd n m d) : Wd (n + 1) (4 + k * (m + 2)) (.tup xs) := by
  refine ⟨List.all_eq_true.mpr fun d hd => (h d hd).1, ?_⟩
  simp only [D.wid]
  have a := sum_le (m := m + 2) (xs.map fun d => D.wid n d + 2) fun x hx => by
    obtain ⟨d, hd, rfl⟩ := List.mem_map.mp hx
    have := (h d hd).2
    omega
  simp only [List.length_map] at a
  have b : xs.length * (m + 2) ≤ k * (m + 2) := Nat.mul_le_mul_right _ hl
  omega
theorem wd_two {n a b : Nat} {x y : D} (h1 : Wd n a x) (h2 : Wd n b y) : Wd (n + 1) (a + b + 8) (.tup [x, y]) := by
  refine ⟨by simp [D.fit, h1.1, h2.1], ?_⟩
  have := h1.2
  have := h2.2
  simp only [D.wid, List.map_cons, List.map_nil, List.sum_cons, List.sum_nil]
  omega
theorem wd_three {n a b c : Nat} {x y z : D} (h1 : Wd n a x) (h2 : Wd n b y) (h3 : Wd n c z) : Wd (n + 1) (a + b + c + 10) (.tup [x, y, z]) := by
  refine ⟨by simp [D.fit, h1.1, h2.1, h3.1], ?_⟩
  have := h1.2
  have := h2.2
  have := h3.2
  simp only [D.wid, List.map_cons, List.map_nil, List.sum_cons, List.sum_nil]
  omega
theorem wd_stp {n : Nat} {s : Stp} (h : s.Ok) : Wd (n + 3) 750 s.d := by
  have word : ∀ (t : String), (Str.ofString t).length ≤ 5 → Wd (n + 2) 52 (.str t) := fun t ht => wd_str (by omega)
  cases s with
  | plus k => exact (wd_two (word _ (by decide +kernel)) (wd_int h)).le (by omega)
  | times k => exact (wd_two (word _ (by decide +kernel)) (wd_int h)).le (by omega)
  | into k => exact (wd_two (word _ (by decide +kernel)) (wd_int h.1)).le (by omega)
  | over k => exact (wd_two (word _ (by decide +kernel)) (wd_int h)).le (by omega)
  | found ps =>
    have hp : Wd (n + 2) (4 + 7 * (92 + 2)) (.tup (ps.map prD)) := wd_tup (by rw [List.length_map]; exact h.1) fun d hd => by
      obtain ⟨p, hp, rfl⟩ := List.mem_map.mp hd
      exact (wd_two (n := n) (wd_int (h.2.1 p hp).1) (wd_int (h.2.1 p hp).2)).le (by omega)
    exact (wd_two (word _ (by decide +kernel)) hp).le (by omega)
def Short (ns : List String) : Prop := ∀ c ∈ ns, (Str.ofString c).length ≤ 8
theorem wd_leaf {n : Nat} {ns : List String} (hs : Short ns) {l : Leaf} (h : l.Ok ns) : Wd (n + 5) 3290 l.d := by
  have name : ∀ (c : String) (n : Nat), c ∈ ns → Wd n 82 (.str c) := fun c n hc => wd_str (by have := hs c hc; omega)
  have word : ∀ (t : String), (Str.ofString t).length ≤ 6 → Wd (n + 4) 62 (.str t) := fun t ht => wd_str (by omega)
  cases l with
  | emp c => exact (wd_two (word _ (by decide +kernel)) (name c _ h)).le (by omega)
  | num c => exact (wd_two (word _ (by decide +kernel)) (name c _ h)).le (by omega)
  | alw a => exact (wd_two (word _ (by decide +kernel)) (wd_ans a)).le (by omega)
  | ask c ss g k =>
    obtain ⟨h1, h2, h3, h4⟩ := h
    have hp : Wd (n + 4) (4 + 4 * (750 + 2)) (.tup (ss.map Stp.d)) := wd_tup (by rw [List.length_map]; exact h2) fun d hd => by
      obtain ⟨p, hp, rfl⟩ := List.mem_map.mp hd
      exact wd_stp (h3 p hp)
    have hw := word "asks" (by decide +kernel)
    have hc := name c (n + 4) h1
    have hg := wd_sg (n := n + 4) g
    have hk := wd_int (n := n + 4) h4
    refine ⟨by show ([D.str "asks", D.str c, D.tup (ss.map Stp.d), D.str g.s, D.int k] : List D).all (D.fit (n + 4)) = true; simp only [List.all_cons, List.all_nil, hw.1, hc.1, hp.1, hg.1, hk.1, Bool.and_self], ?_⟩
    have := hw.2
    have := hc.2
    have := hp.2
    have := hg.2
    have := hk.2
    simp only [Leaf.d, D.wid, List.map_cons, List.map_nil, List.sum_cons, List.sum_nil] at *
    omega
def wsum (n : Nat) (ds : List D) : Nat := (ds.map fun d => D.wid n d + 7).sum
theorem wd_parts {n : Nat} {ds : List D} (h : ∀ d ∈ ds, d.fit n = true) : Wd (n + 1) (4 + wsum n ds) (.tup ds) := by
  refine ⟨List.all_eq_true.mpr h, ?_⟩
  simp only [D.wid, wsum]
  have := sum_map_le (f := fun d => D.wid n d + 2) (g := fun d => D.wid n d + 7) ds fun x _ => by omega
  omega
theorem fit_mono {n : Nat} : ∀ {d : D}, d.fit n = true → d.fit (n + 1) = true := by
  induction n with
  | zero => intro d h; cases d <;> first | exact h | rfl | cases h
  | succ n ih =>
    intro d h
    cases d with
    | lst xs => exact List.all_eq_true.mpr fun d hd => ih (List.all_eq_true.mp h d hd)
    | tup xs => exact List.all_eq_true.mpr fun d hd => ih (List.all_eq_true.mp h d hd)
    | non => rfl
    | bl => rfl
    | int => exact h
    | str => exact h
    | _ => cases h
theorem wid_mono {n : Nat} : ∀ {d : D}, d.fit n = true → d.wid (n + 1) = d.wid n := by
  induction n with
  | zero => intro d h; cases d <;> first | rfl | cases h
  | succ n ih =>
    intro d h
    cases d with
    | lst xs =>
      show 4 + (xs.map fun d => D.wid (n + 1) d + 2).sum = 4 + (xs.map fun d => D.wid n d + 2).sum
      rw [List.map_congr_left fun d hd => by rw [ih (List.all_eq_true.mp h d hd)]]
    | tup xs =>
      show 4 + (xs.map fun d => D.wid (n + 1) d + 2).sum = 4 + (xs.map fun d => D.wid n d + 2).sum
      rw [List.map_congr_left fun d hd => by rw [ih (List.all_eq_true.mp h d hd)]]
    | _ => first | rfl | cases h
theorem Wd.up {n w : Nat} {d : D} (h : Wd n w d) : Wd (n + 1) w d := ⟨fit_mono h.1, by rw [wid_mono h.1]; exact h.2⟩
theorem Wd.to {n m w : Nat} {d : D} (h : Wd n w d) (k : n ≤ m) : Wd m w d := by
  obtain ⟨j, rfl⟩ := Nat.le.dest k
  clear k
  induction j with
  | zero => exact h
  | succ j ih => exact ih.up
theorem wd_pairs {n : Nat} : ∀ {ds : List D}, (∀ d ∈ ds, d.fit n = true) → (∀ d ∈ pairsU ds, d.fit (n + 1) = true) ∧ ((pairsU ds).map fun d => D.wid (n + 1) d + 2).sum ≤ wsum n ds
  | [], _ => ⟨fun d h => by simp [pairsU] at h, by simp [pairsU]⟩
  | [e], _ => ⟨fun d h => by simp [pairsU] at h, by simp [pairsU]⟩
  | a :: b :: r, h => by
    have h1 := h a (by simp)
    have h2 := h b (by simp)
    obtain ⟨i1, i2⟩ := wd_pairs (ds := r) fun d hd => h d (by simp [hd])
    refine ⟨fun d hd => ?_, ?_⟩
    · simp only [pairsU, List.mem_cons] at hd
      rcases hd with z | z
      · subst z; simp [D.fit, h1, h2]
      · exact i1 d z
    · simp only [pairsU, List.map_cons, List.sum_cons, D.wid, List.map_nil, List.sum_nil, wsum] at i2 ⊢
      omega
theorem last_mem : ∀ {ds : List D}, ds ≠ [] → lastD ds ∈ ds := fun {ds} h => by
  unfold lastD
  rw [List.getLast?_eq_some_getLast h]
  exact List.getLast_mem h
theorem wsum_pos {n : Nat} {ds : List D} {d : D} (h : d ∈ ds) : D.wid n d + 7 ≤ wsum n ds := by
  unfold wsum
  induction ds with
  | nil => cases h
  | cons x xs ih =>
    simp only [List.map_cons, List.sum_cons]
    rcases List.mem_cons.mp h with z | z
    · subst z; omega
    · have := ih z; omega
theorem wd_pairsU {n : Nat} : ∀ {ds : List D}, ds.length % 2 = 1 → (∀ d ∈ ds, d.fit n = true) → ((pairsU ds).map fun d => D.wid (n + 1) d + 2).sum + (D.wid n (lastD ds) + 7) ≤ wsum n ds
  | [], h, _ => by simp at h
  | [e], _, _ => by simp [pairsU, lastD, wsum]
  | a :: b :: r, h, hf => by
    have hr : r.length % 2 = 1 := by simp only [List.length_cons] at h; omega
    have i2 := wd_pairsU hr fun d hd => hf d (by simp [hd])
    have el : lastD (a :: b :: r) = lastD r := by
      unfold lastD
      cases r with
      | nil => simp at hr
      | cons x xs => simp [List.getLast?_cons_cons]
    rw [el]
    simp only [pairsU, List.map_cons, List.sum_cons, D.wid, List.map_nil, List.sum_nil, wsum] at i2 ⊢
    omega
theorem wd_node {n : Nat} {k : K} {ds : List D} (hk : kOk k ds.length) (h : ∀ d ∈ ds, d.fit n = true) : Wd (n + 3) (90 + wsum n ds) (nodeD k ds) := by
  have word : ∀ (t : String) (m : Nat), (Str.ofString t).length ≤ 5 → Wd m 52 (.str t) := fun t m ht => wd_str (by omega)
  have up : Wd (n + 2) (4 + wsum n ds) (.tup ds) := (wd_parts h).up
  cases k with
  | all => exact (wd_two (word _ _ (by decide +kernel)) up).le (by omega)
  | any => exact (wd_two (word _ _ (by decide +kernel)) up).le (by omega)
  | fst => exact (wd_two (word _ _ (by decide +kernel)) up).le (by omega)
  | not =>
    have hne : ds ≠ [] := fun e => by rw [e] at hk; simp [kOk] at hk
    have hm := last_mem hne
    have hl : Wd (n + 2) (D.wid n (lastD ds)) (lastD ds) := Wd.to ⟨h _ hm, Nat.le_refl _⟩ (by omega)
    exact (wd_two (word _ _ (by decide +kernel)) hl).le (by have := wsum_pos (n := n) hm; omega)
  | cas =>
    have hne : ds ≠ [] := fun e => by rw [e] at hk; simp [kOk] at hk
    have hm := last_mem hne
    have hl : Wd (n + 2) (D.wid n (lastD ds)) (lastD ds) := Wd.to ⟨h _ hm, Nat.le_refl _⟩ (by omega)
    obtain ⟨p1, p2⟩ := wd_pairs h
    have hp : Wd (n + 2) (4 + ((pairsU ds).map fun d => D.wid (n + 1) d + 2).sum) (.tup (pairsU ds)) := ⟨List.all_eq_true.mpr p1, by simp [D.wid]⟩
    exact (wd_three (word _ _ (by decide +kernel)) hp hl).le (by have := wd_pairsU hk h; omega)
theorem wsum_c {n : Nat} {ns : List String} : ∀ {cs : List Cnd}, (∀ c ∈ cs, Wd n (3300 * c.lv + 100 * c.nd - 10) c.d ∧ 10 ≤ 3300 * c.lv + 100 * c.nd) → wsum n (Cnd.ds cs) ≤ 3300 * Cnd.lvs cs + 100 * Cnd.nds cs
  | [], _ => by simp [wsum, Cnd.ds]
  | c :: cs, h => by
    have h1 := h c (by simp)
    have h2 := wsum_c (ns := ns) (cs := cs) fun c hc => h c (by simp [hc])
    have := h1.1.2
    simp only [wsum, Cnd.ds, List.map_cons, List.sum_cons, Cnd.lvs, Cnd.nds] at h2 ⊢
    omega
theorem wd_c {ns : List String} (hs : Short ns) : ∀ c : Cnd, c.Wf ns → ∀ n, 3 * c.dep + 5 ≤ n → Wd n (3300 * c.lv + 100 * c.nd - 10) c.d ∧ 10 ≤ 3300 * c.lv + 100 * c.nd := by
  refine Cnd.ind (fun l h n hn => ?_) (fun k ps ih hw n hn => ?_)
  · simp only [Cnd.Wf, Cnd.d, Cnd.lv, Cnd.nd, Cnd.dep] at h hn ⊢
    exact ⟨(wd_leaf (n := 0) hs h).to hn, by omega⟩
  · simp only [Cnd.Wf] at hw
    have hws := wfs_iff.mp hw.2
    simp only [Cnd.dep] at hn
    obtain ⟨m, rfl⟩ := Nat.le.dest (show 3 ≤ n by omega)
    have hd : ∀ c ∈ ps, c.dep ≤ Cnd.deps ps := deps_le.mp (Nat.le_refl _)
    have ih : ∀ c ∈ ps, Wd m (3300 * c.lv + 100 * c.nd - 10) c.d ∧ 10 ≤ 3300 * c.lv + 100 * c.nd := fun c hc => ih c hc (hws c hc) m (by have := hd c hc; omega)
    have hw2 := wsum_c (ns := ns) ih
    have hf : ∀ d ∈ Cnd.ds ps, d.fit m = true := fun d hd => by
      rw [ds_map] at hd
      obtain ⟨c, hc, rfl⟩ := List.mem_map.mp hd
      exact (ih c hc).1.1
    have := wd_node (n := m) (k := k) (ds := Cnd.ds ps) (by rw [ds_map, List.length_map]; exact hw.1) hf
    simp only [Cnd.d, Cnd.lv, Cnd.nd]
    refine ⟨?_, by omega⟩
    have e : 3 + m = m + 3 := by omega
    rw [e]
    exact this.le (by omega)
end CN

namespace CN
open PySem PySem.Spec L2 DL
def Val.isI : Val → Bool
  | .int _ => true | _ => false
theorem s_er : Ans.s .er = "error" := rfl
theorem s_no : Ans.s .no = "no" := rfl
theorem s_un : Ans.s .un = "unknown" := rfl
theorem s_ye : Ans.s .ye = "yes" := rfl
def unU : List D → List D
  | a :: b :: r => a :: b :: unU r
  | _ => []
theorem unU_last : ∀ {ds : List D}, ds.length % 2 = 1 → unU ds ++ [lastD ds] = ds
  | [], h => by simp at h
  | [e], _ => rfl
  | a :: b :: r, h => by
    have hr : r.length % 2 = 1 := by simp only [List.length_cons] at h; omega
    have ih := unU_last hr
    have el : lastD (a :: b :: r) = lastD r := by
      unfold lastD
      cases r with
      | nil => simp at hr
      | cons x xs => simp [List.getLast?_cons_cons]
    rw [el]
    simp only [unU, List.cons_append, ih]
end CN
namespace DL
open PySem PySem.Spec L2
/-! more rules of reckoning -/
section
variable {g g1 : FG} {t t1 : FT} {e : FE} {fi1 : FI} {vs vs1 : List Nat} {ds acc a : List D} {d : D} {δ : List R} {rs : List R}
def lc2I (g1 : FG) (t1 : FT) (e : FE) (vs vs1 : List Nat) (acc : List D) (k : List D → List R → T (List D × List R)) (o : EO (List D)) : T (List D × List R) := match o with
  | .err _ _ _ => .fail
  | .ok ds1 δ3 => (fLc g1 t1 e vs1 ds1 acc (wipeD δ3 vs1)).bind fun p => k p.1 (wipeD p.2 vs)
def lc2T (fi1 : FI) (g1 : FG) (t1 : FT) (e : FE) (vs vs1 : List Nat) (acc : List D) (k : List D → List R → T (List D × List R)) (o : EO Bool) : T (List D × List R) := match o with
  | .err _ _ _ => .fail
  | .ok b δ2 => if b = true then (fi1 δ2).bind (lc2I g1 t1 e vs vs1 acc k) else k acc (wipeD δ2 vs)
def lc2G (t : FT) (fi1 : FI) (g1 : FG) (t1 : FT) (e : FE) (vs vs1 : List Nat) (acc : List D) (k : List D → List R → T (List D × List R)) (o : Option (List R)) : T (List D × List R) := match o with
  | none => .fail
  | some δ1 => (t δ1).bind (lc2T fi1 g1 t1 e vs vs1 acc k)
theorem v_lc2N : fLc2 g t fi1 g1 t1 e vs vs1 [] acc δ = .ret (acc, δ) := (rfl)
theorem v_lc2C : fLc2 g t fi1 g1 t1 e vs vs1 (d :: ds) acc δ = lc2G t fi1 g1 t1 e vs vs1 acc (fLc2 g t fi1 g1 t1 e vs vs1 ds) (g d δ) := by
  rw [fLc2.eq_2]
  unfold lc2G lc2T lc2I
  cases g d δ <;> rfl
variable {k : List D → List R → T (List D × List R)} {b : Bool}
theorem v_lc2G : lc2G t fi1 g1 t1 e vs vs1 acc k (some δ) = (t δ).bind (lc2T fi1 g1 t1 e vs vs1 acc k) := (rfl)
theorem v_lc2T : lc2T fi1 g1 t1 e vs vs1 acc k (.ok b δ) = if b = true then (fi1 δ).bind (lc2I g1 t1 e vs vs1 acc k) else k acc (wipeD δ vs) := (rfl)
theorem v_lc2I {ds1 : List D} : lc2I g1 t1 e vs vs1 acc k (.ok ds1 δ) = (fLc g1 t1 e vs1 ds1 acc (wipeD δ vs1)).bind fun p => k p.1 (wipeD p.2 vs) := (rfl)
/-- a tuple opened in a display -/
theorem v_allApp : ∀ {a : List D}, useAllF (a.map R.val ++ rs) δ = (useAllF rs δ).bind fun o => o.on fun rs' => F.ret (a.map R.val ++ rs')
  | [] => by
    simp only [List.map_nil, List.nil_append]
    show _ = T.bind _ _
    unfold useAllF
    cases useAll rs δ <;> rfl
  | x :: a => by
    rw [List.map_cons, List.cons_append, v_allC, v_handV, T.bind_ret, v_on, v_bind, v_allApp (a := a), T.bind_assoc]
    congr 1
    funext o
    cases o with
    | err => rfl
    | ok rs' δ' => rfl
theorem v_valsApp : ∀ {a : List D}, vals? (a.map R.val ++ rs) = (vals? rs).map fun ds => a ++ ds
  | [] => by simp only [List.map_nil, List.nil_append]; cases vals? rs <;> rfl
  | x :: a => by
    rw [List.map_cons, List.cons_append]
    show (vals? (a.map R.val ++ rs)).map (x :: ·) = _
    rw [v_valsApp (a := a)]
    cases vals? rs <;> rfl
end
end DL

namespace CN
open PySem PySem.Spec L2 DL
/-! how many leaves are heard -/
theorem N_len (r : Row) (dec : Ans) (a : List D) : ∀ (ps : List Cnd), (∀ p ∈ ps, ∀ b, (p.ask r b).1.length ≤ p.lv) → ∀ i fo, (askN dec a (Cnd.asks r ps) i fo).1.length ≤ Cnd.lvs ps
  | [], _, i, fo => by simp [Cnd.asks, askN, Cnd.lvs]
  | p :: ps, h, i, fo => by
    have h1 := h p (List.mem_cons_self ..) (a ++ [.int i])
    have h2 := N_len r dec a ps (fun q hq => h q (List.mem_cons_of_mem _ hq)) (i + 1) (if (p.ask r (a ++ [.int i])).2 = .un then .un else fo)
    simp only [Cnd.asks, askN, Cnd.lvs]
    split
    · omega
    · simp only [List.length_append]; omega
theorem F_len (r : Row) (a : List D) : ∀ (ps : List Cnd), (∀ p ∈ ps, ∀ b, (p.ask r b).1.length ≤ p.lv) → ∀ i, (askF a (Cnd.asks r ps) i).1.length ≤ Cnd.lvs ps
  | [], _, i => by simp [Cnd.asks, askF, Cnd.lvs]
  | p :: ps, h, i => by
    have h1 := h p (List.mem_cons_self ..) (a ++ [.int i])
    have h2 := F_len r a ps (fun q hq => h q (List.mem_cons_of_mem _ hq)) (i + 1)
    simp only [Cnd.asks, askF, Cnd.lvs]
    split
    · omega
    · simp only [List.length_append]; omega
theorem C_len (r : Row) (a : List D) : ∀ (ps : List Cnd), (∀ p ∈ ps, ∀ b, (p.ask r b).1.length ≤ p.lv) → ∀ i, (askC a (Cnd.asks r ps) i).1.length ≤ Cnd.lvs ps
  | [], _, i => by simp [Cnd.asks, askC, Cnd.lvs]
  | [e], h, i => by
    have h1 := h e (List.mem_cons_self ..) (a ++ [.int i])
    simp only [Cnd.asks, askC, Cnd.lvs]
    omega
  | w :: t :: ps, h, i => by
    have h1 := h w (List.mem_cons_self ..) (a ++ [.int i])
    have h2 := h t (by simp) (a ++ [.int ((i + 1 : Nat) : Int)])
    have h3 := C_len r a ps (fun q hq => h q (by simp [hq])) (i + 2)
    simp only [Cnd.asks, askC, Cnd.lvs]
    split
    · omega
    · split
      · simp only [List.length_append]; omega
      · simp only [List.length_append]; omega
theorem ask_len (r : Row) : ∀ (c : Cnd) (a : List D), (c.ask r a).1.length ≤ c.lv := by
  refine Cnd.ind (fun l a => ?_) (fun k ps ih a => ?_)
  · simp [Cnd.ask, Cnd.lv]
  · simp only [Cnd.ask, Cnd.lv]
    cases k with
    | all => exact N_len r _ a ps ih 0 _
    | any => exact N_len r _ a ps ih 0 _
    | fst => exact F_len r a ps ih 0
    | cas => exact C_len r a ps ih 0
    | not =>
      cases ps with
      | nil => simp [Cnd.asks, askK, askT]
      | cons p ps =>
        have := ih p (List.mem_cons_self ..) (a ++ [.int 0])
        simp only [Cnd.asks, askK, askT, Cnd.lvs]
        omega
theorem pos_c : ∀ c : Cnd, 1 ≤ c.lv + c.nd := by
  refine Cnd.ind (fun l => ?_) (fun k ps ih => ?_)
  · simp [Cnd.lv]
  · simp only [Cnd.nd]; omega
theorem len_sz : ∀ ps : List Cnd, ps.length ≤ Cnd.lvs ps + Cnd.nds ps
  | [] => by simp
  | p :: ps => by
    have := pos_c p
    have := len_sz ps
    simp only [List.length_cons, Cnd.lvs, Cnd.nds]; omega
theorem mem_sz : ∀ {ps : List Cnd} {p : Cnd}, p ∈ ps → p.lv ≤ Cnd.lvs ps ∧ p.nd ≤ Cnd.nds ps
  | [], p, h => by cases h
  | q :: ps, p, h => by
    simp only [Cnd.lvs, Cnd.nds]
    rcases List.mem_cons.mp h with z | z
    · subst z; omega
    · have := mem_sz z; omega
theorem ds_len (ps : List Cnd) : (Cnd.ds ps).length = ps.length := by rw [ds_map, List.length_map]
theorem lvs_app : ∀ (ps qs : List Cnd), Cnd.lvs (ps ++ qs) = Cnd.lvs ps + Cnd.lvs qs
  | [], qs => by simp [Cnd.lvs]
  | p :: ps, qs => by simp only [List.cons_append, Cnd.lvs, lvs_app ps qs]; omega
/-- a function that asks a condition -/
def Asks (N : Nat) (k : FM) (r : Row) (p : Cnd) : Prop := ∀ (a h : List D), h.length + p.lv ≤ 16000000 → a.length ≤ N → k [.val p.d, .val r.d, .val (.tup a), .bor (.lst h)] = .ret (.valM (.val (p.ask r a).2.d) (.lst (h ++ (p.ask r a).1)))
theorem rngC2 (lo : Int) (n : Nat) : rngC lo 2 (n + 1) = .int lo :: rngC (lo + 2) 2 n := by
  unfold rngC
  rw [List.range_succ_eq_map, List.map_cons, List.map_map]
  simp only [List.cons.injEq]
  refine ⟨by simp, List.map_congr_left fun i _ => ?_⟩
  simp only [Function.comp, D.int.injEq]
  omega
theorem rs2 (n : Nat) (h : n % 2 = 1) : Builtin.Range.rangeSize 0 ((n : Int) - 1) 2 = ((n / 2 : Nat) : Int) := by
  unfold Builtin.Range.rangeSize
  rw [if_pos (by decide)]
  split <;> omega
theorem small2 (n : Nat) (h : n ≤ 100000) : Builtin.Range.small 0 ((n : Int) - 1) 2 = true := by
  unfold Builtin.Range.small
  unfold Builtin.Range.rangeSize
  simp only [Builtin.Range.rangeFitsLong, Bool.and_eq_true, Bool.or_eq_true, decide_eq_true_eq, beq_iff_eq, show ((2 : Int) > 0) by decide, if_true]
  split <;> omega
end CN

namespace CN
open PySem PySem.Spec L2 DL
theorem rngD_succ (a : Int) (n : Nat) : rngD a (n + 1) = .int a :: rngD (a + 1) n := by
  unfold rngD
  rw [List.range_succ_eq_map, List.map_cons, List.map_map]
  simp only [List.cons.injEq]
  refine ⟨by simp, List.map_congr_left fun i _ => ?_⟩
  simp only [Function.comp, D.int.injEq]
  omega
abbrev nmD (ns : List String) : D := .lst (ns.map fun s => .str (Str.ofString s))
/-- each two of a list -/
theorem pairs_lc {ds : List D} {v : Nat} {e : FE} {δ : List R}
    (he : ∀ (j : Nat) (x y : D) (acc : List D) (k : List D → List R → T (List D × List R)), ds[2 * j]? = some x → ds[2 * j + 1]? = some y → acc.length < 16777216 → lcG fYes e acc [v] k (fgN v (.int j) δ) = k (acc ++ [.tup [x, y]]) δ) :
    ∀ (rest pre more : List D) (j : Nat), pre ++ (rest ++ more) = ds → pre.length = 2 * j → ∀ acc : List D, acc.length + rest.length ≤ 100000 → fLc (fgN v) fYes e [v] (rngD j (rest.length / 2)) acc δ = .ret (acc ++ pairsU rest, δ)
  | [], pre, more, j, _, _, acc, _ => by simp only [List.length_nil, pairsU, List.append_nil]; rfl
  | [x], pre, more, j, _, _, acc, _ => by simp only [List.length_singleton, pairsU, List.append_nil]; rfl
  | x :: y :: rest, pre, more, j, h1, h2, acc, h3 => by
    have e0 : (x :: y :: rest).length / 2 = rest.length / 2 + 1 := by simp only [List.length_cons]; omega
    simp only [List.length_cons] at h3
    rw [e0, rngD_succ, v_lcC, he j x y acc _ (by rw [← h1, ← h2]; simp) (by rw [← h1, ← h2, List.getElem?_append_right (by omega)]; simp) (by omega)]
    have := pairs_lc he rest (pre ++ [x, y]) more (j + 1) (by rw [← h1]; simp) (by simp; omega) (acc ++ [.tup [x, y]]) (by simp; omega)
    rw [show (((j + 1 : Nat) : Int)) = (j : Int) + 1 by omega] at this
    rw [this]
    simp only [pairsU, List.append_assoc, List.cons_append, List.nil_append]
theorem pairsU_odd : ∀ {xs : List D} {e : D}, xs.length % 2 = 0 → pairsU (xs ++ [e]) = pairsU xs ∧ lastD (xs ++ [e]) = e
  | [], e, _ => ⟨rfl, rfl⟩
  | [x], e, h => by simp at h
  | x :: y :: xs, e, h => by
    have ih := pairsU_odd (xs := xs) (e := e) (by simp only [List.length_cons] at h; omega)
    refine ⟨by simp only [List.cons_append, pairsU, ih.1], ?_⟩
    unfold lastD
    rw [List.getLast?_concat]; rfl
theorem atI_dbl {ds : List D} {j : Nat} {x : D} (h : ds[2 * j]? = some x) : atI ds (2 * (j : Int)) = some x := by
  have := atI_nat h
  rwa [show ((2 * j : Nat) : Int) = 2 * (j : Int) by omega] at this
theorem atI_dbl1 {ds : List D} {j : Nat} {x : D} (h : ds[2 * j + 1]? = some x) : atI ds (2 * (j : Int) + 1) = some x := by
  have := atI_nat h
  rwa [show ((2 * j + 1 : Nat) : Int) = 2 * (j : Int) + 1 by omega] at this
theorem mul_two (j : Nat) (h : j ≤ 100000) : mulB 2 (j : Int) = true := by
  have hs : Sm (2 : Int) := ⟨by decide, by decide⟩
  have h2 : Sm (j : Int) := ⟨by omega, by omega⟩
  exact mul_ok (e := 40) (sm_bg hs) h2 (by decide) (by decide)
theorem at_last {ds : List D} (h : ds ≠ []) : atI ds (-1) = some (lastD ds) := by
  unfold lastD
  rw [List.getLast?_eq_some_getLast h]
  have := List.dropLast_concat_getLast h
  conv => lhs; rw [← this]
  exact v_atL
/-! ### columns and rows -/
structure Col where
  name : String
  lo : Int
  hi : Int
  b1 : Bool
  b2 : Bool
def Col.d (c : Col) : D := .tup [.str (Str.ofString c.name), .int c.lo, .int c.hi, .bl c.b1, .bl c.b2]
def Col.Ok (c : Col) : Prop := -4 ≤ c.lo ∧ c.lo ≤ c.hi ∧ c.hi ≤ 6 ∧ c.hi ≤ c.lo + 4
def Col.vals (c : Col) : List Val := ((List.range (c.hi + 1 - c.lo).toNat).map fun (i : Nat) => Val.int (c.lo + (i : Int))) ++ (if c.b1 = true then [.non] else []) ++ (if c.b2 = true then [.wd "a", .wd "ten"] else [])
def Val.Sm (v : Val) : Prop := ∀ i, v = .int i → -100 ≤ i ∧ i ≤ 100
theorem Col.vals_sm {c : Col} (h : c.Ok) : ∀ v ∈ c.vals, v.Sm := by
  intro v hv i hi
  subst hi
  unfold Col.vals at hv
  unfold Col.Ok at h
  simp only [List.mem_append, List.mem_map, List.mem_range, Val.int.injEq] at hv
  rcases hv with (⟨j, hj, rfl⟩ | hv) | hv
  · omega
  · split at hv <;> simp at hv
  · split at hv <;> simp at hv
theorem Col.vals_len {c : Col} (h : c.Ok) : c.vals.length ≤ 8 ∧ 1 ≤ c.vals.length := by
  unfold Col.vals
  unfold Col.Ok at h
  simp only [List.length_append, List.length_map, List.length_range]
  split <;> split <;> simp only [List.length_cons, List.length_nil] <;> omega
theorem rng_vals (lo : Int) (n : Nat) : rngD lo n = ((List.range n).map fun (i : Nat) => Val.int (lo + (i : Int))).map Val.d := by
  unfold rngD; rw [List.map_map]; rfl
def Row.names (r : Row) : List String := r.map (·.1)
theorem key_names (r : Row) : (rowK r).map (·.1) = r.names.map fun s => (Sum.inr (Str.ofString s) : Key) := by
  unfold rowK Row.names
  rw [List.map_map, List.map_map]; rfl
theorem merge_new : ∀ (more kvs : List (Key × D)), ((kvs ++ more).map (·.1)).Nodup → mergeD kvs more = kvs ++ more
  | [], kvs, _ => by simp [mergeD]
  | p :: more, kvs, h => by
    have e : putD kvs p.1 p.2 = kvs ++ [p] := by
      unfold putD
      rw [if_neg]
      intro z
      obtain ⟨q, hq, e⟩ := List.any_eq_true.mp z
      have e := of_decide_eq_true e
      rw [List.map_append, List.nodup_append] at h
      exact h.2.2 q.1 (List.mem_map_of_mem hq) p.1 (by simp) e
    unfold mergeD
    rw [List.foldl_cons]
    show mergeD (putD kvs p.1 p.2) more = _
    rw [e, merge_new more (kvs ++ [p]) (by rw [List.append_assoc]; exact h), List.append_assoc]; rfl
theorem names_nodup {ns : List String} (h : ns.Nodup) : (ns.map fun s => (Sum.inr (Str.ofString s) : Key)).Nodup :=
  List.Pairwise.map _ (fun a b h e => h (by have := Sum.inr.inj e; rwa [ofS_inj] at this)) h
theorem pairs_of : ∀ (kds : List (Key × D)) (xs : List D) (ys : List (Key × D)), pairsD xs = some ys → pairsD (pairsOf kds ++ xs) = some (kds ++ ys)
  | [], xs, ys, h => h
  | (.inl i, d) :: kds, xs, ys, h => by
    have := pairs_of kds xs ys h
    unfold pairsOf at this ⊢
    rw [List.map_cons, List.cons_append]
    show pairsD (.tup [.int i, d] :: _) = _
    unfold pairsD
    rw [this]
    rfl
  | (.inr s, d) :: kds, xs, ys, h => by
    have := pairs_of kds xs ys h
    unfold pairsOf at this ⊢
    rw [List.map_cons, List.cons_append]
    show pairsD (.tup [.str s, d] :: _) = _
    unfold pairsD
    rw [this]
    rfl
/-- a row with one column more -/
theorem row_more (r : Row) (c : String) (v : Val) (hr : r.names.Nodup) (hc : c ∉ r.names) : bDictAF [.lst (pairsOf (rowK r) ++ [.tup [.str (Str.ofString c), v.d]])] = some (.own (Row.d (r ++ [(c, v)]))) := by
  rw [v_dAL, pairs_of (rowK r) _ [(.inr (Str.ofString c), v.d)] rfl, Option.map_some]
  have e : rowK r ++ [(.inr (Str.ofString c), v.d)] = rowK (r ++ [(c, v)]) := by unfold rowK; rw [List.map_append]; rfl
  rw [e, merge_new (rowK (r ++ [(c, v)])) [] ?_]
  · rfl
  · rw [List.nil_append, key_names]
    refine names_nodup ?_
    unfold Row.names at hr hc ⊢
    rw [List.map_append, List.nodup_append]
    refine ⟨hr, by simp, fun a ha b hb e => ?_⟩
    simp at hb
    rw [e, hb] at ha
    exact hc ha
def Row.Sm (r : Row) : Prop := ∀ p ∈ r, p.2.Sm
theorem Row.Sm.ok {r : Row} {ns : List String} (h : r.Sm) (hn : ∀ c ∈ ns, c ∈ r.names) : r.Ok ns := by
  refine ⟨fun c hc => ?_, fun p hp i hi => ?_⟩
  · have := hn c hc
    clear h hn
    induction r with
    | nil => simp [Row.names] at this
    | cons p r ih =>
      unfold Row.get
      by_cases e : p.1 = c
      · exact ⟨p.2, by rw [if_pos e]⟩
      · rw [if_neg e]
        simp only [Row.names, List.map_cons, List.mem_cons] at this
        rcases this with z | z
        · exact absurd z.symm e
        · exact ih z
  · have := h p hp i hi
    unfold Bg
    have : i.natAbs ≤ 100 := by omega
    exact Nat.lt_of_le_of_lt this (by decide)
def longer (rs : List Row) (c : Col) : List Row := rs.flatMap fun r => c.vals.map fun v => r ++ [(c.name, v)]
def every (cs : List Col) : List Row := cs.foldl longer [[]]
theorem longer_mem {rs : List Row} {c : Col} {r : Row} (h : r ∈ longer rs c) : ∃ q ∈ rs, ∃ v ∈ c.vals, r = q ++ [(c.name, v)] := by
  unfold longer at h
  obtain ⟨q, hq, h⟩ := List.mem_flatMap.mp h
  obtain ⟨v, hv, h⟩ := List.mem_map.mp h
  exact ⟨q, hq, v, hv, h.symm⟩
theorem longer_len {rs : List Row} {c : Col} (h : c.Ok) : (longer rs c).length ≤ rs.length * 8 := by
  unfold longer
  induction rs with
  | nil => simp
  | cons r rs ih =>
    simp only [List.flatMap_cons, List.length_append, List.length_map, List.length_cons]
    have := (Col.vals_len h).1
    omega
/-- rows over these names -/
def RowsOf (ns : List String) (rs : List Row) : Prop := ∀ r ∈ rs, r.names = ns ∧ r.Sm
theorem longer_rows {ns : List String} {rs : List Row} {c : Col} (h : RowsOf ns rs) (hc : c.Ok) : RowsOf (ns ++ [c.name]) (longer rs c) := fun r hr => by
  obtain ⟨q, hq, v, hv, rfl⟩ := longer_mem hr
  obtain ⟨h1, h2⟩ := h q hq
  refine ⟨by unfold Row.names at h1 ⊢; rw [List.map_append, h1]; rfl, fun p hp => ?_⟩
  rcases List.mem_append.mp hp with z | z
  · exact h2 p z
  · simp at z; subst z; exact Col.vals_sm hc v hv
/-- how a tree is bounded -/
def ndB : Nat → Nat
  | 0 => 1
  | d + 1 => 1 + 5 * ndB d
def Fit (ns : List String) (deep : Nat) (c : Cnd) : Prop := c.Wf ns ∧ c.dep ≤ deep + 1 ∧ c.lv ≤ 5 ^ deep ∧ c.nd ≤ ndB deep
theorem ndB_le {a b : Nat} (h : a ≤ b) : ndB a ≤ ndB b := by
  induction h with
  | refl => exact Nat.le_refl _
  | step h ih => simp only [ndB]; omega
theorem Fit.up {ns : List String} {d e : Nat} {c : Cnd} (h : Fit ns d c) (k : d ≤ e) : Fit ns e c :=
  ⟨h.1, by have := h.2.1; omega, Nat.le_trans h.2.2.1 (Nat.pow_le_pow_right (by decide) k), Nat.le_trans h.2.2.2 (ndB_le k)⟩
theorem fit_node {ns : List String} {d : Nat} {k : K} {ps : List Cnd} (hk : kOk k ps.length) (hl : ps.length ≤ 5) (h : ∀ p ∈ ps, Fit ns d p) : Fit ns (d + 1) (.node k ps) := by
  refine ⟨by simp only [Cnd.Wf]; exact ⟨hk, wfs_iff.mpr fun c hc => (h c hc).1⟩, ?_, ?_, ?_⟩
  · simp only [Cnd.dep]
    have := deps_le (n := d + 1) (cs := ps) |>.mpr fun c hc => (h c hc).2.1
    omega
  · simp only [Cnd.lv]
    have h1 := lvs_le (n := 5 ^ d) (cs := ps) fun c hc => (h c hc).2.2.1
    have h2 : ps.length * 5 ^ d ≤ 5 * 5 ^ d := Nat.mul_le_mul_right _ hl
    have h3 : 5 ^ (d + 1) = 5 * 5 ^ d := by rw [Nat.pow_succ]; omega
    omega
  · simp only [Cnd.nd, ndB]
    have h1 := nds_le (n := ndB d) (cs := ps) fun c hc => (h c hc).2.2.2
    have h2 : ps.length * ndB d ≤ 5 * ndB d := Nat.mul_le_mul_right _ hl
    omega
theorem fit_leaf {ns : List String} {d : Nat} {l : Leaf} (h : l.Ok ns) : Fit ns d (.leaf l) := by
  refine Fit.up (d := 0) ⟨by simpa only [Cnd.Wf] using h, by simp [Cnd.dep], by simp [Cnd.lv], by simp [Cnd.nd]⟩ (by omega)
/-- a small one -/
theorem fit_small {ns : List String} {k : K} {ps : List Cnd} (hk : kOk k ps.length) (hl : ps.length ≤ 1) (h : ∀ p ∈ ps, ∃ l : Leaf, l.Ok ns ∧ p = .leaf l) : Fit ns 0 (.node k ps) := by
  refine ⟨by simp only [Cnd.Wf]; exact ⟨hk, wfs_iff.mpr fun c hc => by obtain ⟨l, hl, rfl⟩ := h c hc; simpa only [Cnd.Wf] using hl⟩, ?_, ?_, ?_⟩
  · simp only [Cnd.dep]
    have := deps_le (n := 0) (cs := ps) |>.mpr fun c hc => by obtain ⟨l, hl, rfl⟩ := h c hc; simp [Cnd.dep]
    omega
  · simp only [Cnd.lv]
    have h1 := lvs_le (n := 1) (cs := ps) fun c hc => by obtain ⟨l, hl, rfl⟩ := h c hc; simp [Cnd.lv]
    simp only [Nat.pow_zero]; omega
  · simp only [Cnd.nd, ndB]
    have h1 := nds_le (n := 0) (cs := ps) fun c hc => by obtain ⟨l, hl, rfl⟩ := h c hc; simp [Cnd.nd]
    omega
end CN

namespace K28
open PySem PySem.Spec L2 DL
noncomputable section
def tt_TURNED : List (Str × Str) := [("no", "yes"), ("yes", "no")]
def t_TURNED : List (Str × D) := tabD tt_TURNED
def tt_DECIDING : List (Str × Str) := [("all", "no"), ("any", "yes")]
def t_DECIDING : List (Str × D) := tabD tt_DECIDING
def fs_is_integer : FS := (fRet (fAndV (fIsi "int" (fVar 0)) (fNotV (fIsi "bool" (fVar 0)))))
def m_is_integer : FM := mk 1 (fs_is_integer)
def b_step_on_1 (c_Errs : Addr) : FS := (fWipe [2, 3, 4, 5] (fIfS (fTst (fCmp (cEqF false) (fVar 4) (fVar 1))) (fRet (fVar 5)) fNext))
def fs_step_on (c_Errs : Addr) : FS := (fSq (fAsg (fVar 0) (fgT 2 (fgCons (fgN 2) (fgCons (fgN 3) fgNil))))
  (fSq (fIfS (fTst (fCmp (cEqF false) (fVar 2) (fC (.str "plus")))) (fRet (fBin gAddF (fVar 1) (fVar 3))) fNext)
  (fSq (fIfS (fTst (fCmp (cEqF false) (fVar 2) (fC (.str "times")))) (fRet (fBin gMulF (fVar 1) (fVar 3))) fNext)
  (fSq (fIfS (fTst (fCmp (cEqF false) (fVar 2) (fC (.str "into")))) (fRet (fBin gFdivF (fVar 1) (fVar 3))) fNext)
  (fSq (fIfS (fTst (fCmp (cEqF false) (fVar 2) (fC (.str "over")))) (fSq (fIfS (fTst (fCmp (cEqF false) (fVar 1) (fC (.int 0)))) (fRaise c_Errs "number" (fCons (fVar 1) fNil)) fNext)
  (fRet (fBin gFdivF (fVar 3) (fVar 1)))) fNext)
  (fSq (fWipe [2, 3, 4, 5] (fFor (fiWipe [2, 3, 4, 5] (fiSeq (fVar 3))) (fgT 2 (fgCons (fgN 4) (fgCons (fgN 5) fgNil))) (b_step_on_1 c_Errs)))
  (fRaise c_Errs "number" (fCons (fVar 1) fNil))))))))
def m_step_on (c_Errs : Addr) : FM := mk 6 (fs_step_on c_Errs)
def b_steps_on_1 (c_Errs : Addr) : FS := (fWipe [2] (fSet 1 (fCallX (m_step_on c_Errs) (fCons (fVar 2) (fCons (fVar 1) fNil)))))
def fs_steps_on (c_Errs : Addr) : FS := (fSq (fWipe [2] (fFor (fiWipe [2] (fiSeq (fVar 0))) (fgN 2) (b_steps_on_1 c_Errs)))
  (fRet (fVar 1)))
def m_steps_on (c_Errs : Addr) : FM := mk 3 (fs_steps_on c_Errs)
def fs_is_so : FS := (fSq (fIfS (fTst (fCmp (cInF false) (fVar 1) (fTup (fCons (fC (.str "=")) (fCons (fC (.str "<>")) fNil))))) (fRet (fCmp (cEqF false) (fCmp (cEqF false) (fVar 0) (fVar 2)) (fCmp (cEqF false) (fVar 1) (fC (.str "="))))) fNext)
  (fSq (fIfS (fTst (fCmp (cEqF false) (fVar 0) (fVar 2))) (fRet (fCmp (cInF false) (fVar 1) (fTup (fCons (fC (.str "<=")) (fCons (fC (.str ">=")) fNil))))) fNext)
  (fRet (fCmp (cEqF false) (fCmp cLt (fVar 0) (fVar 2)) (fCmp (cInF false) (fVar 1) (fTup (fCons (fC (.str "<")) (fCons (fC (.str "<=")) fNil))))))))
def m_is_so : FM := mk 3 (fs_is_so)
def fs_number_answer (c_Errs : Addr) : FS := (fSq (fAsg (fVar 0) (fgT 5 (fgCons (fgN 2) (fgCons (fgN 3) (fgCons (fgN 4) (fgCons (fgN 5) (fgCons (fgN 6) fgNil)))))))
  (fSq (fTry0 c_Errs (fSet 7 (fCallX (m_steps_on c_Errs) (fCons (fVar 4) (fCons (fVar 1) fNil)))) (fRet (fC (.str "error"))))
  (fRet (fIf (fTst (fCall m_is_so (fCons (fVar 7) (fCons (fVar 5) (fCons (fVar 6) fNil))))) (fC (.str "yes")) (fC (.str "no"))))))
def m_number_answer (c_Errs : Addr) : FM := mk 8 (fs_number_answer c_Errs)
def fs_test_answer (c_Errs : Addr) : FS := (fSq (fIfS (fTst (fCmp (cEqF false) (fIx (fVar 0) (fC (.int 0))) (fC (.str "empty")))) (fRet (fIf (fTst (fCmp (cIsF false) (fVar 1) (fC .non))) (fC (.str "yes")) (fC (.str "no")))) fNext)
  (fSq (fIfS (fTst (fCmp (cIsF false) (fVar 1) (fC .non))) (fRet (fC (.str "unknown"))) fNext)
  (fSq (fIfS (fTst (fCmp (cEqF false) (fIx (fVar 0) (fC (.int 0))) (fC (.str "number")))) (fRet (fIf (fTst (fCall m_is_integer (fCons (fVar 1) fNil))) (fC (.str "yes")) (fC (.str "no")))) fNext)
  (fRet (fIf (fTst (fCall m_is_integer (fCons (fVar 1) fNil))) (fCall (m_number_answer c_Errs) (fCons (fVar 0) (fCons (fVar 1) fNil))) (fC (.str "error")))))))
def m_test_answer (c_Errs : Addr) : FM := mk 2 (fs_test_answer c_Errs)
def fs_is_leaf : FS := (fRet (fCmp (cInF false) (fIx (fVar 0) (fC (.int 0))) (fTup (fCons (fC (.str "always")) (fCons (fC (.str "asks")) (fCons (fC (.str "empty")) (fCons (fC (.str "number")) fNil)))))))
def m_is_leaf : FM := mk 1 (fs_is_leaf)
def e_parts_c1 : FE := (fVar 2)
def i_parts_c1 : FI := (fiSeq (fVar 1))
def fs_parts : FS := (fSq (fIfS (fTst (fCall m_is_leaf (fCons (fVar 0) fNil))) (fRet (fLst fNil)) fNext)
  (fSq (fIfS (fTst (fCmp (cEqF false) (fIx (fVar 0) (fC (.int 0))) (fC (.str "not")))) (fRet (fLst (fCons (fIx (fVar 0) (fC (.int 1))) fNil))) fNext)
  (fSq (fIfS (fTst (fCmp (cEqF false) (fIx (fVar 0) (fC (.int 0))) (fC (.str "case")))) (fRet (fBin gAddF (fComp2 (fiSeq (fIx (fVar 0) (fC (.int 1)))) (fgN 1) fYes i_parts_c1 (fgN 2) fYes e_parts_c1 [1, 2] [2]) (fLst (fCons (fIx (fVar 0) (fC (.int 2))) fNil)))) fNext)
  (fRet (fCB bListF (fCons (fIx (fVar 0) (fC (.int 1))) fNil))))))
def m_parts : FM := mk 3 (fs_parts)
def e_turned_c1 (r_turned : FM) : FE := (fCall r_turned (fCons (fVar 2) fNil))
def e_turned_c2 (r_turned : FM) : FE := (fTup (fCons (fVar 3) (fCons (fCall r_turned (fCons (fVar 4) fNil)) fNil)))
def e_turned_c3 (r_turned : FM) : FE := (fCall r_turned (fCons (fVar 2) fNil))
def fs_turned (r_turned : FM) : FS := (fSq (fSet 1 (fIx (fVar 0) (fC (.int 0))))
  (fSq (fIfS (fTst (fCmp (cEqF false) (fVar 1) (fC (.str "not")))) (fRet (fIx (fVar 0) (fC (.int 1)))) fNext)
  (fSq (fIfS (fTst (fCmp (cEqF false) (fVar 1) (fC (.str "always")))) (fRet (fTup (fCons (fC (.str "always")) (fCons (fKget t_TURNED (fIx (fVar 0) (fC (.int 1))) (fIx (fVar 0) (fC (.int 1)))) fNil)))) fNext)
  (fSq (fIfS (fTst (fCmp (cInF false) (fVar 1) (fTup (fCons (fC (.str "all")) (fCons (fC (.str "any")) fNil))))) (fRet (fTup (fCons (fIf (fTst (fCmp (cEqF false) (fVar 1) (fC (.str "all")))) (fC (.str "any")) (fC (.str "all"))) (fCons (fCB bTupleF (fCons (fComp (fiSeq (fIx (fVar 0) (fC (.int 1)))) (fgN 2) fYes (e_turned_c1 r_turned) [2]) fNil)) fNil)))) fNext)
  (fSq (fIfS (fTst (fCmp (cEqF false) (fVar 1) (fC (.str "case")))) (fRet (fTup (fCons (fC (.str "case")) (fCons (fCB bTupleF (fCons (fComp (fiSeq (fIx (fVar 0) (fC (.int 1)))) (fgT 2 (fgCons (fgN 3) (fgCons (fgN 4) fgNil))) fYes (e_turned_c2 r_turned) [3, 4]) fNil)) (fCons (fCall r_turned (fCons (fIx (fVar 0) (fC (.int 2))) fNil)) fNil))))) fNext)
  (fRet (fIf (fTst (fCmp (cEqF false) (fVar 1) (fC (.str "first")))) (fTup (fCons (fC (.str "first")) (fCons (fCB bTupleF (fCons (fComp (fiSeq (fIx (fVar 0) (fC (.int 1)))) (fgN 2) fYes (e_turned_c3 r_turned) [2]) fNil)) fNil))) (fTup (fCons (fC (.str "not")) (fCons (fVar 0) fNil))))))))))
def m_turned : Nat → FM
  | 0 => m_none
  | n + 1 => mk 5 (fs_turned (m_turned n))
theorem mS_turned (n : Nat) : m_turned (n + 1) = mk 5 (fs_turned (m_turned n)) := rfl
def fs_leaf_answer (c_Errs : Addr) : FS := (fRet (fIf (fTst (fCmp (cEqF false) (fIx (fVar 0) (fC (.int 0))) (fC (.str "always")))) (fIx (fVar 0) (fC (.int 1))) (fCall (m_test_answer c_Errs) (fCons (fVar 0) (fCons (fDix (fVar 1) (fIx (fVar 0) (fC (.int 1)))) fNil)))))
def m_leaf_answer (c_Errs : Addr) : FM := mk 2 (fs_leaf_answer c_Errs)
def b_ask_node_1 (c_Errs : Addr) (r_ask_node r_ask_case r_ask : FM) : FS := (fWipe [6, 7, 8] (fSq (fSet 8 (fCallB r_ask 3 (fCons (fVar 7) (fCons (fVar 1) (fCons (fTup (fStar (fVar 2) (fCons (fVar 6) fNil))) (fCons (fVar 3) fNil))))))
  (fSq (fIfS (fTst (fCmp (cInF false) (fVar 8) (fTup (fCons (fC (.str "error")) (fCons (fVar 4) fNil))))) (fRetM 3 (fVar 8)) fNext)
  (fIfS (fTst (fCmp (cEqF false) (fVar 8) (fC (.str "unknown")))) (fSet 5 (fVar 8)) fNext))))
def fs_ask_node (c_Errs : Addr) (r_ask_node r_ask_case r_ask : FM) : FS := (fSq (fPar [4, 5] (fCons (fKix t_DECIDING (fIx (fVar 0) (fC (.int 0)))) (fCons (fKix t_TURNED (fKix t_DECIDING (fIx (fVar 0) (fC (.int 0))))) fNil)))
  (fSq (fWipe [4, 6, 7, 8] (fFor (fiWipe [6, 7, 8] (fiEnum (fCons (fIx (fVar 0) (fC (.int 1))) fNil))) (fgT 2 (fgCons (fgN 6) (fgCons (fgN 7) fgNil))) (b_ask_node_1 c_Errs r_ask_node r_ask_case r_ask)))
  (fRetM 3 (fVar 5))))
def b_ask_case_1 (c_Errs : Addr) (r_ask_node r_ask_case r_ask : FM) : FS := (fWipe [5, 6] (fSq (fSet 6 (fCallB r_ask 3 (fCons (fIx (fVar 4) (fVar 5)) (fCons (fVar 1) (fCons (fTup (fStar (fVar 2) (fCons (fVar 5) fNil))) (fCons (fVar 3) fNil))))))
  (fSq (fIfS (fTst (fCmp (cEqF false) (fVar 6) (fC (.str "error")))) (fRetM 3 (fVar 6)) fNext)
  (fIfS (fTst (fCmp (cEqF false) (fVar 6) (fC (.str "yes")))) (fRetM 3 (fCallB r_ask 3 (fCons (fIx (fVar 4) (fBin gAddF (fVar 5) (fC (.int 1)))) (fCons (fVar 1) (fCons (fTup (fStar (fVar 2) (fCons (fBin gAddF (fVar 5) (fC (.int 1))) fNil))) (fCons (fVar 3) fNil)))))) fNext))))
def fs_ask_case (c_Errs : Addr) (r_ask_node r_ask_case r_ask : FM) : FS := (fSq (fSet 4 (fCall m_parts (fCons (fVar 0) fNil)))
  (fSq (fWipe [5, 6] (fFor (fiWipe [5, 6] (fiRng3 (fCons (fC (.int 0)) (fCons (fBin gSubF (fCB bLenF (fCons (fVar 4) fNil)) (fC (.int 1))) (fCons (fC (.int 2)) fNil))))) (fgN 5) (b_ask_case_1 c_Errs r_ask_node r_ask_case r_ask)))
  (fRetM 3 (fCallB r_ask 3 (fCons (fIx (fVar 4) (fNeg (fC (.int 1)))) (fCons (fVar 1) (fCons (fTup (fStar (fVar 2) (fCons (fBin gSubF (fCB bLenF (fCons (fVar 4) fNil)) (fC (.int 1))) fNil))) (fCons (fVar 3) fNil))))))))
def b_ask_1 (c_Errs : Addr) (r_ask_node r_ask_case r_ask : FM) : FS := (fWipe [4, 5, 6] (fSq (fSet 4 (fCallB r_ask 3 (fCons (fVar 6) (fCons (fVar 1) (fCons (fTup (fStar (fVar 2) (fCons (fVar 5) fNil))) (fCons (fVar 3) fNil))))))
  (fIfS (fTst (fCmp (cEqF true) (fVar 4) (fC (.str "unknown")))) (fRetM 3 (fVar 4)) fNext)))
def fs_ask (c_Errs : Addr) (r_ask_node r_ask_case r_ask : FM) : FS := (fSq (fIfS (fTst (fCall m_is_leaf (fCons (fVar 0) fNil))) (fSq (fExpr (fApp 3 (fTup (fCons (fVar 2) (fCons (fCall (m_leaf_answer c_Errs) (fCons (fVar 0) (fCons (fVar 1) fNil))) fNil)))))
  (fRetM 3 (fIx (fIx (fVar 3) (fNeg (fC (.int 1)))) (fC (.int 1))))) fNext)
  (fSq (fIfS (fTst (fKin false t_DECIDING (fIx (fVar 0) (fC (.int 0))))) (fRetM 3 (fCallB r_ask_node 3 (fCons (fVar 0) (fCons (fVar 1) (fCons (fVar 2) (fCons (fVar 3) fNil)))))) fNext)
  (fSq (fWipe [4] (fIfS (fTst (fCmp (cEqF false) (fIx (fVar 0) (fC (.int 0))) (fC (.str "not")))) (fSq (fSet 4 (fCallB r_ask 3 (fCons (fIx (fVar 0) (fC (.int 1))) (fCons (fVar 1) (fCons (fTup (fStar (fVar 2) (fCons (fC (.int 0)) fNil))) (fCons (fVar 3) fNil))))))
  (fRetM 3 (fKget t_TURNED (fVar 4) (fVar 4)))) fNext))
  (fSq (fIfS (fTst (fCmp (cEqF false) (fIx (fVar 0) (fC (.int 0))) (fC (.str "case")))) (fRetM 3 (fCallB r_ask_case 3 (fCons (fVar 0) (fCons (fVar 1) (fCons (fVar 2) (fCons (fVar 3) fNil)))))) fNext)
  (fSq (fWipe [4, 5, 6] (fFor (fiWipe [4, 5, 6] (fiEnum (fCons (fIx (fVar 0) (fC (.int 1))) fNil))) (fgT 2 (fgCons (fgN 5) (fgCons (fgN 6) fgNil))) (b_ask_1 c_Errs r_ask_node r_ask_case r_ask)))
  (fRetM 3 (fC (.str "unknown"))))))))
mutual
def m_ask_node (c_Errs : Addr) : Nat → FM
  | 0 => m_none
  | n + 1 => mkM 9 (fs_ask_node c_Errs (m_ask_node c_Errs n) (m_ask_case c_Errs n) (m_ask c_Errs n))
def m_ask_case (c_Errs : Addr) : Nat → FM
  | 0 => m_none
  | n + 1 => mkM 7 (fs_ask_case c_Errs (m_ask_node c_Errs n) (m_ask_case c_Errs n) (m_ask c_Errs n))
def m_ask (c_Errs : Addr) : Nat → FM
  | 0 => m_none
  | n + 1 => mkM 7 (fs_ask c_Errs (m_ask_node c_Errs n) (m_ask_case c_Errs n) (m_ask c_Errs n))
end
theorem mS_ask_node (c_Errs : Addr) (n : Nat) : m_ask_node c_Errs (n + 1) = mkM 9 (fs_ask_node c_Errs (m_ask_node c_Errs n) (m_ask_case c_Errs n) (m_ask c_Errs n)) := rfl
theorem mS_ask_case (c_Errs : Addr) (n : Nat) : m_ask_case c_Errs (n + 1) = mkM 7 (fs_ask_case c_Errs (m_ask_node c_Errs n) (m_ask_case c_Errs n) (m_ask c_Errs n)) := rfl
theorem mS_ask (c_Errs : Addr) (n : Nat) : m_ask c_Errs (n + 1) = mkM 7 (fs_ask c_Errs (m_ask_node c_Errs n) (m_ask_case c_Errs n) (m_ask c_Errs n)) := rfl
def fs_answer (c_Errs : Addr) : FS := (fRet (fCallN (m_ask c_Errs 24) (fCons (fVar 0) (fCons (fVar 1) (fCons (fTup fNil) (fLast (fLst fNil)))))))
def m_answer (c_Errs : Addr) : FM := mk 2 (fs_answer c_Errs)
def fs_asked (c_Errs : Addr) : FS := (fSq (fSet 2 (fLst fNil))
  (fSq (fExpr (fCallB (m_ask c_Errs 24) 2 (fCons (fVar 0) (fCons (fVar 1) (fCons (fTup fNil) (fCons (fVar 2) fNil))))))
  (fRet (fVar 2))))
def m_asked (c_Errs : Addr) : FM := mk 3 (fs_asked c_Errs)
def fs_keeps (c_Errs : Addr) : FS := (fRet (fCmp (cEqF false) (fCall (m_answer c_Errs) (fCons (fVar 0) (fCons (fVar 1) fNil))) (fC (.str "yes"))))
def m_keeps (c_Errs : Addr) : FM := mk 2 (fs_keeps c_Errs)
abbrev m__law_take : FM := m_take
def fs__law_one : FS := (fRet (fIx (fVar 1) (fCall m__law_take (fCons (fVar 0) (fCons (fCB bLenF (fCons (fVar 1) fNil)) fNil)))))
def m__law_one : FM := mk 2 (fs__law_one)
def fs__law_number : FS := (fSq (fSet 1 (fCall m__law_take (fCons (fVar 0) (fCons (fC (.int 12)) fNil))))
  (fSq (fIfS (fTst (fCmp cGt (fVar 1) (fC (.int 1)))) (fRet (fBin gSubF (fCall m__law_take (fCons (fVar 0) (fCons (fC (.int 13)) fNil))) (fC (.int 6)))) fNext)
  (fRet (fBin gMulF (fIx (fLst (fCons (fBin gSubF (fBin gPowF (fC (.int 10)) (fC (.int 12))) (fCall m__law_take (fCons (fVar 0) (fCons (fC (.int 3)) fNil)))) (fCons (fCall m__law_take (fCons (fVar 0) (fCons (fC (.int 2000)) fNil))) fNil))) (fVar 1)) (fIx (fLst (fCons (fC (.int 1)) (fCons (fNeg (fC (.int 1))) fNil))) (fCall m__law_take (fCons (fVar 0) (fCons (fC (.int 2)) fNil))))))))
def m__law_number : FM := mk 2 (fs__law_number)
def e__law_step_c1 : FE := (fBin gMulF (fVar 5) (fVar 2))
def t__law_step_c1 : FT := (fTst (fCmp (cEqF false) (fCall m__law_take (fCons (fVar 0) (fCons (fC (.int 2)) fNil))) (fC (.int 0))))
def e__law_step_c2 : FE := (fTup (fCons (fVar 5) (fCons (fCall m__law_number (fCons (fVar 0) fNil)) fNil)))
def fs__law_step : FS := (fSq (fSet 1 (fCall m__law_one (fCons (fVar 0) (fCons (fLst (fCons (fC (.str "plus")) (fCons (fC (.str "times")) (fCons (fC (.str "into")) (fCons (fC (.str "over")) (fCons (fC (.str "found")) fNil)))))) fNil))))
  (fSq (fWipe [2, 3] (fIfS (fTst (fCmp (cEqF false) (fVar 1) (fC (.str "found")))) (fSq (fSet 2 (fIx (fLst (fCons (fC (.int 1)) (fCons (fC (.int 1)) (fCons (fC (.int 1)) (fCons (fBin gAddF (fBin gPowF (fC (.int 10)) (fC (.int 11))) (fC (.int 7))) fNil))))) (fCall m__law_take (fCons (fVar 0) (fCons (fC (.int 4)) fNil)))))
  (fSq (fSet 3 (fSl (fComp (fiRng2 (fCons (fNeg (fC (.int 3))) (fCons (fC (.int 4)) fNil))) (fgN 5) t__law_step_c1 e__law_step_c1 [5]) foNone (foSome (fC (.int 6)))))
  (fRet (fTup (fCons (fC (.str "found")) (fCons (fCB bTupleF (fCons (fComp (fiSeq (fVar 3)) (fgN 5) fYes e__law_step_c2 [5]) fNil)) fNil)))))) fNext))
  (fSq (fSet 4 (fCall m__law_number (fCons (fVar 0) fNil)))
  (fSq (fIfS (fTst (fCmp (cEqF false) (fVar 1) (fC (.str "into")))) (fRet (fTup (fCons (fC (.str "into")) (fCons (fCB bMax2F (fCons (fC (.int 1)) (fCons (fCB bAbsF (fCons (fVar 4) fNil)) fNil))) fNil)))) fNext)
  (fRet (fTup (fCons (fVar 1) (fCons (fIf (fOr (fTst (fCmp (cEqF true) (fVar 4) (fC (.int 0)))) (fTst (fCmp (cEqF true) (fVar 1) (fC (.str "times"))))) (fVar 4) (fC (.int 2))) fNil))))))))
def m__law_step : FM := mk 6 (fs__law_step)
def e__law_test_c1 : FE := (fCall m__law_step (fCons (fVar 0) fNil))
def fs__law_test : FS := (fSq (fPar [2, 3] (fCons (fCall m__law_one (fCons (fVar 0) (fCons (fVar 1) fNil))) (fCons (fCall m__law_take (fCons (fVar 0) (fCons (fC (.int 10)) fNil))) fNil)))
  (fSq (fIfS (fTst (fCmp cLt (fVar 3) (fC (.int 2)))) (fRet (fTup (fCons (fIx (fLst (fCons (fC (.str "empty")) (fCons (fC (.str "number")) fNil))) (fVar 3)) (fCons (fVar 2) fNil)))) fNext)
  (fSq (fSet 4 (fTup fNil))
  (fSq (fIfS (fTst (fCmp cGt (fVar 3) (fC (.int 4)))) (fSet 4 (fTup (fCons (fTup (fCons (fC (.str "plus")) (fCons (fBin gSubF (fCall m__law_take (fCons (fVar 0) (fCons (fC (.int 7)) fNil))) (fC (.int 3))) fNil))) (fCons (fTup (fCons (fC (.str "over")) (fCons (fBin gSubF (fCall m__law_take (fCons (fVar 0) (fCons (fC (.int 9)) fNil))) (fC (.int 4))) fNil))) fNil)))) fNext)
  (fSq (fIfS (fTst (fCmp cGt (fVar 3) (fC (.int 7)))) (fSet 4 (fCB bTupleF (fCons (fComp (fiRng1 (fCons (fBin gAddF (fC (.int 1)) (fCall m__law_take (fCons (fVar 0) (fCons (fC (.int 3)) fNil)))) fNil)) (fgN 5) fYes e__law_test_c1 [5]) fNil))) fNext)
  (fRet (fTup (fCons (fC (.str "asks")) (fCons (fVar 2) (fCons (fVar 4) (fCons (fCall m__law_one (fCons (fVar 0) (fCons (fLst (fCons (fC (.str "<")) (fCons (fC (.str "<=")) (fCons (fC (.str "<>")) (fCons (fC (.str "=")) (fCons (fC (.str ">")) (fCons (fC (.str ">=")) fNil))))))) fNil))) (fCons (fBin gSubF (fCall m__law_take (fCons (fVar 0) (fCons (fC (.int 9)) fNil))) (fC (.int 4))) fNil))))))))))))
def m__law_test : FM := mk 6 (fs__law_test)
def fs__law_leaf : FS := (fSq (fIfS (fTst (fCmp (cEqF false) (fCall m__law_take (fCons (fVar 0) (fCons (fC (.int 9)) fNil))) (fC (.int 0)))) (fRet (fTup (fCons (fC (.str "always")) (fCons (fCall m__law_one (fCons (fVar 0) (fCons (fLst (fCons (fC (.str "error")) (fCons (fC (.str "no")) (fCons (fC (.str "unknown")) (fCons (fC (.str "yes")) fNil))))) fNil))) fNil)))) fNext)
  (fRet (fCall m__law_test (fCons (fVar 0) (fCons (fVar 1) fNil)))))
def m__law_leaf : FM := mk 2 (fs__law_leaf)
def fs__law_small : FS := (fSq (fPar [2, 3] (fCons (fCall m__law_take (fCons (fVar 0) (fCons (fC (.int 12)) fNil))) (fCons (fCall m__law_leaf (fCons (fVar 0) (fCons (fVar 1) fNil))) fNil)))
  (fSq (fIfS (fTst (fCmp (cEqF false) (fVar 2) (fC (.int 0)))) (fRet (fCall m__law_one (fCons (fVar 0) (fCons (fLst (fCons (fTup (fCons (fC (.str "all")) (fCons (fTup fNil) fNil))) (fCons (fTup (fCons (fC (.str "any")) (fCons (fTup fNil) fNil))) (fCons (fTup (fCons (fC (.str "first")) (fCons (fTup fNil) fNil))) (fCons (fTup (fCons (fC (.str "case")) (fCons (fTup fNil) (fCons (fVar 3) fNil)))) (fCons (fTup (fCons (fC (.str "case")) (fCons (fTup fNil) (fCons (fVar 3) fNil)))) fNil)))))) fNil)))) fNext)
  (fSq (fIfS (fTst (fCmp (cEqF false) (fVar 2) (fC (.int 1)))) (fRet (fCall m__law_one (fCons (fVar 0) (fCons (fLst (fCons (fTup (fCons (fC (.str "not")) (fCons (fVar 3) fNil))) (fCons (fTup (fCons (fC (.str "not")) (fCons (fVar 3) fNil))) (fCons (fTup (fCons (fC (.str "all")) (fCons (fTup (fCons (fVar 3) fNil)) fNil))) (fCons (fTup (fCons (fC (.str "any")) (fCons (fTup (fCons (fVar 3) fNil)) fNil))) (fCons (fTup (fCons (fC (.str "first")) (fCons (fTup (fCons (fVar 3) fNil)) fNil))) fNil)))))) fNil)))) fNext)
  (fRet (fVar 3)))))
def m__law_small : FM := mk 4 (fs__law_small)
def b__law_split_1 : FS := (fWipe [4] (fAug 3 (fCall m__law_take (fCons (fVar 0) (fCons (fVar 2) fNil))) (fC (.int 1))))
def fs__law_split : FS := (fSq (fSet 3 (fBin gMulF (fLst (fCons (fC (.int 1)) fNil)) (fVar 2)))
  (fSq (fWipe [4] (fFor (fiWipe [4] (fiRng1 (fCons (fBin gSubF (fVar 1) (fVar 2)) fNil))) (fgN 4) b__law_split_1))
  (fRet (fVar 3))))
def m__law_split : FM := mk 5 (fs__law_split)
def e__law_tree_c1 (r__law_tree : FM) : FE := (fCall r__law_tree (fCons (fVar 0) (fCons (fVar 1) (fCons (fVar 7) (fCons (fBin gSubF (fVar 3) (fC (.int 1))) fNil)))))
def e__law_tree_c2 (r__law_tree : FM) : FE := (fTup (fCons (fIx (fVar 6) (fBin gMulF (fC (.int 2)) (fVar 8))) (fCons (fIx (fVar 6) (fBin gAddF (fBin gMulF (fC (.int 2)) (fVar 8)) (fC (.int 1)))) fNil)))
def fs__law_tree (r__law_tree : FM) : FS := (fSq (fIfS (fOr (fTst (fCmp cLt (fVar 2) (fC (.int 2)))) (fTst (fCmp cLt (fVar 3) (fC (.int 1))))) (fRet (fCall m__law_small (fCons (fVar 0) (fCons (fVar 1) fNil)))) fNext)
  (fSq (fPar [4, 5] (fCons (fCall m__law_take (fCons (fVar 0) (fCons (fC (.int 9)) fNil))) (fCons (fBin gAddF (fC (.int 2)) (fCall m__law_take (fCons (fVar 0) (fCons (fBin gSubF (fCB bMin2F (fCons (fVar 2) (fCons (fC (.int 5)) fNil))) (fC (.int 1))) fNil)))) fNil)))
  (fSq (fIfS (fTst (fCmp (cEqF false) (fVar 4) (fC (.int 0)))) (fRet (fTup (fCons (fC (.str "not")) (fCons (fCall r__law_tree (fCons (fVar 0) (fCons (fVar 1) (fCons (fVar 2) (fCons (fBin gSubF (fVar 3) (fC (.int 1))) fNil))))) fNil)))) fNext)
  (fSq (fIfS (fAnd (fTst (fCmp (cEqF false) (fVar 4) (fC (.int 1)))) (fTst (fCmp cGt (fVar 2) (fC (.int 2))))) (fSet 5 (fBin gAddF (fC (.int 3)) (fBin gMulF (fC (.int 2)) (fCB bIntF (fCons (fAndV (fCmp cGt (fVar 2) (fC (.int 4))) (fCmp cGt (fVar 5) (fC (.int 3)))) fNil))))) fNext)
  (fSq (fSet 6 (fComp (fiSeq (fCall m__law_split (fCons (fVar 0) (fCons (fVar 2) (fCons (fVar 5) fNil))))) (fgN 7) fYes (e__law_tree_c1 r__law_tree) [7]))
  (fSq (fIfS (fAnd (fTst (fCmp (cEqF false) (fVar 4) (fC (.int 1)))) (fTst (fCmp cGt (fVar 2) (fC (.int 2))))) (fRet (fTup (fCons (fC (.str "case")) (fCons (fCB bTupleF (fCons (fComp (fiRng1 (fCons (fBin gFdivF (fVar 5) (fC (.int 2))) fNil)) (fgN 8) fYes (e__law_tree_c2 r__law_tree) [8]) fNil)) (fCons (fIx (fVar 6) (fNeg (fC (.int 1)))) fNil))))) fNext)
  (fRet (fTup (fCons (fIf (fTst (fCmp cLt (fVar 4) (fC (.int 3)))) (fC (.str "first")) (fIx (fLst (fCons (fC (.str "all")) (fCons (fC (.str "any")) fNil))) (fBin gModF (fCB bIntF (fCons (fVar 4) fNil)) (fC (.int 2))))) (fCons (fCB bTupleF (fCons (fVar 6) fNil)) fNil))))))))))
def m__law_tree : Nat → FM
  | 0 => m_none
  | n + 1 => mk 9 (fs__law_tree (m__law_tree n))
theorem mS__law_tree (n : Nat) : m__law_tree (n + 1) = mk 9 (fs__law_tree (m__law_tree n)) := rfl
def fs__law_column : FS := (fSq (fSet 2 (fBin gSubF (fCall m__law_take (fCons (fVar 0) (fCons (fC (.int 7)) fNil))) (fC (.int 4))))
  (fRet (fTup (fCons (fVar 1) (fCons (fVar 2) (fCons (fBin gAddF (fVar 2) (fCall m__law_take (fCons (fVar 0) (fCons (fC (.int 5)) fNil)))) (fCons (fCmp (cEqF false) (fCall m__law_take (fCons (fVar 0) (fCons (fC (.int 2)) fNil))) (fC (.int 0))) (fCons (fCmp (cEqF false) (fCall m__law_take (fCons (fVar 0) (fCons (fC (.int 4)) fNil))) (fC (.int 0))) fNil))))))))
def m__law_column : FM := mk 3 (fs__law_column)
def fs__law_values : FS := (fSq (fSet 1 (fLrng2 (fIx (fVar 0) (fC (.int 1))) (fBin gAddF (fCB bMin2F (fCons (fIx (fVar 0) (fC (.int 2))) (fCons (fBin gAddF (fIx (fVar 0) (fC (.int 1))) (fC (.int 40))) fNil))) (fC (.int 1)))))
  (fSq (fIfS (fTst (fCmp cGt (fBin gSubF (fIx (fVar 0) (fC (.int 2))) (fIx (fVar 0) (fC (.int 1)))) (fC (.int 40)))) (fSet 1 (fBin gAddF (fBin gAddF (fSl (fVar 1) foNone (foSome (fC (.int 2)))) (fLrng2 (fCB bMax2F (fCons (fBin gAddF (fIx (fVar 0) (fC (.int 1))) (fC (.int 2))) (fCons (fNeg (fC (.int 25))) fNil))) (fBin gAddF (fCB bMin2F (fCons (fBin gSubF (fIx (fVar 0) (fC (.int 2))) (fC (.int 2))) (fCons (fC (.int 25)) fNil))) (fC (.int 1))))) (fLst (fCons (fBin gSubF (fIx (fVar 0) (fC (.int 2))) (fC (.int 1))) (fCons (fIx (fVar 0) (fC (.int 2))) fNil))))) fNext)
  (fRet (fBin gAddF (fBin gAddF (fVar 1) (fBin gMulF (fLst (fCons (fC .non) fNil)) (fCB bIntF (fCons (fIx (fVar 0) (fC (.int 3))) fNil)))) (fBin gMulF (fLst (fCons (fC (.str "a")) (fCons (fC (.str "ten")) fNil))) (fCB bIntF (fCons (fIx (fVar 0) (fC (.int 4))) fNil)))))))
def m__law_values : FM := mk 2 (fs__law_values)
def b__law_longer_rows_1 : FS := (fWipe [4] (fExpr (fApp 2 (fCB bDictAF (fCons (fBin gAddF (fItems (fVar 3)) (fLst (fCons (fTup (fCons (fIx (fVar 1) (fC (.int 0))) (fCons (fVar 4) fNil))) fNil))) fNil)))))
def b__law_longer_rows_2 : FS := (fWipe [3, 4] (fWipe [3, 4] (fFor (fiWipe [4] (fiSeq (fCall m__law_values (fCons (fVar 1) fNil)))) (fgN 4) b__law_longer_rows_1)))
def fs__law_longer_rows : FS := (fSq (fSet 2 (fLst fNil))
  (fSq (fWipe [3, 4] (fFor (fiWipe [3, 4] (fiSeq (fVar 0))) (fgN 3) b__law_longer_rows_2))
  (fRet (fVar 2))))
def m__law_longer_rows : FM := mk 5 (fs__law_longer_rows)
def b__law_every_row_1 : FS := (fWipe [2] (fSet 1 (fCall m__law_longer_rows (fCons (fVar 1) (fCons (fVar 2) fNil)))))
def fs__law_every_row : FS := (fSq (fSet 1 (fLst (fCons fDnew fNil)))
  (fSq (fWipe [2] (fFor (fiWipe [2] (fiSeq (fVar 0))) (fgN 2) b__law_every_row_1))
  (fRet (fVar 1))))
def m__law_every_row : FM := mk 3 (fs__law_every_row)
def b__law_cases_1 : FS := (fWipe [3] (fSet 2 (fTup (fCons (fC (.str "case")) (fCons (fTup (fCons (fTup (fCons (fVar 3) (fCons (fVar 2) fNil))) fNil)) (fCons (fTup (fCons (fC (.str "always")) (fCons (fC (.str "no")) fNil))) fNil))))))
def fs__law_cases : FS := (fSq (fSet 2 (fTup (fCons (fC (.str "always")) (fCons (fVar 1) fNil))))
  (fSq (fWipe [3] (fFor (fiWipe [3] (fiSeq (fRev (fVar 0)))) (fgN 3) b__law_cases_1))
  (fRet (fVar 2))))
def m__law_cases : FM := mk 4 (fs__law_cases)
def e__law_row_right_c1 (c_Errs : Addr) : FE := (fVar 9)
def e__law_row_right_c2 (c_Errs : Addr) : FE := (fVar 9)
def fs__law_row_right (c_Errs : Addr) : FS := (fSq (fPar [2, 3] (fCons (fTup (fCons (fC (.str "all")) (fCons (fCB bTupleF (fCons (fVar 0) fNil)) fNil))) (fCons (fCall m__law_cases (fCons (fVar 0) (fCons (fC (.str "yes")) fNil))) fNil)))
  (fSq (fPar [4, 5] (fCons (fCall (m_answer c_Errs) (fCons (fVar 2) (fCons (fVar 1) fNil))) (fCons (fCall (m_answer c_Errs) (fCons (fVar 3) (fCons (fVar 1) fNil))) fNil)))
  (fSq (fIfS (fOr (fAnd (fTst (fCmp (cEqF false) (fVar 5) (fC (.str "error")))) (fTst (fCmp (cEqF true) (fVar 4) (fC (.str "error"))))) (fAnd (fTst (fCmp (cEqF true) (fVar 4) (fC (.str "error")))) (fTst (fCmp (cEqF true) (fCall (m_keeps c_Errs) (fCons (fVar 2) (fCons (fVar 1) fNil))) (fCall (m_keeps c_Errs) (fCons (fVar 3) (fCons (fVar 1) fNil))))))) (fRet (fC (.bl false))) fNext)
  (fSq (fSet 6 (fComp (fiSeq (fCall (m_asked c_Errs) (fCons (fVar 3) (fCons (fVar 1) fNil)))) (fgT 2 (fgCons (fgN 8) (fgCons (fgN 9) fgNil))) fYes (e__law_row_right_c1 c_Errs) [8, 9]))
  (fSq (fSet 7 (fComp (fiSeq (fCall (m_asked c_Errs) (fCons (fVar 2) (fCons (fVar 1) fNil)))) (fgT 2 (fgCons (fgN 8) (fgCons (fgN 9) fgNil))) fYes (e__law_row_right_c2 c_Errs) [8, 9]))
  (fSq (fSet 6 (fSl (fVar 6) foNone (foSome (fBin gSubF (fCB bLenF (fCons (fVar 6) fNil)) (fCB bIntF (fCons (fCmp (cEqF true) (fVar 5) (fC (.str "error"))) fNil))))))
  (fRet (fAndV (fCmp (cEqF false) (fVar 6) (fSl (fVar 7) foNone (foSome (fCB bLenF (fCons (fVar 6) fNil))))) (fCmp (cInF false) (fVar 5) (fTup (fCons (fC (.str "error")) (fCons (fC (.str "no")) (fCons (fC (.str "yes")) fNil)))))))))))))
def m__law_row_right (c_Errs : Addr) : FM := mk 10 (fs__law_row_right c_Errs)
def e_law_c1 (c_Errs : Addr) : FE := (fCall (m__law_tree 8) (fCons (fVar 1) (fCons (fLst (fCons (fC (.str "n")) (fCons (fC (.str "m")) fNil))) (fCons (fBin gAddF (fC (.int 1)) (fCall m__law_take (fCons (fVar 1) (fCons (fVar 5) fNil)))) (fCons (fC (.int 1)) fNil)))))
def e_law_c2 (c_Errs : Addr) : FE := (fCall (m_turned 12) (fCons (fVar 10) fNil))
def b_law_3 (c_Errs : Addr) : FS := (fWipe [2, 3, 4, 5, 8] (fSq (fIfS (fNot (fTst (fCall (m__law_row_right c_Errs) (fCons (fVar 6) (fCons (fVar 8) fNil))))) (fRet (fC (.bl false))) fNext)
  (fSq (fIfS (fTst (fCmp (cEqF true) (fCall (m_answer c_Errs) (fCons (fCall (m_turned 12) (fCons (fVar 7) fNil)) (fCons (fVar 8) fNil))) (fGet (fDisp (((fC (.str "yes")), (fC (.str "no"))) :: (((fC (.str "no")), (fC (.str "yes"))) :: []))) (fCall (m_answer c_Errs) (fCons (fVar 7) (fCons (fVar 8) fNil))) (fCall (m_answer c_Errs) (fCons (fVar 7) (fCons (fVar 8) fNil)))))) (fRet (fC (.bl false))) fNext)
  (fIfS (fTst (fCmp (cEqF true) (fCall (m_answer c_Errs) (fCons (fTup (fCons (fC (.str "any")) (fCons (fCB bTupleF (fCons (fComp (fiSeq (fVar 6)) (fgN 10) fYes (e_law_c2 c_Errs) [10]) fNil)) fNil))) (fCons (fVar 8) fNil))) (fCall (m_answer c_Errs) (fCons (fCall (m_turned 12) (fCons (fVar 7) fNil)) (fCons (fVar 8) fNil))))) (fRet (fC (.bl false))) fNext))))
def b_law_4 (c_Errs : Addr) : FS := (fWipe [2, 3, 4, 5, 6, 7, 8] (fSq (fSet 3 (fLst (fCons (fCall m__law_column (fCons (fVar 1) (fCons (fC (.str "n")) fNil))) (fCons (fCall m__law_column (fCons (fVar 1) (fCons (fC (.str "m")) fNil))) fNil))))
  (fSq (fSet 4 (fCall m__law_take (fCons (fVar 1) (fCons (fC (.int 6)) fNil))))
  (fSq (fSet 5 (fBin gAddF (fC (.int 1)) (fCB bIntF (fCons (fCmp cLt (fVar 4) (fC (.int 4))) fNil))))
  (fSq (fSet 6 (fComp (fiRng1 (fCons (fVar 4) fNil)) (fgN 9) fYes (e_law_c1 c_Errs) [9]))
  (fSq (fSet 7 (fTup (fCons (fC (.str "all")) (fCons (fCB bTupleF (fCons (fVar 6) fNil)) fNil))))
  (fWipe [2, 3, 4, 5, 6, 7, 8] (fFor (fiWipe [2, 3, 4, 5, 8] (fiSeq (fCall m__law_every_row (fCons (fVar 3) fNil)))) (fgN 8) (b_law_3 c_Errs)))))))))
def fs_law (c_Errs : Addr) : FS := (fSq (fWipe [1, 2, 3, 4, 5, 6, 7, 8] (fFor (fiWipe [2, 3, 4, 5, 6, 7, 8] (fiRng1 (fCons (fC (.int 6)) fNil))) (fgN 2) (b_law_4 c_Errs)))
  (fRet (fC (.bl true))))
def m_law (c_Errs : Addr) : FM := mk 11 (fs_law c_Errs)
end
end K28

set_option maxHeartbeats 1000000
namespace CN.PK28
open PySem PySem.Spec L2 DL K28
local macro_rules | `(tactic| walk_at "ev") => `(tactic| try simp only [v_lc2N, v_lc2C, v_lc2G, v_lc2T, v_lc2I, v_allApp, v_valsApp, v_ret, v_fail, v_bind, v_on, v_onE, v_go, v_goE, v_of, v_ofN, v_ofI, v_useV, v_useO, v_useP, v_useKV, v_useKO, v_peekV, v_peekO, v_peekP, v_lookV, v_lookO, v_handV, v_handO, v_handB, v_handP, v_handKV, v_handKO, v_handKB, v_allN, v_allC, v_lkN, v_lkC, v_var, v_varV, v_varO, v_varB, v_varM, v_c, v_bin, v_cmp, v_tst, v_bl, v_int, v_and, v_or, v_not, v_andV, v_orV, v_notV, v_if, v_nil, v_cons, v_vals, v_tup, v_lst, v_neg, v_ix, v_oN, v_oS, v_sl, v_cb, v_lrng, v_dix, v_dixI, v_dixS, v_eS, v_next, v_break, v_cont, v_sq, v_thN, v_thR, v_thB, v_thC, v_thE, v_expr, v_retS, v_rV, v_rO, v_rB, v_rP, v_rKV, v_rKO, v_rKB, v_retN, v_ifS, v_set, v_sV, v_sO, v_sB, v_sP, v_sKV, v_sKO, v_sKB, v_asg, v_optS, v_gN, v_gT, v_gC, v_gNil, v_loopN, v_loopC, v_turnK, v_tuN, v_tuC, v_tuB, v_tuR, v_tuE, v_for, v_iW, v_wipe, v_wN, v_wR, v_wB, v_wC, v_wE, v_iS, v_r1, v_r2, v_r1K, v_r2K, v_en, v_enK, v_lcN, v_lcC, v_lcG, v_lcT, v_lcE, v_yes, v_comp, v_app, v_appG, v_appF, v_appK, v_wrOf, v_wrO, v_wrB, v_wrAsO, v_wrAsB, v_bor0, v_bor1, v_bor2, v_bor3, v_bor4, v_bor5, v_kp0, v_kp1, v_retM, v_rmV, v_rmO, v_rmP, v_rmKV, v_rmKO, v_retNM, v_lookB, v_callB, v_callBF, v_callBW, v_backB, v_lendP, v_lendV, v_lendG, v_lfP, v_lfV, v_lfO, v_lfB, v_ubN, v_ubC, v_callN, v_callNS, v_callNF, v_backNM, v_backNV, v_last, v_lo1, v_lo2, v_lo3, v_mkM, v_outMN, v_outMR, v_outME, v_outB, v_call, v_callX, v_callF, v_callXF, v_callK, v_callXK, v_callXE, v_mk, v_outN, v_outR, v_outE, v_take, v_rai, v_raiK, v_try, v_tryN, v_tryR, v_tryB, v_tryC, v_tryE, v_suN, v_suR, v_suB, v_suC, v_xf, v_xfK, v_pubO, v_pubV, v_pubB, v_pubP, v_ixL, v_ixT, v_ixS, v_slL, v_slT, v_slS, v_addI, v_addS, v_addL, v_addT, v_sub, v_mod, v_pow, v_shr, v_fdiv, v_mulI, v_mulL, v_cI, v_cIs, v_cES, v_cNS, v_dinI, v_dinS, v_lenL, v_lenT, v_lenS, v_intI, v_intB, v_abs, v_max2, v_min2, v_listL, v_listT, v_tupleL, v_tupleT, v_itN, v_itI, v_itS, v_itB, v_itL, v_itT, v_itD, v_par, v_putN, v_putC, v_inL, v_inT, v_ngT, v_ngF, v_inDN, v_inDC, v_flN, v_flB, v_flI, v_flS, v_flT, v_flL, v_isi, v_ext, v_extO, v_putOwn, v_putOwn1, v_putOwnS, v_putOwnI, v_putOwnN, v_extG, v_insO, v_insK, v_rev, v_lstO, v_star, v_r3, v_r3K, v_aug, v_augO, v_augR, v_augRK, v_augAK, v_augB, v_augBK, v_get, v_isDic, v_getKS, v_getKI, v_disp, v_ppN, v_ppC, v_dnew, v_dictK, v_try0, v_t0N, v_t0R, v_t0B, v_t0C, v_t0E, v_s0N, v_s0R, v_s0B, v_s0C, v_kix, v_kin, v_kget, v_strO, v_items, v_itemsK, v_dAL, v_dAT, v_dAD, v_ins, v_setIx, v_setIxS, v_setIx0, v_setIxK, v_setIx1, v_setIx2, v_chain, v_bAny, v_bAll, v_bSum, v_comp2, v_repr, v_ty_int_int, v_ty_int_bool, v_ty_int_str, v_ty_int_list, v_ty_int_tuple, v_ty_int_dict, v_ty_int_NoneType, v_ty_bool_int, v_ty_bool_bool, v_ty_bool_str, v_ty_bool_list, v_ty_bool_tuple, v_ty_bool_dict, v_ty_bool_NoneType, v_ty_str_int, v_ty_str_bool, v_ty_str_str, v_ty_str_list, v_ty_str_tuple, v_ty_str_dict, v_ty_str_NoneType, v_ty_list_int, v_ty_list_bool, v_ty_list_str, v_ty_list_list, v_ty_list_tuple, v_ty_list_dict, v_ty_list_NoneType, v_ty_tuple_int, v_ty_tuple_bool, v_ty_tuple_str, v_ty_tuple_list, v_ty_tuple_tuple, v_ty_tuple_dict, v_ty_tuple_NoneType, v_ty_dict_int, v_ty_dict_bool, v_ty_dict_str, v_ty_dict_list, v_ty_dict_tuple, v_ty_dict_dict, v_ty_dict_NoneType, keysD, tabD, Option.isSome_some, Option.isSome_none, Option.getD_some, Option.getD_none, keyD, putD, mergeD, List.foldl_cons, List.foldl_nil, List.any_cons, List.any_nil, Bool.or_false, Bool.false_or, Bool.or_true, Bool.true_or, valD, List.find?_cons, List.find?_nil, R.val.injEq, v_itemsL, v_itemsT, gt, st, wipeD, backD, R.stay, vals?, startK, v_at0, v_at1, v_at2, v_at3, v_at4, v_at5, v_at6, v_at7, v_atL, v_atM1, v_atM2, v_atM3, T.bind_ret, T.bind_fail, T.bind_ite, T.bind_any, T.All_retE, T.All_anyE, T.All_failE, T.All_iteE, ite_ap, cEqF, okk, eqD, eqAll, ofS_inj, ofS_beq, strOk_ofS, Option.bind_some, Option.map_some, Option.map_none, Sum.inr.injEq, Sum.inl.injEq, List.length_cons, List.length_nil, if_true, if_false, ite_true, ite_false, Bool.not_true, Bool.not_false, beq_self_eq_true, beq_iff_eq, decide_true, decide_false, decide_eq_true_eq, and_self, and_true, true_and, and_false, false_and, Bool.false_eq_true, Bool.true_eq_false, reduceIte, reduceCtorEq, Nat.reduceAdd, Nat.reduceEqDiff, Nat.reduceLeDiff, Nat.reduceLT, String.reduceEq, Int.reduceNeg, Int.reduceLE, Int.reduceLT, Int.reduceEq, Int.reduceToNat, Int.reducePow, Int.reduceAdd, Int.reduceSub, Int.reduceMul, Int.reduceAbs, Int.natAbs_neg, Nat.reducePow, Bool.and_true, Bool.true_and, Bool.and_false, Bool.false_and, List.lookup, sizeLine_eq, Option.some.injEq, List.all_cons, List.all_nil, List.nil_append, List.cons_append, Bool.not_eq_true', Bool.and_eq_true, not_true_eq_false, not_false_eq_true, List.map_cons, List.map_nil, decide_not, true_implies, false_implies, implies_true, not_true, ne_eq, Bool.not_eq_eq_eq_not])
local macro_rules | `(tactic| walk_at "pl") => `(tactic| repeat (with_reducible refine T.All_bind.mpr ?_))
local macro_rules | `(tactic| walk_at "ew") => `(tactic| try simp only [v_lc2N, v_lc2C, v_lc2G, v_lc2T, v_lc2I, v_allApp, v_valsApp, v_ret, v_fail, v_bind, v_on, v_onE, v_go, v_goE, v_of, v_ofN, v_ofI, v_useV, v_useO, v_useP, v_useKV, v_useKO, v_peekV, v_peekO, v_peekP, v_lookV, v_lookO, v_handV, v_handO, v_handB, v_handP, v_handKV, v_handKO, v_handKB, v_allN, v_allC, v_lkN, v_lkC, v_var, v_varV, v_varO, v_varB, v_varM, v_c, v_bin, v_cmp, v_tst, v_bl, v_int, v_and, v_or, v_not, v_andV, v_orV, v_notV, v_if, v_nil, v_cons, v_vals, v_tup, v_lst, v_neg, v_ix, v_oN, v_oS, v_sl, v_cb, v_lrng, v_dix, v_dixI, v_dixS, v_eS, v_next, v_break, v_cont, v_sq, v_thN, v_thR, v_thB, v_thC, v_thE, v_expr, v_retS, v_rV, v_rO, v_rB, v_rP, v_rKV, v_rKO, v_rKB, v_retN, v_ifS, v_set, v_sV, v_sO, v_sB, v_sP, v_sKV, v_sKO, v_sKB, v_asg, v_optS, v_gN, v_gT, v_gC, v_gNil, v_loopN, v_loopC, v_turnK, v_tuN, v_tuC, v_tuB, v_tuR, v_tuE, v_for, v_iW, v_wipe, v_wN, v_wR, v_wB, v_wC, v_wE, v_iS, v_r1, v_r2, v_r1K, v_r2K, v_en, v_enK, v_lcN, v_lcC, v_lcG, v_lcT, v_lcE, v_yes, v_comp, v_app, v_appG, v_appF, v_appK, v_wrOf, v_wrO, v_wrB, v_wrAsO, v_wrAsB, v_bor0, v_bor1, v_bor2, v_bor3, v_bor4, v_bor5, v_kp0, v_kp1, v_retM, v_rmV, v_rmO, v_rmP, v_rmKV, v_rmKO, v_retNM, v_lookB, v_callB, v_callBF, v_callBW, v_backB, v_lendP, v_lendV, v_lendG, v_lfP, v_lfV, v_lfO, v_lfB, v_ubN, v_ubC, v_callN, v_callNS, v_callNF, v_backNM, v_backNV, v_last, v_lo1, v_lo2, v_lo3, v_mkM, v_outMN, v_outMR, v_outME, v_outB, v_call, v_callX, v_callF, v_callXF, v_callK, v_callXK, v_callXE, v_mk, v_outN, v_outR, v_outE, v_take, v_rai, v_raiK, v_try, v_tryN, v_tryR, v_tryB, v_tryC, v_tryE, v_suN, v_suR, v_suB, v_suC, v_xf, v_xfK, v_pubO, v_pubV, v_pubB, v_pubP, v_ixL, v_ixT, v_ixS, v_slL, v_slT, v_slS, v_addI, v_addS, v_addL, v_addT, v_sub, v_mod, v_pow, v_shr, v_fdiv, v_mulI, v_mulL, v_cI, v_cIs, v_cES, v_cNS, v_dinI, v_dinS, v_lenL, v_lenT, v_lenS, v_intI, v_intB, v_abs, v_max2, v_min2, v_listL, v_listT, v_tupleL, v_tupleT, v_itN, v_itI, v_itS, v_itB, v_itL, v_itT, v_itD, v_par, v_putN, v_putC, v_inL, v_inT, v_ngT, v_ngF, v_inDN, v_inDC, v_flN, v_flB, v_flI, v_flS, v_flT, v_flL, v_isi, v_ext, v_extO, v_putOwn, v_putOwn1, v_putOwnS, v_putOwnI, v_putOwnN, v_extG, v_insO, v_insK, v_rev, v_lstO, v_star, v_r3, v_r3K, v_aug, v_augO, v_augR, v_augRK, v_augAK, v_augB, v_augBK, v_get, v_isDic, v_getKS, v_getKI, v_disp, v_ppN, v_ppC, v_dnew, v_dictK, v_try0, v_t0N, v_t0R, v_t0B, v_t0C, v_t0E, v_s0N, v_s0R, v_s0B, v_s0C, v_kix, v_kin, v_kget, v_strO, v_items, v_itemsK, v_dAL, v_dAT, v_dAD, v_ins, v_setIx, v_setIxS, v_setIx0, v_setIxK, v_setIx1, v_setIx2, v_chain, v_bAny, v_bAll, v_bSum, v_comp2, v_repr, v_ty_int_int, v_ty_int_bool, v_ty_int_str, v_ty_int_list, v_ty_int_tuple, v_ty_int_dict, v_ty_int_NoneType, v_ty_bool_int, v_ty_bool_bool, v_ty_bool_str, v_ty_bool_list, v_ty_bool_tuple, v_ty_bool_dict, v_ty_bool_NoneType, v_ty_str_int, v_ty_str_bool, v_ty_str_str, v_ty_str_list, v_ty_str_tuple, v_ty_str_dict, v_ty_str_NoneType, v_ty_list_int, v_ty_list_bool, v_ty_list_str, v_ty_list_list, v_ty_list_tuple, v_ty_list_dict, v_ty_list_NoneType, v_ty_tuple_int, v_ty_tuple_bool, v_ty_tuple_str, v_ty_tuple_list, v_ty_tuple_tuple, v_ty_tuple_dict, v_ty_tuple_NoneType, v_ty_dict_int, v_ty_dict_bool, v_ty_dict_str, v_ty_dict_list, v_ty_dict_tuple, v_ty_dict_dict, v_ty_dict_NoneType, keysD, tabD, Option.isSome_some, Option.isSome_none, Option.getD_some, Option.getD_none, keyD, List.foldl_cons, List.foldl_nil, List.any_cons, List.any_nil, Bool.or_false, Bool.false_or, Bool.or_true, Bool.true_or, R.val.injEq, v_itemsL, v_itemsT, gt, st, wipeD, backD, R.stay, vals?, startK, v_at0, v_at1, v_at2, v_at3, v_at4, v_at5, v_at6, v_at7, v_atL, v_atM1, v_atM2, v_atM3, T.bind_ret, T.bind_fail, T.bind_ite, T.bind_any, T.All_retE, T.All_anyE, T.All_failE, T.All_iteE, ite_ap, cEqF, okk, eqD, eqAll, ofS_inj, ofS_beq, strOk_ofS, Option.bind_some, Option.map_some, Option.map_none, Sum.inr.injEq, Sum.inl.injEq, List.length_cons, List.length_nil, if_true, if_false, ite_true, ite_false, Bool.not_true, Bool.not_false, beq_self_eq_true, beq_iff_eq, decide_true, decide_false, decide_eq_true_eq, and_self, and_true, true_and, and_false, false_and, Bool.false_eq_true, Bool.true_eq_false, reduceIte, reduceCtorEq, Nat.reduceAdd, Nat.reduceEqDiff, Nat.reduceLeDiff, Nat.reduceLT, String.reduceEq, Int.reduceNeg, Int.reduceLE, Int.reduceLT, Int.reduceEq, Int.reduceToNat, Int.reducePow, Int.reduceAdd, Int.reduceSub, Int.reduceMul, Int.reduceAbs, Int.natAbs_neg, Nat.reducePow, Bool.and_true, Bool.true_and, Bool.and_false, Bool.false_and, List.lookup, sizeLine_eq, Option.some.injEq, List.all_cons, List.all_nil, List.nil_append, List.cons_append, Bool.not_eq_true', Bool.and_eq_true, not_true_eq_false, not_false_eq_true, List.map_cons, List.map_nil, decide_not, true_implies, false_implies, implies_true, not_true, ne_eq, Bool.not_eq_eq_eq_not])

/-! ### steps, tests, leaves -/
theorem is_integer_eq (v : Val) : m_is_integer [.val v.d] = .ret (.val (.val (.bl v.isI))) := by
  unfold m_is_integer fs_is_integer
  cases v <;> simp only [Val.d] <;> walk_at "ev" <;> rfl
theorem found_loop (C : Addr) (ps : List (Int × Int)) (n : Int) (r0 : R) : fLoop (fgT 2 (fgCons (fgN 4) (fgCons (fgN 5) fgNil))) (b_step_on_1 C) (ps.map prD) [r0, .val (.int n), R.no, .no, .no, .no] = match look ps n with
    | some m => .ret (.rt (.val (.int m)) [])
    | none => .ret (.nx [r0, .val (.int n), R.no, .no, .no, .no]) := by
  induction ps with
  | nil => rfl
  | cons p ps ih =>
    rw [List.map_cons, v_loopC]
    simp only [prD, look]
    have : ∀ k : FS, turnK (fgT 2 (fgCons (fgN 4) (fgCons (fgN 5) fgNil)) (.tup [.int p.1, .int p.2]) [r0, .val (.int n), R.no, .no, .no, .no]) (b_step_on_1 C) k = if p.1 = n then .ret (.rt (.val (.int p.2)) []) else k [r0, .val (.int n), R.no, .no, .no, .no] := by
      intro k
      unfold b_step_on_1
      walk_at "ev"
    rw [this]
    by_cases h : p.1 = n
    · simp only [h, if_true]
    · simp only [h, if_false]
      exact ih
theorem step_on_eq (C : Addr) (s : Stp) (n : Int) (h : Fair [s] n) : m_step_on C [.val s.d, .val (.int n)] = match led1 s n with
    | some m => .ret (.val (.val (.int m)))
    | none => .ret (.exc C [("number", .int n)]) := by
  have ok := h.ok
  obtain ⟨_, e, e40, bg, ee⟩ := h
  have el : e ≤ 400 := by omega
  have lg := log_lt bg (by omega)
  unfold m_step_on fs_step_on
  cases s with
  | plus k =>
    simp only [Stp.d]
    walk_at "ev"
    rfl
  | times k =>
    simp only [Stp.d]
    walk_at "ev"
    simp only [led1, mul_ok bg ok el e40, if_true]
  | into k =>
    simp only [Stp.d]
    walk_at "ev"
    have : k ≠ 0 := by have := ok.2; omega
    have l2 := log_lt (sm_bg ok.1) (by decide)
    rw [if_pos ⟨by simp [this], by omega⟩]
    rfl
  | over k =>
    simp only [Stp.d]
    walk_at "ev"
    by_cases h0 : n = 0
    · simp only [h0, led1, if_true]
    · simp only [h0, led1, if_false]
      rw [if_pos ⟨by simp, by omega⟩]
  | found ps =>
    simp only [Stp.d]
    walk_at "ev"
    rw [found_loop]
    simp only [led1]
    cases look ps n with
    | none => walk_at "ev"
    | some m => walk_at "ev"
theorem steps_loop (C : Addr) (ss : List Stp) (n : Int) (r0 : R) (h : Fair ss n) : ∃ δ, fLoop (fgN 2) (b_steps_on_1 C) (ss.map Stp.d) [r0, .val (.int n), .no] = match led ss n with
    | some m => .ret (.nx [r0, .val (.int m), .no])
    | none => .ret (.err C [("number", oD (errAt ss n))] δ) := by
  induction ss generalizing n with
  | nil => exact ⟨[], rfl⟩
  | cons s ss ih =>
    rw [List.map_cons, v_loopC]
    have : ∀ k : FS, ∃ δ, turnK (fgN 2 s.d [r0, .val (.int n), .no]) (b_steps_on_1 C) k = match led1 s n with
        | some m => k [r0, .val (.int m), .no]
        | none => .ret (.err C [("number", .int n)] δ) := by
      intro k
      refine ⟨[r0, .val (.int n), .val s.d], ?_⟩
      unfold b_steps_on_1
      walk_at "ev"
      rw [step_on_eq C s n h.head]
      cases led1 s n with
      | none => walk_at "ev"
      | some m => walk_at "ev"
    obtain ⟨δ, e⟩ := this (fLoop (fgN 2) (b_steps_on_1 C) (ss.map Stp.d))
    rw [e]
    simp only [led, errAt]
    cases q : led1 s n with
    | none => exact ⟨δ, rfl⟩
    | some m => exact ih m (h.tail q)
theorem steps_on_eq (C : Addr) (ss : List Stp) (n : Int) (h : Fair ss n) : m_steps_on C [.val (.tup (ss.map Stp.d)), .val (.int n)] = match led ss n with
    | some m => .ret (.val (.val (.int m)))
    | none => .ret (.exc C [("number", oD (errAt ss n))]) := by
  unfold m_steps_on fs_steps_on
  walk_at "ev"
  obtain ⟨δ, e⟩ := steps_loop C ss n (.val (.tup (ss.map Stp.d))) h
  rw [e]
  cases led ss n with
  | none => walk_at "ev"
  | some m => walk_at "ev"
theorem is_so_eq (g : Sg) (m n : Int) : m_is_so [.val (.int m), .val (.str g.s), .val (.int n)] = .ret (.val (.val (.bl (g.so m n)))) := by
  unfold m_is_so fs_is_so
  cases g <;> simp only [Sg.s, Sg.so] <;> walk_at "ev" <;> by_cases h : m = n <;> simp [h] <;> (try omega) <;> (try (by_cases h2 : m < n <;> simp [h2] <;> omega))
theorem number_answer_eq (C : Addr) (c : String) (ss : List Stp) (g : Sg) (n i : Int) (h : Fair ss i) : m_number_answer C [.val (Leaf.ask c ss g n).d, .val (.int i)] = .ret (.val (.val (numAns ss g n i).d)) := by
  unfold m_number_answer fs_number_answer
  simp only [Leaf.d]
  walk_at "ev"
  rw [steps_on_eq C ss i h]
  unfold numAns
  cases led ss i with
  | none => walk_at "ev"; rfl
  | some m =>
    walk_at "ev"
    rw [is_so_eq]
    cases g.so m n <;> walk_at "ev" <;> rfl
theorem test_answer_eq (C : Addr) (ns : List String) (l : Leaf) (v : Val) (ok : l.Ok ns) (hv : ∀ i, v = .int i → Bg 60 i) (hc : l.col ≠ none) : m_test_answer C [.val l.d, .val v.d] = .ret (.val (.val (l.ansV v).d)) := by
  have hi := is_integer_eq v
  unfold m_test_answer fs_test_answer
  cases l with
  | alw a => exact absurd rfl hc
  | emp c => cases v <;> simp only [Leaf.d, Val.d] <;> walk_at "ev" <;> rfl
  | num c =>
    cases v <;> simp only [Leaf.d, Val.d, Val.isI] at hi ⊢
    · walk_at "ev"; rfl
    · walk_at "ev"; rw [hi]; walk_at "ev"; rfl
    · walk_at "ev"; rw [hi]; walk_at "ev"; rfl
  | ask c ss g n =>
    cases v with
    | non => simp only [Leaf.d, Val.d]; walk_at "ev"; rfl
    | int i =>
      have hn := number_answer_eq C c ss g n i ⟨ok.2.2.1, 60, by decide, hv i rfl, by have := ok.2.1; omega⟩
      simp only [Leaf.d, Val.d, Val.isI] at hi hn ⊢
      walk_at "ev"; rw [hi]; walk_at "ev"; rw [hn]; walk_at "ev"; rfl
    | wd s =>
      simp only [Leaf.d, Val.d, Val.isI] at hi ⊢
      walk_at "ev"; rw [hi]; walk_at "ev"; rfl
theorem is_leaf_eq (l : Leaf) : m_is_leaf [.val l.d] = .ret (.val (.val (.bl true))) := by
  unfold m_is_leaf fs_is_leaf
  cases l <;> simp only [Leaf.d] <;> walk_at "ev"
theorem is_leaf_no (k : K) (ds : List D) : m_is_leaf [.val (nodeD k ds)] = .ret (.val (.val (.bl false))) := by
  unfold m_is_leaf fs_is_leaf
  cases k <;> simp only [nodeD] <;> walk_at "ev"
theorem leaf_answer_eq (C : Addr) (ns : List String) (l : Leaf) (r : Row) (ok : l.Ok ns) (hr : r.Ok ns) : m_leaf_answer C [.val l.d, .val r.d] = .ret (.val (.val (l.ans r).d)) := by
  have key : ∀ c, c ∈ ns → ∃ v, r.get c = some v ∧ (∀ i, v = .int i → Bg 60 i) ∧ valD (rowK r) (.inr (Str.ofString c)) = some v.d := fun c hc => by
    obtain ⟨v, hv⟩ := hr.1 c hc
    refine ⟨v, hv, fun i hi => hr.2 _ (get_mem hv) i hi, ?_⟩
    rw [row_val, hv]; rfl
  unfold m_leaf_answer fs_leaf_answer
  cases l with
  | alw a => simp only [Leaf.d]; walk_at "ev"; rfl
  | emp c =>
    obtain ⟨v, h1, h2, h3⟩ := key c ok
    have ht := test_answer_eq C ns (.emp c) v ok h2 (by intro z; cases z)
    simp only [Leaf.ans, Leaf.col, h1, Option.getD_some]
    simp only [Leaf.d] at ht ⊢
    walk_at "ew"
    rw [h3]; walk_at "ew"; rw [ht]; walk_at "ew"
  | num c =>
    obtain ⟨v, h1, h2, h3⟩ := key c ok
    have ht := test_answer_eq C ns (.num c) v ok h2 (by intro z; cases z)
    simp only [Leaf.ans, Leaf.col, h1, Option.getD_some]
    simp only [Leaf.d] at ht ⊢
    walk_at "ew"
    rw [h3]; walk_at "ew"; rw [ht]; walk_at "ew"
  | ask c ss g n =>
    obtain ⟨v, h1, h2, h3⟩ := key c ok.1
    have ht := test_answer_eq C ns (.ask c ss g n) v ok h2 (by intro z; cases z)
    simp only [Leaf.ans, Leaf.col, h1, Option.getD_some]
    simp only [Leaf.d] at ht ⊢
    walk_at "ew"
    rw [h3]; walk_at "ew"; rw [ht]; walk_at "ew"
/-! ### parts -/
theorem parts_loop : ∀ (ds acc : List D) (r0 : R), acc.length + ds.length ≤ 100000 → fLc2 (fgN 1) fYes i_parts_c1 (fgN 2) fYes e_parts_c1 [1, 2] [2] (pairsU ds) acc [r0, .no, .no] = .ret (acc ++ unU ds, [r0, .no, .no])
  | [], acc, r0, h => by simp only [pairsU, unU, List.append_nil]; rfl
  | [e], acc, r0, h => by simp only [pairsU, unU, List.append_nil]; rfl
  | x :: y :: ds, acc, r0, h => by
    simp only [List.length_cons] at h
    simp only [pairsU, v_lc2C, i_parts_c1, e_parts_c1]
    walk_at "ev"
    have h1 : acc.length < 16777216 := by omega
    have h2 : (acc ++ [x]).length < 16777216 := by simp only [List.length_append, List.length_cons, List.length_nil]; omega
    simp only [h1, h2, if_true]
    try walk_at "ev"
    have := parts_loop ds (acc ++ [x] ++ [y]) r0 (by simp only [List.length_append, List.length_cons, List.length_nil]; omega)
    simp only [i_parts_c1, e_parts_c1] at this
    rw [this]
    simp only [unU, List.append_assoc, List.cons_append, List.nil_append]
theorem parts_eq (k : K) (ds : List D) (hk : kOk k ds.length) (hl : ds.length ≤ 10000) : m_parts [.val (nodeD k ds)] = .ret (.val (.own (.lst ds))) := by
  have hi := is_leaf_no k ds
  unfold m_parts fs_parts
  cases k with
  | all => simp only [nodeD] at hi ⊢; walk_at "ev"; rw [hi]; walk_at "ev"
  | any => simp only [nodeD] at hi ⊢; walk_at "ev"; rw [hi]; walk_at "ev"
  | fst => simp only [nodeD] at hi ⊢; walk_at "ev"; rw [hi]; walk_at "ev"
  | not =>
    simp only [nodeD] at hi ⊢
    match ds, hk with
    | [d], _ => simp only [lastD, List.getLast?_singleton, Option.getD_some] at hi ⊢; walk_at "ev"; rw [hi]; walk_at "ev"
  | cas =>
    simp only [nodeD] at hi ⊢
    walk_at "ev"; rw [hi]; walk_at "ev"
    rw [parts_loop ds [] _ (by simp only [List.length_nil]; omega)]
    walk_at "ev"
    have e := unU_last hk
    have hlen : (unU ds).length + 1 ≤ 16777216 := by have := congrArg List.length e; simp only [List.length_append, List.length_cons, List.length_nil] at this; omega
    rw [if_pos (by omega), e]
end CN.PK28

set_option maxHeartbeats 1000000
namespace CN.PK28
open PySem PySem.Spec L2 DL K28
local macro_rules | `(tactic| walk_at "ev") => `(tactic| try simp only [v_lc2N, v_lc2C, v_lc2G, v_lc2T, v_lc2I, v_allApp, v_valsApp, v_ret, v_fail, v_bind, v_on, v_onE, v_go, v_goE, v_of, v_ofN, v_ofI, v_useV, v_useO, v_useP, v_useKV, v_useKO, v_peekV, v_peekO, v_peekP, v_lookV, v_lookO, v_handV, v_handO, v_handB, v_handP, v_handKV, v_handKO, v_handKB, v_allN, v_allC, v_lkN, v_lkC, v_var, v_varV, v_varO, v_varB, v_varM, v_c, v_bin, v_cmp, v_tst, v_bl, v_int, v_and, v_or, v_not, v_andV, v_orV, v_notV, v_if, v_nil, v_cons, v_vals, v_tup, v_lst, v_neg, v_ix, v_oN, v_oS, v_sl, v_cb, v_lrng, v_dix, v_dixI, v_dixS, v_eS, v_next, v_break, v_cont, v_sq, v_thN, v_thR, v_thB, v_thC, v_thE, v_expr, v_retS, v_rV, v_rO, v_rB, v_rP, v_rKV, v_rKO, v_rKB, v_retN, v_ifS, v_set, v_sV, v_sO, v_sB, v_sP, v_sKV, v_sKO, v_sKB, v_asg, v_optS, v_gN, v_gT, v_gC, v_gNil, v_loopN, v_loopC, v_turnK, v_tuN, v_tuC, v_tuB, v_tuR, v_tuE, v_for, v_iW, v_wipe, v_wN, v_wR, v_wB, v_wC, v_wE, v_iS, v_r1, v_r2, v_r1K, v_r2K, v_en, v_enK, v_lcN, v_lcC, v_lcG, v_lcT, v_lcE, v_yes, v_comp, v_app, v_appG, v_appF, v_appK, v_wrOf, v_wrO, v_wrB, v_wrAsO, v_wrAsB, v_bor0, v_bor1, v_bor2, v_bor3, v_bor4, v_bor5, v_kp0, v_kp1, v_retM, v_rmV, v_rmO, v_rmP, v_rmKV, v_rmKO, v_retNM, v_lookB, v_callB, v_callBF, v_callBW, v_backB, v_lendP, v_lendV, v_lendG, v_lfP, v_lfV, v_lfO, v_lfB, v_ubN, v_ubC, v_callN, v_callNS, v_callNF, v_backNM, v_backNV, v_last, v_lo1, v_lo2, v_lo3, v_mkM, v_outMN, v_outMR, v_outME, v_outB, v_call, v_callX, v_callF, v_callXF, v_callK, v_callXK, v_callXE, v_mk, v_outN, v_outR, v_outE, v_take, v_rai, v_raiK, v_try, v_tryN, v_tryR, v_tryB, v_tryC, v_tryE, v_suN, v_suR, v_suB, v_suC, v_xf, v_xfK, v_pubO, v_pubV, v_pubB, v_pubP, v_ixL, v_ixT, v_ixS, v_slL, v_slT, v_slS, v_addI, v_addS, v_addL, v_addT, v_sub, v_mod, v_pow, v_shr, v_fdiv, v_mulI, v_mulL, v_cI, v_cIs, v_cES, v_cNS, v_dinI, v_dinS, v_lenL, v_lenT, v_lenS, v_intI, v_intB, v_abs, v_max2, v_min2, v_listL, v_listT, v_tupleL, v_tupleT, v_itN, v_itI, v_itS, v_itB, v_itL, v_itT, v_itD, v_par, v_putN, v_putC, v_inL, v_inT, v_ngT, v_ngF, v_inDN, v_inDC, v_flN, v_flB, v_flI, v_flS, v_flT, v_flL, v_isi, v_ext, v_extO, v_putOwn, v_putOwn1, v_putOwnS, v_putOwnI, v_putOwnN, v_extG, v_insO, v_insK, v_rev, v_lstO, v_star, v_r3, v_r3K, v_aug, v_augO, v_augR, v_augRK, v_augAK, v_augB, v_augBK, v_get, v_isDic, v_getKS, v_getKI, v_disp, v_ppN, v_ppC, v_dnew, v_dictK, v_try0, v_t0N, v_t0R, v_t0B, v_t0C, v_t0E, v_s0N, v_s0R, v_s0B, v_s0C, v_kix, v_kin, v_kget, v_strO, v_items, v_itemsK, v_dAL, v_dAT, v_dAD, v_ins, v_setIx, v_setIxS, v_setIx0, v_setIxK, v_setIx1, v_setIx2, v_chain, v_bAny, v_bAll, v_bSum, v_comp2, v_repr, v_ty_int_int, v_ty_int_bool, v_ty_int_str, v_ty_int_list, v_ty_int_tuple, v_ty_int_dict, v_ty_int_NoneType, v_ty_bool_int, v_ty_bool_bool, v_ty_bool_str, v_ty_bool_list, v_ty_bool_tuple, v_ty_bool_dict, v_ty_bool_NoneType, v_ty_str_int, v_ty_str_bool, v_ty_str_str, v_ty_str_list, v_ty_str_tuple, v_ty_str_dict, v_ty_str_NoneType, v_ty_list_int, v_ty_list_bool, v_ty_list_str, v_ty_list_list, v_ty_list_tuple, v_ty_list_dict, v_ty_list_NoneType, v_ty_tuple_int, v_ty_tuple_bool, v_ty_tuple_str, v_ty_tuple_list, v_ty_tuple_tuple, v_ty_tuple_dict, v_ty_tuple_NoneType, v_ty_dict_int, v_ty_dict_bool, v_ty_dict_str, v_ty_dict_list, v_ty_dict_tuple, v_ty_dict_dict, v_ty_dict_NoneType, keysD, tabD, Option.isSome_some, Option.isSome_none, Option.getD_some, Option.getD_none, keyD, putD, mergeD, List.foldl_cons, List.foldl_nil, List.any_cons, List.any_nil, Bool.or_false, Bool.false_or, Bool.or_true, Bool.true_or, valD, List.find?_cons, List.find?_nil, R.val.injEq, v_itemsL, v_itemsT, gt, st, wipeD, backD, R.stay, vals?, startK, v_at0, v_at1, v_at2, v_at3, v_at4, v_at5, v_at6, v_at7, v_atL, v_atM1, v_atM2, v_atM3, T.bind_ret, T.bind_fail, T.bind_ite, T.bind_any, T.All_retE, T.All_anyE, T.All_failE, T.All_iteE, ite_ap, cEqF, okk, eqD, eqAll, ofS_inj, ofS_beq, strOk_ofS, Option.bind_some, Option.map_some, Option.map_none, Sum.inr.injEq, Sum.inl.injEq, List.length_cons, List.length_nil, if_true, if_false, ite_true, ite_false, Bool.not_true, Bool.not_false, beq_self_eq_true, beq_iff_eq, decide_true, decide_false, decide_eq_true_eq, and_self, and_true, true_and, and_false, false_and, Bool.false_eq_true, Bool.true_eq_false, reduceIte, reduceCtorEq, Nat.reduceAdd, Nat.reduceEqDiff, Nat.reduceLeDiff, Nat.reduceLT, String.reduceEq, Int.reduceNeg, Int.reduceLE, Int.reduceLT, Int.reduceEq, Int.reduceToNat, Int.reducePow, Int.reduceAdd, Int.reduceSub, Int.reduceMul, Int.reduceAbs, Int.natAbs_neg, Nat.reducePow, Bool.and_true, Bool.true_and, Bool.and_false, Bool.false_and, List.lookup, sizeLine_eq, Option.some.injEq, List.all_cons, List.all_nil, List.nil_append, List.cons_append, Bool.not_eq_true', Bool.and_eq_true, not_true_eq_false, not_false_eq_true, List.map_cons, List.map_nil, decide_not, true_implies, false_implies, implies_true, not_true, ne_eq, Bool.not_eq_eq_eq_not])
local macro_rules | `(tactic| walk_at "pl") => `(tactic| repeat (with_reducible refine T.All_bind.mpr ?_))
local macro_rules | `(tactic| walk_at "ew") => `(tactic| try simp only [v_lc2N, v_lc2C, v_lc2G, v_lc2T, v_lc2I, v_allApp, v_valsApp, v_ret, v_fail, v_bind, v_on, v_onE, v_go, v_goE, v_of, v_ofN, v_ofI, v_useV, v_useO, v_useP, v_useKV, v_useKO, v_peekV, v_peekO, v_peekP, v_lookV, v_lookO, v_handV, v_handO, v_handB, v_handP, v_handKV, v_handKO, v_handKB, v_allN, v_allC, v_lkN, v_lkC, v_var, v_varV, v_varO, v_varB, v_varM, v_c, v_bin, v_cmp, v_tst, v_bl, v_int, v_and, v_or, v_not, v_andV, v_orV, v_notV, v_if, v_nil, v_cons, v_vals, v_tup, v_lst, v_neg, v_ix, v_oN, v_oS, v_sl, v_cb, v_lrng, v_dix, v_dixI, v_dixS, v_eS, v_next, v_break, v_cont, v_sq, v_thN, v_thR, v_thB, v_thC, v_thE, v_expr, v_retS, v_rV, v_rO, v_rB, v_rP, v_rKV, v_rKO, v_rKB, v_retN, v_ifS, v_set, v_sV, v_sO, v_sB, v_sP, v_sKV, v_sKO, v_sKB, v_asg, v_optS, v_gN, v_gT, v_gC, v_gNil, v_loopN, v_loopC, v_turnK, v_tuN, v_tuC, v_tuB, v_tuR, v_tuE, v_for, v_iW, v_wipe, v_wN, v_wR, v_wB, v_wC, v_wE, v_iS, v_r1, v_r2, v_r1K, v_r2K, v_en, v_enK, v_lcN, v_lcC, v_lcG, v_lcT, v_lcE, v_yes, v_comp, v_app, v_appG, v_appF, v_appK, v_wrOf, v_wrO, v_wrB, v_wrAsO, v_wrAsB, v_bor0, v_bor1, v_bor2, v_bor3, v_bor4, v_bor5, v_kp0, v_kp1, v_retM, v_rmV, v_rmO, v_rmP, v_rmKV, v_rmKO, v_retNM, v_lookB, v_callB, v_callBF, v_callBW, v_backB, v_lendP, v_lendV, v_lendG, v_lfP, v_lfV, v_lfO, v_lfB, v_ubN, v_ubC, v_callN, v_callNS, v_callNF, v_backNM, v_backNV, v_last, v_lo1, v_lo2, v_lo3, v_mkM, v_outMN, v_outMR, v_outME, v_outB, v_call, v_callX, v_callF, v_callXF, v_callK, v_callXK, v_callXE, v_mk, v_outN, v_outR, v_outE, v_take, v_rai, v_raiK, v_try, v_tryN, v_tryR, v_tryB, v_tryC, v_tryE, v_suN, v_suR, v_suB, v_suC, v_xf, v_xfK, v_pubO, v_pubV, v_pubB, v_pubP, v_ixL, v_ixT, v_ixS, v_slL, v_slT, v_slS, v_addI, v_addS, v_addL, v_addT, v_sub, v_mod, v_pow, v_shr, v_fdiv, v_mulI, v_mulL, v_cI, v_cIs, v_cES, v_cNS, v_dinI, v_dinS, v_lenL, v_lenT, v_lenS, v_intI, v_intB, v_abs, v_max2, v_min2, v_listL, v_listT, v_tupleL, v_tupleT, v_itN, v_itI, v_itS, v_itB, v_itL, v_itT, v_itD, v_par, v_putN, v_putC, v_inL, v_inT, v_ngT, v_ngF, v_inDN, v_inDC, v_flN, v_flB, v_flI, v_flS, v_flT, v_flL, v_isi, v_ext, v_extO, v_putOwn, v_putOwn1, v_putOwnS, v_putOwnI, v_putOwnN, v_extG, v_insO, v_insK, v_rev, v_lstO, v_star, v_r3, v_r3K, v_aug, v_augO, v_augR, v_augRK, v_augAK, v_augB, v_augBK, v_get, v_isDic, v_getKS, v_getKI, v_disp, v_ppN, v_ppC, v_dnew, v_dictK, v_try0, v_t0N, v_t0R, v_t0B, v_t0C, v_t0E, v_s0N, v_s0R, v_s0B, v_s0C, v_kix, v_kin, v_kget, v_strO, v_items, v_itemsK, v_dAL, v_dAT, v_dAD, v_ins, v_setIx, v_setIxS, v_setIx0, v_setIxK, v_setIx1, v_setIx2, v_chain, v_bAny, v_bAll, v_bSum, v_comp2, v_repr, v_ty_int_int, v_ty_int_bool, v_ty_int_str, v_ty_int_list, v_ty_int_tuple, v_ty_int_dict, v_ty_int_NoneType, v_ty_bool_int, v_ty_bool_bool, v_ty_bool_str, v_ty_bool_list, v_ty_bool_tuple, v_ty_bool_dict, v_ty_bool_NoneType, v_ty_str_int, v_ty_str_bool, v_ty_str_str, v_ty_str_list, v_ty_str_tuple, v_ty_str_dict, v_ty_str_NoneType, v_ty_list_int, v_ty_list_bool, v_ty_list_str, v_ty_list_list, v_ty_list_tuple, v_ty_list_dict, v_ty_list_NoneType, v_ty_tuple_int, v_ty_tuple_bool, v_ty_tuple_str, v_ty_tuple_list, v_ty_tuple_tuple, v_ty_tuple_dict, v_ty_tuple_NoneType, v_ty_dict_int, v_ty_dict_bool, v_ty_dict_str, v_ty_dict_list, v_ty_dict_tuple, v_ty_dict_dict, v_ty_dict_NoneType, keysD, tabD, Option.isSome_some, Option.isSome_none, Option.getD_some, Option.getD_none, keyD, List.foldl_cons, List.foldl_nil, List.any_cons, List.any_nil, Bool.or_false, Bool.false_or, Bool.or_true, Bool.true_or, R.val.injEq, v_itemsL, v_itemsT, gt, st, wipeD, backD, R.stay, vals?, startK, v_at0, v_at1, v_at2, v_at3, v_at4, v_at5, v_at6, v_at7, v_atL, v_atM1, v_atM2, v_atM3, T.bind_ret, T.bind_fail, T.bind_ite, T.bind_any, T.All_retE, T.All_anyE, T.All_failE, T.All_iteE, ite_ap, cEqF, okk, eqD, eqAll, ofS_inj, ofS_beq, strOk_ofS, Option.bind_some, Option.map_some, Option.map_none, Sum.inr.injEq, Sum.inl.injEq, List.length_cons, List.length_nil, if_true, if_false, ite_true, ite_false, Bool.not_true, Bool.not_false, beq_self_eq_true, beq_iff_eq, decide_true, decide_false, decide_eq_true_eq, and_self, and_true, true_and, and_false, false_and, Bool.false_eq_true, Bool.true_eq_false, reduceIte, reduceCtorEq, Nat.reduceAdd, Nat.reduceEqDiff, Nat.reduceLeDiff, Nat.reduceLT, String.reduceEq, Int.reduceNeg, Int.reduceLE, Int.reduceLT, Int.reduceEq, Int.reduceToNat, Int.reducePow, Int.reduceAdd, Int.reduceSub, Int.reduceMul, Int.reduceAbs, Int.natAbs_neg, Nat.reducePow, Bool.and_true, Bool.true_and, Bool.and_false, Bool.false_and, List.lookup, sizeLine_eq, Option.some.injEq, List.all_cons, List.all_nil, List.nil_append, List.cons_append, Bool.not_eq_true', Bool.and_eq_true, not_true_eq_false, not_false_eq_true, List.map_cons, List.map_nil, decide_not, true_implies, false_implies, implies_true, not_true, ne_eq, Bool.not_eq_eq_eq_not])

/-! ### asked as written -/
theorem node_loop (C : Addr) (f g k : FM) (r : Row) (dec : Ans) (d0 : D) (a : List D) (N : Nat) (hN : N ≤ 1000) (ha : a.length < N) : ∀ (ps : List Cnd), (∀ p ∈ ps, Asks N k r p) → ∀ (i : Nat) (fo : Ans) (h : List D), h.length + Cnd.lvs ps ≤ 16000000 →
    ∃ o, fLoop (fgT 2 (fgCons (fgN 6) (fgCons (fgN 7) fgNil))) (b_ask_node_1 C f g k) (enumD i (Cnd.ds ps)) [.val d0, .val r.d, .val (.tup a), .bor (.lst h), .val dec.d, .val fo.d, .no, .no, .no] = .ret o ∧
      (o = .rt (.val (askN dec a (Cnd.asks r ps) i fo).2.d) [.no, .no, .no, .bor (.lst (h ++ (askN dec a (Cnd.asks r ps) i fo).1))] ∨
       o = .nx [.val d0, .val r.d, .val (.tup a), .bor (.lst (h ++ (askN dec a (Cnd.asks r ps) i fo).1)), .val dec.d, .val (askN dec a (Cnd.asks r ps) i fo).2.d, .no, .no, .no])
  | [], _, i, fo, h, hl => ⟨_, rfl, .inr (by simp only [Cnd.asks, askN, List.append_nil])⟩
  | p :: ps, hk, i, fo, h, hl => by
    simp only [Cnd.ds, enumD, v_loopC]
    simp only [Cnd.lvs] at hl
    have hp := hk p (List.mem_cons_self ..) (a ++ [.int i]) h (by omega) (by simp only [List.length_append, List.length_cons, List.length_nil]; omega)
    have hlen := ask_len r p (a ++ [.int i])
    have ih := node_loop C f g k r dec d0 a N hN ha ps (fun q hq => hk q (List.mem_cons_of_mem _ hq)) (i + 1)
    simp only [Cnd.asks, askN]
    have ha1 : (a ++ [D.int i]).length ≤ 16777216 := by simp only [List.length_append, List.length_cons, List.length_nil]; omega
    unfold b_ask_node_1 at ih ⊢
    walk_at "ev"
    simp only [ha1, if_true]
    walk_at "ev"
    rw [hp]
    generalize (p.ask r (a ++ [.int i])) = q at hlen ⊢
    obtain ⟨qh, qa⟩ := q
    simp only at hlen
    have ih1 := fun fo => ih fo (h ++ qh) (by simp only [List.length_append]; omega)
    cases qa <;> cases dec <;> simp only [Ans.d, s_er, s_no, s_un, s_ye] at ih1 ⊢ <;> walk_at "ev" <;> simp only [reduceCtorEq, or_self, or_false, false_or, if_true, if_false] <;> first
      | exact ⟨_, rfl, .inl rfl⟩
      | (obtain ⟨o, e, z⟩ := ih1 .un; exact ⟨o, e, by simpa only [List.append_assoc] using z⟩)
      | (obtain ⟨o, e, z⟩ := ih1 fo; exact ⟨o, e, by simpa only [List.append_assoc] using z⟩)
theorem first_loop (C : Addr) (f g k : FM) (r : Row) (d0 : D) (a : List D) (N : Nat) (hN : N ≤ 1000) (ha : a.length < N) : ∀ (ps : List Cnd), (∀ p ∈ ps, Asks N k r p) → ∀ (i : Nat) (h : List D), h.length + Cnd.lvs ps ≤ 16000000 →
    ∃ o, fLoop (fgT 2 (fgCons (fgN 5) (fgCons (fgN 6) fgNil))) (b_ask_1 C f g k) (enumD i (Cnd.ds ps)) [.val d0, .val r.d, .val (.tup a), .bor (.lst h), .no, .no, .no] = .ret o ∧
      (o = .rt (.val (askF a (Cnd.asks r ps) i).2.d) [.no, .no, .no, .bor (.lst (h ++ (askF a (Cnd.asks r ps) i).1))] ∨
       (askF a (Cnd.asks r ps) i).2 = .un ∧ o = .nx [.val d0, .val r.d, .val (.tup a), .bor (.lst (h ++ (askF a (Cnd.asks r ps) i).1)), .no, .no, .no])
  | [], _, i, h, hl => ⟨_, rfl, .inr (by simp only [Cnd.asks, askF, List.append_nil]; exact ⟨trivial, trivial⟩)⟩
  | p :: ps, hk, i, h, hl => by
    simp only [Cnd.ds, enumD, v_loopC]
    simp only [Cnd.lvs] at hl
    have hp := hk p (List.mem_cons_self ..) (a ++ [.int i]) h (by omega) (by simp only [List.length_append, List.length_cons, List.length_nil]; omega)
    have hlen := ask_len r p (a ++ [.int i])
    have ih := first_loop C f g k r d0 a N hN ha ps (fun q hq => hk q (List.mem_cons_of_mem _ hq)) (i + 1)
    simp only [Cnd.asks, askF]
    have ha1 : (a ++ [D.int i]).length ≤ 16777216 := by simp only [List.length_append, List.length_cons, List.length_nil]; omega
    unfold b_ask_1 at ih ⊢
    walk_at "ev"
    simp only [ha1, if_true]
    walk_at "ev"
    rw [hp]
    generalize (p.ask r (a ++ [.int i])) = q at hlen ⊢
    obtain ⟨qh, qa⟩ := q
    simp only at hlen
    have ih1 := ih (h ++ qh) (by simp only [List.length_append]; omega)
    cases qa <;> simp only [Ans.d, s_er, s_no, s_un, s_ye] at ih1 ⊢ <;> walk_at "ev" <;> (try simp only [reduceCtorEq, ne_eq, not_true, not_false_iff, if_true, if_false]) <;> first
      | exact ⟨_, rfl, .inl rfl⟩
      | (obtain ⟨o, e, z⟩ := ih1; exact ⟨o, e, by simpa only [List.append_assoc] using z⟩)
theorem at_mid (pre : List Cnd) (w : Cnd) (rest : List Cnd) : atI (Cnd.ds (pre ++ w :: rest)) (pre.length : Int) = some w.d := by
  refine atI_nat ?_
  rw [ds_map, List.getElem?_map]
  simp
theorem at_end (pre : List Cnd) (w : Cnd) : atI (Cnd.ds (pre ++ [w])) (-1) = some w.d := by
  rw [ds_map, List.map_append]
  exact v_atL
theorem case_loop (C : Addr) (f g k : FM) (r : Row) (d0 : D) (a : List D) (N : Nat) (hN : N ≤ 1000) (ha : a.length < N) : ∀ (rest pre : List Cnd), rest.length % 2 = 1 → (∀ p ∈ rest, Asks N k r p) → ∀ (h : List D), h.length + Cnd.lvs rest ≤ 16000000 → pre.length + rest.length ≤ 100000 →
    ∃ o, fLoop (fgN 5) (b_ask_case_1 C f g k) (rngC pre.length 2 (rest.length / 2)) [.val d0, .val r.d, .val (.tup a), .bor (.lst h), .own (.lst (Cnd.ds (pre ++ rest))), .no, .no] = .ret o ∧
      (o = .rt (.val (askC a (Cnd.asks r rest) pre.length).2.d) [.no, .no, .no, .bor (.lst (h ++ (askC a (Cnd.asks r rest) pre.length).1))] ∨
       ∃ (e : Cnd) (mid : List Cnd) (hd : List D), pre ++ rest = mid ++ [e] ∧ Asks N k r e ∧ hd.length + e.lv ≤ Cnd.lvs rest ∧ o = .nx [.val d0, .val r.d, .val (.tup a), .bor (.lst (h ++ hd)), .own (.lst (Cnd.ds (pre ++ rest))), .no, .no] ∧
        askC a (Cnd.asks r rest) pre.length = (hd ++ (e.ask r (a ++ [.int (mid.length : Nat)])).1, (e.ask r (a ++ [.int (mid.length : Nat)])).2))
  | [], pre, ho, _, h, _, _ => by simp at ho
  | [e], pre, _, hk, h, _, _ => ⟨.nx [.val d0, .val r.d, .val (.tup a), .bor (.lst h), .own (.lst (Cnd.ds (pre ++ [e]))), .no, .no], (by simp only [List.length_singleton]; rfl), .inr ⟨e, pre, [], rfl, hk e (List.mem_cons_self ..), by simp [Cnd.lvs], by simp, by simp [Cnd.asks, askC]⟩⟩
  | w :: t :: rest, pre, ho, hk, h, hl, hn => by
    have ho' : rest.length % 2 = 1 := by simp only [List.length_cons] at ho; omega
    simp only [Cnd.lvs] at hl
    simp only [List.length_cons] at hn
    have hp := hk w (List.mem_cons_self ..) (a ++ [.int pre.length]) h (by omega) (by simp only [List.length_append, List.length_cons, List.length_nil]; omega)
    have hlen := ask_len r w (a ++ [.int pre.length])
    have ht := fun h' hh => hk t (by simp) (a ++ [.int ((pre.length + 1 : Nat) : Int)]) h' hh (by simp only [List.length_append, List.length_cons, List.length_nil]; omega)
    have hlt := ask_len r t (a ++ [.int ((pre.length + 1 : Nat) : Int)])
    have ih := case_loop C f g k r d0 a N hN ha rest (pre ++ [w, t]) ho' (fun q hq => hk q (by simp [hq]))
    have e0 : (w :: t :: rest).length / 2 = rest.length / 2 + 1 := by simp only [List.length_cons]; omega
    rw [e0, rngC2, v_loopC]
    have e1 : pre ++ [w, t] ++ rest = pre ++ w :: t :: rest := by simp
    have e2 : (((pre ++ [w, t]).length : Nat) : Int) = (pre.length : Int) + 2 := by simp
    have e3 : (pre ++ [w, t]).length = pre.length + 2 := by simp
    rw [e1, e2, e3] at ih
    have a1 := at_mid pre w (t :: rest)
    have a2 := at_mid (pre ++ [w]) t rest
    have e4 : pre ++ [w] ++ t :: rest = pre ++ w :: t :: rest := by simp
    have e5 : (((pre ++ [w]).length : Nat) : Int) = (pre.length : Int) + 1 := by simp
    rw [e4, e5] at a2
    have e6 : ((pre.length + 1 : Nat) : Int) = (pre.length : Int) + 1 := by simp
    simp only [Cnd.asks, askC]
    rw [e6] at ht hlt ⊢
    have ha1 : (a ++ [D.int pre.length]).length ≤ 16777216 := by simp only [List.length_append, List.length_cons, List.length_nil]; omega
    have ha2 : (a ++ [D.int (pre.length + 1)]).length ≤ 16777216 := by simp only [List.length_append, List.length_cons, List.length_nil]; omega
    generalize Cnd.ds (pre ++ w :: t :: rest) = all at *
    generalize hL : Cnd.lvs (w :: t :: rest) = L
    simp only [Cnd.lvs] at hL
    unfold b_ask_case_1 at ih ⊢
    walk_at "ev"
    simp only [a1]
    walk_at "ev"
    simp only [ha1, if_true]
    walk_at "ev"
    rw [hp]
    generalize (w.ask r (a ++ [.int pre.length])) = q at hlen ⊢
    obtain ⟨qh, qa⟩ := q
    simp only at hlen
    have ih1 := ih (h ++ qh) (by simp only [List.length_append]; omega) (by omega)
    have cont : ∀ {o : SO}, (o = .rt (.val (askC a (Cnd.asks r rest) (pre.length + 2)).2.d) [.no, .no, .no, .bor (.lst (h ++ qh ++ (askC a (Cnd.asks r rest) (pre.length + 2)).1))] ∨
       ∃ (e : Cnd) (mid : List Cnd) (hd : List D), pre ++ w :: t :: rest = mid ++ [e] ∧ Asks N k r e ∧ hd.length + e.lv ≤ Cnd.lvs rest ∧ o = .nx [.val d0, .val r.d, .val (.tup a), .bor (.lst (h ++ qh ++ hd)), .own (.lst all), .no, .no] ∧
        askC a (Cnd.asks r rest) (pre.length + 2) = (hd ++ (e.ask r (a ++ [.int (mid.length : Nat)])).1, (e.ask r (a ++ [.int (mid.length : Nat)])).2)) →
      (o = .rt (.val (askC a (Cnd.asks r rest) (pre.length + 2)).2.d) [.no, .no, .no, .bor (.lst (h ++ (qh ++ (askC a (Cnd.asks r rest) (pre.length + 2)).1)))] ∨
       ∃ (e : Cnd) (mid : List Cnd) (hd : List D), pre ++ w :: t :: rest = mid ++ [e] ∧ Asks N k r e ∧ hd.length + e.lv ≤ L ∧ o = .nx [.val d0, .val r.d, .val (.tup a), .bor (.lst (h ++ hd)), .own (.lst all), .no, .no] ∧
        (qh ++ (askC a (Cnd.asks r rest) (pre.length + 2)).1, (askC a (Cnd.asks r rest) (pre.length + 2)).2) = (hd ++ (e.ask r (a ++ [.int (mid.length : Nat)])).1, (e.ask r (a ++ [.int (mid.length : Nat)])).2)) := by
      intro o z
      rcases z with z | ⟨e, mid, hd, z1, z2, z3, z4, z5⟩
      · exact .inl (by rw [z, List.append_assoc])
      · refine .inr ⟨e, mid, qh ++ hd, z1, z2, by simp only [List.length_append]; omega, by rw [z4, List.append_assoc], ?_⟩
        rw [z5, List.append_assoc]
    cases qa <;> simp only [Ans.d, s_er, s_no, s_un, s_ye] at ih1 cont ⊢
    · walk_at "ev"
      exact ⟨_, rfl, .inl rfl⟩
    · walk_at "ev"
      obtain ⟨o, e, z⟩ := ih1
      exact ⟨o, e, cont z⟩
    · walk_at "ev"
      obtain ⟨o, e, z⟩ := ih1
      exact ⟨o, e, cont z⟩
    · walk_at "ev"
      simp only [a2]
      walk_at "ev"
      simp only [ha2, if_true]
      walk_at "ev"
      rw [ht (h ++ qh) (by simp only [List.length_append]; omega)]
      walk_at "ev"
      exact ⟨_, rfl, .inl (by simp only [List.append_assoc])⟩
theorem deciding_look (x : String) : (t_DECIDING.lookup (Str.ofString x)) = (if x = "all" then some (.str "no") else if x = "any" then some (.str "yes") else none) := by
  unfold t_DECIDING tt_DECIDING
  simp only [tabD, List.map_cons, List.map_nil, List.lookup, ofS_beq]
  by_cases h : x = "all"
  · simp [h]
  · by_cases h2 : x = "any"
    · simp [h, h2]
    · simp [h, h2]
theorem turned_no : t_TURNED.lookup (Str.ofString "no") = some (.str "yes") := by rfl
theorem turned_yes : t_TURNED.lookup (Str.ofString "yes") = some (.str "no") := by rfl
theorem turned_get (x : Ans) : ((t_TURNED.lookup (Str.ofString x.s)).getD (.str x.s)) = .str x.x.s := by
  cases x <;> rfl
theorem ask_eq (C : Addr) (ns : List String) (r : Row) (hr : r.Ok ns) : ∀ c : Cnd, c.Wf ns → c.lv + c.nd ≤ 10000 → ∀ n, 2 * c.dep + 1 ≤ n → ∀ (a h : List D), h.length + c.lv ≤ 16000000 → a.length + c.dep ≤ 1000 →
    m_ask C n [.val c.d, .val r.d, .val (.tup a), .bor (.lst h)] = .ret (.valM (.val (c.ask r a).2.d) (.lst (h ++ (c.ask r a).1))) := by
  refine Cnd.ind (fun l hw _ n hn a h hl ha => ?_) (fun k ps ih hw hs n hn a h hl ha => ?_)
  · obtain ⟨n, rfl⟩ := Nat.le.dest (show 1 ≤ n by simp only [Cnd.dep] at hn; omega)
    rw [Nat.add_comm, mS_ask]
    have h1 := is_leaf_eq l
    have h2 := leaf_answer_eq C ns l r (by simpa only [Cnd.Wf] using hw) hr
    have hh : h.length < 16777216 := by simp only [Cnd.lv] at hl; omega
    unfold fs_ask
    simp only [Cnd.d, Cnd.ask]
    walk_at "ew"
    rw [h1]
    walk_at "ew"
    rw [h2]
    walk_at "ew"
    simp only [hh, if_true]
    walk_at "ew"
  · simp only [Cnd.dep] at hn ha
    simp only [Cnd.lv, Cnd.nd] at hs hl
    simp only [Cnd.Wf] at hw
    have hws := wfs_iff.mp hw.2
    have hd : ∀ c ∈ ps, c.dep ≤ Cnd.deps ps := deps_le.mp (Nat.le_refl _)
    obtain ⟨n, rfl⟩ := Nat.le.dest (show 3 ≤ n by omega)
    have hn' : 2 * Cnd.deps ps + 1 ≤ n + 1 := by omega
    have as1 : ∀ m, 2 * Cnd.deps ps + 1 ≤ m → ∀ p ∈ ps, ∀ (b g : List D), b.length + Cnd.deps ps ≤ 1000 → g.length + p.lv ≤ 16000000 → m_ask C m [.val p.d, .val r.d, .val (.tup b), .bor (.lst g)] = .ret (.valM (.val (p.ask r b).2.d) (.lst (g ++ (p.ask r b).1))) := fun m hm p hp b g hb hg =>
      ih p hp (hws p hp) (by have := mem_sz hp; omega) m (by have := hd p hp; omega) b g hg (by have := hd p hp; omega)
    have asks : ∀ m, 2 * Cnd.deps ps + 1 ≤ m → ∀ p ∈ ps, Asks (1000 - Cnd.deps ps) (m_ask C m) r p := fun m hm p hp b g hg hb => as1 m hm p hp b g (by omega) hg
    have hN : 1000 - Cnd.deps ps ≤ 1000 := by omega
    have haN : a.length < 1000 - Cnd.deps ps := by omega
    have hil := is_leaf_no k (Cnd.ds ps)
    have hpl := len_sz ps
    rw [show 3 + n = (n + 1 + 1) + 1 by omega, mS_ask]
    have hd1 : ∀ x : String, (t_DECIDING.lookup (Str.ofString x)) = (if x = "all" then some (.str "no") else if x = "any" then some (.str "yes") else none) := deciding_look
    unfold fs_ask
    simp only [Cnd.d, Cnd.ask]
    cases k with
    | all =>
      simp only [nodeD] at hil ⊢
      walk_at "ew"; rw [hil]; walk_at "ew"
      simp only [hd1]
      walk_at "ew"
      rw [mS_ask_node]
      unfold fs_ask_node
      walk_at "ew"
      repeat (simp only [hd1, turned_no, turned_yes]; walk_at "ew")
      obtain ⟨o, e, z⟩ := node_loop C (m_ask_node C (n + 1)) (m_ask_case C (n + 1)) (m_ask C (n + 1)) r .no (.tup [.str "all", .tup (Cnd.ds ps)]) a _ hN haN ps (asks (n + 1) (by omega)) 0 .ye h hl
      simp only [Ans.d, s_er, s_no, s_un, s_ye] at e z
      rw [e]
      simp only [askK]
      rcases z with z | z <;> subst z <;> walk_at "ew"
    | any =>
      simp only [nodeD] at hil ⊢
      walk_at "ew"; rw [hil]; walk_at "ew"
      simp only [hd1]
      walk_at "ew"
      rw [mS_ask_node]
      unfold fs_ask_node
      walk_at "ew"
      repeat (simp only [hd1, turned_no, turned_yes]; walk_at "ew")
      obtain ⟨o, e, z⟩ := node_loop C (m_ask_node C (n + 1)) (m_ask_case C (n + 1)) (m_ask C (n + 1)) r .ye (.tup [.str "any", .tup (Cnd.ds ps)]) a _ hN haN ps (asks (n + 1) (by omega)) 0 .no h hl
      simp only [Ans.d, s_er, s_no, s_un, s_ye] at e z
      rw [e]
      simp only [askK]
      rcases z with z | z <;> subst z <;> walk_at "ew"
    | fst =>
      simp only [nodeD] at hil ⊢
      walk_at "ew"; rw [hil]; walk_at "ew"
      simp only [hd1]
      walk_at "ew"
      obtain ⟨o, e, z⟩ := first_loop C (m_ask_node C (n + 1 + 1)) (m_ask_case C (n + 1 + 1)) (m_ask C (n + 1 + 1)) r (.tup [.str "first", .tup (Cnd.ds ps)]) a _ hN haN ps (asks (n + 1 + 1) (by omega)) 0 h hl
      rw [e]
      simp only [askK]
      rcases z with z | ⟨z1, z⟩
      · subst z; walk_at "ew"
      · subst z; rw [z1]; walk_at "ew"; rfl
    | not =>
      match ps, hw.1 with
      | [p], _ =>
        have hp := asks (n + 1 + 1) (by omega) p (List.mem_cons_self ..) (a ++ [.int 0]) h (by simp only [Cnd.lvs] at hl; omega) (by simp only [List.length_append, List.length_cons, List.length_nil]; omega)
        have ha1 : (a ++ [D.int 0]).length ≤ 16777216 := by simp only [List.length_append, List.length_cons, List.length_nil]; omega
        simp only [nodeD, Cnd.ds, lastD, List.getLast?_singleton, Option.getD_some] at hil ⊢
        walk_at "ew"; rw [hil]; walk_at "ew"
        simp only [hd1]
        walk_at "ew"
        simp only [ha1, if_true]
        walk_at "ew"
        rw [hp]
        walk_at "ew"
        rw [turned_get]
        simp only [askK, Cnd.asks, askT]
    | cas =>
      have hp := parts_eq .cas (Cnd.ds ps) (by rw [ds_len]; exact hw.1) (by rw [ds_len]; omega)
      simp only [nodeD] at hil hp ⊢
      walk_at "ew"; rw [hil]; walk_at "ew"
      simp only [hd1]
      walk_at "ew"
      rw [mS_ask_case]
      unfold fs_ask_case
      walk_at "ew"
      rw [hp]
      walk_at "ew"
      have hodd : ps.length % 2 = 1 := hw.1
      have rz := rs2 ps.length hodd
      have sz := small2 ps.length (by omega)
      simp only [ds_len]
      rw [sz, rz]
      walk_at "ew"
      rw [if_pos (by omega)]
      walk_at "ew"
      rw [Int.toNat_natCast]
      obtain ⟨o, e, z⟩ := case_loop C (m_ask_node C (n + 1)) (m_ask_case C (n + 1)) (m_ask C (n + 1)) r (.tup [.str "case", .tup (pairsU (Cnd.ds ps)), lastD (Cnd.ds ps)]) a _ hN haN ps [] hodd (asks (n + 1) (by omega)) h hl (by simp only [List.length_nil]; omega)
      simp only [List.nil_append, List.length_nil] at e z
      rw [show ((0 : Nat) : Int) = 0 from rfl] at e
      rw [e]
      simp only [askK]
      rcases z with z | ⟨la, mid, hd', z1, z2, z3, z4, z5⟩
      · subst z; walk_at "ew"
      · subst z4
        walk_at "ew"
        have ez : ps.length = mid.length + 1 := by rw [z1]; simp
        have az := at_end mid la
        rw [← z1] at az
        have ei : ((mid.length + 1 : Nat) : Int) - 1 = ((mid.length : Nat) : Int) := by omega
        simp only [az]
        walk_at "ew"
        simp only [ds_len]
        rw [ez, ei]
        have ha1 : (a ++ [D.int (mid.length : Nat)]).length ≤ 16777216 := by simp only [List.length_append, List.length_cons, List.length_nil]; omega
        walk_at "ew"
        simp only [ha1, if_true]
        walk_at "ew"
        rw [z2 _ (h ++ hd') (by simp only [List.length_append]; omega) (by simp only [List.length_append, List.length_cons, List.length_nil]; omega)]
        walk_at "ew"
        rw [z5, List.append_assoc]
theorem answer_eq (C : Addr) (ns : List String) (r : Row) (hr : r.Ok ns) (c : Cnd) (hw : c.Wf ns) (hs : c.lv + c.nd ≤ 10000) (hd : c.dep ≤ 11) : m_answer C [.val c.d, .val r.d] = .ret (.val (.val (c.ask r []).2.d)) := by
  have h := ask_eq C ns r hr c hw hs 24 (by omega) [] [] (by simp only [List.length_nil]; omega) (by simp only [List.length_nil]; omega)
  unfold m_answer fs_answer
  walk_at "ew"
  rw [h]
  walk_at "ew"
theorem asked_eq (C : Addr) (ns : List String) (r : Row) (hr : r.Ok ns) (c : Cnd) (hw : c.Wf ns) (hs : c.lv + c.nd ≤ 10000) (hd : c.dep ≤ 11) : m_asked C [.val c.d, .val r.d] = .ret (.val (.own (.lst (c.ask r []).1))) := by
  have h := ask_eq C ns r hr c hw hs 24 (by omega) [] [] (by simp only [List.length_nil]; omega) (by simp only [List.length_nil]; omega)
  unfold m_asked fs_asked
  walk_at "ew"
  rw [h]
  walk_at "ew"
end CN.PK28

set_option maxHeartbeats 1000000
namespace CN.PK28
open PySem PySem.Spec L2 DL K28
local macro_rules | `(tactic| walk_at "ev") => `(tactic| try simp only [v_lc2N, v_lc2C, v_lc2G, v_lc2T, v_lc2I, v_allApp, v_valsApp, v_ret, v_fail, v_bind, v_on, v_onE, v_go, v_goE, v_of, v_ofN, v_ofI, v_useV, v_useO, v_useP, v_useKV, v_useKO, v_peekV, v_peekO, v_peekP, v_lookV, v_lookO, v_handV, v_handO, v_handB, v_handP, v_handKV, v_handKO, v_handKB, v_allN, v_allC, v_lkN, v_lkC, v_var, v_varV, v_varO, v_varB, v_varM, v_c, v_bin, v_cmp, v_tst, v_bl, v_int, v_and, v_or, v_not, v_andV, v_orV, v_notV, v_if, v_nil, v_cons, v_vals, v_tup, v_lst, v_neg, v_ix, v_oN, v_oS, v_sl, v_cb, v_lrng, v_dix, v_dixI, v_dixS, v_eS, v_next, v_break, v_cont, v_sq, v_thN, v_thR, v_thB, v_thC, v_thE, v_expr, v_retS, v_rV, v_rO, v_rB, v_rP, v_rKV, v_rKO, v_rKB, v_retN, v_ifS, v_set, v_sV, v_sO, v_sB, v_sP, v_sKV, v_sKO, v_sKB, v_asg, v_optS, v_gN, v_gT, v_gC, v_gNil, v_loopN, v_loopC, v_turnK, v_tuN, v_tuC, v_tuB, v_tuR, v_tuE, v_for, v_iW, v_wipe, v_wN, v_wR, v_wB, v_wC, v_wE, v_iS, v_r1, v_r2, v_r1K, v_r2K, v_en, v_enK, v_lcN, v_lcC, v_lcG, v_lcT, v_lcE, v_yes, v_comp, v_app, v_appG, v_appF, v_appK, v_wrOf, v_wrO, v_wrB, v_wrAsO, v_wrAsB, v_bor0, v_bor1, v_bor2, v_bor3, v_bor4, v_bor5, v_kp0, v_kp1, v_retM, v_rmV, v_rmO, v_rmP, v_rmKV, v_rmKO, v_retNM, v_lookB, v_callB, v_callBF, v_callBW, v_backB, v_lendP, v_lendV, v_lendG, v_lfP, v_lfV, v_lfO, v_lfB, v_ubN, v_ubC, v_callN, v_callNS, v_callNF, v_backNM, v_backNV, v_last, v_lo1, v_lo2, v_lo3, v_mkM, v_outMN, v_outMR, v_outME, v_outB, v_call, v_callX, v_callF, v_callXF, v_callK, v_callXK, v_callXE, v_mk, v_outN, v_outR, v_outE, v_take, v_rai, v_raiK, v_try, v_tryN, v_tryR, v_tryB, v_tryC, v_tryE, v_suN, v_suR, v_suB, v_suC, v_xf, v_xfK, v_pubO, v_pubV, v_pubB, v_pubP, v_ixL, v_ixT, v_ixS, v_slL, v_slT, v_slS, v_addI, v_addS, v_addL, v_addT, v_sub, v_mod, v_pow, v_shr, v_fdiv, v_mulI, v_mulL, v_cI, v_cIs, v_cES, v_cNS, v_dinI, v_dinS, v_lenL, v_lenT, v_lenS, v_intI, v_intB, v_abs, v_max2, v_min2, v_listL, v_listT, v_tupleL, v_tupleT, v_itN, v_itI, v_itS, v_itB, v_itL, v_itT, v_itD, v_par, v_putN, v_putC, v_inL, v_inT, v_ngT, v_ngF, v_inDN, v_inDC, v_flN, v_flB, v_flI, v_flS, v_flT, v_flL, v_isi, v_ext, v_extO, v_putOwn, v_putOwn1, v_putOwnS, v_putOwnI, v_putOwnN, v_extG, v_insO, v_insK, v_rev, v_lstO, v_star, v_r3, v_r3K, v_aug, v_augO, v_augR, v_augRK, v_augAK, v_augB, v_augBK, v_get, v_isDic, v_getKS, v_getKI, v_disp, v_ppN, v_ppC, v_dnew, v_dictK, v_try0, v_t0N, v_t0R, v_t0B, v_t0C, v_t0E, v_s0N, v_s0R, v_s0B, v_s0C, v_kix, v_kin, v_kget, v_strO, v_items, v_itemsK, v_dAL, v_dAT, v_dAD, v_ins, v_setIx, v_setIxS, v_setIx0, v_setIxK, v_setIx1, v_setIx2, v_chain, v_bAny, v_bAll, v_bSum, v_comp2, v_repr, v_ty_int_int, v_ty_int_bool, v_ty_int_str, v_ty_int_list, v_ty_int_tuple, v_ty_int_dict, v_ty_int_NoneType, v_ty_bool_int, v_ty_bool_bool, v_ty_bool_str, v_ty_bool_list, v_ty_bool_tuple, v_ty_bool_dict, v_ty_bool_NoneType, v_ty_str_int, v_ty_str_bool, v_ty_str_str, v_ty_str_list, v_ty_str_tuple, v_ty_str_dict, v_ty_str_NoneType, v_ty_list_int, v_ty_list_bool, v_ty_list_str, v_ty_list_list, v_ty_list_tuple, v_ty_list_dict, v_ty_list_NoneType, v_ty_tuple_int, v_ty_tuple_bool, v_ty_tuple_str, v_ty_tuple_list, v_ty_tuple_tuple, v_ty_tuple_dict, v_ty_tuple_NoneType, v_ty_dict_int, v_ty_dict_bool, v_ty_dict_str, v_ty_dict_list, v_ty_dict_tuple, v_ty_dict_dict, v_ty_dict_NoneType, keysD, tabD, Option.isSome_some, Option.isSome_none, Option.getD_some, Option.getD_none, keyD, putD, mergeD, List.foldl_cons, List.foldl_nil, List.any_cons, List.any_nil, Bool.or_false, Bool.false_or, Bool.or_true, Bool.true_or, valD, List.find?_cons, List.find?_nil, R.val.injEq, v_itemsL, v_itemsT, gt, st, wipeD, backD, R.stay, vals?, startK, v_at0, v_at1, v_at2, v_at3, v_at4, v_at5, v_at6, v_at7, v_atL, v_atM1, v_atM2, v_atM3, T.bind_ret, T.bind_fail, T.bind_ite, T.bind_any, T.All_retE, T.All_anyE, T.All_failE, T.All_iteE, ite_ap, cEqF, okk, eqD, eqAll, ofS_inj, ofS_beq, strOk_ofS, Option.bind_some, Option.map_some, Option.map_none, Sum.inr.injEq, Sum.inl.injEq, List.length_cons, List.length_nil, if_true, if_false, ite_true, ite_false, Bool.not_true, Bool.not_false, beq_self_eq_true, beq_iff_eq, decide_true, decide_false, decide_eq_true_eq, and_self, and_true, true_and, and_false, false_and, Bool.false_eq_true, Bool.true_eq_false, reduceIte, reduceCtorEq, Nat.reduceAdd, Nat.reduceEqDiff, Nat.reduceLeDiff, Nat.reduceLT, String.reduceEq, Int.reduceNeg, Int.reduceLE, Int.reduceLT, Int.reduceEq, Int.reduceToNat, Int.reducePow, Int.reduceAdd, Int.reduceSub, Int.reduceMul, Int.reduceAbs, Int.natAbs_neg, Nat.reducePow, Bool.and_true, Bool.true_and, Bool.and_false, Bool.false_and, List.lookup, sizeLine_eq, Option.some.injEq, List.all_cons, List.all_nil, List.nil_append, List.cons_append, Bool.not_eq_true', Bool.and_eq_true, not_true_eq_false, not_false_eq_true, List.map_cons, List.map_nil, decide_not, true_implies, false_implies, implies_true, not_true, ne_eq, Bool.not_eq_eq_eq_not])
local macro_rules | `(tactic| walk_at "pl") => `(tactic| repeat (with_reducible refine T.All_bind.mpr ?_))
local macro_rules | `(tactic| walk_at "ew") => `(tactic| try simp only [v_lc2N, v_lc2C, v_lc2G, v_lc2T, v_lc2I, v_allApp, v_valsApp, v_ret, v_fail, v_bind, v_on, v_onE, v_go, v_goE, v_of, v_ofN, v_ofI, v_useV, v_useO, v_useP, v_useKV, v_useKO, v_peekV, v_peekO, v_peekP, v_lookV, v_lookO, v_handV, v_handO, v_handB, v_handP, v_handKV, v_handKO, v_handKB, v_allN, v_allC, v_lkN, v_lkC, v_var, v_varV, v_varO, v_varB, v_varM, v_c, v_bin, v_cmp, v_tst, v_bl, v_int, v_and, v_or, v_not, v_andV, v_orV, v_notV, v_if, v_nil, v_cons, v_vals, v_tup, v_lst, v_neg, v_ix, v_oN, v_oS, v_sl, v_cb, v_lrng, v_dix, v_dixI, v_dixS, v_eS, v_next, v_break, v_cont, v_sq, v_thN, v_thR, v_thB, v_thC, v_thE, v_expr, v_retS, v_rV, v_rO, v_rB, v_rP, v_rKV, v_rKO, v_rKB, v_retN, v_ifS, v_set, v_sV, v_sO, v_sB, v_sP, v_sKV, v_sKO, v_sKB, v_asg, v_optS, v_gN, v_gT, v_gC, v_gNil, v_loopN, v_loopC, v_turnK, v_tuN, v_tuC, v_tuB, v_tuR, v_tuE, v_for, v_iW, v_wipe, v_wN, v_wR, v_wB, v_wC, v_wE, v_iS, v_r1, v_r2, v_r1K, v_r2K, v_en, v_enK, v_lcN, v_lcC, v_lcG, v_lcT, v_lcE, v_yes, v_comp, v_app, v_appG, v_appF, v_appK, v_wrOf, v_wrO, v_wrB, v_wrAsO, v_wrAsB, v_bor0, v_bor1, v_bor2, v_bor3, v_bor4, v_bor5, v_kp0, v_kp1, v_retM, v_rmV, v_rmO, v_rmP, v_rmKV, v_rmKO, v_retNM, v_lookB, v_callB, v_callBF, v_callBW, v_backB, v_lendP, v_lendV, v_lendG, v_lfP, v_lfV, v_lfO, v_lfB, v_ubN, v_ubC, v_callN, v_callNS, v_callNF, v_backNM, v_backNV, v_last, v_lo1, v_lo2, v_lo3, v_mkM, v_outMN, v_outMR, v_outME, v_outB, v_call, v_callX, v_callF, v_callXF, v_callK, v_callXK, v_callXE, v_mk, v_outN, v_outR, v_outE, v_take, v_rai, v_raiK, v_try, v_tryN, v_tryR, v_tryB, v_tryC, v_tryE, v_suN, v_suR, v_suB, v_suC, v_xf, v_xfK, v_pubO, v_pubV, v_pubB, v_pubP, v_ixL, v_ixT, v_ixS, v_slL, v_slT, v_slS, v_addI, v_addS, v_addL, v_addT, v_sub, v_mod, v_pow, v_shr, v_fdiv, v_mulI, v_mulL, v_cI, v_cIs, v_cES, v_cNS, v_dinI, v_dinS, v_lenL, v_lenT, v_lenS, v_intI, v_intB, v_abs, v_max2, v_min2, v_listL, v_listT, v_tupleL, v_tupleT, v_itN, v_itI, v_itS, v_itB, v_itL, v_itT, v_itD, v_par, v_putN, v_putC, v_inL, v_inT, v_ngT, v_ngF, v_inDN, v_inDC, v_flN, v_flB, v_flI, v_flS, v_flT, v_flL, v_isi, v_ext, v_extO, v_putOwn, v_putOwn1, v_putOwnS, v_putOwnI, v_putOwnN, v_extG, v_insO, v_insK, v_rev, v_lstO, v_star, v_r3, v_r3K, v_aug, v_augO, v_augR, v_augRK, v_augAK, v_augB, v_augBK, v_get, v_isDic, v_getKS, v_getKI, v_disp, v_ppN, v_ppC, v_dnew, v_dictK, v_try0, v_t0N, v_t0R, v_t0B, v_t0C, v_t0E, v_s0N, v_s0R, v_s0B, v_s0C, v_kix, v_kin, v_kget, v_strO, v_items, v_itemsK, v_dAL, v_dAT, v_dAD, v_ins, v_setIx, v_setIxS, v_setIx0, v_setIxK, v_setIx1, v_setIx2, v_chain, v_bAny, v_bAll, v_bSum, v_comp2, v_repr, v_ty_int_int, v_ty_int_bool, v_ty_int_str, v_ty_int_list, v_ty_int_tuple, v_ty_int_dict, v_ty_int_NoneType, v_ty_bool_int, v_ty_bool_bool, v_ty_bool_str, v_ty_bool_list, v_ty_bool_tuple, v_ty_bool_dict, v_ty_bool_NoneType, v_ty_str_int, v_ty_str_bool, v_ty_str_str, v_ty_str_list, v_ty_str_tuple, v_ty_str_dict, v_ty_str_NoneType, v_ty_list_int, v_ty_list_bool, v_ty_list_str, v_ty_list_list, v_ty_list_tuple, v_ty_list_dict, v_ty_list_NoneType, v_ty_tuple_int, v_ty_tuple_bool, v_ty_tuple_str, v_ty_tuple_list, v_ty_tuple_tuple, v_ty_tuple_dict, v_ty_tuple_NoneType, v_ty_dict_int, v_ty_dict_bool, v_ty_dict_str, v_ty_dict_list, v_ty_dict_tuple, v_ty_dict_dict, v_ty_dict_NoneType, keysD, tabD, Option.isSome_some, Option.isSome_none, Option.getD_some, Option.getD_none, keyD, List.foldl_cons, List.foldl_nil, List.any_cons, List.any_nil, Bool.or_false, Bool.false_or, Bool.or_true, Bool.true_or, R.val.injEq, v_itemsL, v_itemsT, gt, st, wipeD, backD, R.stay, vals?, startK, v_at0, v_at1, v_at2, v_at3, v_at4, v_at5, v_at6, v_at7, v_atL, v_atM1, v_atM2, v_atM3, T.bind_ret, T.bind_fail, T.bind_ite, T.bind_any, T.All_retE, T.All_anyE, T.All_failE, T.All_iteE, ite_ap, cEqF, okk, eqD, eqAll, ofS_inj, ofS_beq, strOk_ofS, Option.bind_some, Option.map_some, Option.map_none, Sum.inr.injEq, Sum.inl.injEq, List.length_cons, List.length_nil, if_true, if_false, ite_true, ite_false, Bool.not_true, Bool.not_false, beq_self_eq_true, beq_iff_eq, decide_true, decide_false, decide_eq_true_eq, and_self, and_true, true_and, and_false, false_and, Bool.false_eq_true, Bool.true_eq_false, reduceIte, reduceCtorEq, Nat.reduceAdd, Nat.reduceEqDiff, Nat.reduceLeDiff, Nat.reduceLT, String.reduceEq, Int.reduceNeg, Int.reduceLE, Int.reduceLT, Int.reduceEq, Int.reduceToNat, Int.reducePow, Int.reduceAdd, Int.reduceSub, Int.reduceMul, Int.reduceAbs, Int.natAbs_neg, Nat.reducePow, Bool.and_true, Bool.true_and, Bool.and_false, Bool.false_and, List.lookup, sizeLine_eq, Option.some.injEq, List.all_cons, List.all_nil, List.nil_append, List.cons_append, Bool.not_eq_true', Bool.and_eq_true, not_true_eq_false, not_false_eq_true, List.map_cons, List.map_nil, decide_not, true_implies, false_implies, implies_true, not_true, ne_eq, Bool.not_eq_eq_eq_not])

/-! ### what is drawn -/
theorem one_all (ds : List D) (h0 : 0 < ds.length) (h1 : ds.length < 1000000) : (m__law_one [.bag, .val (.lst ds)]).All fun o => ∃ d ∈ ds, o = .val (.val d) := by
  unfold m__law_one fs__law_one
  walk_at "ev"
  walk_at "pl"
  refine all_take (fun r r0 r1 => ?_) (by omega) (by omega)
  walk_at "ev"
  rw [atI_ok r0 r1]
  walk_at "ev"
  exact ⟨_, List.getElem_mem _, rfl⟩
theorem number_all : (m__law_number [.bag]).All fun o => ∃ n : Int, Sm n ∧ o = .val (.val (.int n)) := by
  unfold m__law_number fs__law_number
  walk_at "ev"
  walk_at "pl"
  refine all_take fun way w0 w1 => ?_
  walk_at "ev"
  refine ⟨fun h => ?_, fun h => ?_⟩
  · walk_at "pl"
    refine all_take fun r r0 r1 => ?_
    walk_at "ev"
    exact ⟨_, ⟨by omega, by omega⟩, rfl⟩
  · have hw : way = 0 ∨ way = 1 := by omega
    have fin : ∀ (x y : Int), -1000000000000 ≤ x → x ≤ 1000000000000 → (y = 1 ∨ y = -1) → mulB x y = true ∧ Sm (x * y) := fun x y x0 x1 hy => by
      have hx : Sm x := ⟨x0, x1⟩
      have hy' : Sm y := by rcases hy with rfl | rfl <;> exact ⟨by decide, by decide⟩
      refine ⟨mul_ok (e := 40) (sm_bg hx) hy' (by decide) (by decide), ?_⟩
      rcases hy with rfl | rfl
      · rw [Int.mul_one]; exact hx
      · exact ⟨by omega, by omega⟩
    walk_at "pl"
    refine all_take fun a a0 a1 => ?_
    walk_at "ev"
    walk_at "pl"
    refine all_take fun b b0 b1 => ?_
    rcases hw with rfl | rfl
    · walk_at "ev"
      walk_at "pl"
      refine all_take fun c c0 c1 => ?_
      have hc : c = 0 ∨ c = 1 := by omega
      rcases hc with rfl | rfl
      · walk_at "ev"
        obtain ⟨f1, f2⟩ := fin (1000000000000 - a) 1 (by omega) (by omega) (.inl rfl)
        exact ⟨fun _ => ⟨_, f2, rfl⟩, fun z => absurd f1 z⟩
      · walk_at "ev"
        obtain ⟨f1, f2⟩ := fin (1000000000000 - a) (-1) (by omega) (by omega) (.inr rfl)
        exact ⟨fun _ => ⟨_, f2, rfl⟩, fun z => absurd f1 z⟩
    · walk_at "ev"
      walk_at "pl"
      refine all_take fun c c0 c1 => ?_
      have hc : c = 0 ∨ c = 1 := by omega
      rcases hc with rfl | rfl
      · walk_at "ev"
        obtain ⟨f1, f2⟩ := fin b 1 (by omega) (by omega) (.inl rfl)
        exact ⟨fun _ => ⟨_, f2, rfl⟩, fun z => absurd f1 z⟩
      · walk_at "ev"
        obtain ⟨f1, f2⟩ := fin b (-1) (by omega) (by omega) (.inr rfl)
        exact ⟨fun _ => ⟨_, f2, rfl⟩, fun z => absurd f1 z⟩
theorem cut6 (xs : List D) : cut xs none (some 6) = xs.take 6 := by
  unfold cut
  rw [HT.sIx_none, List.drop_zero, Nat.sub_zero, show HT.sIx xs.length xs.length (some 6) = min 6 xs.length from HT.sIx_nat _ _ 6]
  rw [List.take_eq_take_iff]; omega
theorem keys_all (by_ : Int) (w : R) (hb : by_ = 1 ∨ by_ = 100000000007) : (fLc (fgN 5) t__law_step_c1 e__law_step_c1 [5] (rngD (-3) 7) [] [.bag, w, .val (.int by_), .no, .no, .no]).All fun p => p.2 = [.bag, w, .val (.int by_), .no, .no, .no] ∧ ∃ ks : List Int, p.1 = ks.map D.int ∧ (∀ k ∈ ks, Sm k) ∧ ks.Nodup := by
  have pos : 0 < by_ := by rcases hb with rfl | rfl <;> decide
  refine lc_all (Iv := fun ds acc => ∃ ks rest : List Int, ds = rest.map D.int ∧ acc = (ks.map (· * by_)).map D.int ∧ (ks ++ rest).Pairwise (· < ·) ∧ (∀ k ∈ ks ++ rest, -3 ≤ k ∧ k ≤ 3) ∧ ks.length + rest.length ≤ 7) ?_ ?_ _ _ ?_
  · rintro d ds acc ⟨ks, rest, e1, e2, h1, h2, h3⟩
    cases rest with
    | nil => cases e1
    | cons k rest =>
      simp only [List.map_cons, List.cons.injEq] at e1
      obtain ⟨rfl, rfl⟩ := e1
      refine ⟨_, rfl, ?_⟩
      unfold t__law_step_c1
      walk_at "ev"
      walk_at "pl"
      refine all_take fun r r0 r1 => ?_
      walk_at "ev"
      refine ⟨_, _, rfl, fun _ => ⟨?_, ?_⟩, fun _ => ⟨rfl, ks, rest, rfl, e2, ?_, ?_, ?_⟩⟩
      · subst e2; simp only [List.length_map, List.length_cons] at h3 ⊢; omega
      · have hk := h2 k (by simp)
        have hm : mulB k by_ = true := mul_ok (e := 40) (sm_bg ⟨by omega, by omega⟩) (by rcases hb with rfl | rfl <;> exact ⟨by decide, by decide⟩) (by decide) (by decide)
        unfold e__law_step_c1
        walk_at "ev"
        refine ⟨fun _ => ?_, fun z => absurd hm z⟩
        refine ⟨_, _, rfl, rfl, ks ++ [k], rest, rfl, ?_, ?_, ?_, ?_⟩
        · subst e2; simp
        · simpa using h1
        · simpa using h2
        · simp only [List.length_append, List.length_cons, List.length_nil] at h3 ⊢; omega
      · exact h1.sublist (by simp)
      · intro x hx; exact h2 x (by simp at hx ⊢; rcases hx with z | z <;> simp [z])
      · simp only [List.length_cons] at h3; omega
  · rintro acc ⟨ks, rest, e1, e2, h1, h2, h3⟩
    refine ⟨rfl, ks.map (· * by_), e2, fun k hk => ?_, ?_⟩
    · obtain ⟨x, hx, rfl⟩ := List.mem_map.mp hk
      have := h2 x (by simp [hx])
      have h9 : by_ ≤ 100000000007 := by rcases hb with rfl | rfl <;> decide
      have a1 : x * by_ ≤ 3 * by_ := Int.mul_le_mul_of_nonneg_right (by omega) (by omega)
      have a2 : (-3) * by_ ≤ x * by_ := Int.mul_le_mul_of_nonneg_right (by omega) (by omega)
      exact ⟨by omega, by omega⟩
    · have := (List.pairwise_append.mp h1).1
      refine List.Pairwise.map _ (fun a b h => ?_) this
      intro e
      have := Int.eq_of_mul_eq_mul_right (by omega) e
      omega
  · exact ⟨[], [-3, -2, -1, 0, 1, 2, 3], rfl, rfl, by decide, by decide, by decide⟩
theorem pairs_all (ks : List Int) (r1 r2 r3 : R) (hk : ∀ k ∈ ks, Sm k) (hl : ks.length ≤ 6) : (fLc (fgN 5) fYes e__law_step_c2 [5] (ks.map D.int) [] [.bag, r1, r2, r3, .no, .no]).All fun p => p.2 = [.bag, r1, r2, r3, .no, .no] ∧ ∃ ps : List (Int × Int), p.1 = ps.map prD ∧ ps.map (·.1) = ks ∧ ∀ p ∈ ps, Sm p.1 ∧ Sm p.2 := by
  refine lc_all (Iv := fun ds acc => ∃ (ps : List (Int × Int)) (rest : List Int), ds = rest.map D.int ∧ acc = ps.map prD ∧ ps.map (·.1) ++ rest = ks ∧ ∀ p ∈ ps, Sm p.1 ∧ Sm p.2) ?_ ?_ _ _ ?_
  · rintro d ds acc ⟨ps, rest, e1, e2, h1, h2⟩
    cases rest with
    | nil => cases e1
    | cons k rest =>
      simp only [List.map_cons, List.cons.injEq] at e1
      obtain ⟨rfl, rfl⟩ := e1
      refine ⟨_, rfl, ?_⟩
      walk_at "ev"
      refine ⟨_, _, rfl, fun _ => ⟨?_, ?_⟩, fun z => by cases z⟩
      · subst e2; subst h1
        simp only [List.length_append, List.length_map, List.length_cons] at hl ⊢
        omega
      · unfold e__law_step_c2
        walk_at "ev"
        walk_at "pl"
        refine T.All_mono number_all fun o ho => ?_
        obtain ⟨n, hn, rfl⟩ := ho
        walk_at "ev"
        refine ⟨_, _, rfl, rfl, ps ++ [(k, n)], rest, rfl, ?_, ?_, ?_⟩
        · subst e2; simp [prD]
        · simpa using h1
        · intro p hp
          rcases List.mem_append.mp hp with z | z
          · exact h2 p z
          · simp at z; subst z; exact ⟨hk _ (by rw [← h1]; simp), hn⟩
  · rintro acc ⟨ps, rest, e1, e2, h1, h2⟩
    cases rest with
    | cons => cases e1
    | nil => exact ⟨rfl, ps, e2, by simpa using h1, h2⟩
  · exact ⟨[], ks, rfl, rfl, rfl, by simp⟩
theorem step_all : (m__law_step [.bag]).All fun o => ∃ s : Stp, s.Ok ∧ o = .val (.val s.d) := by
  unfold m__law_step fs__law_step
  walk_at "ev"
  walk_at "pl"
  refine T.All_mono (one_all _ (by decide) (by decide)) fun o ho => ?_
  obtain ⟨d, hd, rfl⟩ := ho
  simp only [List.mem_cons, List.not_mem_nil, or_false] at hd
  rcases hd with rfl | rfl | rfl | rfl | rfl
  · walk_at "ev"
    walk_at "pl"
    refine T.All_mono number_all fun o ho => ?_
    obtain ⟨n, hn, rfl⟩ := ho
    walk_at "ev"
    exact ⟨fun _ => ⟨.plus n, hn, rfl⟩, fun _ => ⟨.plus n, hn, rfl⟩⟩
  · walk_at "ev"
    walk_at "pl"
    refine T.All_mono number_all fun o ho => ?_
    obtain ⟨n, hn, rfl⟩ := ho
    walk_at "ev"
    exact ⟨fun _ => ⟨.times n, hn, rfl⟩, fun _ => ⟨.times 2, ⟨by decide, by decide⟩, rfl⟩⟩
  · walk_at "ev"
    walk_at "pl"
    refine T.All_mono number_all fun o ho => ?_
    obtain ⟨n, hn, rfl⟩ := ho
    walk_at "ev"
    refine ⟨.into (if (if n < 0 then -n else n) > 1 then (if n < 0 then -n else n) else 1), ?_, rfl⟩
    unfold Sm at hn
    show Sm _ ∧ 1 ≤ _
    unfold Sm
    split <;> split <;> omega
  · walk_at "ev"
    walk_at "pl"
    refine T.All_mono number_all fun o ho => ?_
    obtain ⟨n, hn, rfl⟩ := ho
    walk_at "ev"
    exact ⟨fun _ => ⟨.over n, hn, rfl⟩, fun _ => ⟨.over n, hn, rfl⟩⟩
  · walk_at "ev"
    walk_at "pl"
    refine all_take fun r r0 r1 => ?_
    walk_at "ev"
    have hat : ∃ by_ : Int, (by_ = 1 ∨ by_ = 100000000007) ∧ atI [D.int 1, D.int 1, D.int 1, D.int 100000000007] r = some (.int by_) := by
      have : r = 0 ∨ r = 1 ∨ r = 2 ∨ r = 3 := by omega
      rcases this with rfl | rfl | rfl | rfl
      · exact ⟨1, .inl rfl, v_at0⟩
      · exact ⟨1, .inl rfl, v_at1⟩
      · exact ⟨1, .inl rfl, v_at2⟩
      · exact ⟨_, .inr rfl, v_at3⟩
    obtain ⟨by_, hb, hat⟩ := hat
    rw [hat]
    walk_at "ev"
    walk_at "pl"
    refine T.All_mono (keys_all by_ _ hb) fun p hp => ?_
    obtain ⟨e1, ks, e2, h1, h2⟩ := hp
    obtain ⟨p1, p2⟩ := p
    simp only at e1 e2
    subst e1; subst e2
    walk_at "ev"
    rw [cut6, ← List.map_take]
    walk_at "pl"
    refine T.All_mono (pairs_all (ks.take 6) _ _ _ (fun k hk => h1 k (List.mem_of_mem_take hk)) (by simp; omega)) fun p hp => ?_
    obtain ⟨e1, ps, e2, h3, h4⟩ := hp
    obtain ⟨p1, p2⟩ := p
    simp only at e1 e2
    subst e1; subst e2
    walk_at "ev"
    refine ⟨.found ps, ⟨?_, h4, ?_⟩, rfl⟩
    · have := congrArg List.length h3
      simp at this; omega
    · rw [h3]; exact h2.sublist (List.take_sublist _ _)
theorem steps_lc (n : Nat) (hn : n ≤ 4) (r1 r2 r3 r4 : R) : (fLc (fgN 5) fYes e__law_test_c1 [5] (rngD 0 n) [] [.bag, r1, r2, r3, r4, .no]).All fun p => p.2 = [.bag, r1, r2, r3, r4, .no] ∧ ∃ ss : List Stp, p.1 = ss.map Stp.d ∧ ss.length ≤ 4 ∧ ∀ s ∈ ss, s.Ok := by
  refine lc_all (Iv := fun ds acc => ∃ ss : List Stp, acc = ss.map Stp.d ∧ ss.length + ds.length ≤ 4 ∧ ∀ s ∈ ss, s.Ok) ?_ ?_ _ _ ?_
  · rintro d ds acc ⟨ss, e, h1, h2⟩
    refine ⟨_, rfl, ?_⟩
    walk_at "ev"
    simp only [List.length_cons] at h1
    refine ⟨_, _, rfl, fun _ => ⟨by subst e; simp only [List.length_map]; omega, ?_⟩, fun z => by cases z⟩
    unfold e__law_test_c1
    walk_at "ev"
    walk_at "pl"
    refine T.All_mono step_all fun o ho => ?_
    obtain ⟨s, hs, rfl⟩ := ho
    walk_at "ev"
    refine ⟨_, _, rfl, rfl, ss ++ [s], by subst e; simp, by simp only [List.length_append, List.length_cons, List.length_nil]; omega, fun x hx => ?_⟩
    rcases List.mem_append.mp hx with z | z
    · exact h2 x z
    · simp at z; subst z; exact hs
  · rintro acc ⟨ss, e, h1, h2⟩
    exact ⟨rfl, ss, e, by simpa using h1, h2⟩
  · exact ⟨[], rfl, by simpa [rngD_len] using hn, by simp⟩
theorem sign_of {d : D} (h : d ∈ [D.str (Str.ofString "<"), .str (Str.ofString "<="), .str (Str.ofString "<>"), .str (Str.ofString "="), .str (Str.ofString ">"), .str (Str.ofString ">=")]) : ∃ g : Sg, d = .str (Str.ofString g.s) := by
  simp only [List.mem_cons, List.not_mem_nil, or_false] at h
  rcases h with rfl | rfl | rfl | rfl | rfl | rfl
  · exact ⟨.lt, rfl⟩
  · exact ⟨.le, rfl⟩
  · exact ⟨.ne, rfl⟩
  · exact ⟨.eq, rfl⟩
  · exact ⟨.gt, rfl⟩
  · exact ⟨.ge, rfl⟩
theorem test_all (ns : List String) (h0 : 0 < ns.length) (h1 : ns.length < 1000) : (m__law_test [.bag, .val (nmD ns)]).All fun o => ∃ l : Leaf, l.Ok ns ∧ l.col ≠ none ∧ o = .val (.val l.d) := by
  unfold m__law_test fs__law_test
  simp only [nmD]
  have hone := one_all (ns.map fun s => .str (Str.ofString s)) (by rw [List.length_map]; exact h0) (by rw [List.length_map]; omega)
  generalize hL : ns.map (fun s => D.str (Str.ofString s)) = L at *
  walk_at "ev"
  walk_at "pl"
  refine T.All_mono hone fun o ho => ?_
  obtain ⟨d, hd, rfl⟩ := ho
  rw [← hL] at hd
  obtain ⟨c, hc, rfl⟩ := List.mem_map.mp hd
  walk_at "ev"
  walk_at "pl"
  refine all_take fun way w0 w1 => ?_
  have fin : ∀ (ss : List Stp) (g : Sg) (k : Int), ss.length ≤ 4 → (∀ s ∈ ss, s.Ok) → 0 ≤ k → k < 9 → ∃ l : Leaf, l.Ok ns ∧ l.col ≠ none ∧ (FR.val (.val (.tup [.str (Str.ofString "asks"), .str (Str.ofString c), .tup (ss.map Stp.d), .str (Str.ofString g.s), .int (k - 4)])) : FR) = .val (.val l.d) :=
    fun ss g k hl hs k0 k1 => ⟨.ask c ss g (k - 4), ⟨hc, hl, hs, by omega, by omega⟩, (by intro z; cases z), rfl⟩
  walk_at "ev"
  refine ⟨fun hw => ?_, fun hw => ⟨fun hw4 => ?_, fun hw4 => ?_⟩⟩
  · have : way = 0 ∨ way = 1 := by omega
    rcases this with rfl | rfl
    · walk_at "ev"; exact ⟨.emp c, hc, (by intro z; cases z), rfl⟩
    · walk_at "ev"; exact ⟨.num c, hc, (by intro z; cases z), rfl⟩
  · walk_at "pl"
    refine all_take fun a a0 a1 => ?_
    walk_at "ev"
    walk_at "pl"
    refine all_take fun b b0 b1 => ?_
    walk_at "ev"
    refine ⟨fun hw7 => ?_, fun hw7 => ?_⟩
    · walk_at "pl"
      refine all_take fun e e0 e1 => ?_
      walk_at "ev"
      refine yes ⟨by omega, by omega⟩ ?_
      walk_at "pl"
      refine T.All_mono (steps_lc (1 + e).toNat (by omega) _ _ _ _) fun p hp => ?_
      obtain ⟨e1, ss, e2, h2, h3⟩ := hp
      obtain ⟨p1, p2⟩ := p
      simp only at e1 e2
      subst e1; subst e2
      walk_at "ev"
      walk_at "pl"
      refine T.All_mono (one_all _ (by decide) (by decide)) fun o ho => ?_
      obtain ⟨d, hd, rfl⟩ := ho
      obtain ⟨g, rfl⟩ := sign_of hd
      walk_at "ev"
      walk_at "pl"
      refine all_take fun k k0 k1 => ?_
      walk_at "ev"
      exact fin ss g k h2 h3 k0 k1
    · walk_at "pl"
      refine T.All_mono (one_all _ (by decide) (by decide)) fun o ho => ?_
      obtain ⟨d, hd, rfl⟩ := ho
      obtain ⟨g, rfl⟩ := sign_of hd
      walk_at "ev"
      walk_at "pl"
      refine all_take fun k k0 k1 => ?_
      walk_at "ev"
      refine fin [.plus (a - 3), .over (b - 4)] g k (by simp) (fun s hs => ?_) k0 k1
      simp only [List.mem_cons, List.not_mem_nil, or_false] at hs
      rcases hs with rfl | rfl
      · exact ⟨by omega, by omega⟩
      · exact ⟨by omega, by omega⟩
  · have hw7 : ¬ 7 < way := by omega
    simp only [hw7, false_implies, not_false_eq_true, true_implies, true_and]
    walk_at "pl"
    refine T.All_mono (one_all _ (by decide) (by decide)) fun o ho => ?_
    obtain ⟨d, hd, rfl⟩ := ho
    obtain ⟨g, rfl⟩ := sign_of hd
    walk_at "ev"
    walk_at "pl"
    refine all_take fun k k0 k1 => ?_
    walk_at "ev"
    exact fin [] g k (by decide) (by simp) k0 k1
theorem leaf_all (ns : List String) (h0 : 0 < ns.length) (h1 : ns.length < 1000) : (m__law_leaf [.bag, .val (nmD ns)]).All fun o => ∃ l : Leaf, l.Ok ns ∧ o = .val (.val l.d) := by
  have ht := test_all ns h0 h1
  unfold m__law_leaf fs__law_leaf
  generalize nmD ns = L at *
  walk_at "ev"
  walk_at "pl"
  refine all_take fun way w0 w1 => ?_
  walk_at "ev"
  refine ⟨fun _ => ?_, fun _ => ?_⟩
  · walk_at "pl"
    refine T.All_mono (one_all _ (by decide) (by decide)) fun o ho => ?_
    obtain ⟨d, hd, rfl⟩ := ho
    simp only [List.mem_cons, List.not_mem_nil, or_false] at hd
    rcases hd with rfl | rfl | rfl | rfl
    · walk_at "ev"; exact ⟨.alw .er, trivial, rfl⟩
    · walk_at "ev"; exact ⟨.alw .no, trivial, rfl⟩
    · walk_at "ev"; exact ⟨.alw .un, trivial, rfl⟩
    · walk_at "ev"; exact ⟨.alw .ye, trivial, rfl⟩
  · walk_at "pl"
    refine T.All_mono ht fun o ho => ?_
    obtain ⟨l, hl, _, rfl⟩ := ho
    walk_at "ev"
    exact ⟨l, hl, rfl⟩
theorem small_all (ns : List String) (h0 : 0 < ns.length) (h1 : ns.length < 1000) : (m__law_small [.bag, .val (nmD ns)]).All fun o => ∃ c : Cnd, Fit ns 0 c ∧ o = .val (.val c.d) := by
  have ht := leaf_all ns h0 h1
  unfold m__law_small fs__law_small
  generalize nmD ns = L at *
  walk_at "ev"
  walk_at "pl"
  refine all_take fun way w0 w1 => ?_
  walk_at "ev"
  walk_at "pl"
  refine T.All_mono ht fun o ho => ?_
  obtain ⟨l, hl, rfl⟩ := ho
  have one : ∀ p ∈ [Cnd.leaf l], ∃ l : Leaf, l.Ok ns ∧ p = .leaf l := fun p hp => ⟨l, hl, List.mem_singleton.mp hp⟩
  walk_at "ev"
  refine ⟨fun _ => ?_, fun _ => ⟨fun _ => ?_, fun _ => ?_⟩⟩
  · walk_at "pl"
    refine T.All_mono (one_all _ (by simp only [List.length_cons]; omega) (by simp only [List.length_cons, List.length_nil]; omega)) fun o ho => ?_
    obtain ⟨d, hd, rfl⟩ := ho
    simp only [List.mem_cons, List.not_mem_nil, or_false] at hd
    rcases hd with rfl | rfl | rfl | rfl | rfl
    · walk_at "ev"; exact ⟨.node .all [], fit_small trivial (by simp) (by simp), by simp only [Cnd.d, Cnd.ds, nodeD]⟩
    · walk_at "ev"; exact ⟨.node .any [], fit_small trivial (by simp) (by simp), by simp only [Cnd.d, Cnd.ds, nodeD]⟩
    · walk_at "ev"; exact ⟨.node .fst [], fit_small trivial (by simp) (by simp), by simp only [Cnd.d, Cnd.ds, nodeD]⟩
    · walk_at "ev"; exact ⟨.node .cas [.leaf l], fit_small rfl (by simp) one, by simp [Cnd.d, Cnd.ds, nodeD, pairsU, lastD]⟩
    · walk_at "ev"; exact ⟨.node .cas [.leaf l], fit_small rfl (by simp) one, by simp [Cnd.d, Cnd.ds, nodeD, pairsU, lastD]⟩
  · walk_at "pl"
    refine T.All_mono (one_all _ (by simp only [List.length_cons]; omega) (by simp only [List.length_cons, List.length_nil]; omega)) fun o ho => ?_
    obtain ⟨d, hd, rfl⟩ := ho
    simp only [List.mem_cons, List.not_mem_nil, or_false] at hd
    rcases hd with rfl | rfl | rfl | rfl | rfl
    · walk_at "ev"; exact ⟨.node .not [.leaf l], fit_small rfl (by simp) one, by simp [Cnd.d, Cnd.ds, nodeD, lastD]⟩
    · walk_at "ev"; exact ⟨.node .not [.leaf l], fit_small rfl (by simp) one, by simp [Cnd.d, Cnd.ds, nodeD, lastD]⟩
    · walk_at "ev"; exact ⟨.node .all [.leaf l], fit_small trivial (by simp) one, by simp [Cnd.d, Cnd.ds, nodeD]⟩
    · walk_at "ev"; exact ⟨.node .any [.leaf l], fit_small trivial (by simp) one, by simp [Cnd.d, Cnd.ds, nodeD]⟩
    · walk_at "ev"; exact ⟨.node .fst [.leaf l], fit_small trivial (by simp) one, by simp [Cnd.d, Cnd.ds, nodeD]⟩
  · exact ⟨.leaf l, fit_leaf hl, by simp only [Cnd.d]⟩
end CN.PK28

set_option maxHeartbeats 1000000
namespace CN.PK28
open PySem PySem.Spec L2 DL K28
local macro_rules | `(tactic| walk_at "ev") => `(tactic| try simp only [v_lc2N, v_lc2C, v_lc2G, v_lc2T, v_lc2I, v_allApp, v_valsApp, v_ret, v_fail, v_bind, v_on, v_onE, v_go, v_goE, v_of, v_ofN, v_ofI, v_useV, v_useO, v_useP, v_useKV, v_useKO, v_peekV, v_peekO, v_peekP, v_lookV, v_lookO, v_handV, v_handO, v_handB, v_handP, v_handKV, v_handKO, v_handKB, v_allN, v_allC, v_lkN, v_lkC, v_var, v_varV, v_varO, v_varB, v_varM, v_c, v_bin, v_cmp, v_tst, v_bl, v_int, v_and, v_or, v_not, v_andV, v_orV, v_notV, v_if, v_nil, v_cons, v_vals, v_tup, v_lst, v_neg, v_ix, v_oN, v_oS, v_sl, v_cb, v_lrng, v_dix, v_dixI, v_dixS, v_eS, v_next, v_break, v_cont, v_sq, v_thN, v_thR, v_thB, v_thC, v_thE, v_expr, v_retS, v_rV, v_rO, v_rB, v_rP, v_rKV, v_rKO, v_rKB, v_retN, v_ifS, v_set, v_sV, v_sO, v_sB, v_sP, v_sKV, v_sKO, v_sKB, v_asg, v_optS, v_gN, v_gT, v_gC, v_gNil, v_loopN, v_loopC, v_turnK, v_tuN, v_tuC, v_tuB, v_tuR, v_tuE, v_for, v_iW, v_wipe, v_wN, v_wR, v_wB, v_wC, v_wE, v_iS, v_r1, v_r2, v_r1K, v_r2K, v_en, v_enK, v_lcN, v_lcC, v_lcG, v_lcT, v_lcE, v_yes, v_comp, v_app, v_appG, v_appF, v_appK, v_wrOf, v_wrO, v_wrB, v_wrAsO, v_wrAsB, v_bor0, v_bor1, v_bor2, v_bor3, v_bor4, v_bor5, v_kp0, v_kp1, v_retM, v_rmV, v_rmO, v_rmP, v_rmKV, v_rmKO, v_retNM, v_lookB, v_callB, v_callBF, v_callBW, v_backB, v_lendP, v_lendV, v_lendG, v_lfP, v_lfV, v_lfO, v_lfB, v_ubN, v_ubC, v_callN, v_callNS, v_callNF, v_backNM, v_backNV, v_last, v_lo1, v_lo2, v_lo3, v_mkM, v_outMN, v_outMR, v_outME, v_outB, v_call, v_callX, v_callF, v_callXF, v_callK, v_callXK, v_callXE, v_mk, v_outN, v_outR, v_outE, v_take, v_rai, v_raiK, v_try, v_tryN, v_tryR, v_tryB, v_tryC, v_tryE, v_suN, v_suR, v_suB, v_suC, v_xf, v_xfK, v_pubO, v_pubV, v_pubB, v_pubP, v_ixL, v_ixT, v_ixS, v_slL, v_slT, v_slS, v_addI, v_addS, v_addL, v_addT, v_sub, v_mod, v_pow, v_shr, v_fdiv, v_mulI, v_mulL, v_cI, v_cIs, v_cES, v_cNS, v_dinI, v_dinS, v_lenL, v_lenT, v_lenS, v_intI, v_intB, v_abs, v_max2, v_min2, v_listL, v_listT, v_tupleL, v_tupleT, v_itN, v_itI, v_itS, v_itB, v_itL, v_itT, v_itD, v_par, v_putN, v_putC, v_inL, v_inT, v_ngT, v_ngF, v_inDN, v_inDC, v_flN, v_flB, v_flI, v_flS, v_flT, v_flL, v_isi, v_ext, v_extO, v_putOwn, v_putOwn1, v_putOwnS, v_putOwnI, v_putOwnN, v_extG, v_insO, v_insK, v_rev, v_lstO, v_star, v_r3, v_r3K, v_aug, v_augO, v_augR, v_augRK, v_augAK, v_augB, v_augBK, v_get, v_isDic, v_getKS, v_getKI, v_disp, v_ppN, v_ppC, v_dnew, v_dictK, v_try0, v_t0N, v_t0R, v_t0B, v_t0C, v_t0E, v_s0N, v_s0R, v_s0B, v_s0C, v_kix, v_kin, v_kget, v_strO, v_items, v_itemsK, v_dAL, v_dAT, v_dAD, v_ins, v_setIx, v_setIxS, v_setIx0, v_setIxK, v_setIx1, v_setIx2, v_chain, v_bAny, v_bAll, v_bSum, v_comp2, v_repr, v_ty_int_int, v_ty_int_bool, v_ty_int_str, v_ty_int_list, v_ty_int_tuple, v_ty_int_dict, v_ty_int_NoneType, v_ty_bool_int, v_ty_bool_bool, v_ty_bool_str, v_ty_bool_list, v_ty_bool_tuple, v_ty_bool_dict, v_ty_bool_NoneType, v_ty_str_int, v_ty_str_bool, v_ty_str_str, v_ty_str_list, v_ty_str_tuple, v_ty_str_dict, v_ty_str_NoneType, v_ty_list_int, v_ty_list_bool, v_ty_list_str, v_ty_list_list, v_ty_list_tuple, v_ty_list_dict, v_ty_list_NoneType, v_ty_tuple_int, v_ty_tuple_bool, v_ty_tuple_str, v_ty_tuple_list, v_ty_tuple_tuple, v_ty_tuple_dict, v_ty_tuple_NoneType, v_ty_dict_int, v_ty_dict_bool, v_ty_dict_str, v_ty_dict_list, v_ty_dict_tuple, v_ty_dict_dict, v_ty_dict_NoneType, keysD, tabD, Option.isSome_some, Option.isSome_none, Option.getD_some, Option.getD_none, keyD, putD, mergeD, List.foldl_cons, List.foldl_nil, List.any_cons, List.any_nil, Bool.or_false, Bool.false_or, Bool.or_true, Bool.true_or, valD, List.find?_cons, List.find?_nil, R.val.injEq, v_itemsL, v_itemsT, gt, st, wipeD, backD, R.stay, vals?, startK, v_at0, v_at1, v_at2, v_at3, v_at4, v_at5, v_at6, v_at7, v_atL, v_atM1, v_atM2, v_atM3, T.bind_ret, T.bind_fail, T.bind_ite, T.bind_any, T.All_retE, T.All_anyE, T.All_failE, T.All_iteE, ite_ap, cEqF, okk, eqD, eqAll, ofS_inj, ofS_beq, strOk_ofS, Option.bind_some, Option.map_some, Option.map_none, Sum.inr.injEq, Sum.inl.injEq, List.length_cons, List.length_nil, if_true, if_false, ite_true, ite_false, Bool.not_true, Bool.not_false, beq_self_eq_true, beq_iff_eq, decide_true, decide_false, decide_eq_true_eq, and_self, and_true, true_and, and_false, false_and, Bool.false_eq_true, Bool.true_eq_false, reduceIte, reduceCtorEq, Nat.reduceAdd, Nat.reduceEqDiff, Nat.reduceLeDiff, Nat.reduceLT, String.reduceEq, Int.reduceNeg, Int.reduceLE, Int.reduceLT, Int.reduceEq, Int.reduceToNat, Int.reducePow, Int.reduceAdd, Int.reduceSub, Int.reduceMul, Int.reduceAbs, Int.natAbs_neg, Nat.reducePow, Bool.and_true, Bool.true_and, Bool.and_false, Bool.false_and, List.lookup, sizeLine_eq, Option.some.injEq, List.all_cons, List.all_nil, List.nil_append, List.cons_append, Bool.not_eq_true', Bool.and_eq_true, not_true_eq_false, not_false_eq_true, List.map_cons, List.map_nil, decide_not, true_implies, false_implies, implies_true, not_true, ne_eq, Bool.not_eq_eq_eq_not])
local macro_rules | `(tactic| walk_at "pl") => `(tactic| repeat (with_reducible refine T.All_bind.mpr ?_))
local macro_rules | `(tactic| walk_at "ew") => `(tactic| try simp only [v_lc2N, v_lc2C, v_lc2G, v_lc2T, v_lc2I, v_allApp, v_valsApp, v_ret, v_fail, v_bind, v_on, v_onE, v_go, v_goE, v_of, v_ofN, v_ofI, v_useV, v_useO, v_useP, v_useKV, v_useKO, v_peekV, v_peekO, v_peekP, v_lookV, v_lookO, v_handV, v_handO, v_handB, v_handP, v_handKV, v_handKO, v_handKB, v_allN, v_allC, v_lkN, v_lkC, v_var, v_varV, v_varO, v_varB, v_varM, v_c, v_bin, v_cmp, v_tst, v_bl, v_int, v_and, v_or, v_not, v_andV, v_orV, v_notV, v_if, v_nil, v_cons, v_vals, v_tup, v_lst, v_neg, v_ix, v_oN, v_oS, v_sl, v_cb, v_lrng, v_dix, v_dixI, v_dixS, v_eS, v_next, v_break, v_cont, v_sq, v_thN, v_thR, v_thB, v_thC, v_thE, v_expr, v_retS, v_rV, v_rO, v_rB, v_rP, v_rKV, v_rKO, v_rKB, v_retN, v_ifS, v_set, v_sV, v_sO, v_sB, v_sP, v_sKV, v_sKO, v_sKB, v_asg, v_optS, v_gN, v_gT, v_gC, v_gNil, v_loopN, v_loopC, v_turnK, v_tuN, v_tuC, v_tuB, v_tuR, v_tuE, v_for, v_iW, v_wipe, v_wN, v_wR, v_wB, v_wC, v_wE, v_iS, v_r1, v_r2, v_r1K, v_r2K, v_en, v_enK, v_lcN, v_lcC, v_lcG, v_lcT, v_lcE, v_yes, v_comp, v_app, v_appG, v_appF, v_appK, v_wrOf, v_wrO, v_wrB, v_wrAsO, v_wrAsB, v_bor0, v_bor1, v_bor2, v_bor3, v_bor4, v_bor5, v_kp0, v_kp1, v_retM, v_rmV, v_rmO, v_rmP, v_rmKV, v_rmKO, v_retNM, v_lookB, v_callB, v_callBF, v_callBW, v_backB, v_lendP, v_lendV, v_lendG, v_lfP, v_lfV, v_lfO, v_lfB, v_ubN, v_ubC, v_callN, v_callNS, v_callNF, v_backNM, v_backNV, v_last, v_lo1, v_lo2, v_lo3, v_mkM, v_outMN, v_outMR, v_outME, v_outB, v_call, v_callX, v_callF, v_callXF, v_callK, v_callXK, v_callXE, v_mk, v_outN, v_outR, v_outE, v_take, v_rai, v_raiK, v_try, v_tryN, v_tryR, v_tryB, v_tryC, v_tryE, v_suN, v_suR, v_suB, v_suC, v_xf, v_xfK, v_pubO, v_pubV, v_pubB, v_pubP, v_ixL, v_ixT, v_ixS, v_slL, v_slT, v_slS, v_addI, v_addS, v_addL, v_addT, v_sub, v_mod, v_pow, v_shr, v_fdiv, v_mulI, v_mulL, v_cI, v_cIs, v_cES, v_cNS, v_dinI, v_dinS, v_lenL, v_lenT, v_lenS, v_intI, v_intB, v_abs, v_max2, v_min2, v_listL, v_listT, v_tupleL, v_tupleT, v_itN, v_itI, v_itS, v_itB, v_itL, v_itT, v_itD, v_par, v_putN, v_putC, v_inL, v_inT, v_ngT, v_ngF, v_inDN, v_inDC, v_flN, v_flB, v_flI, v_flS, v_flT, v_flL, v_isi, v_ext, v_extO, v_putOwn, v_putOwn1, v_putOwnS, v_putOwnI, v_putOwnN, v_extG, v_insO, v_insK, v_rev, v_lstO, v_star, v_r3, v_r3K, v_aug, v_augO, v_augR, v_augRK, v_augAK, v_augB, v_augBK, v_get, v_isDic, v_getKS, v_getKI, v_disp, v_ppN, v_ppC, v_dnew, v_dictK, v_try0, v_t0N, v_t0R, v_t0B, v_t0C, v_t0E, v_s0N, v_s0R, v_s0B, v_s0C, v_kix, v_kin, v_kget, v_strO, v_items, v_itemsK, v_dAL, v_dAT, v_dAD, v_ins, v_setIx, v_setIxS, v_setIx0, v_setIxK, v_setIx1, v_setIx2, v_chain, v_bAny, v_bAll, v_bSum, v_comp2, v_repr, v_ty_int_int, v_ty_int_bool, v_ty_int_str, v_ty_int_list, v_ty_int_tuple, v_ty_int_dict, v_ty_int_NoneType, v_ty_bool_int, v_ty_bool_bool, v_ty_bool_str, v_ty_bool_list, v_ty_bool_tuple, v_ty_bool_dict, v_ty_bool_NoneType, v_ty_str_int, v_ty_str_bool, v_ty_str_str, v_ty_str_list, v_ty_str_tuple, v_ty_str_dict, v_ty_str_NoneType, v_ty_list_int, v_ty_list_bool, v_ty_list_str, v_ty_list_list, v_ty_list_tuple, v_ty_list_dict, v_ty_list_NoneType, v_ty_tuple_int, v_ty_tuple_bool, v_ty_tuple_str, v_ty_tuple_list, v_ty_tuple_tuple, v_ty_tuple_dict, v_ty_tuple_NoneType, v_ty_dict_int, v_ty_dict_bool, v_ty_dict_str, v_ty_dict_list, v_ty_dict_tuple, v_ty_dict_dict, v_ty_dict_NoneType, keysD, tabD, Option.isSome_some, Option.isSome_none, Option.getD_some, Option.getD_none, keyD, List.foldl_cons, List.foldl_nil, List.any_cons, List.any_nil, Bool.or_false, Bool.false_or, Bool.or_true, Bool.true_or, R.val.injEq, v_itemsL, v_itemsT, gt, st, wipeD, backD, R.stay, vals?, startK, v_at0, v_at1, v_at2, v_at3, v_at4, v_at5, v_at6, v_at7, v_atL, v_atM1, v_atM2, v_atM3, T.bind_ret, T.bind_fail, T.bind_ite, T.bind_any, T.All_retE, T.All_anyE, T.All_failE, T.All_iteE, ite_ap, cEqF, okk, eqD, eqAll, ofS_inj, ofS_beq, strOk_ofS, Option.bind_some, Option.map_some, Option.map_none, Sum.inr.injEq, Sum.inl.injEq, List.length_cons, List.length_nil, if_true, if_false, ite_true, ite_false, Bool.not_true, Bool.not_false, beq_self_eq_true, beq_iff_eq, decide_true, decide_false, decide_eq_true_eq, and_self, and_true, true_and, and_false, false_and, Bool.false_eq_true, Bool.true_eq_false, reduceIte, reduceCtorEq, Nat.reduceAdd, Nat.reduceEqDiff, Nat.reduceLeDiff, Nat.reduceLT, String.reduceEq, Int.reduceNeg, Int.reduceLE, Int.reduceLT, Int.reduceEq, Int.reduceToNat, Int.reducePow, Int.reduceAdd, Int.reduceSub, Int.reduceMul, Int.reduceAbs, Int.natAbs_neg, Nat.reducePow, Bool.and_true, Bool.true_and, Bool.and_false, Bool.false_and, List.lookup, sizeLine_eq, Option.some.injEq, List.all_cons, List.all_nil, List.nil_append, List.cons_append, Bool.not_eq_true', Bool.and_eq_true, not_true_eq_false, not_false_eq_true, List.map_cons, List.map_nil, decide_not, true_implies, false_implies, implies_true, not_true, ne_eq, Bool.not_eq_eq_eq_not])

theorem ones (n : Nat) : (List.replicate n [D.int 1]).flatten = (List.replicate n (1 : Int)).map D.int := by
  induction n with
  | zero => rfl
  | succ n ih => simp only [List.replicate_succ, List.flatten_cons, ih, List.map_cons, List.cons_append, List.nil_append]
theorem split_all (many num : Int) (h1 : 1 ≤ num) (h2 : num ≤ 5) (h3 : num ≤ many) (h4 : many ≤ 1000) : (m__law_split [.bag, .val (.int many), .val (.int num)]).All fun o => ∃ xs : List Int, o = .val (.own (.lst (xs.map D.int))) ∧ xs.length = num.toNat ∧ ∀ x ∈ xs, 1 ≤ x ∧ x ≤ many := by
  unfold m__law_split fs__law_split
  walk_at "ev"
  refine yes ⟨by omega, by omega, by omega⟩ ?_
  refine yes ⟨by omega, by omega⟩ ?_
  rw [ones]
  walk_at "pl"
  refine T.All_mono (loop_inv (P := fun o => ∃ xs : List Int, o = .nx [.bag, .val (.int many), .val (.int num), .own (.lst (xs.map D.int)), .no] ∧ xs.length = num.toNat ∧ ∀ x ∈ xs, 1 ≤ x ∧ x ≤ many) (fun ds δ => ∃ xs : List Int, δ = [.bag, .val (.int many), .val (.int num), .own (.lst (xs.map D.int)), .no] ∧ xs.length = num.toNat ∧ ∀ x ∈ xs, 1 ≤ x ∧ x + ds.length ≤ 1 + (many - num)) ?_ ?_ _ _ ⟨List.replicate num.toNat 1, rfl, by simp, fun x hx => ?_⟩) fun o ho => ?_
  · rintro d ds δ ⟨xs, rfl, hl, hx⟩
    refine ⟨_, rfl, ?_⟩
    unfold b__law_split_1
    walk_at "ev"
    walk_at "pl"
    refine all_take (fun r r0 r1 => ?_) (by omega) (by omega)
    walk_at "ev"
    refine yes ⟨by omega, by omega⟩ ?_
    have hr : r.toNat < xs.length := by omega
    rw [List.getElem?_map, List.getElem?_eq_getElem hr]
    walk_at "ev"
    rw [List.length_map]
    refine yes hr ?_
    refine ⟨xs.set r.toNat (xs[r.toNat] + 1), by rw [List.map_set], by rw [List.length_set]; exact hl, fun x hx' => ?_⟩
    simp only [List.length_cons] at hx
    rcases List.mem_or_eq_of_mem_set hx' with z | z
    · have := hx x z; omega
    · have := hx _ (List.getElem_mem hr); omega
  · rintro δ ⟨xs, rfl, hl, hx⟩
    exact ⟨xs, rfl, hl, fun x h => by have := hx x h; simp only [List.length_nil] at this; omega⟩
  · have := List.eq_of_mem_replicate hx
    subst this
    rw [rngD_len]
    omega
  · obtain ⟨xs, rfl, hl, hx⟩ := ho
    walk_at "ev"
    exact ⟨xs, rfl, hl, hx⟩
theorem parts_lc {ns : List String} {deep : Nat} {rt : FM} {L : D} {many : Int} {r4 r5 : R} (ih : ∀ m : Int, 1 ≤ m → m ≤ many → (rt [.bag, .val L, .val (.int m), .val (.int deep)]).All fun o => ∃ c : Cnd, Fit ns deep c ∧ o = .val (.val c.d)) (xs : List Int) (hx : ∀ x ∈ xs, 1 ≤ x ∧ x ≤ many) (hl : xs.length ≤ 5) :
    (fLc (fgN 7) fYes (e__law_tree_c1 rt) [7] (xs.map D.int) [] [.bag, .val L, .val (.int many), .val (.int (deep + 1)), r4, r5, .no, .no, .no]).All fun p => p.2 = [.bag, .val L, .val (.int many), .val (.int (deep + 1)), r4, r5, .no, .no, .no] ∧ ∃ ps : List Cnd, p.1 = Cnd.ds ps ∧ ps.length = xs.length ∧ ∀ p ∈ ps, Fit ns deep p := by
  refine lc_all (Iv := fun ds acc => ∃ (ps : List Cnd) (rest : List Int), ds = rest.map D.int ∧ acc = Cnd.ds ps ∧ ps.length + rest.length = xs.length ∧ (∀ x ∈ rest, 1 ≤ x ∧ x ≤ many) ∧ ∀ p ∈ ps, Fit ns deep p) ?_ ?_ _ _ ?_
  · rintro d ds acc ⟨ps, rest, e1, e2, h1, h2, h3⟩
    cases rest with
    | nil => cases e1
    | cons k rest =>
      simp only [List.map_cons, List.cons.injEq] at e1
      obtain ⟨rfl, rfl⟩ := e1
      refine ⟨_, rfl, ?_⟩
      walk_at "ev"
      simp only [List.length_cons] at h1
      refine ⟨_, _, rfl, fun _ => ⟨by subst e2; rw [ds_len]; omega, ?_⟩, fun z => by cases z⟩
      unfold e__law_tree_c1
      walk_at "ev"
      rw [show (deep : Int) + 1 - 1 = deep by omega]
      walk_at "pl"
      have hk := h2 k (List.mem_cons_self ..)
      refine T.All_mono (ih k hk.1 hk.2) fun o ho => ?_
      obtain ⟨c, hc, rfl⟩ := ho
      walk_at "ev"
      refine ⟨_, _, rfl, rfl, ps ++ [c], rest, rfl, ?_, ?_, fun x hx => h2 x (List.mem_cons_of_mem _ hx), fun p hp => ?_⟩
      · subst e2; rw [ds_map, ds_map]; simp
      · simp only [List.length_append, List.length_cons, List.length_nil]; omega
      · rcases List.mem_append.mp hp with z | z
        · exact h3 p z
        · simp at z; subst z; exact hc
  · rintro acc ⟨ps, rest, e1, e2, h1, h2, h3⟩
    cases rest with
    | cons => cases e1
    | nil => exact ⟨rfl, ps, e2, by simpa using h1, h3⟩
  · exact ⟨[], xs, rfl, by simp only [Cnd.ds], by simp, hx, by simp⟩
theorem tree_all (ns : List String) (h0 : 0 < ns.length) (h1 : ns.length < 1000) : ∀ (deep n : Nat), deep + 1 ≤ n → ∀ many : Int, 1 ≤ many → many ≤ 1000 → (m__law_tree n [.bag, .val (nmD ns), .val (.int many), .val (.int deep)]).All fun o => ∃ c : Cnd, Fit ns deep c ∧ o = .val (.val c.d) := by
  have hsm := small_all ns h0 h1
  generalize nmD ns = L at *
  intro deep
  induction deep with
  | zero =>
    intro n hn many hm hm2
    obtain ⟨n, rfl⟩ := Nat.le.dest hn
    rw [Nat.add_comm, mS__law_tree]
    unfold fs__law_tree
    walk_at "ev"
    have fin : ∀ f : FR → T FR, (∀ c : Cnd, f (.val (.val c.d)) = .ret (.val (.val c.d))) → ((m__law_small [.bag, .val L]).bind f).All fun o => ∃ c : Cnd, Fit ns 0 c ∧ o = .val (.val c.d) := fun f hf => T.All_of hsm fun o ho => by
      obtain ⟨c, hc, rfl⟩ := ho
      rw [hf c, T.All_retE]
      exact ⟨c, hc, rfl⟩
    refine ⟨fun _ => ?_, fun _ => ⟨fun _ => ?_, fun z => absurd (by decide) z⟩⟩
    · walk_at "pl"
      refine T.All_mono hsm fun o ho => ?_
      obtain ⟨c, hc, rfl⟩ := ho
      walk_at "ev"
      exact ⟨c, hc, rfl⟩
    · walk_at "pl"
      refine T.All_mono hsm fun o ho => ?_
      obtain ⟨c, hc, rfl⟩ := ho
      walk_at "ev"
      exact ⟨c, hc, rfl⟩
  | succ deep ih =>
    intro n hn many hm hm2
    obtain ⟨n, rfl⟩ := Nat.le.dest (show 1 ≤ n by omega)
    rw [Nat.add_comm 1 n, mS__law_tree]
    have ih := fun (m : Int) (m1 : 1 ≤ m) (m2 : m ≤ many) => ih n (by omega) m m1 (by omega)
    generalize m__law_tree n = rt at ih ⊢
    rw [show ((deep + 1 : Nat) : Int) = (deep : Int) + 1 by omega]
    unfold fs__law_tree
    walk_at "ev"
    refine ⟨fun _ => ?_, fun hm' => ⟨fun z => absurd z (by omega), fun _ => ?_⟩⟩
    · walk_at "pl"
      refine T.All_mono hsm fun o ho => ?_
      obtain ⟨c, hc, rfl⟩ := ho
      walk_at "ev"
      exact ⟨c, hc.up (by omega), rfl⟩
    · walk_at "pl"
      refine all_take fun way w0 w1 => ?_
      walk_at "ev"
      walk_at "pl"
      refine all_take (fun k k0 k1 => ?_) (by split <;> omega) (by split <;> omega)
      have k5 : 2 + k ≤ 5 ∧ 2 + k ≤ many := by split at k1 <;> omega
      have hway : way = 0 ∨ way = 1 ∨ 2 ≤ way := by omega
      have nodes : ∀ (w : Int) (num : Int), w ≠ 0 → (w = 1 → ¬ 2 < many) → w < 9 → 0 ≤ w → 1 ≤ num → num ≤ 5 → num ≤ many → (fSq (fSet 6 (fComp (fiSeq (fCall m__law_split (fCons (fVar 0) (fCons (fVar 2) (fCons (fVar 5) fNil))))) (fgN 7) fYes (e__law_tree_c1 rt) [7]))
  (fSq (fIfS (fAnd (fTst (fCmp (cEqF false) (fVar 4) (fC (.int 1)))) (fTst (fCmp cGt (fVar 2) (fC (.int 2))))) (fRet (fTup (fCons (fC (.str "case")) (fCons (fCB bTupleF (fCons (fComp (fiRng1 (fCons (fBin gFdivF (fVar 5) (fC (.int 2))) fNil)) (fgN 8) fYes (e__law_tree_c2 rt) [8]) fNil)) (fCons (fIx (fVar 6) (fNeg (fC (.int 1)))) fNil))))) fNext)
  (fRet (fTup (fCons (fIf (fTst (fCmp cLt (fVar 4) (fC (.int 3)))) (fC (.str "first")) (fIx (fLst (fCons (fC (.str "all")) (fCons (fC (.str "any")) fNil))) (fBin gModF (fCB bIntF (fCons (fVar 4) fNil)) (fC (.int 2))))) (fCons (fCB bTupleF (fCons (fVar 6) fNil)) fNil))))) [.bag, .val L, .val (.int many), .val (.int (deep + 1)), .val (.int w), .val (.int num), .no, .no, .no]).All fun o => ∃ c : Cnd, Fit ns (deep + 1) c ∧ o = .rt (.val c.d) [] := by
        intro w num n0 n1 n9 np m1 m2 m3
        walk_at "ev"
        walk_at "pl"
        refine T.All_mono (split_all many num m1 m2 m3 hm2) fun o ho => ?_
        obtain ⟨xs, rfl, hl, hx⟩ := ho
        walk_at "ev"
        walk_at "pl"
        refine T.All_mono (parts_lc ih xs hx (by omega)) fun p hp => ?_
        obtain ⟨e1, ps, e2, h2, h3⟩ := hp
        obtain ⟨p1, p2⟩ := p
        simp only at e1 e2
        subst e1; subst e2
        have fin : ∀ kk : K, kOk kk ps.length → Fit ns (deep + 1) (.node kk ps) := fun kk hk => fit_node hk (by omega) h3
        walk_at "ev"
        have last : (w < 3 → ∃ c : Cnd, Fit ns (deep + 1) c ∧ SO.rt (R.val (D.tup [.str (Str.ofString "first"), .tup (Cnd.ds ps)])) [] = .rt (.val c.d) []) := fun _ => ⟨.node .fst ps, fin _ trivial, by simp only [Cnd.d, nodeD]⟩
        have hmod : w.fmod 2 = 0 ∨ w.fmod 2 = 1 := by
          rw [Int.fmod_eq_emod_of_nonneg _ (by decide)]; omega
        have tail : (w < 3 → ∃ c : Cnd, Fit ns (deep + 1) c ∧ SO.rt (R.val (D.tup [.str (Str.ofString "first"), .tup (Cnd.ds ps)])) [] = .rt (.val c.d) []) ∧ (¬ w < 3 → True) := ⟨last, fun _ => trivial⟩
        refine ⟨fun z => ⟨fun z2 => absurd z2 (n1 z), fun _ => ?_⟩, fun _ => ?_⟩
        · subst z
          walk_at "ev"
          exact last (by decide)
        · refine ⟨last, fun _ => ?_⟩
          rcases hmod with z | z
          · rw [z]
            walk_at "ev"
            exact ⟨.node .all ps, fin _ trivial, by simp only [Cnd.d, nodeD]⟩
          · rw [z]
            walk_at "ev"
            exact ⟨.node .any ps, fin _ trivial, by simp only [Cnd.d, nodeD]⟩
      have cases_ : ∀ (num : Int), (num = 3 ∨ num = 5) → num ≤ many → (fSq (fSet 6 (fComp (fiSeq (fCall m__law_split (fCons (fVar 0) (fCons (fVar 2) (fCons (fVar 5) fNil))))) (fgN 7) fYes (e__law_tree_c1 rt) [7]))
  (fSq (fIfS (fAnd (fTst (fCmp (cEqF false) (fVar 4) (fC (.int 1)))) (fTst (fCmp cGt (fVar 2) (fC (.int 2))))) (fRet (fTup (fCons (fC (.str "case")) (fCons (fCB bTupleF (fCons (fComp (fiRng1 (fCons (fBin gFdivF (fVar 5) (fC (.int 2))) fNil)) (fgN 8) fYes (e__law_tree_c2 rt) [8]) fNil)) (fCons (fIx (fVar 6) (fNeg (fC (.int 1)))) fNil))))) fNext)
  (fRet (fTup (fCons (fIf (fTst (fCmp cLt (fVar 4) (fC (.int 3)))) (fC (.str "first")) (fIx (fLst (fCons (fC (.str "all")) (fCons (fC (.str "any")) fNil))) (fBin gModF (fCB bIntF (fCons (fVar 4) fNil)) (fC (.int 2))))) (fCons (fCB bTupleF (fCons (fVar 6) fNil)) fNil))))) [.bag, .val L, .val (.int many), .val (.int (deep + 1)), .val (.int 1), .val (.int num), .no, .no, .no]).All fun o => ∃ c : Cnd, Fit ns (deep + 1) c ∧ o = .rt (.val c.d) [] := by
        intro num hnum m3
        walk_at "ev"
        walk_at "pl"
        refine T.All_mono (split_all many num (by omega) (by omega) m3 hm2) fun o ho => ?_
        obtain ⟨xs, rfl, hl, hx⟩ := ho
        walk_at "ev"
        walk_at "pl"
        refine T.All_mono (parts_lc ih xs hx (by omega)) fun p hp => ?_
        obtain ⟨e1, ps, e2, h2, h3⟩ := hp
        obtain ⟨p1, p2⟩ := p
        simp only at e1 e2
        subst e1; subst e2
        walk_at "ev"
        refine yes (by omega) ?_
        have hlog : (2 : Int).natAbs.log2 < 9000 := by decide
        have hfd : num.fdiv 2 = ((ps.length / 2 : Nat) : Int) := by
          rw [Int.fdiv_eq_ediv_of_nonneg _ (by decide)]; omega
        have hodd : ps.length % 2 = 1 := by omega
        rw [hfd]
        have hpl := pairs_lc (ds := Cnd.ds ps) (v := 8) (e := e__law_tree_c2 rt) (δ := [.bag, .val L, .val (.int many), .val (.int (deep + 1)), .val (.int 1), .val (.int num), .own (.lst (Cnd.ds ps)), .no, .no]) (fun j x y acc kk q1 q2 q3 => by
          have hj : j ≤ 100000 := by
            have := (List.getElem?_eq_some_iff.mp q1).1
            rw [ds_len] at this; omega
          have a1 := atI_dbl q1
          have a2 := atI_dbl1 q2
          have a3 := mul_two j hj
          unfold e__law_tree_c2
          walk_at "ev"
          simp only [a3, if_true]
          walk_at "ev"
          simp only [a1]
          walk_at "ev"
          simp only [a3, if_true]
          walk_at "ev"
          simp only [a2]
          walk_at "ev"
          simp only [q3, if_true]
          walk_at "ev") (Cnd.ds ps) [] [] 0 (by simp) rfl [] (by rw [ds_len]; simp only [List.length_nil]; omega)
        rw [ds_len] at hpl
        refine yes (by decide) ?_
        refine yes ⟨by omega, by omega⟩ ?_
        rw [Int.toNat_natCast]
        rw [show (((0 : Nat) : Int)) = 0 from rfl] at hpl
        rw [hpl]
        walk_at "ev"
        have hne : Cnd.ds ps ≠ [] := fun z => by have := ds_len ps; rw [z] at this; simp at this; omega
        rw [at_last hne]
        walk_at "ev"
        exact ⟨.node .cas ps, fit_node hodd (by omega) h3, by simp only [Cnd.d, nodeD]⟩
      rcases hway with rfl | rfl | hw2
      · walk_at "ev"
        rw [show (deep : Int) + 1 - 1 = deep by omega]
        walk_at "pl"
        refine T.All_mono (ih many hm (by omega)) fun o ho => ?_
        obtain ⟨c, hc, rfl⟩ := ho
        walk_at "ev"
        exact ⟨.node .not [c], fit_node rfl (by simp) (fun p hp => by rw [List.mem_singleton.mp hp]; exact hc), by simp [Cnd.d, Cnd.ds, nodeD, lastD]⟩
      · generalize (fSq (fSet 6 (fComp (fiSeq (fCall m__law_split (fCons (fVar 0) (fCons (fVar 2) (fCons (fVar 5) fNil))))) (fgN 7) fYes (e__law_tree_c1 rt) [7]))
  (fSq (fIfS (fAnd (fTst (fCmp (cEqF false) (fVar 4) (fC (.int 1)))) (fTst (fCmp cGt (fVar 2) (fC (.int 2))))) (fRet (fTup (fCons (fC (.str "case")) (fCons (fCB bTupleF (fCons (fComp (fiRng1 (fCons (fBin gFdivF (fVar 5) (fC (.int 2))) fNil)) (fgN 8) fYes (e__law_tree_c2 rt) [8]) fNil)) (fCons (fIx (fVar 6) (fNeg (fC (.int 1)))) fNil))))) fNext)
  (fRet (fTup (fCons (fIf (fTst (fCmp cLt (fVar 4) (fC (.int 3)))) (fC (.str "first")) (fIx (fLst (fCons (fC (.str "all")) (fCons (fC (.str "any")) fNil))) (fBin gModF (fCB bIntF (fCons (fVar 4) fNil)) (fC (.int 2))))) (fCons (fCB bTupleF (fCons (fVar 6) fNil)) fNil)))))) = tl at nodes cases_ ⊢
        walk_at "ev"
        refine ⟨fun h2m => ?_, fun h2m => ?_⟩
        · have mb : ∀ j : Int, (j = 0 ∨ j = 1) → mulB 2 j = true := fun j hj => mul_ok (e := 40) (sm_bg (k := 2) ⟨by decide, by decide⟩) ⟨by omega, by omega⟩ (by decide) (by decide)
          have go : ∀ num : Int, (num = 3 ∨ num = 5) → num ≤ many → (tl [R.bag, R.val L, R.val (D.int many), R.val (D.int (deep + 1)), R.val (D.int 1), R.val (D.int num), R.no, R.no, R.no]).All fun a => a.out.All fun o => ∃ c : Cnd, Fit ns (deep + 1) c ∧ o = FR.val (R.val c.d) := fun num hn hm => T.All_mono (cases_ num hn hm) fun o ho => by
            obtain ⟨c, hc, rfl⟩ := ho
            walk_at "ev"
            exact ⟨c, hc, rfl⟩
          refine ⟨fun h4 => yes (mb _ (by split <;> simp)) (go _ (by split <;> simp) (by split <;> omega)), fun h4 => yes (mb _ (.inl rfl)) (go _ (.inl rfl) (by omega))⟩
        · walk_at "pl"
          refine T.All_mono (nodes 1 (2 + k) (by decide) (fun _ => h2m) (by decide) (by decide) (by omega) (by omega) (by omega)) fun o ho => ?_
          obtain ⟨c, hc, rfl⟩ := ho
          walk_at "ev"
          exact ⟨c, hc, rfl⟩
      · generalize (fSq (fSet 6 (fComp (fiSeq (fCall m__law_split (fCons (fVar 0) (fCons (fVar 2) (fCons (fVar 5) fNil))))) (fgN 7) fYes (e__law_tree_c1 rt) [7]))
  (fSq (fIfS (fAnd (fTst (fCmp (cEqF false) (fVar 4) (fC (.int 1)))) (fTst (fCmp cGt (fVar 2) (fC (.int 2))))) (fRet (fTup (fCons (fC (.str "case")) (fCons (fCB bTupleF (fCons (fComp (fiRng1 (fCons (fBin gFdivF (fVar 5) (fC (.int 2))) fNil)) (fgN 8) fYes (e__law_tree_c2 rt) [8]) fNil)) (fCons (fIx (fVar 6) (fNeg (fC (.int 1)))) fNil))))) fNext)
  (fRet (fTup (fCons (fIf (fTst (fCmp cLt (fVar 4) (fC (.int 3)))) (fC (.str "first")) (fIx (fLst (fCons (fC (.str "all")) (fCons (fC (.str "any")) fNil))) (fBin gModF (fCB bIntF (fCons (fVar 4) fNil)) (fC (.int 2))))) (fCons (fCB bTupleF (fCons (fVar 6) fNil)) fNil)))))) = tl at nodes cases_ ⊢
        have e0 : ¬ way = 0 := by omega
        have e1 : ¬ way = 1 := by omega
        walk_at "ev"
        simp only [e0, e1, false_implies, true_and, not_false_eq_true, true_implies]
        walk_at "pl"
        refine T.All_mono (nodes way (2 + k) e0 (fun z => absurd z e1) (by omega) (by omega) (by omega) (by omega) (by omega)) fun o ho => ?_
        obtain ⟨c, hc, rfl⟩ := ho
        walk_at "ev"
        exact ⟨c, hc, rfl⟩
/-! ### columns, rows -/
theorem column_all (name : String) : (m__law_column [.bag, .val (.str (Str.ofString name))]).All fun o => ∃ c : Col, c.Ok ∧ c.name = name ∧ o = .val (.val c.d) := by
  unfold m__law_column fs__law_column
  walk_at "ev"
  walk_at "pl"
  refine all_take fun a a0 a1 => ?_
  walk_at "ev"
  walk_at "pl"
  refine all_take fun b b0 b1 => ?_
  walk_at "ev"
  walk_at "pl"
  refine all_take fun c c0 c1 => ?_
  walk_at "ev"
  walk_at "pl"
  refine all_take fun d d0 d1 => ?_
  walk_at "ev"
  exact ⟨⟨name, a - 4, a - 4 + b, decide (c = 0), decide (d = 0)⟩, by unfold Col.Ok; simp only; omega, rfl, rfl⟩
theorem values_eq (c : Col) (h : c.Ok) : m__law_values [.val c.d] = .ret (.val (.own (.lst (c.vals.map Val.d)))) := by
  obtain ⟨name, lo, hi, b1, b2⟩ := c
  unfold Col.Ok at h
  simp only at h
  unfold m__law_values fs__law_values
  simp only [Col.d, Col.vals]
  have n1 : ¬ lo + 40 < hi := by omega
  have n2 : ¬ 40 < hi - lo := by omega
  walk_at "ev"
  simp only [n1, n2, if_false]
  rw [if_pos ⟨by omega, by omega, by omega, by omega, by omega⟩]
  walk_at "ev"
  try simp only [n2, if_false]
  walk_at "ev"
  rw [rng_vals]
  have hl : (List.map Val.d (List.map (fun (i : Nat) => Val.int (lo + (i : Int))) (List.range (hi + 1 - lo).toNat))).length ≤ 11 := by simp; omega
  cases b1 <;> cases b2 <;> simp only [List.length_cons, List.length_nil, if_true, if_false, Bool.false_eq_true] <;> walk_at "ev" <;> rw [if_pos (by omega)] <;> walk_at "ev" <;>
    (try rw [if_pos (by simp only [List.length_append, List.length_cons, List.length_nil, List.length_flatten, List.map_cons, List.map_nil, List.sum_cons, List.sum_nil, List.replicate, Int.toNat_one, Int.toNat_zero]; omega)]) <;> walk_at "ev" <;> simp [Val.d] <;> omega
theorem rows_in (c : Col) (r : CN.Row) (r0 : R) (hr : r.names.Nodup) (hc : c.name ∉ r.names) (hrl : r.length ≤ 1000) : ∀ (vs : List Val) (acc : List D), acc.length + vs.length ≤ 1000000 →
    fLoop (fgN 4) b__law_longer_rows_1 (vs.map Val.d) [r0, .val c.d, .own (.lst acc), .val r.d, .no] = .ret (.nx [r0, .val c.d, .own (.lst (acc ++ vs.map fun v => Row.d (r ++ [(c.name, v)]))), .val r.d, .no])
  | [], acc, h => by simp only [List.map_nil, List.append_nil]; rfl
  | v :: vs, acc, h => by
    simp only [List.length_cons] at h
    rw [List.map_cons, v_loopC]
    have ih := rows_in c r r0 hr hc hrl vs (acc ++ [Row.d (r ++ [(c.name, v)])]) (by simp only [List.length_append, List.length_cons, List.length_nil]; omega)
    have hm := row_more r c.name v hr hc
    rw [v_dAL] at hm
    have hlen : (pairsOf (rowK r)).length ≤ 16777215 := by unfold pairsOf rowK; rw [List.length_map, List.length_map]; omega
    have ha : acc.length < 16777216 := by omega
    unfold b__law_longer_rows_1 at ih ⊢
    simp only [Col.d] at ih ⊢
    walk_at "ew"
    rw [if_pos hlen, hm]
    walk_at "ew"
    simp only [ha, if_true]
    walk_at "ew"
    rw [ih]
    simp only [List.append_assoc, List.cons_append, List.nil_append]
theorem rows_out (c : Col) (ok : c.Ok) (r0 : R) : ∀ (rs : List CN.Row) (acc : List D), (∀ r ∈ rs, r.names.Nodup ∧ c.name ∉ r.names ∧ r.length ≤ 1000) → acc.length + rs.length * 8 ≤ 1000000 →
    fLoop (fgN 3) b__law_longer_rows_2 (rs.map Row.d) [r0, .val c.d, .own (.lst acc), .no, .no] = .ret (.nx [r0, .val c.d, .own (.lst (acc ++ (longer rs c).map Row.d)), .no, .no])
  | [], acc, _, h => by simp only [longer, List.flatMap_nil, List.map_nil, List.append_nil]; rfl
  | r :: rs, acc, hr, h => by
    simp only [List.length_cons] at h
    rw [List.map_cons, v_loopC]
    obtain ⟨g1, g2, g3⟩ := hr r (List.mem_cons_self ..)
    have hv := values_eq c ok
    have hvl := (Col.vals_len ok).1
    have hin := rows_in c r r0 g1 g2 g3 c.vals acc (by omega)
    have ih := rows_out c ok r0 rs (acc ++ c.vals.map fun v => Row.d (r ++ [(c.name, v)])) (fun q hq => hr q (List.mem_cons_of_mem _ hq)) (by simp only [List.length_append, List.length_map]; omega)
    have e : (longer (r :: rs) c).map Row.d = (c.vals.map fun v => Row.d (r ++ [(c.name, v)])) ++ (longer rs c).map Row.d := by
      unfold longer
      rw [List.flatMap_cons, List.map_append, List.map_map]; rfl
    generalize c.d = cd at *
    unfold b__law_longer_rows_2 at ih ⊢
    walk_at "ew"
    rw [hv]
    walk_at "ew"
    rw [hin]
    walk_at "ew"
    rw [ih, e, List.append_assoc]
theorem longer_eq (c : Col) (ok : c.Ok) (rs : List CN.Row) (hr : ∀ r ∈ rs, r.names.Nodup ∧ c.name ∉ r.names ∧ r.length ≤ 1000) (hl : rs.length ≤ 100000) : m__law_longer_rows [.val (.lst (rs.map Row.d)), .val c.d] = .ret (.val (.own (.lst ((longer rs c).map Row.d)))) := by
  have h := rows_out c ok (.val (.lst (rs.map Row.d))) rs [] hr (by simp only [List.length_nil]; omega)
  unfold m__law_longer_rows fs__law_longer_rows
  generalize c.d = cd at *
  walk_at "ew"
  rw [h]
  walk_at "ew"
theorem every_loop (r0 : R) : ∀ (cs : List Col) (ns : List String) (rs : List CN.Row), (∀ c ∈ cs, c.Ok) → RowsOf ns rs → (ns ++ cs.map (·.name)).Nodup → ns.length + cs.length ≤ 5 → rs.length * 8 ^ cs.length ≤ 100000 →
    fLoop (fgN 2) b__law_every_row_1 (cs.map Col.d) [r0, .own (.lst (rs.map Row.d)), .no] = .ret (.nx [r0, .own (.lst ((cs.foldl longer rs).map Row.d)), .no])
  | [], ns, rs, _, _, _, _, _ => rfl
  | c :: cs, ns, rs, hc, hr, hn, hl, hz => by
    have ok := hc c (List.mem_cons_self ..)
    have h8 : 1 ≤ 8 ^ cs.length := Nat.pos_of_ne_zero (by simp)
    simp only [List.length_cons, Nat.pow_succ] at hl hz
    have hz2 : rs.length * 8 * 8 ^ cs.length ≤ 100000 := by rw [Nat.mul_assoc, Nat.mul_comm 8]; exact hz
    have hz3 : rs.length ≤ 100000 := Nat.le_trans (Nat.le_mul_of_pos_right _ (by omega)) hz
    have hle := longer_eq c ok rs (fun r h => by
      obtain ⟨g1, g2⟩ := hr r h
      rw [List.map_cons, List.nodup_append] at hn
      refine ⟨by rw [g1]; exact hn.1, fun z => ?_, ?_⟩
      · rw [g1] at z
        exact hn.2.2 _ z _ (List.mem_cons_self ..) rfl
      · have : r.length = ns.length := by rw [← g1]; unfold Row.names; rw [List.length_map]
        omega) hz3
    have ih := every_loop r0 cs (ns ++ [c.name]) (longer rs c) (fun x hx => hc x (List.mem_cons_of_mem _ hx)) (longer_rows hr ok) (by rw [List.append_assoc]; exact hn) (by simp only [List.length_append, List.length_cons, List.length_nil]; omega)
      (Nat.le_trans (Nat.mul_le_mul_right _ (longer_len ok)) hz2)
    rw [List.map_cons, v_loopC, List.foldl_cons]
    unfold b__law_every_row_1 at ih ⊢
    walk_at "ew"
    rw [hle]
    walk_at "ew"
    rw [ih]
theorem every_eq (cs : List Col) (hc : ∀ c ∈ cs, c.Ok) (hn : (cs.map (·.name)).Nodup) (hl : cs.length ≤ 5) : m__law_every_row [.val (.lst (cs.map Col.d))] = .ret (.val (.own (.lst ((every cs).map Row.d)))) := by
  have h := every_loop (.val (.lst (cs.map Col.d))) cs [] [[]] hc (fun r hr => by simp at hr; subst hr; exact ⟨rfl, fun p hp => by cases hp⟩) (by simpa using hn) (by simpa using hl) (by
    have : 8 ^ cs.length ≤ 8 ^ 5 := Nat.pow_le_pow_right (by decide) hl
    simp only [List.length_cons, List.length_nil, Nat.zero_add, Nat.one_mul]; omega)
  unfold m__law_every_row fs__law_every_row
  walk_at "ew"
  rw [show ([D.dic []] : List D) = ([[]] : List CN.Row).map Row.d from rfl, h]
  walk_at "ew"
  rfl
theorem every_rows : ∀ (cs : List Col) (ns : List String) (rs : List CN.Row), (∀ c ∈ cs, c.Ok) → RowsOf ns rs → RowsOf (ns ++ cs.map (·.name)) (cs.foldl longer rs)
  | [], ns, rs, _, h => by simpa using h
  | c :: cs, ns, rs, hc, h => by
    rw [List.foldl_cons, List.map_cons]
    have := every_rows cs (ns ++ [c.name]) (longer rs c) (fun x hx => hc x (List.mem_cons_of_mem _ hx)) (longer_rows h (hc c (List.mem_cons_self ..)))
    rwa [List.append_assoc] at this
theorem every_ok {cs : List Col} (hc : ∀ c ∈ cs, c.Ok) : RowsOf (cs.map (·.name)) (every cs) := by
  have := every_rows cs [] [[]] hc (fun r hr => by simp at hr; subst hr; exact ⟨rfl, fun p hp => by cases hp⟩)
  simpa only [List.nil_append, every] using this
end CN.PK28

set_option maxHeartbeats 1000000
namespace CN.PK28
open PySem PySem.Spec L2 DL K28
local macro_rules | `(tactic| walk_at "ev") => `(tactic| try simp only [v_lc2N, v_lc2C, v_lc2G, v_lc2T, v_lc2I, v_allApp, v_valsApp, v_ret, v_fail, v_bind, v_on, v_onE, v_go, v_goE, v_of, v_ofN, v_ofI, v_useV, v_useO, v_useP, v_useKV, v_useKO, v_peekV, v_peekO, v_peekP, v_lookV, v_lookO, v_handV, v_handO, v_handB, v_handP, v_handKV, v_handKO, v_handKB, v_allN, v_allC, v_lkN, v_lkC, v_var, v_varV, v_varO, v_varB, v_varM, v_c, v_bin, v_cmp, v_tst, v_bl, v_int, v_and, v_or, v_not, v_andV, v_orV, v_notV, v_if, v_nil, v_cons, v_vals, v_tup, v_lst, v_neg, v_ix, v_oN, v_oS, v_sl, v_cb, v_lrng, v_dix, v_dixI, v_dixS, v_eS, v_next, v_break, v_cont, v_sq, v_thN, v_thR, v_thB, v_thC, v_thE, v_expr, v_retS, v_rV, v_rO, v_rB, v_rP, v_rKV, v_rKO, v_rKB, v_retN, v_ifS, v_set, v_sV, v_sO, v_sB, v_sP, v_sKV, v_sKO, v_sKB, v_asg, v_optS, v_gN, v_gT, v_gC, v_gNil, v_loopN, v_loopC, v_turnK, v_tuN, v_tuC, v_tuB, v_tuR, v_tuE, v_for, v_iW, v_wipe, v_wN, v_wR, v_wB, v_wC, v_wE, v_iS, v_r1, v_r2, v_r1K, v_r2K, v_en, v_enK, v_lcN, v_lcC, v_lcG, v_lcT, v_lcE, v_yes, v_comp, v_app, v_appG, v_appF, v_appK, v_wrOf, v_wrO, v_wrB, v_wrAsO, v_wrAsB, v_bor0, v_bor1, v_bor2, v_bor3, v_bor4, v_bor5, v_kp0, v_kp1, v_retM, v_rmV, v_rmO, v_rmP, v_rmKV, v_rmKO, v_retNM, v_lookB, v_callB, v_callBF, v_callBW, v_backB, v_lendP, v_lendV, v_lendG, v_lfP, v_lfV, v_lfO, v_lfB, v_ubN, v_ubC, v_callN, v_callNS, v_callNF, v_backNM, v_backNV, v_last, v_lo1, v_lo2, v_lo3, v_mkM, v_outMN, v_outMR, v_outME, v_outB, v_call, v_callX, v_callF, v_callXF, v_callK, v_callXK, v_callXE, v_mk, v_outN, v_outR, v_outE, v_take, v_rai, v_raiK, v_try, v_tryN, v_tryR, v_tryB, v_tryC, v_tryE, v_suN, v_suR, v_suB, v_suC, v_xf, v_xfK, v_pubO, v_pubV, v_pubB, v_pubP, v_ixL, v_ixT, v_ixS, v_slL, v_slT, v_slS, v_addI, v_addS, v_addL, v_addT, v_sub, v_mod, v_pow, v_shr, v_fdiv, v_mulI, v_mulL, v_cI, v_cIs, v_cES, v_cNS, v_dinI, v_dinS, v_lenL, v_lenT, v_lenS, v_intI, v_intB, v_abs, v_max2, v_min2, v_listL, v_listT, v_tupleL, v_tupleT, v_itN, v_itI, v_itS, v_itB, v_itL, v_itT, v_itD, v_par, v_putN, v_putC, v_inL, v_inT, v_ngT, v_ngF, v_inDN, v_inDC, v_flN, v_flB, v_flI, v_flS, v_flT, v_flL, v_isi, v_ext, v_extO, v_putOwn, v_putOwn1, v_putOwnS, v_putOwnI, v_putOwnN, v_extG, v_insO, v_insK, v_rev, v_lstO, v_star, v_r3, v_r3K, v_aug, v_augO, v_augR, v_augRK, v_augAK, v_augB, v_augBK, v_get, v_isDic, v_getKS, v_getKI, v_disp, v_ppN, v_ppC, v_dnew, v_dictK, v_try0, v_t0N, v_t0R, v_t0B, v_t0C, v_t0E, v_s0N, v_s0R, v_s0B, v_s0C, v_kix, v_kin, v_kget, v_strO, v_items, v_itemsK, v_dAL, v_dAT, v_dAD, v_ins, v_setIx, v_setIxS, v_setIx0, v_setIxK, v_setIx1, v_setIx2, v_chain, v_bAny, v_bAll, v_bSum, v_comp2, v_repr, v_ty_int_int, v_ty_int_bool, v_ty_int_str, v_ty_int_list, v_ty_int_tuple, v_ty_int_dict, v_ty_int_NoneType, v_ty_bool_int, v_ty_bool_bool, v_ty_bool_str, v_ty_bool_list, v_ty_bool_tuple, v_ty_bool_dict, v_ty_bool_NoneType, v_ty_str_int, v_ty_str_bool, v_ty_str_str, v_ty_str_list, v_ty_str_tuple, v_ty_str_dict, v_ty_str_NoneType, v_ty_list_int, v_ty_list_bool, v_ty_list_str, v_ty_list_list, v_ty_list_tuple, v_ty_list_dict, v_ty_list_NoneType, v_ty_tuple_int, v_ty_tuple_bool, v_ty_tuple_str, v_ty_tuple_list, v_ty_tuple_tuple, v_ty_tuple_dict, v_ty_tuple_NoneType, v_ty_dict_int, v_ty_dict_bool, v_ty_dict_str, v_ty_dict_list, v_ty_dict_tuple, v_ty_dict_dict, v_ty_dict_NoneType, keysD, tabD, Option.isSome_some, Option.isSome_none, Option.getD_some, Option.getD_none, keyD, putD, mergeD, List.foldl_cons, List.foldl_nil, List.any_cons, List.any_nil, Bool.or_false, Bool.false_or, Bool.or_true, Bool.true_or, valD, List.find?_cons, List.find?_nil, R.val.injEq, v_itemsL, v_itemsT, gt, st, wipeD, backD, R.stay, vals?, startK, v_at0, v_at1, v_at2, v_at3, v_at4, v_at5, v_at6, v_at7, v_atL, v_atM1, v_atM2, v_atM3, T.bind_ret, T.bind_fail, T.bind_ite, T.bind_any, T.All_retE, T.All_anyE, T.All_failE, T.All_iteE, ite_ap, cEqF, okk, eqD, eqAll, ofS_inj, ofS_beq, strOk_ofS, Option.bind_some, Option.map_some, Option.map_none, Sum.inr.injEq, Sum.inl.injEq, List.length_cons, List.length_nil, if_true, if_false, ite_true, ite_false, Bool.not_true, Bool.not_false, beq_self_eq_true, beq_iff_eq, decide_true, decide_false, decide_eq_true_eq, and_self, and_true, true_and, and_false, false_and, Bool.false_eq_true, Bool.true_eq_false, reduceIte, reduceCtorEq, Nat.reduceAdd, Nat.reduceEqDiff, Nat.reduceLeDiff, Nat.reduceLT, String.reduceEq, Int.reduceNeg, Int.reduceLE, Int.reduceLT, Int.reduceEq, Int.reduceToNat, Int.reducePow, Int.reduceAdd, Int.reduceSub, Int.reduceMul, Int.reduceAbs, Int.natAbs_neg, Nat.reducePow, Bool.and_true, Bool.true_and, Bool.and_false, Bool.false_and, List.lookup, sizeLine_eq, Option.some.injEq, List.all_cons, List.all_nil, List.nil_append, List.cons_append, Bool.not_eq_true', Bool.and_eq_true, not_true_eq_false, not_false_eq_true, List.map_cons, List.map_nil, decide_not, true_implies, false_implies, implies_true, not_true, ne_eq, Bool.not_eq_eq_eq_not])
local macro_rules | `(tactic| walk_at "pl") => `(tactic| repeat (with_reducible refine T.All_bind.mpr ?_))
local macro_rules | `(tactic| walk_at "ew") => `(tactic| try simp only [v_lc2N, v_lc2C, v_lc2G, v_lc2T, v_lc2I, v_allApp, v_valsApp, v_ret, v_fail, v_bind, v_on, v_onE, v_go, v_goE, v_of, v_ofN, v_ofI, v_useV, v_useO, v_useP, v_useKV, v_useKO, v_peekV, v_peekO, v_peekP, v_lookV, v_lookO, v_handV, v_handO, v_handB, v_handP, v_handKV, v_handKO, v_handKB, v_allN, v_allC, v_lkN, v_lkC, v_var, v_varV, v_varO, v_varB, v_varM, v_c, v_bin, v_cmp, v_tst, v_bl, v_int, v_and, v_or, v_not, v_andV, v_orV, v_notV, v_if, v_nil, v_cons, v_vals, v_tup, v_lst, v_neg, v_ix, v_oN, v_oS, v_sl, v_cb, v_lrng, v_dix, v_dixI, v_dixS, v_eS, v_next, v_break, v_cont, v_sq, v_thN, v_thR, v_thB, v_thC, v_thE, v_expr, v_retS, v_rV, v_rO, v_rB, v_rP, v_rKV, v_rKO, v_rKB, v_retN, v_ifS, v_set, v_sV, v_sO, v_sB, v_sP, v_sKV, v_sKO, v_sKB, v_asg, v_optS, v_gN, v_gT, v_gC, v_gNil, v_loopN, v_loopC, v_turnK, v_tuN, v_tuC, v_tuB, v_tuR, v_tuE, v_for, v_iW, v_wipe, v_wN, v_wR, v_wB, v_wC, v_wE, v_iS, v_r1, v_r2, v_r1K, v_r2K, v_en, v_enK, v_lcN, v_lcC, v_lcG, v_lcT, v_lcE, v_yes, v_comp, v_app, v_appG, v_appF, v_appK, v_wrOf, v_wrO, v_wrB, v_wrAsO, v_wrAsB, v_bor0, v_bor1, v_bor2, v_bor3, v_bor4, v_bor5, v_kp0, v_kp1, v_retM, v_rmV, v_rmO, v_rmP, v_rmKV, v_rmKO, v_retNM, v_lookB, v_callB, v_callBF, v_callBW, v_backB, v_lendP, v_lendV, v_lendG, v_lfP, v_lfV, v_lfO, v_lfB, v_ubN, v_ubC, v_callN, v_callNS, v_callNF, v_backNM, v_backNV, v_last, v_lo1, v_lo2, v_lo3, v_mkM, v_outMN, v_outMR, v_outME, v_outB, v_call, v_callX, v_callF, v_callXF, v_callK, v_callXK, v_callXE, v_mk, v_outN, v_outR, v_outE, v_take, v_rai, v_raiK, v_try, v_tryN, v_tryR, v_tryB, v_tryC, v_tryE, v_suN, v_suR, v_suB, v_suC, v_xf, v_xfK, v_pubO, v_pubV, v_pubB, v_pubP, v_ixL, v_ixT, v_ixS, v_slL, v_slT, v_slS, v_addI, v_addS, v_addL, v_addT, v_sub, v_mod, v_pow, v_shr, v_fdiv, v_mulI, v_mulL, v_cI, v_cIs, v_cES, v_cNS, v_dinI, v_dinS, v_lenL, v_lenT, v_lenS, v_intI, v_intB, v_abs, v_max2, v_min2, v_listL, v_listT, v_tupleL, v_tupleT, v_itN, v_itI, v_itS, v_itB, v_itL, v_itT, v_itD, v_par, v_putN, v_putC, v_inL, v_inT, v_ngT, v_ngF, v_inDN, v_inDC, v_flN, v_flB, v_flI, v_flS, v_flT, v_flL, v_isi, v_ext, v_extO, v_putOwn, v_putOwn1, v_putOwnS, v_putOwnI, v_putOwnN, v_extG, v_insO, v_insK, v_rev, v_lstO, v_star, v_r3, v_r3K, v_aug, v_augO, v_augR, v_augRK, v_augAK, v_augB, v_augBK, v_get, v_isDic, v_getKS, v_getKI, v_disp, v_ppN, v_ppC, v_dnew, v_dictK, v_try0, v_t0N, v_t0R, v_t0B, v_t0C, v_t0E, v_s0N, v_s0R, v_s0B, v_s0C, v_kix, v_kin, v_kget, v_strO, v_items, v_itemsK, v_dAL, v_dAT, v_dAD, v_ins, v_setIx, v_setIxS, v_setIx0, v_setIxK, v_setIx1, v_setIx2, v_chain, v_bAny, v_bAll, v_bSum, v_comp2, v_repr, v_ty_int_int, v_ty_int_bool, v_ty_int_str, v_ty_int_list, v_ty_int_tuple, v_ty_int_dict, v_ty_int_NoneType, v_ty_bool_int, v_ty_bool_bool, v_ty_bool_str, v_ty_bool_list, v_ty_bool_tuple, v_ty_bool_dict, v_ty_bool_NoneType, v_ty_str_int, v_ty_str_bool, v_ty_str_str, v_ty_str_list, v_ty_str_tuple, v_ty_str_dict, v_ty_str_NoneType, v_ty_list_int, v_ty_list_bool, v_ty_list_str, v_ty_list_list, v_ty_list_tuple, v_ty_list_dict, v_ty_list_NoneType, v_ty_tuple_int, v_ty_tuple_bool, v_ty_tuple_str, v_ty_tuple_list, v_ty_tuple_tuple, v_ty_tuple_dict, v_ty_tuple_NoneType, v_ty_dict_int, v_ty_dict_bool, v_ty_dict_str, v_ty_dict_list, v_ty_dict_tuple, v_ty_dict_dict, v_ty_dict_NoneType, keysD, tabD, Option.isSome_some, Option.isSome_none, Option.getD_some, Option.getD_none, keyD, List.foldl_cons, List.foldl_nil, List.any_cons, List.any_nil, Bool.or_false, Bool.false_or, Bool.or_true, Bool.true_or, R.val.injEq, v_itemsL, v_itemsT, gt, st, wipeD, backD, R.stay, vals?, startK, v_at0, v_at1, v_at2, v_at3, v_at4, v_at5, v_at6, v_at7, v_atL, v_atM1, v_atM2, v_atM3, T.bind_ret, T.bind_fail, T.bind_ite, T.bind_any, T.All_retE, T.All_anyE, T.All_failE, T.All_iteE, ite_ap, cEqF, okk, eqD, eqAll, ofS_inj, ofS_beq, strOk_ofS, Option.bind_some, Option.map_some, Option.map_none, Sum.inr.injEq, Sum.inl.injEq, List.length_cons, List.length_nil, if_true, if_false, ite_true, ite_false, Bool.not_true, Bool.not_false, beq_self_eq_true, beq_iff_eq, decide_true, decide_false, decide_eq_true_eq, and_self, and_true, true_and, and_false, false_and, Bool.false_eq_true, Bool.true_eq_false, reduceIte, reduceCtorEq, Nat.reduceAdd, Nat.reduceEqDiff, Nat.reduceLeDiff, Nat.reduceLT, String.reduceEq, Int.reduceNeg, Int.reduceLE, Int.reduceLT, Int.reduceEq, Int.reduceToNat, Int.reducePow, Int.reduceAdd, Int.reduceSub, Int.reduceMul, Int.reduceAbs, Int.natAbs_neg, Nat.reducePow, Bool.and_true, Bool.true_and, Bool.and_false, Bool.false_and, List.lookup, sizeLine_eq, Option.some.injEq, List.all_cons, List.all_nil, List.nil_append, List.cons_append, Bool.not_eq_true', Bool.and_eq_true, not_true_eq_false, not_false_eq_true, List.map_cons, List.map_nil, decide_not, true_implies, false_implies, implies_true, not_true, ne_eq, Bool.not_eq_eq_eq_not])

/-! ### turned about -/
theorem turn_lc {rt : FM} {r0 r1 : R} : ∀ (ps : List Cnd) (acc : List D), (∀ p ∈ ps, rt [.val p.d] = .ret (.val (.val p.turn.d))) → acc.length + ps.length ≤ 100000 →
    fLc (fgN 2) fYes (fCall rt (fCons (fVar 2) fNil)) [2] (Cnd.ds ps) acc [r0, r1, .no, .no, .no] = .ret (acc ++ Cnd.ds (Cnd.turns ps), [r0, r1, .no, .no, .no])
  | [], acc, _, _ => by simp only [Cnd.turns, Cnd.ds, List.append_nil]; rfl
  | p :: ps, acc, h, hl => by
    simp only [List.length_cons] at hl
    have ih := turn_lc (r0 := r0) (r1 := r1) ps (acc ++ [p.turn.d]) (fun q hq => h q (List.mem_cons_of_mem _ hq)) (by simp only [List.length_append, List.length_cons, List.length_nil]; omega)
    have hp := h p (List.mem_cons_self ..)
    have ha : acc.length < 16777216 := by omega
    simp only [Cnd.ds, v_lcC]
    walk_at "ev"
    rw [hp]
    walk_at "ev"
    simp only [ha, if_true]
    rw [ih]
    simp only [Cnd.turns, Cnd.ds, List.append_assoc, List.cons_append, List.nil_append]
theorem turn_cas {rt : FM} {r0 r1 : R} : ∀ (ps : List Cnd) (acc : List D), ps.length % 2 = 1 → (∀ p ∈ ps, rt [.val p.d] = .ret (.val (.val p.turn.d))) → acc.length + ps.length ≤ 100000 →
    fLc (fgT 2 (fgCons (fgN 3) (fgCons (fgN 4) fgNil))) fYes (fTup (fCons (fVar 3) (fCons (fCall rt (fCons (fVar 4) fNil)) fNil))) [3, 4] (pairsU (Cnd.ds ps)) acc [r0, r1, .no, .no, .no] = .ret (acc ++ pairsU (Cnd.ds (Cnd.turnC ps)), [r0, r1, .no, .no, .no])
  | [], acc, ho, _, _ => by simp at ho
  | [e], acc, _, _, _ => by simp only [Cnd.turnC, Cnd.ds, pairsU, List.append_nil]; rfl
  | w :: t :: ps, acc, ho, h, hl => by
    simp only [List.length_cons] at hl ho
    have ih := turn_cas (r0 := r0) (r1 := r1) ps (acc ++ [.tup [w.d, t.turn.d]]) (by omega) (fun q hq => h q (by simp [hq])) (by simp only [List.length_append, List.length_cons, List.length_nil]; omega)
    have hp := h t (by simp)
    have ha : acc.length < 16777216 := by omega
    simp only [Cnd.ds, pairsU, v_lcC]
    walk_at "ev"
    rw [hp]
    walk_at "ev"
    simp only [ha, if_true]
    rw [ih]
    simp only [Cnd.turnC, Cnd.ds, pairsU, List.append_assoc, List.cons_append, List.nil_append]
theorem turn_last : ∀ {ps : List Cnd}, ps.length % 2 = 1 → ∃ e ∈ ps, lastD (Cnd.ds ps) = e.d ∧ lastD (Cnd.ds (Cnd.turnC ps)) = e.turn.d
  | [], h => by simp at h
  | [e], _ => ⟨e, by simp, by simp [Cnd.ds, lastD], by simp [Cnd.turnC, Cnd.ds, lastD]⟩
  | w :: t :: ps, h => by
    have hr : ps.length % 2 = 1 := by simp only [List.length_cons] at h; omega
    obtain ⟨e, he, h1, h2⟩ := turn_last hr
    have last2 : ∀ (a b : D) (ds : List D), ds ≠ [] → lastD (a :: b :: ds) = lastD ds := fun a b ds hne => by
      unfold lastD
      cases ds with
      | nil => exact absurd rfl hne
      | cons x xs => simp [List.getLast?_cons_cons]
    refine ⟨e, by simp [he], ?_, ?_⟩
    · simp only [Cnd.ds]
      rw [last2 _ _ _ (fun z => by have := ds_len ps; rw [z] at this; simp at this; omega)]
      exact h1
    · simp only [Cnd.turnC, Cnd.ds]
      rw [last2 _ _ _ (fun z => by have := ds_len (Cnd.turnC ps); rw [z, turnC_len] at this; simp at this; omega)]
      exact h2
theorem turned_eq (ns : List String) : ∀ c : Cnd, c.Wf ns → c.lv + c.nd ≤ 10000 → ∀ n, c.dep + 1 ≤ n → m_turned n [.val c.d] = .ret (.val (.val c.turn.d)) := by
  refine Cnd.ind (fun l hw hs n hn => ?_) (fun k ps ih hw hs n hn => ?_)
  · obtain ⟨n, rfl⟩ := Nat.le.dest (show 1 ≤ n by omega)
    rw [Nat.add_comm, mS_turned]
    unfold fs_turned
    cases l with
    | alw a =>
      have := turned_get a
      simp only [Cnd.d, Leaf.d, Cnd.turn]
      walk_at "ew"
      rw [this]
    | emp c => simp only [Cnd.d, Leaf.d, Cnd.turn, Cnd.ds, nodeD, lastD, List.getLast?_singleton, Option.getD_some]; walk_at "ew"
    | num c => simp only [Cnd.d, Leaf.d, Cnd.turn, Cnd.ds, nodeD, lastD, List.getLast?_singleton, Option.getD_some]; walk_at "ew"
    | ask c ss g m => simp only [Cnd.d, Leaf.d, Cnd.turn, Cnd.ds, nodeD, lastD, List.getLast?_singleton, Option.getD_some]; walk_at "ew"
  · simp only [Cnd.dep] at hn
    simp only [Cnd.lv, Cnd.nd] at hs
    simp only [Cnd.Wf] at hw
    have hws := wfs_iff.mp hw.2
    have hd : ∀ c ∈ ps, c.dep ≤ Cnd.deps ps := deps_le.mp (Nat.le_refl _)
    have hl := len_sz ps
    obtain ⟨n, rfl⟩ := Nat.le.dest (show 1 ≤ n by omega)
    rw [Nat.add_comm, mS_turned]
    have hp : ∀ p ∈ ps, m_turned n [.val p.d] = .ret (.val (.val p.turn.d)) := fun p hp => ih p hp (hws p hp) (by have := mem_sz hp; omega) n (by have := hd p hp; omega)
    generalize m_turned n = rt at hp ⊢
    unfold fs_turned
    cases k with
    | all =>
      simp only [Cnd.d, nodeD, Cnd.turn]
      walk_at "ew"
      unfold e_turned_c1
      rw [turn_lc ps [] hp (by simp only [List.length_nil]; omega)]
      walk_at "ew"
    | any =>
      simp only [Cnd.d, nodeD, Cnd.turn]
      walk_at "ew"
      unfold e_turned_c1
      rw [turn_lc ps [] hp (by simp only [List.length_nil]; omega)]
      walk_at "ew"
    | fst =>
      simp only [Cnd.d, nodeD, Cnd.turn]
      walk_at "ew"
      unfold e_turned_c3
      rw [turn_lc ps [] hp (by simp only [List.length_nil]; omega)]
      walk_at "ew"
    | cas =>
      obtain ⟨e, he, l1, l2⟩ := turn_last (ps := ps) hw.1
      simp only [Cnd.d, nodeD, Cnd.turn]
      walk_at "ew"
      unfold e_turned_c2
      rw [turn_cas ps [] hw.1 hp (by simp only [List.length_nil]; omega)]
      walk_at "ew"
      rw [l1, hp e he, l2]
      walk_at "ew"
    | not =>
      match ps, hw.1 with
      | [p], _ =>
        simp only [Cnd.d, nodeD, Cnd.turn, Cnd.ds, lastD, List.getLast?_singleton, Option.getD_some]
        walk_at "ew"
end CN.PK28

set_option maxHeartbeats 1000000
namespace CN.PK28
open PySem PySem.Spec L2 DL K28
local macro_rules | `(tactic| walk_at "ev") => `(tactic| try simp only [v_lc2N, v_lc2C, v_lc2G, v_lc2T, v_lc2I, v_allApp, v_valsApp, v_ret, v_fail, v_bind, v_on, v_onE, v_go, v_goE, v_of, v_ofN, v_ofI, v_useV, v_useO, v_useP, v_useKV, v_useKO, v_peekV, v_peekO, v_peekP, v_lookV, v_lookO, v_handV, v_handO, v_handB, v_handP, v_handKV, v_handKO, v_handKB, v_allN, v_allC, v_lkN, v_lkC, v_var, v_varV, v_varO, v_varB, v_varM, v_c, v_bin, v_cmp, v_tst, v_bl, v_int, v_and, v_or, v_not, v_andV, v_orV, v_notV, v_if, v_nil, v_cons, v_vals, v_tup, v_lst, v_neg, v_ix, v_oN, v_oS, v_sl, v_cb, v_lrng, v_dix, v_dixI, v_dixS, v_eS, v_next, v_break, v_cont, v_sq, v_thN, v_thR, v_thB, v_thC, v_thE, v_expr, v_retS, v_rV, v_rO, v_rB, v_rP, v_rKV, v_rKO, v_rKB, v_retN, v_ifS, v_set, v_sV, v_sO, v_sB, v_sP, v_sKV, v_sKO, v_sKB, v_asg, v_optS, v_gN, v_gT, v_gC, v_gNil, v_loopN, v_loopC, v_turnK, v_tuN, v_tuC, v_tuB, v_tuR, v_tuE, v_for, v_iW, v_wipe, v_wN, v_wR, v_wB, v_wC, v_wE, v_iS, v_r1, v_r2, v_r1K, v_r2K, v_en, v_enK, v_lcN, v_lcC, v_lcG, v_lcT, v_lcE, v_yes, v_comp, v_app, v_appG, v_appF, v_appK, v_wrOf, v_wrO, v_wrB, v_wrAsO, v_wrAsB, v_bor0, v_bor1, v_bor2, v_bor3, v_bor4, v_bor5, v_kp0, v_kp1, v_retM, v_rmV, v_rmO, v_rmP, v_rmKV, v_rmKO, v_retNM, v_lookB, v_callB, v_callBF, v_callBW, v_backB, v_lendP, v_lendV, v_lendG, v_lfP, v_lfV, v_lfO, v_lfB, v_ubN, v_ubC, v_callN, v_callNS, v_callNF, v_backNM, v_backNV, v_last, v_lo1, v_lo2, v_lo3, v_mkM, v_outMN, v_outMR, v_outME, v_outB, v_call, v_callX, v_callF, v_callXF, v_callK, v_callXK, v_callXE, v_mk, v_outN, v_outR, v_outE, v_take, v_rai, v_raiK, v_try, v_tryN, v_tryR, v_tryB, v_tryC, v_tryE, v_suN, v_suR, v_suB, v_suC, v_xf, v_xfK, v_pubO, v_pubV, v_pubB, v_pubP, v_ixL, v_ixT, v_ixS, v_slL, v_slT, v_slS, v_addI, v_addS, v_addL, v_addT, v_sub, v_mod, v_pow, v_shr, v_fdiv, v_mulI, v_mulL, v_cI, v_cIs, v_cES, v_cNS, v_dinI, v_dinS, v_lenL, v_lenT, v_lenS, v_intI, v_intB, v_abs, v_max2, v_min2, v_listL, v_listT, v_tupleL, v_tupleT, v_itN, v_itI, v_itS, v_itB, v_itL, v_itT, v_itD, v_par, v_putN, v_putC, v_inL, v_inT, v_ngT, v_ngF, v_inDN, v_inDC, v_flN, v_flB, v_flI, v_flS, v_flT, v_flL, v_isi, v_ext, v_extO, v_putOwn, v_putOwn1, v_putOwnS, v_putOwnI, v_putOwnN, v_extG, v_insO, v_insK, v_rev, v_lstO, v_star, v_r3, v_r3K, v_aug, v_augO, v_augR, v_augRK, v_augAK, v_augB, v_augBK, v_get, v_isDic, v_getKS, v_getKI, v_disp, v_ppN, v_ppC, v_dnew, v_dictK, v_try0, v_t0N, v_t0R, v_t0B, v_t0C, v_t0E, v_s0N, v_s0R, v_s0B, v_s0C, v_kix, v_kin, v_kget, v_strO, v_items, v_itemsK, v_dAL, v_dAT, v_dAD, v_ins, v_setIx, v_setIxS, v_setIx0, v_setIxK, v_setIx1, v_setIx2, v_chain, v_bAny, v_bAll, v_bSum, v_comp2, v_repr, v_ty_int_int, v_ty_int_bool, v_ty_int_str, v_ty_int_list, v_ty_int_tuple, v_ty_int_dict, v_ty_int_NoneType, v_ty_bool_int, v_ty_bool_bool, v_ty_bool_str, v_ty_bool_list, v_ty_bool_tuple, v_ty_bool_dict, v_ty_bool_NoneType, v_ty_str_int, v_ty_str_bool, v_ty_str_str, v_ty_str_list, v_ty_str_tuple, v_ty_str_dict, v_ty_str_NoneType, v_ty_list_int, v_ty_list_bool, v_ty_list_str, v_ty_list_list, v_ty_list_tuple, v_ty_list_dict, v_ty_list_NoneType, v_ty_tuple_int, v_ty_tuple_bool, v_ty_tuple_str, v_ty_tuple_list, v_ty_tuple_tuple, v_ty_tuple_dict, v_ty_tuple_NoneType, v_ty_dict_int, v_ty_dict_bool, v_ty_dict_str, v_ty_dict_list, v_ty_dict_tuple, v_ty_dict_dict, v_ty_dict_NoneType, keysD, tabD, Option.isSome_some, Option.isSome_none, Option.getD_some, Option.getD_none, keyD, putD, mergeD, List.foldl_cons, List.foldl_nil, List.any_cons, List.any_nil, Bool.or_false, Bool.false_or, Bool.or_true, Bool.true_or, valD, List.find?_cons, List.find?_nil, R.val.injEq, v_itemsL, v_itemsT, gt, st, wipeD, backD, R.stay, vals?, startK, v_at0, v_at1, v_at2, v_at3, v_at4, v_at5, v_at6, v_at7, v_atL, v_atM1, v_atM2, v_atM3, T.bind_ret, T.bind_fail, T.bind_ite, T.bind_any, T.All_retE, T.All_anyE, T.All_failE, T.All_iteE, ite_ap, cEqF, okk, eqD, eqAll, ofS_inj, ofS_beq, strOk_ofS, Option.bind_some, Option.map_some, Option.map_none, Sum.inr.injEq, Sum.inl.injEq, List.length_cons, List.length_nil, if_true, if_false, ite_true, ite_false, Bool.not_true, Bool.not_false, beq_self_eq_true, beq_iff_eq, decide_true, decide_false, decide_eq_true_eq, and_self, and_true, true_and, and_false, false_and, Bool.false_eq_true, Bool.true_eq_false, reduceIte, reduceCtorEq, Nat.reduceAdd, Nat.reduceEqDiff, Nat.reduceLeDiff, Nat.reduceLT, String.reduceEq, Int.reduceNeg, Int.reduceLE, Int.reduceLT, Int.reduceEq, Int.reduceToNat, Int.reducePow, Int.reduceAdd, Int.reduceSub, Int.reduceMul, Int.reduceAbs, Int.natAbs_neg, Nat.reducePow, Bool.and_true, Bool.true_and, Bool.and_false, Bool.false_and, List.lookup, sizeLine_eq, Option.some.injEq, List.all_cons, List.all_nil, List.nil_append, List.cons_append, Bool.not_eq_true', Bool.and_eq_true, not_true_eq_false, not_false_eq_true, List.map_cons, List.map_nil, decide_not, true_implies, false_implies, implies_true, not_true, ne_eq, Bool.not_eq_eq_eq_not])
local macro_rules | `(tactic| walk_at "pl") => `(tactic| repeat (with_reducible refine T.All_bind.mpr ?_))
local macro_rules | `(tactic| walk_at "ew") => `(tactic| try simp only [v_lc2N, v_lc2C, v_lc2G, v_lc2T, v_lc2I, v_allApp, v_valsApp, v_ret, v_fail, v_bind, v_on, v_onE, v_go, v_goE, v_of, v_ofN, v_ofI, v_useV, v_useO, v_useP, v_useKV, v_useKO, v_peekV, v_peekO, v_peekP, v_lookV, v_lookO, v_handV, v_handO, v_handB, v_handP, v_handKV, v_handKO, v_handKB, v_allN, v_allC, v_lkN, v_lkC, v_var, v_varV, v_varO, v_varB, v_varM, v_c, v_bin, v_cmp, v_tst, v_bl, v_int, v_and, v_or, v_not, v_andV, v_orV, v_notV, v_if, v_nil, v_cons, v_vals, v_tup, v_lst, v_neg, v_ix, v_oN, v_oS, v_sl, v_cb, v_lrng, v_dix, v_dixI, v_dixS, v_eS, v_next, v_break, v_cont, v_sq, v_thN, v_thR, v_thB, v_thC, v_thE, v_expr, v_retS, v_rV, v_rO, v_rB, v_rP, v_rKV, v_rKO, v_rKB, v_retN, v_ifS, v_set, v_sV, v_sO, v_sB, v_sP, v_sKV, v_sKO, v_sKB, v_asg, v_optS, v_gN, v_gT, v_gC, v_gNil, v_loopN, v_loopC, v_turnK, v_tuN, v_tuC, v_tuB, v_tuR, v_tuE, v_for, v_iW, v_wipe, v_wN, v_wR, v_wB, v_wC, v_wE, v_iS, v_r1, v_r2, v_r1K, v_r2K, v_en, v_enK, v_lcN, v_lcC, v_lcG, v_lcT, v_lcE, v_yes, v_comp, v_app, v_appG, v_appF, v_appK, v_wrOf, v_wrO, v_wrB, v_wrAsO, v_wrAsB, v_bor0, v_bor1, v_bor2, v_bor3, v_bor4, v_bor5, v_kp0, v_kp1, v_retM, v_rmV, v_rmO, v_rmP, v_rmKV, v_rmKO, v_retNM, v_lookB, v_callB, v_callBF, v_callBW, v_backB, v_lendP, v_lendV, v_lendG, v_lfP, v_lfV, v_lfO, v_lfB, v_ubN, v_ubC, v_callN, v_callNS, v_callNF, v_backNM, v_backNV, v_last, v_lo1, v_lo2, v_lo3, v_mkM, v_outMN, v_outMR, v_outME, v_outB, v_call, v_callX, v_callF, v_callXF, v_callK, v_callXK, v_callXE, v_mk, v_outN, v_outR, v_outE, v_take, v_rai, v_raiK, v_try, v_tryN, v_tryR, v_tryB, v_tryC, v_tryE, v_suN, v_suR, v_suB, v_suC, v_xf, v_xfK, v_pubO, v_pubV, v_pubB, v_pubP, v_ixL, v_ixT, v_ixS, v_slL, v_slT, v_slS, v_addI, v_addS, v_addL, v_addT, v_sub, v_mod, v_pow, v_shr, v_fdiv, v_mulI, v_mulL, v_cI, v_cIs, v_cES, v_cNS, v_dinI, v_dinS, v_lenL, v_lenT, v_lenS, v_intI, v_intB, v_abs, v_max2, v_min2, v_listL, v_listT, v_tupleL, v_tupleT, v_itN, v_itI, v_itS, v_itB, v_itL, v_itT, v_itD, v_par, v_putN, v_putC, v_inL, v_inT, v_ngT, v_ngF, v_inDN, v_inDC, v_flN, v_flB, v_flI, v_flS, v_flT, v_flL, v_isi, v_ext, v_extO, v_putOwn, v_putOwn1, v_putOwnS, v_putOwnI, v_putOwnN, v_extG, v_insO, v_insK, v_rev, v_lstO, v_star, v_r3, v_r3K, v_aug, v_augO, v_augR, v_augRK, v_augAK, v_augB, v_augBK, v_get, v_isDic, v_getKS, v_getKI, v_disp, v_ppN, v_ppC, v_dnew, v_dictK, v_try0, v_t0N, v_t0R, v_t0B, v_t0C, v_t0E, v_s0N, v_s0R, v_s0B, v_s0C, v_kix, v_kin, v_kget, v_strO, v_items, v_itemsK, v_dAL, v_dAT, v_dAD, v_ins, v_setIx, v_setIxS, v_setIx0, v_setIxK, v_setIx1, v_setIx2, v_chain, v_bAny, v_bAll, v_bSum, v_comp2, v_repr, v_ty_int_int, v_ty_int_bool, v_ty_int_str, v_ty_int_list, v_ty_int_tuple, v_ty_int_dict, v_ty_int_NoneType, v_ty_bool_int, v_ty_bool_bool, v_ty_bool_str, v_ty_bool_list, v_ty_bool_tuple, v_ty_bool_dict, v_ty_bool_NoneType, v_ty_str_int, v_ty_str_bool, v_ty_str_str, v_ty_str_list, v_ty_str_tuple, v_ty_str_dict, v_ty_str_NoneType, v_ty_list_int, v_ty_list_bool, v_ty_list_str, v_ty_list_list, v_ty_list_tuple, v_ty_list_dict, v_ty_list_NoneType, v_ty_tuple_int, v_ty_tuple_bool, v_ty_tuple_str, v_ty_tuple_list, v_ty_tuple_tuple, v_ty_tuple_dict, v_ty_tuple_NoneType, v_ty_dict_int, v_ty_dict_bool, v_ty_dict_str, v_ty_dict_list, v_ty_dict_tuple, v_ty_dict_dict, v_ty_dict_NoneType, keysD, tabD, Option.isSome_some, Option.isSome_none, Option.getD_some, Option.getD_none, keyD, List.foldl_cons, List.foldl_nil, List.any_cons, List.any_nil, Bool.or_false, Bool.false_or, Bool.or_true, Bool.true_or, R.val.injEq, v_itemsL, v_itemsT, gt, st, wipeD, backD, R.stay, vals?, startK, v_at0, v_at1, v_at2, v_at3, v_at4, v_at5, v_at6, v_at7, v_atL, v_atM1, v_atM2, v_atM3, T.bind_ret, T.bind_fail, T.bind_ite, T.bind_any, T.All_retE, T.All_anyE, T.All_failE, T.All_iteE, ite_ap, cEqF, okk, eqD, eqAll, ofS_inj, ofS_beq, strOk_ofS, Option.bind_some, Option.map_some, Option.map_none, Sum.inr.injEq, Sum.inl.injEq, List.length_cons, List.length_nil, if_true, if_false, ite_true, ite_false, Bool.not_true, Bool.not_false, beq_self_eq_true, beq_iff_eq, decide_true, decide_false, decide_eq_true_eq, and_self, and_true, true_and, and_false, false_and, Bool.false_eq_true, Bool.true_eq_false, reduceIte, reduceCtorEq, Nat.reduceAdd, Nat.reduceEqDiff, Nat.reduceLeDiff, Nat.reduceLT, String.reduceEq, Int.reduceNeg, Int.reduceLE, Int.reduceLT, Int.reduceEq, Int.reduceToNat, Int.reducePow, Int.reduceAdd, Int.reduceSub, Int.reduceMul, Int.reduceAbs, Int.natAbs_neg, Nat.reducePow, Bool.and_true, Bool.true_and, Bool.and_false, Bool.false_and, List.lookup, sizeLine_eq, Option.some.injEq, List.all_cons, List.all_nil, List.nil_append, List.cons_append, Bool.not_eq_true', Bool.and_eq_true, not_true_eq_false, not_false_eq_true, List.map_cons, List.map_nil, decide_not, true_implies, false_implies, implies_true, not_true, ne_eq, Bool.not_eq_eq_eq_not])

/-! ### plain: guards as cases -/
def sndD : D → D
  | .tup [_, y] => y
  | d => d
def cs (ps : List Cnd) : Cnd := ps.foldr (fun p f => .node .cas [p, f, .leaf (.alw .no)]) (.leaf (.alw .ye))
def SamS (f g : Ask) : Prop := ∀ a b, (g b).2 = (f a).2 ∧ (g b).1.map sndD = (f a).1.map sndD
theorem N_sameS {dec : Ans} {a b : List D} {fs gs : List Ask} (h : Rel2 SamS fs gs) : ∀ i j fo, (askN dec b gs j fo).2 = (askN dec a fs i fo).2 ∧ (askN dec b gs j fo).1.map sndD = (askN dec a fs i fo).1.map sndD := by
  induction h with
  | nil => intro i j fo; exact ⟨rfl, rfl⟩
  | @cons f g fs gs h t ih =>
    intro i j fo
    have h1 := h (a ++ [.int i]) (b ++ [.int j])
    simp only [askN, h1.1]
    split
    · exact h1
    · have := ih (i + 1) (j + 1) (if (f (a ++ [.int i])).2 = .un then .un else fo)
      exact ⟨this.1, by simp only [List.map_append, h1.2, this.2]⟩
theorem F_sameS {a b : List D} {fs gs : List Ask} (h : Rel2 SamS fs gs) : ∀ i j, (askF b gs j).2 = (askF a fs i).2 ∧ (askF b gs j).1.map sndD = (askF a fs i).1.map sndD := by
  induction h with
  | nil => intro i j; exact ⟨rfl, rfl⟩
  | @cons f g fs gs h t ih =>
    intro i j
    have h1 := h (a ++ [.int i]) (b ++ [.int j])
    simp only [askF, h1.1]
    split
    · exact h1
    · have := ih (i + 1) (j + 1)
      exact ⟨this.1, by simp only [List.map_append, h1.2, this.2]⟩
theorem C_sameS {a b : List D} : ∀ {fs gs : List Ask}, Rel2 SamS fs gs → ∀ i j, (askC b gs j).2 = (askC a fs i).2 ∧ (askC b gs j).1.map sndD = (askC a fs i).1.map sndD
  | _, _, .nil, i, j => ⟨rfl, rfl⟩
  | _, _, .cons h .nil, i, j => h _ _
  | _, _, .cons (x := w) (y := v) h (.cons (x := t) (y := u) h2 r), i, j => by
    have h1 := h (a ++ [.int i]) (b ++ [.int j])
    have h3 := h2 (a ++ [.int ((i + 1 : Nat) : Int)]) (b ++ [.int ((j + 1 : Nat) : Int)])
    simp only [askC, h1.1]
    split
    · exact h1
    · split
      · exact ⟨h3.1, by simp only [List.map_append, h1.2, h3.2]⟩
      · have := C_sameS (a := a) (b := b) r (i + 2) (j + 2)
        exact ⟨this.1, by simp only [List.map_append, h1.2, this.2]⟩
theorem ask_sameS (r : CN.Row) : ∀ c : Cnd, SamS (c.ask r) (c.ask r) := by
  refine Cnd.ind (fun l a b => ?_) (fun k ps ih a b => ?_)
  · simp only [Cnd.ask]; exact ⟨trivial, rfl⟩
  · have hr : Rel2 SamS (Cnd.asks r ps) (Cnd.asks r ps) := by rw [asks_map]; exact Rel2.map ps ih
    simp only [Cnd.ask]
    cases k with
    | all => exact N_sameS hr 0 0 .ye
    | any => exact N_sameS hr 0 0 .no
    | fst => exact F_sameS hr 0 0
    | cas => exact C_sameS hr 0 0
    | not =>
      cases ps with
      | nil => simp only [askK, Cnd.asks]; exact ⟨rfl, rfl⟩
      | cons p ps =>
        have := ih p (List.mem_cons_self ..) (a ++ [.int 0]) (b ++ [.int 0])
        simp only [askK, Cnd.asks, askT, this.1]
        exact ⟨trivial, this.2⟩
/-- what is heard are pairs -/
def IsP (d : D) : Prop := ∃ (x : D) (y : Ans), d = .tup [x, .str (Str.ofString y.s)]
theorem N_pair {dec : Ans} {a : List D} : ∀ (fs : List Ask), (∀ f ∈ fs, ∀ b, ∀ d ∈ (f b).1, IsP d) → ∀ i fo, ∀ d ∈ (askN dec a fs i fo).1, IsP d
  | [], _, i, fo, d, hd => by simp [askN] at hd
  | f :: fs, h, i, fo, d, hd => by
    simp only [askN] at hd
    split at hd
    · exact h f (List.mem_cons_self ..) _ d hd
    · rcases List.mem_append.mp hd with z | z
      · exact h f (List.mem_cons_self ..) _ d z
      · exact N_pair fs (fun g hg => h g (List.mem_cons_of_mem _ hg)) _ _ d z
theorem F_pair {a : List D} : ∀ (fs : List Ask), (∀ f ∈ fs, ∀ b, ∀ d ∈ (f b).1, IsP d) → ∀ i, ∀ d ∈ (askF a fs i).1, IsP d
  | [], _, i, d, hd => by simp [askF] at hd
  | f :: fs, h, i, d, hd => by
    simp only [askF] at hd
    split at hd
    · exact h f (List.mem_cons_self ..) _ d hd
    · rcases List.mem_append.mp hd with z | z
      · exact h f (List.mem_cons_self ..) _ d z
      · exact F_pair fs (fun g hg => h g (List.mem_cons_of_mem _ hg)) _ d z
theorem C_pair {a : List D} : ∀ (fs : List Ask), (∀ f ∈ fs, ∀ b, ∀ d ∈ (f b).1, IsP d) → ∀ i, ∀ d ∈ (askC a fs i).1, IsP d
  | [], _, i, d, hd => by simp [askC] at hd
  | [e], h, i, d, hd => h e (List.mem_cons_self ..) _ d hd
  | w :: t :: fs, h, i, d, hd => by
    simp only [askC] at hd
    split at hd
    · exact h w (List.mem_cons_self ..) _ d hd
    · split at hd
      · rcases List.mem_append.mp hd with z | z
        · exact h w (List.mem_cons_self ..) _ d z
        · exact h t (by simp) _ d z
      · rcases List.mem_append.mp hd with z | z
        · exact h w (List.mem_cons_self ..) _ d z
        · exact C_pair fs (fun g hg => h g (by simp [hg])) _ d z
theorem ask_pair (r : CN.Row) : ∀ (c : Cnd) (a : List D), ∀ d ∈ (c.ask r a).1, IsP d := by
  refine Cnd.ind (fun l a d hd => ?_) (fun k ps ih a d hd => ?_)
  · simp only [Cnd.ask, List.mem_singleton] at hd
    exact ⟨_, l.ans r, hd⟩
  · have hf : ∀ f ∈ Cnd.asks r ps, ∀ b, ∀ d ∈ (f b).1, IsP d := fun f hf b d hd => by
      rw [asks_map] at hf
      obtain ⟨p, hp, rfl⟩ := List.mem_map.mp hf
      exact ih p hp b d hd
    simp only [Cnd.ask] at hd
    cases k with
    | all => exact N_pair _ hf _ _ d hd
    | any => exact N_pair _ hf _ _ d hd
    | fst => exact F_pair _ hf _ d hd
    | cas => exact C_pair _ hf _ d hd
    | not =>
      cases ps with
      | nil => simp [askK, Cnd.asks, askT] at hd
      | cons p ps =>
        simp only [askK, Cnd.asks, askT] at hd
        exact ih p (List.mem_cons_self ..) _ d hd
theorem un_no {a : List D} : ∀ (fs : List Ask) (i : Nat), (askN .no a fs i .un).2 ≠ .ye
  | [], i => by simp [askN]
  | f :: fs, i => by
    simp only [askN]
    split
    · rename_i h
      rcases h with h | h <;> rw [h] <;> simp
    · have : (if (f (a ++ [.int i])).2 = Ans.un then Ans.un else Ans.un) = Ans.un := by split <;> rfl
      rw [this]
      exact un_no fs (i + 1)
theorem guard (r : CN.Row) : ∀ (ps : List Cnd) (a b : List D) (i : Nat),
    ∃ m : List D, ((cs ps).ask r b).1.map sndD = m ++ (if ((cs ps).ask r b).2 = .er then [] else [.str (Str.ofString ((cs ps).ask r b).2.s)]) ∧ m <+: (askN .no a (Cnd.asks r ps) i .ye).1.map sndD ∧ ((cs ps).ask r b).2 ≠ .un ∧
      (((cs ps).ask r b).2 = .er → (askN .no a (Cnd.asks r ps) i .ye).2 = .er) ∧ ((askN .no a (Cnd.asks r ps) i .ye).2 ≠ .er → ((askN .no a (Cnd.asks r ps) i .ye).2 = .ye ↔ ((cs ps).ask r b).2 = .ye))
  | [], a, b, i => ⟨[], by simp [cs, Cnd.ask, Cnd.asks, askN, Leaf.ans, Leaf.col, Leaf.ansV, sndD], by simp, by simp [cs, Cnd.ask, Leaf.ans, Leaf.col, Leaf.ansV], by simp [cs, Cnd.ask, Leaf.ans, Leaf.col, Leaf.ansV], by simp [cs, Cnd.ask, Cnd.asks, askN, Leaf.ans, Leaf.col, Leaf.ansV]⟩
  | p :: ps, a, b, i => by
    have e : cs (p :: ps) = .node .cas [p, cs ps, .leaf (.alw .no)] := rfl
    have hs := ask_sameS r p (a ++ [.int i]) (b ++ [.int 0])
    obtain ⟨m, h1, h2, h3, h4, h5⟩ := guard r ps a (b ++ [.int ((0 + 1 : Nat) : Int)]) (i + 1)
    rw [e]
    simp only [Cnd.ask, askK, Cnd.asks, askC, askN]
    have hno : ((Cnd.leaf (.alw .no)).ask r (b ++ [.int ((0 + 2 : Nat) : Int)])) = ([.tup [.tup (b ++ [.int ((0 + 2 : Nat) : Int)]), .str (Str.ofString "no")]], Ans.no) := by simp [Cnd.ask, Leaf.ans, Leaf.col, Leaf.ansV, Ans.s]
    simp only [Int.natCast_zero, show ((0 : Nat) : Int) = 0 from rfl] at hs ⊢
    generalize p.ask r (a ++ [.int i]) = P1 at hs ⊢
    generalize p.ask r (b ++ [.int 0]) = P2 at hs ⊢
    obtain ⟨P1h, P1a⟩ := P1
    obtain ⟨P2h, P2a⟩ := P2
    simp only at hs
    obtain ⟨s1, s2⟩ := hs
    subst s1
    cases P2a with
    | er =>
      refine ⟨P1h.map sndD, ?_, ?_, ?_, ?_, ?_⟩ <;> simp [s2]
    | no =>
      refine ⟨P1h.map sndD, ?_, ?_, ?_, ?_, ?_⟩ <;> simp [s2, Leaf.ans, Leaf.col, Leaf.ansV, sndD]
    | un =>
      have := un_no (a := a) (Cnd.asks r ps) (i + 1)
      refine ⟨P1h.map sndD, ?_, ?_, ?_, ?_, ?_⟩ <;> simp [s2, Leaf.ans, Leaf.col, Leaf.ansV, sndD, this]
    | ye =>
      refine ⟨P1h.map sndD ++ m, ?_, ?_, ?_, ?_, ?_⟩
      · simp only [reduceCtorEq, if_true, if_false, List.map_append, s2, h1, List.append_assoc]
      · simp only [reduceCtorEq, or_self, if_false, List.map_append]
        exact List.prefix_append_right_inj _ |>.mpr h2
      · simpa using h3
      · simpa using h4
      · simpa using h5
theorem cs_wf {ns : List String} : ∀ {ps : List Cnd}, (∀ p ∈ ps, p.Wf ns) → (cs ps).Wf ns
  | [], _ => by simp [cs, Cnd.Wf, Leaf.Ok]
  | p :: ps, h => by
    have ih := cs_wf (ps := ps) fun q hq => h q (List.mem_cons_of_mem _ hq)
    have hp := h p (List.mem_cons_self ..)
    show (Cnd.node .cas [p, cs ps, .leaf (.alw .no)]).Wf ns
    simp only [Cnd.Wf, Cnd.Wfs, Leaf.Ok, and_true]
    exact ⟨by simp [kOk], hp, ih⟩
theorem cs_dep {d : Nat} : ∀ {ps : List Cnd}, (∀ p ∈ ps, p.dep ≤ d) → (cs ps).dep ≤ d + ps.length
  | [], _ => by simp [cs, Cnd.dep]
  | p :: ps, h => by
    have ih := cs_dep (ps := ps) fun q hq => h q (List.mem_cons_of_mem _ hq)
    have hp := h p (List.mem_cons_self ..)
    show (Cnd.node .cas [p, cs ps, .leaf (.alw .no)]).dep ≤ _
    simp only [Cnd.dep, Cnd.deps, List.length_cons]
    omega
theorem cs_sz : ∀ (ps : List Cnd), (cs ps).lv ≤ Cnd.lvs ps + ps.length + 1 ∧ (cs ps).nd ≤ Cnd.nds ps + ps.length
  | [] => by simp [cs, Cnd.lv, Cnd.nd]
  | p :: ps => by
    have ih := cs_sz ps
    show (Cnd.node .cas [p, cs ps, .leaf (.alw .no)]).lv ≤ _ ∧ (Cnd.node .cas [p, cs ps, .leaf (.alw .no)]).nd ≤ _
    simp only [Cnd.lv, Cnd.nd, Cnd.lvs, Cnd.nds, List.length_cons]
    omega
/-! ### the walk -/
theorem cases_loop (r0 r1 : R) : ∀ (qs : List Cnd) (f : Cnd), fLoop (fgN 3) b__law_cases_1 (Cnd.ds qs) [r0, r1, .val f.d, .no] = .ret (.nx [r0, r1, .val (qs.foldl (fun f p => Cnd.node .cas [p, f, .leaf (.alw .no)]) f).d, .no])
  | [], f => rfl
  | q :: qs, f => by
    have ih := cases_loop r0 r1 qs (.node .cas [q, f, .leaf (.alw .no)])
    have e : (Cnd.node .cas [q, f, .leaf (.alw .no)]).d = .tup [.str (Str.ofString "case"), .tup [.tup [q.d, f.d]], .tup [.str (Str.ofString "always"), .str (Str.ofString "no")]] := by simp [Cnd.d, Cnd.ds, nodeD, pairsU, lastD, Leaf.d, Ans.s]
    rw [e] at ih
    simp only [Cnd.ds, v_loopC, List.foldl_cons]
    unfold b__law_cases_1 at ih ⊢
    walk_at "ev"
    rw [ih]
theorem cases_eq (ps : List Cnd) : m__law_cases [.val (.lst (Cnd.ds ps)), .val (.str (Str.ofString "yes"))] = .ret (.val (.val (cs ps).d)) := by
  have h := cases_loop (.val (.lst (Cnd.ds ps))) (.val (.str (Str.ofString "yes"))) ps.reverse (.leaf (.alw .ye))
  have e : (Cnd.ds ps).reverse = Cnd.ds ps.reverse := by rw [ds_map, ds_map, List.map_reverse]
  rw [List.foldl_reverse] at h
  have e2 : (Cnd.leaf (.alw .ye)).d = .tup [.str (Str.ofString "always"), .str (Str.ofString "yes")] := by simp [Cnd.d, Leaf.d, Ans.s]
  rw [e2] at h
  unfold m__law_cases fs__law_cases
  walk_at "ev"
  rw [e, h]
  walk_at "ev"
  rfl
theorem snd_lc (C : Addr) (e : FE) (he : e = fVar 9) (r0 r1 r2 r3 r4 r5 r6 r7 : R) : ∀ (ds acc : List D), (∀ d ∈ ds, IsP d) → acc.length + ds.length ≤ 1000000 → fLc (fgT 2 (fgCons (fgN 8) (fgCons (fgN 9) fgNil))) fYes e [8, 9] ds acc [r0, r1, r2, r3, r4, r5, r6, r7, .no, .no] = .ret (acc ++ ds.map sndD, [r0, r1, r2, r3, r4, r5, r6, r7, .no, .no])
  | [], acc, _, _ => by simp only [List.map_nil, List.append_nil]; rfl
  | d :: ds, acc, h, hl => by
    simp only [List.length_cons] at hl
    obtain ⟨x, y, rfl⟩ := h d (List.mem_cons_self ..)
    have ih := snd_lc C e he r0 r1 r2 r3 r4 r5 r6 r7 ds (acc ++ [.str (Str.ofString y.s)]) (fun q hq => h q (List.mem_cons_of_mem _ hq)) (by simp only [List.length_append, List.length_cons, List.length_nil]; omega)
    have ha : acc.length < 16777216 := by omega
    subst he
    rw [v_lcC]
    walk_at "ev"
    simp only [ha, if_true]
    rw [ih]
    simp only [sndD, List.map_cons, List.append_assoc, List.cons_append, List.nil_append]
theorem keeps_eq (C : Addr) (ns : List String) (r : CN.Row) (hr : r.Ok ns) (c : Cnd) (hw : c.Wf ns) (hs : c.lv + c.nd ≤ 10000) (hd : c.dep ≤ 11) : m_keeps C [.val c.d, .val r.d] = .ret (.val (.val (.bl (decide ((c.ask r []).2 = .ye))))) := by
  have h := answer_eq C ns r hr c hw hs hd
  unfold m_keeps fs_keeps
  walk_at "ew"
  rw [h]
  cases (c.ask r []).2 <;> simp only [Ans.d, s_er, s_no, s_un, s_ye] <;> walk_at "ew"
theorem okk_snds {ds : List D} (h : ∀ d ∈ ds, IsP d) : okk 60 (.lst (ds.map sndD)) = true := by
  simp only [okk, List.all_eq_true]
  intro x hx
  obtain ⟨d, hd, rfl⟩ := List.mem_map.mp hx
  obtain ⟨u, y, rfl⟩ := h d hd
  simp only [sndD, okk, strOk_ofS]
theorem cut_to (xs : List D) (k : Int) (n : Nat) (h : k = n) : cut xs none (some k) = xs.take n := by rw [h]; exact cutTo xs n
structure Gp (ps : List Cnd) : Prop where
  len : ps.length ≤ 5
  wf : ∀ p ∈ ps, p.Wf ["n", "m"]
  dep : ∀ p ∈ ps, p.dep ≤ 2
  lv : Cnd.lvs ps ≤ 25
  nd : Cnd.nds ps ≤ 30
theorem right_eq (C : Addr) (ps : List Cnd) (hg : Gp ps) (r : CN.Row) (hr : r.Ok ["n", "m"]) : m__law_row_right C [.val (.lst (Cnd.ds ps)), .val r.d] = .ret (.val (.val (.bl true))) := by
  have w0 : (Cnd.node .all ps).Wf ["n", "m"] := by simp only [Cnd.Wf, kOk, true_and]; exact wfs_iff.mpr hg.wf
  have w1 := cs_wf hg.wf
  have d0 : (Cnd.node .all ps).dep ≤ 3 := by simp only [Cnd.dep]; have := deps_le.mpr hg.dep; omega
  have d1 := cs_dep hg.dep
  have s1 := cs_sz ps
  have hl := hg.len
  have hlv := hg.lv
  have hnd := hg.nd
  have s0 : (Cnd.node .all ps).lv + (Cnd.node .all ps).nd ≤ 10000 := by simp only [Cnd.lv, Cnd.nd]; omega
  have a0 := answer_eq C _ r hr _ w0 s0 (by omega)
  have a1 := answer_eq C _ r hr _ w1 (by omega) (by omega)
  have k0 := keeps_eq C _ r hr _ w0 s0 (by omega)
  have k1 := keeps_eq C _ r hr _ w1 (by omega) (by omega)
  have q0 := asked_eq C _ r hr _ w0 s0 (by omega)
  have q1 := asked_eq C _ r hr _ w1 (by omega) (by omega)
  have p0 := ask_pair r (.node .all ps) []
  have p1 := ask_pair r (cs ps) []
  have l0 := ask_len r (.node .all ps) []
  have l1 := ask_len r (cs ps) []
  have e0 : (Cnd.node .all ps).lv = Cnd.lvs ps := by simp only [Cnd.lv]
  have hc := cases_eq ps
  obtain ⟨m, g1, g2, g3, g4, g5⟩ := guard r ps [] [] 0
  have eN : askN .no [] (Cnd.asks r ps) 0 .ye = (Cnd.node .all ps).ask r [] := by simp only [Cnd.ask, askK]
  rw [eN] at g2 g4 g5
  have eD : (Cnd.node .all ps).d = .tup [.str (Str.ofString "all"), .tup (Cnd.ds ps)] := by simp only [Cnd.d, nodeD]
  rw [eD] at a0 k0 q0
  have okm : okk 60 (.lst m) = true := by
    have := okk_snds p1
    rw [g1] at this
    simp only [okk, List.all_append, Bool.and_eq_true] at this ⊢
    exact this.1
  have hml : m.length ≤ ((cs ps).ask r []).1.length ∧ m.length + (if ((cs ps).ask r []).2 = .er then 0 else 1) = ((cs ps).ask r []).1.length := by
    have := congrArg List.length g1
    rw [List.length_map, List.length_append] at this
    split at this <;> simp_all
  obtain ⟨t, ht⟩ := g2
  have erm : eqD 60 (.lst m) (.lst m) = true := eqD_refl (okk_ok okm)
  generalize (cs ps).d = D1 at *
  generalize r.d = RD at *
  generalize (Cnd.node .all ps).ask r [] = A0 at *
  generalize (cs ps).ask r [] = A1 at *
  obtain ⟨H0, x0⟩ := A0
  obtain ⟨H1, x1⟩ := A1
  simp only at *
  unfold m__law_row_right fs__law_row_right
  walk_at "ew"
  rw [hc]
  walk_at "ew"
  rw [a0]
  walk_at "ew"
  rw [a1]
  walk_at "ew"
  have e1 := fun r0 r1 r2 r3 r4 r5 r6 r7 => snd_lc C (e__law_row_right_c1 C) rfl r0 r1 r2 r3 r4 r5 r6 r7 H1 [] p1 (by simp only [List.length_nil]; omega)
  have e2 := fun r0 r1 r2 r3 r4 r5 r6 r7 => snd_lc C (e__law_row_right_c2 C) rfl r0 r1 r2 r3 r4 r5 r6 r7 H0 [] p0 (by simp only [List.length_nil]; omega)
  have fin : ∀ k : Nat, k = m.length → (List.map sndD H0).take k = m := fun k hk => by rw [← ht, hk, List.take_left]
  have main : x1 ≠ .er → (m ++ [D.str (Str.ofString x1.s)]).take m.length = m := fun _ => List.take_left
  simp only [okk] at okm
  simp only [eqD] at erm
  have c2 : cut (List.map sndD H0) none (some ((m.length : Nat) : Int)) = m := by rw [cutTo]; exact fin _ rfl
  cases x1 with
  | un => exact absurd rfl g3
  | er =>
    have z := g4 rfl
    subst z
    simp only [if_true, List.append_nil] at g1
    have c1 : cut (List.map sndD H1) none (some (((List.map sndD H1).length : Int) - 0)) = m := by rw [cut_to _ _ m.length (by rw [g1]; omega), g1, List.take_length]
    simp only [Ans.d, s_er] at *
    walk_at "ew"
    rw [q1]
    walk_at "ew"
    rw [e1]
    walk_at "ew"
    rw [q0]
    walk_at "ew"
    rw [e2]
    walk_at "ew"
    rw [c1, c2]
    simp only [okm, erm]
    walk_at "ew"
  | no =>
    simp only [reduceCtorEq, if_false] at g1
    have c1 : cut (List.map sndD H1) none (some (((List.map sndD H1).length : Int) - 1)) = m := by rw [cut_to _ _ m.length (by rw [g1]; simp), g1, List.take_left]
    cases x0 with
    | ye => exact absurd ((g5 (by simp)).mp rfl) (by simp)
    | _ =>
      simp only [Ans.d, s_er, s_no, s_un, s_ye, reduceCtorEq, decide_false] at *
      walk_at "ew"
      try rw [k0]
      walk_at "ew"
      try rw [k1]
      walk_at "ew"
      rw [q1]
      walk_at "ew"
      rw [e1]
      walk_at "ew"
      rw [q0]
      walk_at "ew"
      rw [e2]
      walk_at "ew"
      rw [c1, c2]
      simp only [okm, erm]
      walk_at "ew"
  | ye =>
    simp only [reduceCtorEq, if_false] at g1
    have c1 : cut (List.map sndD H1) none (some (((List.map sndD H1).length : Int) - 1)) = m := by rw [cut_to _ _ m.length (by rw [g1]; simp), g1, List.take_left]
    have hx : x0 = .er ∨ x0 = .ye := by
      by_cases h : x0 = .er
      · exact .inl h
      · exact .inr ((g5 h).mpr rfl)
    rcases hx with rfl | rfl
    all_goals
      simp only [Ans.d, s_er, s_no, s_un, s_ye, reduceCtorEq, decide_false, decide_true] at *
      walk_at "ew"
      try rw [k0]
      walk_at "ew"
      try rw [k1]
      walk_at "ew"
      rw [q1]
      walk_at "ew"
      rw [e1]
      walk_at "ew"
      rw [q0]
      walk_at "ew"
      rw [e2]
      walk_at "ew"
      rw [c1, c2]
      simp only [okm, erm]
      walk_at "ew"
abbrev Zx (c6 c7 c8 : R) : List R := [.no, .bag, .no, .no, .no, .no, c6, c7, c8, .no, .no]
theorem turns_lc (C : Addr) (r0 r1 r2 r3 r4 r5 r6 r7 r8 r9 : R) : ∀ (ps : List Cnd) (acc : List D), (∀ p ∈ ps, m_turned 12 [.val p.d] = .ret (.val (.val p.turn.d))) → acc.length + ps.length ≤ 1000 → fLc (fgN 10) fYes (e_law_c2 C) [10] (Cnd.ds ps) acc [r0, r1, r2, r3, r4, r5, r6, r7, r8, r9, .no] = .ret (acc ++ Cnd.ds (Cnd.turns ps), [r0, r1, r2, r3, r4, r5, r6, r7, r8, r9, .no])
  | [], acc, _, _ => by simp only [Cnd.turns, Cnd.ds, List.append_nil]; rfl
  | p :: ps, acc, h, hl => by
    simp only [List.length_cons] at hl
    have ih := turns_lc C r0 r1 r2 r3 r4 r5 r6 r7 r8 r9 ps (acc ++ [p.turn.d]) (fun q hq => h q (List.mem_cons_of_mem _ hq)) (by simp only [List.length_append, List.length_cons, List.length_nil]; omega)
    have hp := h p (List.mem_cons_self ..)
    have ha : acc.length < 16777216 := by omega
    unfold e_law_c2 at ih ⊢
    simp only [Cnd.ds, v_lcC]
    walk_at "ev"
    rw [hp]
    walk_at "ev"
    simp only [ha, if_true]
    rw [ih]
    simp only [Cnd.turns, Cnd.ds, List.append_assoc, List.cons_append, List.nil_append]
theorem row_turn (C : Addr) (ps : List Cnd) (hg : Gp ps) (r : CN.Row) (hr : r.Ok ["n", "m"]) (q : R) (hq : q = .own (.lst (Cnd.ds ps)) ∨ q = .val (.lst (Cnd.ds ps))) : (b_law_3 C (Zx q (.val (Cnd.node .all ps).d) (.val r.d))).All fun o => o = .nx (Zx (.val (.lst (Cnd.ds ps))) (.val (Cnd.node .all ps).d) .no) := by
  have hri := right_eq C ps hg r hr
  have w0 : (Cnd.node .all ps).Wf ["n", "m"] := by simp only [Cnd.Wf, kOk, true_and]; exact wfs_iff.mpr hg.wf
  have w1 := turn_wf _ _ w0
  have d0 : (Cnd.node .all ps).dep ≤ 3 := by simp only [Cnd.dep]; have := deps_le.mpr hg.dep; omega
  have hl := hg.len
  have hlv := hg.lv
  have hnd := hg.nd
  have d1 := turn_dep (.node .all ps)
  have s1 := turn_sizes (.node .all ps)
  have z0 : (Cnd.node .all ps).lv ≤ 25 ∧ (Cnd.node .all ps).nd ≤ 31 := by simp only [Cnd.lv, Cnd.nd]; omega
  have a0 := answer_eq C _ r hr _ w0 (by omega) (by omega)
  have a1 := answer_eq C _ r hr _ w1 (by omega) (by omega)
  have t1 := turned_eq _ _ w0 (by omega) 12 (by omega)
  have o1 := turn_opp r _ _ w0 [] []
  rw [o1.1] at a1
  have htp : ∀ p ∈ ps, m_turned 12 [.val p.d] = .ret (.val (.val p.turn.d)) := fun p hp => turned_eq _ p (hg.wf p hp) (by have := mem_sz hp; omega) 12 (by have := hg.dep p hp; omega)
  have tl := fun r0 r1 r2 r3 r4 r5 r6 r7 r8 r9 => turns_lc C r0 r1 r2 r3 r4 r5 r6 r7 r8 r9 ps [] htp (by simp only [List.length_nil]; omega)
  have eT : (Cnd.node .all ps).turn.d = .tup [.str (Str.ofString "any"), .tup (Cnd.ds (Cnd.turns ps))] := by simp only [Cnd.turn, Cnd.d, nodeD]
  rw [eT] at a1 t1
  generalize ((Cnd.node .all ps).ask r []).2 = x at *
  generalize (Cnd.node .all ps).d = D0 at *
  generalize r.d = RD at *
  unfold b_law_3
  rcases hq with rfl | rfl
  all_goals
    walk_at "ev"
    rw [hri]
    walk_at "ev"
    rw [t1]
    walk_at "ev"
    rw [a1]
    walk_at "ev"
    rw [a0]
    cases x <;> simp only [Ans.d, Ans.x, s_er, s_no, s_un, s_ye] at * <;> walk_at "ev" <;> rw [a0] <;> walk_at "ev" <;> rw [tl] <;> walk_at "ev" <;> rw [a1] <;> walk_at "ev" <;> rw [t1] <;> walk_at "ev" <;> rw [a1] <;> walk_at "ev"
theorem some_lc (C : Addr) (most : Int) (hm : 1 ≤ most) (hm2 : most ≤ 2) (n : Nat) (hn : n ≤ 5) (r2 r3 r4 : R) : (fLc (fgN 9) fYes (e_law_c1 C) [9] (rngD 0 n) [] [.no, .bag, r2, r3, r4, .val (.int most), .no, .no, .no, .no, .no]).All fun p => p.2 = [.no, .bag, r2, r3, r4, .val (.int most), .no, .no, .no, .no, .no] ∧ ∃ ps : List Cnd, p.1 = Cnd.ds ps ∧ ps.length ≤ 5 ∧ ∀ p ∈ ps, Fit ["n", "m"] 1 p := by
  have ht := fun many hm hm2 => tree_all ["n", "m"] (by decide) (by decide) 1 8 (by decide) many hm hm2
  simp only [nmD, List.map_cons, List.map_nil, show ((1 : Nat) : Int) = 1 from rfl] at ht
  refine lc_all (Iv := fun ds acc => ∃ ps : List Cnd, acc = Cnd.ds ps ∧ ps.length + ds.length ≤ 5 ∧ ∀ p ∈ ps, Fit ["n", "m"] 1 p) ?_ ?_ _ _ ?_
  · rintro d ds acc ⟨ps, e, h1, h2⟩
    refine ⟨_, rfl, ?_⟩
    walk_at "ev"
    simp only [List.length_cons] at h1
    refine ⟨_, _, rfl, fun _ => ⟨by subst e; rw [ds_len]; omega, ?_⟩, fun z => by cases z⟩
    unfold e_law_c1
    walk_at "ev"
    walk_at "pl"
    refine all_take (fun k k0 k1 => ?_) (by omega) (by omega)
    walk_at "ev"
    walk_at "pl"
    refine T.All_mono (ht (1 + k) (by omega) (by omega)) fun o ho => ?_
    obtain ⟨c, hc, rfl⟩ := ho
    walk_at "ev"
    refine ⟨_, _, rfl, rfl, ps ++ [c], by subst e; rw [ds_map, ds_map]; simp, by simp only [List.length_append, List.length_cons, List.length_nil]; omega, fun x hx => ?_⟩
    rcases List.mem_append.mp hx with z | z
    · exact h2 x z
    · simp at z; subst z; exact hc
  · rintro acc ⟨ps, e, h1, h2⟩
    exact ⟨rfl, ps, e, by simpa using h1, h2⟩
  · exact ⟨[], by simp only [Cnd.ds], by simpa [rngD_len] using hn, by simp⟩
theorem turn_all (C : Addr) (r2 : R) : (b_law_4 C [.no, .bag, r2, .no, .no, .no, .no, .no, .no, .no, .no]).All fun o => o = .nx (Zx .no .no .no) := by
  unfold b_law_4
  walk_at "ev"
  walk_at "pl"
  refine T.All_mono (column_all "n") fun o ho => ?_
  obtain ⟨c1, ok1, nm1, rfl⟩ := ho
  walk_at "ev"
  walk_at "pl"
  refine T.All_mono (column_all "m") fun o ho => ?_
  obtain ⟨c2, ok2, nm2, rfl⟩ := ho
  have hcs : ∀ c ∈ [c1, c2], c.Ok := fun c hc => by
    simp only [List.mem_cons, List.not_mem_nil, or_false] at hc
    rcases hc with rfl | rfl <;> assumption
  have hev := every_eq [c1, c2] hcs (by simp [nm1, nm2]) (by simp)
  have hro := every_ok hcs
  simp only [List.map_cons, List.map_nil, nm1, nm2] at hev hro
  walk_at "ev"
  walk_at "pl"
  refine all_take fun a a0 a1 => ?_
  walk_at "ev"
  refine yes ⟨by omega, by omega⟩ ?_
  walk_at "pl"
  refine T.All_mono (some_lc C _ (by split <;> omega) (by split <;> omega) a.toNat (by omega) _ _ _) fun p hp => ?_
  obtain ⟨e1, ps, e2, h2, h3⟩ := hp
  obtain ⟨p1, p2⟩ := p
  simp only at e1 e2
  subst e1; subst e2
  have hg : Gp ps := ⟨h2, fun p hp => (h3 p hp).1, fun p hp => (h3 p hp).2.1, by
    have := lvs_le (n := 5) (cs := ps) fun c hc => (h3 c hc).2.2.1
    omega, by
    have := nds_le (n := 6) (cs := ps) fun c hc => (h3 c hc).2.2.2
    omega⟩
  have eD : D.tup [.str (Str.ofString "all"), .tup (Cnd.ds ps)] = (Cnd.node .all ps).d := by simp only [Cnd.d, nodeD]
  walk_at "ev"
  rw [hev]
  walk_at "ev"
  rw [eD]
  walk_at "pl"
  refine T.All_mono (loop_inv (P := fun o => ∃ q q7, o = .nx (Zx q q7 .no)) (fun ds δ => (∀ d ∈ ds, ∃ r : CN.Row, r.Ok ["n", "m"] ∧ d = r.d) ∧ ∃ q, (q = R.own (.lst (Cnd.ds ps)) ∨ q = R.val (.lst (Cnd.ds ps))) ∧ δ = Zx q (.val (Cnd.node .all ps).d) .no) ?_ ?_ _ _ ⟨fun d hd => ?_, _, .inl rfl, rfl⟩) ?_
  · rintro d ds δ ⟨hr, q, hq, rfl⟩
    obtain ⟨r, hok, rfl⟩ := hr d (List.mem_cons_self ..)
    refine ⟨_, rfl, T.All_mono (row_turn C ps hg r hok q hq) fun o ho => ?_⟩
    subst ho
    exact ⟨fun d hd => hr d (List.mem_cons_of_mem _ hd), _, .inr rfl, rfl⟩
  · rintro δ ⟨_, q, _, rfl⟩
    exact ⟨q, _, rfl⟩
  · obtain ⟨r, hr, rfl⟩ := List.mem_map.mp hd
    obtain ⟨n1, n2⟩ := hro r hr
    exact ⟨r, n2.ok (by rw [n1]; exact fun c hc => hc), rfl⟩
  · rintro o ⟨q, q7, rfl⟩
    walk_at "ev"
theorem law_all (C : Addr) : (m_law C [.no, .bag]).All fun o => o = .val (.val (.bl true)) := by
  unfold m_law fs_law
  walk_at "ev"
  walk_at "pl"
  refine T.All_mono (loop_same (δ0 := Zx .no .no .no) ?_) ?_
  · intro d hd
    exact ⟨_, rfl, turn_all C _⟩
  · rintro o rfl
    walk_at "ev"
end CN.PK28
theorem K28.law_all (C : PySem.Addr) : (K28.m_law C [.no, .bag]).All fun o => o = .val (.val (.bl true)) := CN.PK28.law_all C

set_option maxHeartbeats 4000000
namespace K28
open PySem PySem.Spec L2 DL
def topS (i : Nat) : Stmt := PySem.Challenge.pw_refusedahead_k28_whole_guards_as_cases.main.body.getD i (.Pass ⟨0, 0, 0, 0⟩)
variable {P : Program} {w : World} {K : PySem.W.Frag} {mg : Str → Option Value} {base : Heap}
abbrev s_is_integer : Stmt := topS 4
abbrev n_is_integer : List Str := ["thing"]
theorem sc_is_integer : FnScope n_is_integer ["thing"] (defScope s_is_integer) := ⟨rfl, rfl, rfl, by decide +kernel, rfl, by decide +kernel, by decide +kernel⟩
theorem fc_is_integer (T : Df K mg "is_integer" s_is_integer)   (m_bool : mg "bool" = none) (m_int : mg "int" = none) (m_isinstance : mg "isinstance" = none) : Fc P w K mg base 1 "is_integer" ["thing"] (spM0 1 m_is_integer) := by
  obtain ⟨f, fd, F, hm⟩ := T
  have nd := sc_is_integer.nd
  exact ⟨f, fd, fn_f (k := 0) (N := n_is_integer) (fs := fs_is_integer) F sc_is_integer (by decide) (fun cdv A outer s H E hr => (fss_one (fs_ret (fe_and (fe_isi (fe_var 0) (by rfl) m_isinstance (by rfl) m_int (by decide +kernel) (by decide +kernel)) (fe_one (fe_not (fe_isi (fe_var 0) (by rfl) m_isinstance (by rfl) m_bool (by decide +kernel) (by decide +kernel)))))))), hm, F.kp, F.binds (ps := ["thing"]) (fun _ _ _ _ _ _ us hl => match us, hl with | [_], _ => rfl)⟩
abbrev s_step_on : Stmt := topS 6
abbrev n_step_on : List Str := ["step", "number", "word", "k", "key", "found"]
theorem sc_step_on : FnScope n_step_on ["step", "number"] (defScope s_step_on) := ⟨rfl, rfl, rfl, by decide +kernel, rfl, by decide +kernel, by decide +kernel⟩
theorem fc_step_on {c_Errs : Addr} (T : Df K mg "step_on" s_step_on)  (T_Errs : ErrC P w K mg base "Errs" c_Errs "number")  : FcX P w K mg base 3 "step_on" ["step", "number"] (spM 2 (m_step_on c_Errs)) := by
  obtain ⟨f, fd, F, hm⟩ := T
  have nd := sc_step_on.nd
  exact ⟨f, fd, fn_fx (k := 2) (N := n_step_on) (fs := fs_step_on c_Errs) F sc_step_on (by decide) (fun cdv A outer s H E L hr tk ps => (fss_cons (fs_asg (fe_var 0) (fg_tup rfl (fgs_cons (fg_name (i := 2) nd) (fgs_cons (fg_name (i := 3) nd) fgs_nil))))
      (fss_cons (fs_if (ft_eq hr.units (fe_var 2) fe_str) (fss_one (fs_ret (fe_add (fe_var 1) (fe_var 3)))) fss_nil)
      (fss_cons (fs_if (ft_eq hr.units (fe_var 2) fe_str) (fss_one (fs_ret (fe_mul (fe_var 1) (fe_var 3)))) fss_nil)
      (fss_cons (fs_if (ft_eq hr.units (fe_var 2) fe_str) (fss_one (fs_ret (fe_fdiv (fe_var 1) (fe_var 3)))) fss_nil)
      (fss_cons (fs_if (ft_eq hr.units (fe_var 2) fe_str) (fss_cons (fs_if (ft_eq hr.units (fe_var 1) fe_int) (fss_one (fs_raise T_Errs rfl (hr.mono (by omega)) tk (by rfl) (fa_cons (fe_var 1) fa_nil))) fss_nil)
      (fss_one (fs_ret (fe_fdiv (fe_var 3) (fe_var 1))))) fss_nil)
      (fss_cons (fs_wipe [2, 3, 4, 5] (fs_for (b := (b_step_on_1 c_Errs)) ps rfl (fi_wipe [2, 3, 4, 5] (fi_seq (fe_var 3))) (fg_tup rfl (fgs_cons (fg_name (i := 4) nd) (fgs_cons (fg_name (i := 5) nd) fgs_nil))) (fss_wipe [2, 3, 4, 5] (fss_one (fs_if (ft_eq hr.units (fe_var 4) (fe_var 1)) (fss_one (fs_ret (fe_var 5))) fss_nil)))))
      (fss_one (fs_raise T_Errs rfl (hr.mono (by omega)) tk (by rfl) (fa_cons (fe_var 1) fa_nil)))))))))), hm, F.kp, F.binds (ps := ["step", "number"]) (fun _ _ _ _ _ _ us hl => match us, hl with | [_, _], _ => rfl)⟩
abbrev s_steps_on : Stmt := topS 7
abbrev n_steps_on : List Str := ["steps", "number", "step"]
theorem sc_steps_on : FnScope n_steps_on ["steps", "number"] (defScope s_steps_on) := ⟨rfl, rfl, rfl, by decide +kernel, rfl, by decide +kernel, by decide +kernel⟩
theorem fc_steps_on {c_Errs : Addr} (T : Df K mg "steps_on" s_steps_on) (F_step_on : FcX P w K mg base 3 "step_on" ["step", "number"] (spM 2 (m_step_on c_Errs)))   : FcX P w K mg base 4 "steps_on" ["steps", "number"] (spM 2 (m_steps_on c_Errs)) := by
  obtain ⟨f, fd, F, hm⟩ := T
  have nd := sc_steps_on.nd
  exact ⟨f, fd, fn_fx (k := 3) (N := n_steps_on) (fs := fs_steps_on c_Errs) F sc_steps_on (by decide) (fun cdv A outer s H E L hr tk ps => (fss_cons (fs_wipe [2] (fs_for (b := (b_steps_on_1 c_Errs)) ps rfl (fi_wipe [2] (fi_seq (fe_var 0))) (fg_name (i := 2) nd) (fss_wipe [2] (fss_one (fs_set (i := 1) nd (fe_fcx F_step_on (hr.mono (by omega)) tk (by rfl) (fa_cons (fe_var 2) (fa_cons (fe_var 1) fa_nil)) (argN_cons (argN_cons argN_nil))))))))
      (fss_one (fs_ret (fe_var 1))))), hm, F.kp, F.binds (ps := ["steps", "number"]) (fun _ _ _ _ _ _ us hl => match us, hl with | [_, _], _ => rfl)⟩
abbrev s_is_so : Stmt := topS 9
abbrev n_is_so : List Str := ["number", "sign", "n"]
theorem sc_is_so : FnScope n_is_so ["number", "sign", "n"] (defScope s_is_so) := ⟨rfl, rfl, rfl, by decide +kernel, rfl, by decide +kernel, by decide +kernel⟩
theorem fc_is_so (T : Df K mg "is_so" s_is_so)    : Fc P w K mg base 1 "is_so" ["number", "sign", "n"] (spM0 3 m_is_so) := by
  obtain ⟨f, fd, F, hm⟩ := T
  have nd := sc_is_so.nd
  exact ⟨f, fd, fn_f (k := 0) (N := n_is_so) (fs := fs_is_so) F sc_is_so (by decide) (fun cdv A outer s H E hr => (fss_cons (fs_if (ft_in (units65 hr) (fe_var 1) (fe_tup (fa_cons fe_str (fa_cons fe_str fa_nil)))) (fss_one (fs_ret (fe_eq hr.units (fe_eq hr.units (fe_var 0) (fe_var 2)) (fe_eq hr.units (fe_var 1) fe_str)))) fss_nil)
      (fss_cons (fs_if (ft_eq hr.units (fe_var 0) (fe_var 2)) (fss_one (fs_ret (fe_in (units65 hr) (fe_var 1) (fe_tup (fa_cons fe_str (fa_cons fe_str fa_nil)))))) fss_nil)
      (fss_one (fs_ret (fe_eq hr.units (fe_lt (fe_var 0) (fe_var 2)) (fe_in (units65 hr) (fe_var 1) (fe_tup (fa_cons fe_str (fa_cons fe_str fa_nil)))))))))), hm, F.kp, F.binds (ps := ["number", "sign", "n"]) (fun _ _ _ _ _ _ us hl => match us, hl with | [_, _, _], _ => rfl)⟩
abbrev s_number_answer : Stmt := topS 10
abbrev n_number_answer : List Str := ["test", "number", "word", "name", "steps", "sign", "n", "found"]
theorem sc_number_answer : FnScope n_number_answer ["test", "number"] (defScope s_number_answer) := ⟨rfl, rfl, rfl, by decide +kernel, rfl, by decide +kernel, by decide +kernel⟩
theorem fc_number_answer {c_Errs : Addr} (T : Df K mg "number_answer" s_number_answer) (F_is_so : Fc P w K mg base 1 "is_so" ["number", "sign", "n"] (spM0 3 m_is_so)) (F_steps_on : FcX P w K mg base 4 "steps_on" ["steps", "number"] (spM 2 (m_steps_on c_Errs))) (T_Errs : ErrC P w K mg base "Errs" c_Errs "number")  : Fc P w K mg base 5 "number_answer" ["test", "number"] (spM0 2 (m_number_answer c_Errs)) := by
  obtain ⟨f, fd, F, hm⟩ := T
  have nd := sc_number_answer.nd
  exact ⟨f, fd, fn_f (k := 4) (N := n_number_answer) (fs := fs_number_answer c_Errs) F sc_number_answer (by decide) (fun cdv A outer s H E hr => (fss_cons (fs_asg (fe_var 0) (fg_tup rfl (fgs_cons (fg_name (i := 2) nd) (fgs_cons (fg_name (i := 3) nd) (fgs_cons (fg_name (i := 4) nd) (fgs_cons (fg_name (i := 5) nd) (fgs_cons (fg_name (i := 6) nd) fgs_nil)))))))
      (fss_cons (fs_try0 rfl rfl ⟨rfl, by decide, .inl T_Errs.gl⟩ T_Errs.self (fun L1 pn xe tk ps => (fss_one (fs_set (i := 7) nd (fe_fcx F_steps_on (hr.mono (by omega)) tk (by rfl) (fa_cons (fe_var 4) (fa_cons (fe_var 1) fa_nil)) (argN_cons (argN_cons argN_nil)))))) (fun a oe cls d pn hz hf => (fss_one (fs_ret fe_str))))
      (fss_one (fs_ret (fe_if (ft_val (fe_fc F_is_so (hr.mono (by omega)) (by rfl) (fa_cons (fe_var 7) (fa_cons (fe_var 5) (fa_cons (fe_var 6) fa_nil))) (argN_cons (argN_cons (argN_cons argN_nil))))) fe_str fe_str)))))), hm, F.kp, F.binds (ps := ["test", "number"]) (fun _ _ _ _ _ _ us hl => match us, hl with | [_, _], _ => rfl)⟩
abbrev s_test_answer : Stmt := topS 11
abbrev n_test_answer : List Str := ["test", "value"]
theorem sc_test_answer : FnScope n_test_answer ["test", "value"] (defScope s_test_answer) := ⟨rfl, rfl, rfl, by decide +kernel, rfl, by decide +kernel, by decide +kernel⟩
theorem fc_test_answer {c_Errs : Addr} (T : Df K mg "test_answer" s_test_answer) (F_is_integer : Fc P w K mg base 1 "is_integer" ["thing"] (spM0 1 m_is_integer)) (F_number_answer : Fc P w K mg base 5 "number_answer" ["test", "number"] (spM0 2 (m_number_answer c_Errs)))   : Fc P w K mg base 6 "test_answer" ["test", "value"] (spM0 2 (m_test_answer c_Errs)) := by
  obtain ⟨f, fd, F, hm⟩ := T
  have nd := sc_test_answer.nd
  exact ⟨f, fd, fn_f (k := 5) (N := n_test_answer) (fs := fs_test_answer c_Errs) F sc_test_answer (by decide) (fun cdv A outer s H E hr => (fss_cons (fs_if (ft_eq hr.units (fe_ix (fe_var 0) fe_int) fe_str) (fss_one (fs_ret (fe_if (ft_is (fe_var 1) fe_non) fe_str fe_str))) fss_nil)
      (fss_cons (fs_if (ft_is (fe_var 1) fe_non) (fss_one (fs_ret fe_str)) fss_nil)
      (fss_cons (fs_if (ft_eq hr.units (fe_ix (fe_var 0) fe_int) fe_str) (fss_one (fs_ret (fe_if (ft_val (fe_fc F_is_integer (hr.mono (by omega)) (by rfl) (fa_cons (fe_var 1) fa_nil) (argN_cons argN_nil))) fe_str fe_str))) fss_nil)
      (fss_one (fs_ret (fe_if (ft_val (fe_fc F_is_integer (hr.mono (by omega)) (by rfl) (fa_cons (fe_var 1) fa_nil) (argN_cons argN_nil))) (fe_fc F_number_answer (hr.mono (by omega)) (by rfl) (fa_cons (fe_var 0) (fa_cons (fe_var 1) fa_nil)) (argN_cons (argN_cons argN_nil))) fe_str))))))), hm, F.kp, F.binds (ps := ["test", "value"]) (fun _ _ _ _ _ _ us hl => match us, hl with | [_, _], _ => rfl)⟩
abbrev s_is_leaf : Stmt := topS 14
abbrev n_is_leaf : List Str := ["condition"]
theorem sc_is_leaf : FnScope n_is_leaf ["condition"] (defScope s_is_leaf) := ⟨rfl, rfl, rfl, by decide +kernel, rfl, by decide +kernel, by decide +kernel⟩
theorem fc_is_leaf (T : Df K mg "is_leaf" s_is_leaf)    : Fc P w K mg base 1 "is_leaf" ["condition"] (spM0 1 m_is_leaf) := by
  obtain ⟨f, fd, F, hm⟩ := T
  have nd := sc_is_leaf.nd
  exact ⟨f, fd, fn_f (k := 0) (N := n_is_leaf) (fs := fs_is_leaf) F sc_is_leaf (by decide) (fun cdv A outer s H E hr => (fss_one (fs_ret (fe_in (units65 hr) (fe_ix (fe_var 0) fe_int) (fe_tup (fa_cons fe_str (fa_cons fe_str (fa_cons fe_str (fa_cons fe_str fa_nil))))))))), hm, F.kp, F.binds (ps := ["condition"]) (fun _ _ _ _ _ _ us hl => match us, hl with | [_], _ => rfl)⟩
abbrev s_parts : Stmt := topS 15
abbrev n_parts : List Str := ["condition", "pair", "part"]
theorem sc_parts : FnScope n_parts ["condition"] (defScope s_parts) := ⟨rfl, rfl, rfl, by decide +kernel, rfl, by decide +kernel, by decide +kernel⟩
theorem fc_parts (T : Df K mg "parts" s_parts) (F_is_leaf : Fc P w K mg base 1 "is_leaf" ["condition"] (spM0 1 m_is_leaf))  (m_list : mg "list" = none) : Fc P w K mg base 2 "parts" ["condition"] (spM0 1 m_parts) := by
  obtain ⟨f, fd, F, hm⟩ := T
  have nd := sc_parts.nd
  exact ⟨f, fd, fn_f (k := 1) (N := n_parts) (fs := fs_parts) F sc_parts (by decide) (fun cdv A outer s H E hr => (fss_cons (fs_if (ft_val (fe_fc F_is_leaf (hr.mono (by omega)) (by rfl) (fa_cons (fe_var 0) fa_nil) (argN_cons argN_nil))) (fss_one (fs_ret (fe_lst fa_nil))) fss_nil)
      (fss_cons (fs_if (ft_eq hr.units (fe_ix (fe_var 0) fe_int) fe_str) (fss_one (fs_ret (fe_lst (fa_cons (fe_ix (fe_var 0) fe_int) fa_nil)))) fss_nil)
      (fss_cons (fs_if (ft_eq hr.units (fe_ix (fe_var 0) fe_int) fe_str) (fss_one (fs_ret (fe_add (fe_lc2 (fe := e_parts_c1) (t := fYes) (t1 := fYes) (fi1 := i_parts_c1) gN_imp gN_imp rfl nd (fi_seq (fe_ix (fe_var 0) fe_int)) (blkOk_by (own := [("pair", 1), ("part", 2)]) (N := n_parts) (sc := defScope s_parts) (by decide +kernel)) (gok_name (by decide)) (gok_name (by decide)) rfl (by decide) (fun _ _ _ _ _ => pg_name (i := 1) nd rfl (.inl rfl)) (fun _ _ _ _ _ => fts_nil) (fun _ _ _ _ _ => (fi_seq (fe_var 1))) (fun _ _ _ _ _ => pg_name (i := 2) nd rfl (.inl rfl)) (fun _ _ _ _ _ => fts_nil) (fun _ _ _ _ _ => (fe_var 2))) (fe_lst (fa_cons (fe_ix (fe_var 0) fe_int) fa_nil))))) fss_nil)
      (fss_one (fs_ret (fe_ct bs_list call_list_of cl_list (by rfl) m_list (by decide +kernel) (fa_cons (fe_ix (fe_var 0) fe_int) fa_nil)))))))), hm, F.kp, F.binds (ps := ["condition"]) (fun _ _ _ _ _ _ us hl => match us, hl with | [_], _ => rfl)⟩
abbrev s_turned : Stmt := topS 16
abbrev n_turned : List Str := ["condition", "word", "part", "when", "then"]
theorem sc_turned : FnScope n_turned ["condition"] (defScope s_turned) := ⟨rfl, rfl, rfl, by decide +kernel, rfl, by decide +kernel, by decide +kernel⟩
theorem fc_turned {r_turned : FM} {k : Nat} (hk : 0 ≤ k) (T : Df K mg "turned" s_turned) (F_turned : Fc P w K mg base k "turned" ["condition"] (spM0 1 r_turned))  (m_tuple : mg "tuple" = none) {a_TURNED : Addr} (KT_TURNED : KTab K w a_TURNED t_TURNED) (g_TURNED : mg "TURNED" = some (.ref a_TURNED)) : Fc P w K mg base (k + 1) "turned" ["condition"] (spM0 1 (mk 5 (fs_turned r_turned))) := by
  obtain ⟨f, fd, F, hm⟩ := T
  have nd := sc_turned.nd
  exact ⟨f, fd, fn_f (k := k) (N := n_turned) (fs := fs_turned r_turned) F sc_turned (by decide) (fun cdv A outer s H E hr => (fss_cons (fs_set (i := 1) nd (fe_ix (fe_var 0) fe_int))
      (fss_cons (fs_if (ft_eq hr.units (fe_var 1) fe_str) (fss_one (fs_ret (fe_ix (fe_var 0) fe_int))) fss_nil)
      (fss_cons (fs_if (ft_eq hr.units (fe_var 1) fe_str) (fss_one (fs_ret (fe_tup (fa_cons fe_str (fa_cons (fe_kget KT_TURNED (by rfl) g_TURNED (fe_ix (fe_var 0) fe_int) (fe_ix (fe_var 0) fe_int)) fa_nil))))) fss_nil)
      (fss_cons (fs_if (ft_in (units65 hr) (fe_var 1) (fe_tup (fa_cons fe_str (fa_cons fe_str fa_nil)))) (fss_one (fs_ret (fe_tup (fa_cons (fe_if (ft_eq hr.units (fe_var 1) fe_str) fe_str fe_str) (fa_cons (fe_ct bs_tuple call_tupF cl_tuple (by rfl) m_tuple (by decide +kernel) (fa_cons (fe_lc (fe := (e_turned_c1 r_turned)) (t := fYes) gN_imp rfl nd (fi_seq (fe_ix (fe_var 0) fe_int)) (blkOk_by (own := [("part", 2)]) (N := n_turned) (sc := defScope s_turned) (by decide +kernel)) (gok_name (by decide)) rfl (fun _ _ _ _ _ => pg_name (i := 2) nd rfl (.inl rfl)) (fun _ _ _ _ _ => fts_nil) (fun _ _ _ _ _ => (fe_fc F_turned (hr.mono (by omega)) (by rfl) (fa_cons (fe_var 2) fa_nil) (argN_cons argN_nil)))) fa_nil)) fa_nil))))) fss_nil)
      (fss_cons (fs_if (ft_eq hr.units (fe_var 1) fe_str) (fss_one (fs_ret (fe_tup (fa_cons fe_str (fa_cons (fe_ct bs_tuple call_tupF cl_tuple (by rfl) m_tuple (by decide +kernel) (fa_cons (fe_lc (fe := (e_turned_c2 r_turned)) (t := fYes) (gT_imp (gCons_imp gN_imp (gCons_imp gN_imp gNil_imp))) rfl nd (fi_seq (fe_ix (fe_var 0) fe_int)) (blkOk_by (own := [("when", 3), ("then", 4)]) (N := n_turned) (sc := defScope s_turned) (by decide +kernel)) (gok_tup (gsok_name (i := 3) (by decide) (gsok_name (i := 4) (by decide) gsok_nil mono_nil) (mono_cons mono_name mono_nil))) rfl (fun _ _ _ _ _ => pg_tup rfl (pgs_cons (pg_name (i := 3) nd rfl (.inl rfl)) (pgs_cons (pg_name (i := 4) nd rfl (.inl rfl)) pgs_nil))) (fun _ _ _ _ _ => fts_nil) (fun _ _ _ _ _ => (fe_tup (fa_cons (fe_var 3) (fa_cons (fe_fc F_turned (hr.mono (by omega)) (by rfl) (fa_cons (fe_var 4) fa_nil) (argN_cons argN_nil)) fa_nil))))) fa_nil)) (fa_cons (fe_fc F_turned (hr.mono (by omega)) (by rfl) (fa_cons (fe_ix (fe_var 0) fe_int) fa_nil) (argN_cons argN_nil)) fa_nil)))))) fss_nil)
      (fss_one (fs_ret (fe_if (ft_eq hr.units (fe_var 1) fe_str) (fe_tup (fa_cons fe_str (fa_cons (fe_ct bs_tuple call_tupF cl_tuple (by rfl) m_tuple (by decide +kernel) (fa_cons (fe_lc (fe := (e_turned_c3 r_turned)) (t := fYes) gN_imp rfl nd (fi_seq (fe_ix (fe_var 0) fe_int)) (blkOk_by (own := [("part", 2)]) (N := n_turned) (sc := defScope s_turned) (by decide +kernel)) (gok_name (by decide)) rfl (fun _ _ _ _ _ => pg_name (i := 2) nd rfl (.inl rfl)) (fun _ _ _ _ _ => fts_nil) (fun _ _ _ _ _ => (fe_fc F_turned (hr.mono (by omega)) (by rfl) (fa_cons (fe_var 2) fa_nil) (argN_cons argN_nil)))) fa_nil)) fa_nil))) (fe_tup (fa_cons fe_str (fa_cons (fe_var 0) fa_nil)))))))))))), hm, F.kp, F.binds (ps := ["condition"]) (fun _ _ _ _ _ _ us hl => match us, hl with | [_], _ => rfl)⟩
theorem rec_turned (Tturned : Df K mg "turned" s_turned)   (m_tuple : mg "tuple" = none) {a_TURNED : Addr} (KT_TURNED : KTab K w a_TURNED t_TURNED) (g_TURNED : mg "TURNED" = some (.ref a_TURNED)) : ∀ n : Nat, Fc P w K mg base (0 + n) "turned" ["condition"] (spM0 1 (m_turned n))
  | 0 => by
    obtain ⟨f_turned, d_turned, U_turned, g_turned⟩ := Tturned
    exact ⟨f_turned, d_turned, fn_none _ none_no, g_turned, U_turned.kp, U_turned.binds (ps := ["condition"]) (fun _ _ _ _ _ _ us hl => match us, hl with | [_], _ => rfl)⟩
  | n + 1 => by
    have ih := rec_turned Tturned m_tuple KT_TURNED g_TURNED n
    have F_turned := ih
    exact fc_turned (k := 0 + n) (by omega) Tturned F_turned m_tuple KT_TURNED g_TURNED
abbrev s_leaf_answer : Stmt := topS 19
abbrev n_leaf_answer : List Str := ["leaf", "row"]
theorem sc_leaf_answer : FnScope n_leaf_answer ["leaf", "row"] (defScope s_leaf_answer) := ⟨rfl, rfl, rfl, by decide +kernel, rfl, by decide +kernel, by decide +kernel⟩
theorem fc_leaf_answer {c_Errs : Addr} (T : Df K mg "leaf_answer" s_leaf_answer) (F_test_answer : Fc P w K mg base 6 "test_answer" ["test", "value"] (spM0 2 (m_test_answer c_Errs)))   : Fc P w K mg base 7 "leaf_answer" ["leaf", "row"] (spM0 2 (m_leaf_answer c_Errs)) := by
  obtain ⟨f, fd, F, hm⟩ := T
  have nd := sc_leaf_answer.nd
  exact ⟨f, fd, fn_f (k := 6) (N := n_leaf_answer) (fs := fs_leaf_answer c_Errs) F sc_leaf_answer (by decide) (fun cdv A outer s H E hr => (fss_one (fs_ret (fe_if (ft_eq hr.units (fe_ix (fe_var 0) fe_int) fe_str) (fe_ix (fe_var 0) fe_int) (fe_fc F_test_answer (hr.mono (by omega)) (by rfl) (fa_cons (fe_var 0) (fa_cons (fe_dix (hu_of hr) (fe_var 1) (fe_ix (fe_var 0) fe_int)) fa_nil)) (argN_cons (argN_cons argN_nil))))))), hm, F.kp, F.binds (ps := ["leaf", "row"]) (fun _ _ _ _ _ _ us hl => match us, hl with | [_, _], _ => rfl)⟩
abbrev s_ask_node : Stmt := topS 20
abbrev n_ask_node : List Str := ["condition", "row", "address", "heard", "deciding", "found", "at", "part", "told"]
theorem sc_ask_node : FnScope n_ask_node ["condition", "row", "address", "heard"] (defScope s_ask_node) := ⟨rfl, rfl, rfl, by decide +kernel, rfl, by decide +kernel, by decide +kernel⟩
theorem fc_ask_node {c_Errs : Addr} {r_ask_node r_ask_case r_ask : FM} {k : Nat} (hk : 7 ≤ k) (T : Df K mg "ask_node" s_ask_node) (F_ask : Fc P w K mg base k "ask" ["condition", "row", "address", "heard"] (spM0 4 r_ask))  (m_enumerate : mg "enumerate" = none) {a_DECIDING : Addr} (KT_DECIDING : KTab K w a_DECIDING t_DECIDING) (g_DECIDING : mg "DECIDING" = some (.ref a_DECIDING)) {a_TURNED : Addr} (KT_TURNED : KTab K w a_TURNED t_TURNED) (g_TURNED : mg "TURNED" = some (.ref a_TURNED)) : Fc P w K mg base (k + 1) "ask_node" ["condition", "row", "address", "heard"] (spM0 4 (mkM 9 (fs_ask_node c_Errs r_ask_node r_ask_case r_ask))) := by
  obtain ⟨f, fd, F, hm⟩ := T
  have nd := sc_ask_node.nd
  exact ⟨f, fd, fn_fM (k := k) (N := n_ask_node) (fs := fs_ask_node c_Errs r_ask_node r_ask_case r_ask) F sc_ask_node (by decide) (fun cdv A outer s H E hr => (fss_cons (fs_par2 (i := 4) (j := 5) rfl nd rfl rfl (by decide) rfl rfl (fa_cons (fe_kix KT_DECIDING (by rfl) g_DECIDING (fe_ix (fe_var 0) fe_int)) (fa_cons (fe_kix KT_TURNED (by rfl) g_TURNED (fe_kix KT_DECIDING (by rfl) g_DECIDING (fe_ix (fe_var 0) fe_int))) fa_nil)))
      (fss_cons (fs_wipe [4, 6, 7, 8] (fs_for (b := (b_ask_node_1 c_Errs r_ask_node r_ask_case r_ask)) PassesOwn.never rfl (fi_wipe [6, 7, 8] (fi_enum (by rfl) m_enumerate (fa_cons (fe_ix (fe_var 0) fe_int) fa_nil))) (fg_tup rfl (fgs_cons (fg_name (i := 6) nd) (fgs_cons (fg_name (i := 7) nd) fgs_nil))) (fss_wipe [6, 7, 8] (fss_cons (fs_set (i := 8) nd (fe_fcB (i := 3) F_ask (hr.mono (by omega)) (by rfl) (fa_cons (fe_var 7) (fa_cons (fe_var 1) (fa_cons (fe_tup (fa_star (fe_var 2) (fa_cons (fe_var 6) fa_nil))) (fa_cons (fe_var 3) fa_nil)))) (argN_cons (argN_cons (argN_cons (argN_cons argN_nil))))))
      (fss_cons (fs_if (ft_in (units65 hr) (fe_var 8) (fe_tup (fa_cons fe_str (fa_cons (fe_var 4) fa_nil)))) (fss_one (fs_retM 3 (fe_var 8))) fss_nil)
      (fss_one (fs_if (ft_eq hr.units (fe_var 8) fe_str) (fss_one (fs_set (i := 5) nd (fe_var 8))) fss_nil)))))))
      (fss_one (fs_retM 3 (fe_var 5)))))), hm, F.kp, F.binds (ps := ["condition", "row", "address", "heard"]) (fun _ _ _ _ _ _ us hl => match us, hl with | [_, _, _, _], _ => rfl)⟩
abbrev s_ask_case : Stmt := topS 21
abbrev n_ask_case : List Str := ["condition", "row", "address", "heard", "some", "at", "told"]
theorem sc_ask_case : FnScope n_ask_case ["condition", "row", "address", "heard"] (defScope s_ask_case) := ⟨rfl, rfl, rfl, by decide +kernel, rfl, by decide +kernel, by decide +kernel⟩
theorem fc_ask_case {c_Errs : Addr} {r_ask_node r_ask_case r_ask : FM} {k : Nat} (hk : 7 ≤ k) (T : Df K mg "ask_case" s_ask_case) (F_ask : Fc P w K mg base k "ask" ["condition", "row", "address", "heard"] (spM0 4 r_ask)) (F_parts : Fc P w K mg base 2 "parts" ["condition"] (spM0 1 m_parts))  (m_len : mg "len" = none) (m_range : mg "range" = none) : Fc P w K mg base (k + 1) "ask_case" ["condition", "row", "address", "heard"] (spM0 4 (mkM 7 (fs_ask_case c_Errs r_ask_node r_ask_case r_ask))) := by
  obtain ⟨f, fd, F, hm⟩ := T
  have nd := sc_ask_case.nd
  exact ⟨f, fd, fn_fM (k := k) (N := n_ask_case) (fs := fs_ask_case c_Errs r_ask_node r_ask_case r_ask) F sc_ask_case (by decide) (fun cdv A outer s H E hr => (fss_cons (fs_set (i := 4) nd (fe_fc F_parts (hr.mono (by omega)) (by rfl) (fa_cons (fe_var 0) fa_nil) (argN_cons argN_nil)))
      (fss_cons (fs_wipe [5, 6] (fs_for (b := (b_ask_case_1 c_Errs r_ask_node r_ask_case r_ask)) PassesOwn.never rfl (fi_wipe [5, 6] (fi_rng3 (by rfl) m_range (fa_cons fe_int (fa_cons (fe_sub (fe_cb bs_len call_len cl_len (by rfl) m_len (by decide +kernel) (fa_cons (fe_var 4) fa_nil)) fe_int) (fa_cons fe_int fa_nil))))) (fg_name (i := 5) nd) (fss_wipe [5, 6] (fss_cons (fs_set (i := 6) nd (fe_fcB (i := 3) F_ask (hr.mono (by omega)) (by rfl) (fa_cons (fe_ix (fe_var 4) (fe_var 5)) (fa_cons (fe_var 1) (fa_cons (fe_tup (fa_star (fe_var 2) (fa_cons (fe_var 5) fa_nil))) (fa_cons (fe_var 3) fa_nil)))) (argN_cons (argN_cons (argN_cons (argN_cons argN_nil))))))
      (fss_cons (fs_if (ft_eq hr.units (fe_var 6) fe_str) (fss_one (fs_retM 3 (fe_var 6))) fss_nil)
      (fss_one (fs_if (ft_eq hr.units (fe_var 6) fe_str) (fss_one (fs_retM 3 (fe_fcB (i := 3) F_ask (hr.mono (by omega)) (by rfl) (fa_cons (fe_ix (fe_var 4) (fe_add (fe_var 5) fe_int)) (fa_cons (fe_var 1) (fa_cons (fe_tup (fa_star (fe_var 2) (fa_cons (fe_add (fe_var 5) fe_int) fa_nil))) (fa_cons (fe_var 3) fa_nil)))) (argN_cons (argN_cons (argN_cons (argN_cons argN_nil))))))) fss_nil)))))))
      (fss_one (fs_retM 3 (fe_fcB (i := 3) F_ask (hr.mono (by omega)) (by rfl) (fa_cons (fe_ix (fe_var 4) (fe_neg fe_int)) (fa_cons (fe_var 1) (fa_cons (fe_tup (fa_star (fe_var 2) (fa_cons (fe_sub (fe_cb bs_len call_len cl_len (by rfl) m_len (by decide +kernel) (fa_cons (fe_var 4) fa_nil)) fe_int) fa_nil))) (fa_cons (fe_var 3) fa_nil)))) (argN_cons (argN_cons (argN_cons (argN_cons argN_nil)))))))))), hm, F.kp, F.binds (ps := ["condition", "row", "address", "heard"]) (fun _ _ _ _ _ _ us hl => match us, hl with | [_, _, _, _], _ => rfl)⟩
abbrev s_ask : Stmt := topS 22
abbrev n_ask : List Str := ["condition", "row", "address", "heard", "told", "at", "part"]
theorem sc_ask : FnScope n_ask ["condition", "row", "address", "heard"] (defScope s_ask) := ⟨rfl, rfl, rfl, by decide +kernel, rfl, by decide +kernel, by decide +kernel⟩
theorem fc_ask {c_Errs : Addr} {r_ask_node r_ask_case r_ask : FM} {k : Nat} (hk : 7 ≤ k) (T : Df K mg "ask" s_ask) (F_ask : Fc P w K mg base k "ask" ["condition", "row", "address", "heard"] (spM0 4 r_ask)) (F_ask_case : Fc P w K mg base k "ask_case" ["condition", "row", "address", "heard"] (spM0 4 r_ask_case)) (F_ask_node : Fc P w K mg base k "ask_node" ["condition", "row", "address", "heard"] (spM0 4 r_ask_node)) (F_is_leaf : Fc P w K mg base 1 "is_leaf" ["condition"] (spM0 1 m_is_leaf)) (F_leaf_answer : Fc P w K mg base 7 "leaf_answer" ["leaf", "row"] (spM0 2 (m_leaf_answer c_Errs)))  (m_enumerate : mg "enumerate" = none) {a_DECIDING : Addr} (KT_DECIDING : KTab K w a_DECIDING t_DECIDING) (g_DECIDING : mg "DECIDING" = some (.ref a_DECIDING)) {a_TURNED : Addr} (KT_TURNED : KTab K w a_TURNED t_TURNED) (g_TURNED : mg "TURNED" = some (.ref a_TURNED)) : Fc P w K mg base (k + 1) "ask" ["condition", "row", "address", "heard"] (spM0 4 (mkM 7 (fs_ask c_Errs r_ask_node r_ask_case r_ask))) := by
  obtain ⟨f, fd, F, hm⟩ := T
  have nd := sc_ask.nd
  exact ⟨f, fd, fn_fM (k := k) (N := n_ask) (fs := fs_ask c_Errs r_ask_node r_ask_case r_ask) F sc_ask (by decide) (fun cdv A outer s H E hr => (fss_cons (fs_if (ft_val (fe_fc F_is_leaf (hr.mono (by omega)) (by rfl) (fa_cons (fe_var 0) fa_nil) (argN_cons argN_nil))) (fss_cons (fs_expr (fe_append (pv 3) (fe_tup (fa_cons (fe_var 2) (fa_cons (fe_fc F_leaf_answer (hr.mono (by omega)) (by rfl) (fa_cons (fe_var 0) (fa_cons (fe_var 1) fa_nil)) (argN_cons (argN_cons argN_nil))) fa_nil)))))
      (fss_one (fs_retM 3 (fe_ix (fe_ix (fe_var 3) (fe_neg fe_int)) fe_int)))) fss_nil)
      (fss_cons (fs_if (ft_kin KT_DECIDING (by rfl) g_DECIDING (fe_ix (fe_var 0) fe_int)) (fss_one (fs_retM 3 (fe_fcB (i := 3) F_ask_node (hr.mono (by omega)) (by rfl) (fa_cons (fe_var 0) (fa_cons (fe_var 1) (fa_cons (fe_var 2) (fa_cons (fe_var 3) fa_nil)))) (argN_cons (argN_cons (argN_cons (argN_cons argN_nil))))))) fss_nil)
      (fss_cons (fs_wipe [4] (fs_if (ft_eq hr.units (fe_ix (fe_var 0) fe_int) fe_str) (fss_cons (fs_set (i := 4) nd (fe_fcB (i := 3) F_ask (hr.mono (by omega)) (by rfl) (fa_cons (fe_ix (fe_var 0) fe_int) (fa_cons (fe_var 1) (fa_cons (fe_tup (fa_star (fe_var 2) (fa_cons fe_int fa_nil))) (fa_cons (fe_var 3) fa_nil)))) (argN_cons (argN_cons (argN_cons (argN_cons argN_nil))))))
      (fss_one (fs_retM 3 (fe_kget KT_TURNED (by rfl) g_TURNED (fe_var 4) (fe_var 4))))) fss_nil))
      (fss_cons (fs_if (ft_eq hr.units (fe_ix (fe_var 0) fe_int) fe_str) (fss_one (fs_retM 3 (fe_fcB (i := 3) F_ask_case (hr.mono (by omega)) (by rfl) (fa_cons (fe_var 0) (fa_cons (fe_var 1) (fa_cons (fe_var 2) (fa_cons (fe_var 3) fa_nil)))) (argN_cons (argN_cons (argN_cons (argN_cons argN_nil))))))) fss_nil)
      (fss_cons (fs_wipe [4, 5, 6] (fs_for (b := (b_ask_1 c_Errs r_ask_node r_ask_case r_ask)) PassesOwn.never rfl (fi_wipe [4, 5, 6] (fi_enum (by rfl) m_enumerate (fa_cons (fe_ix (fe_var 0) fe_int) fa_nil))) (fg_tup rfl (fgs_cons (fg_name (i := 5) nd) (fgs_cons (fg_name (i := 6) nd) fgs_nil))) (fss_wipe [4, 5, 6] (fss_cons (fs_set (i := 4) nd (fe_fcB (i := 3) F_ask (hr.mono (by omega)) (by rfl) (fa_cons (fe_var 6) (fa_cons (fe_var 1) (fa_cons (fe_tup (fa_star (fe_var 2) (fa_cons (fe_var 5) fa_nil))) (fa_cons (fe_var 3) fa_nil)))) (argN_cons (argN_cons (argN_cons (argN_cons argN_nil))))))
      (fss_one (fs_if (ft_ne hr.units (fe_var 4) fe_str) (fss_one (fs_retM 3 (fe_var 4))) fss_nil))))))
      (fss_one (fs_retM 3 fe_str)))))))), hm, F.kp, F.binds (ps := ["condition", "row", "address", "heard"]) (fun _ _ _ _ _ _ us hl => match us, hl with | [_, _, _, _], _ => rfl)⟩
theorem rec_ask_node {c_Errs : Addr} (Task_node : Df K mg "ask_node" s_ask_node) (Task_case : Df K mg "ask_case" s_ask_case) (Task : Df K mg "ask" s_ask) (F_is_leaf : Fc P w K mg base 1 "is_leaf" ["condition"] (spM0 1 m_is_leaf)) (F_leaf_answer : Fc P w K mg base 7 "leaf_answer" ["leaf", "row"] (spM0 2 (m_leaf_answer c_Errs))) (F_parts : Fc P w K mg base 2 "parts" ["condition"] (spM0 1 m_parts))  (m_enumerate : mg "enumerate" = none) (m_len : mg "len" = none) (m_range : mg "range" = none) {a_DECIDING : Addr} (KT_DECIDING : KTab K w a_DECIDING t_DECIDING) (g_DECIDING : mg "DECIDING" = some (.ref a_DECIDING)) {a_TURNED : Addr} (KT_TURNED : KTab K w a_TURNED t_TURNED) (g_TURNED : mg "TURNED" = some (.ref a_TURNED)) : ∀ n : Nat, Fc P w K mg base (7 + n) "ask_node" ["condition", "row", "address", "heard"] (spM0 4 (m_ask_node c_Errs n)) ∧ Fc P w K mg base (7 + n) "ask_case" ["condition", "row", "address", "heard"] (spM0 4 (m_ask_case c_Errs n)) ∧ Fc P w K mg base (7 + n) "ask" ["condition", "row", "address", "heard"] (spM0 4 (m_ask c_Errs n))
  | 0 => by
    obtain ⟨f_ask_node, d_ask_node, U_ask_node, g_ask_node⟩ := Task_node
    obtain ⟨f_ask_case, d_ask_case, U_ask_case, g_ask_case⟩ := Task_case
    obtain ⟨f_ask, d_ask, U_ask, g_ask⟩ := Task
    exact ⟨⟨f_ask_node, d_ask_node, fn_none _ none_no, g_ask_node, U_ask_node.kp, U_ask_node.binds (ps := ["condition", "row", "address", "heard"]) (fun _ _ _ _ _ _ us hl => match us, hl with | [_, _, _, _], _ => rfl)⟩, ⟨f_ask_case, d_ask_case, fn_none _ none_no, g_ask_case, U_ask_case.kp, U_ask_case.binds (ps := ["condition", "row", "address", "heard"]) (fun _ _ _ _ _ _ us hl => match us, hl with | [_, _, _, _], _ => rfl)⟩, ⟨f_ask, d_ask, fn_none _ none_no, g_ask, U_ask.kp, U_ask.binds (ps := ["condition", "row", "address", "heard"]) (fun _ _ _ _ _ _ us hl => match us, hl with | [_, _, _, _], _ => rfl)⟩⟩
  | n + 1 => by
    have ih := rec_ask_node Task_node Task_case Task F_is_leaf F_leaf_answer F_parts m_enumerate m_len m_range KT_DECIDING g_DECIDING KT_TURNED g_TURNED n
    obtain ⟨F_ask_node, F_ask_case, F_ask⟩ := ih
    exact ⟨fc_ask_node (k := 7 + n) (by omega) Task_node F_ask m_enumerate KT_DECIDING g_DECIDING KT_TURNED g_TURNED, fc_ask_case (k := 7 + n) (by omega) Task_case F_ask F_parts m_len m_range, fc_ask (k := 7 + n) (by omega) Task F_ask F_ask_case F_ask_node F_is_leaf F_leaf_answer m_enumerate KT_DECIDING g_DECIDING KT_TURNED g_TURNED⟩
abbrev s_answer : Stmt := topS 23
abbrev n_answer : List Str := ["condition", "row"]
theorem sc_answer : FnScope n_answer ["condition", "row"] (defScope s_answer) := ⟨rfl, rfl, rfl, by decide +kernel, rfl, by decide +kernel, by decide +kernel⟩
theorem fc_answer {c_Errs : Addr} (T : Df K mg "answer" s_answer) (F_ask : Fc P w K mg base 31 "ask" ["condition", "row", "address", "heard"] (spM0 4 (m_ask c_Errs 24)))   : Fc P w K mg base 32 "answer" ["condition", "row"] (spM0 2 (m_answer c_Errs)) := by
  obtain ⟨f, fd, F, hm⟩ := T
  have nd := sc_answer.nd
  exact ⟨f, fd, fn_f (k := 31) (N := n_answer) (fs := fs_answer c_Errs) F sc_answer (by decide) (fun cdv A outer s H E hr => (fss_one (fs_ret (fe_fcN F_ask (hr.mono (by omega)) (by rfl) (fal_cons (fe_var 0) (fal_cons (fe_var 1) (fal_cons (fe_tup fa_nil) (fal_last (fe_lst fa_nil))))) (argN_cons (argN_cons (argN_cons argN_last))))))), hm, F.kp, F.binds (ps := ["condition", "row"]) (fun _ _ _ _ _ _ us hl => match us, hl with | [_, _], _ => rfl)⟩
abbrev s_asked : Stmt := topS 24
abbrev n_asked : List Str := ["condition", "row", "heard"]
theorem sc_asked : FnScope n_asked ["condition", "row"] (defScope s_asked) := ⟨rfl, rfl, rfl, by decide +kernel, rfl, by decide +kernel, by decide +kernel⟩
theorem fc_asked {c_Errs : Addr} (T : Df K mg "asked" s_asked) (F_ask : Fc P w K mg base 31 "ask" ["condition", "row", "address", "heard"] (spM0 4 (m_ask c_Errs 24)))   : Fc P w K mg base 32 "asked" ["condition", "row"] (spM0 2 (m_asked c_Errs)) := by
  obtain ⟨f, fd, F, hm⟩ := T
  have nd := sc_asked.nd
  exact ⟨f, fd, fn_f (k := 31) (N := n_asked) (fs := fs_asked c_Errs) F sc_asked (by decide) (fun cdv A outer s H E hr => (fss_cons (fs_set (i := 2) nd (fe_lst fa_nil))
      (fss_cons (fs_expr (fe_fcB (i := 2) F_ask (hr.mono (by omega)) (by rfl) (fa_cons (fe_var 0) (fa_cons (fe_var 1) (fa_cons (fe_tup fa_nil) (fa_cons (fe_var 2) fa_nil)))) (argN_cons (argN_cons (argN_cons (argN_cons argN_nil))))))
      (fss_one (fs_ret (fe_var 2)))))), hm, F.kp, F.binds (ps := ["condition", "row"]) (fun _ _ _ _ _ _ us hl => match us, hl with | [_, _], _ => rfl)⟩
abbrev s_keeps : Stmt := topS 25
abbrev n_keeps : List Str := ["condition", "row"]
theorem sc_keeps : FnScope n_keeps ["condition", "row"] (defScope s_keeps) := ⟨rfl, rfl, rfl, by decide +kernel, rfl, by decide +kernel, by decide +kernel⟩
theorem fc_keeps {c_Errs : Addr} (T : Df K mg "keeps" s_keeps) (F_answer : Fc P w K mg base 32 "answer" ["condition", "row"] (spM0 2 (m_answer c_Errs)))   : Fc P w K mg base 33 "keeps" ["condition", "row"] (spM0 2 (m_keeps c_Errs)) := by
  obtain ⟨f, fd, F, hm⟩ := T
  have nd := sc_keeps.nd
  exact ⟨f, fd, fn_f (k := 32) (N := n_keeps) (fs := fs_keeps c_Errs) F sc_keeps (by decide) (fun cdv A outer s H E hr => (fss_one (fs_ret (fe_eq hr.units (fe_fc F_answer (hr.mono (by omega)) (by rfl) (fa_cons (fe_var 0) (fa_cons (fe_var 1) fa_nil)) (argN_cons (argN_cons argN_nil))) fe_str)))), hm, F.kp, F.binds (ps := ["condition", "row"]) (fun _ _ _ _ _ _ us hl => match us, hl with | [_, _], _ => rfl)⟩
abbrev s__law_one : Stmt := topS 29
abbrev n__law_one : List Str := ["_law_bag_here", "_law_things"]
theorem sc__law_one : FnScope n__law_one ["_law_bag_here", "_law_things"] (defScope s__law_one) := ⟨rfl, rfl, rfl, by decide +kernel, rfl, by decide +kernel, by decide +kernel⟩
theorem fc__law_one (T : Df K mg "_law_one" s__law_one) (F__law_take : Fc P w K mg base 1 "_law_take" ["_law_bag_here", "_law_many"] (spM0 2 m__law_take))  (m_len : mg "len" = none) : Fc P w K mg base 2 "_law_one" ["_law_bag_here", "_law_things"] (spM0 2 m__law_one) := by
  obtain ⟨f, fd, F, hm⟩ := T
  have nd := sc__law_one.nd
  exact ⟨f, fd, fn_f (k := 1) (N := n__law_one) (fs := fs__law_one) F sc__law_one (by decide) (fun cdv A outer s H E hr => (fss_one (fs_ret (fe_ix (fe_var 1) (fe_fc F__law_take (hr.mono (by omega)) (by rfl) (fa_cons (fe_var 0) (fa_cons (fe_cb bs_len call_len cl_len (by rfl) m_len (by decide +kernel) (fa_cons (fe_var 1) fa_nil)) fa_nil)) (argN_cons (argN_cons argN_nil))))))), hm, F.kp, F.binds (ps := ["_law_bag_here", "_law_things"]) (fun _ _ _ _ _ _ us hl => match us, hl with | [_, _], _ => rfl)⟩
abbrev s__law_number : Stmt := topS 30
abbrev n__law_number : List Str := ["_law_bag_here", "_law_way"]
theorem sc__law_number : FnScope n__law_number ["_law_bag_here"] (defScope s__law_number) := ⟨rfl, rfl, rfl, by decide +kernel, rfl, by decide +kernel, by decide +kernel⟩
theorem fc__law_number (T : Df K mg "_law_number" s__law_number) (F__law_take : Fc P w K mg base 1 "_law_take" ["_law_bag_here", "_law_many"] (spM0 2 m__law_take))   : Fc P w K mg base 2 "_law_number" ["_law_bag_here"] (spM0 1 m__law_number) := by
  obtain ⟨f, fd, F, hm⟩ := T
  have nd := sc__law_number.nd
  exact ⟨f, fd, fn_f (k := 1) (N := n__law_number) (fs := fs__law_number) F sc__law_number (by decide) (fun cdv A outer s H E hr => (fss_cons (fs_set (i := 1) nd (fe_fc F__law_take (hr.mono (by omega)) (by rfl) (fa_cons (fe_var 0) (fa_cons fe_int fa_nil)) (argN_cons (argN_cons argN_nil))))
      (fss_cons (fs_if (ft_gt (fe_var 1) fe_int) (fss_one (fs_ret (fe_sub (fe_fc F__law_take (hr.mono (by omega)) (by rfl) (fa_cons (fe_var 0) (fa_cons fe_int fa_nil)) (argN_cons (argN_cons argN_nil))) fe_int))) fss_nil)
      (fss_one (fs_ret (fe_mul (fe_ix (fe_lst (fa_cons (fe_sub (fe_pow fe_int fe_int) (fe_fc F__law_take (hr.mono (by omega)) (by rfl) (fa_cons (fe_var 0) (fa_cons fe_int fa_nil)) (argN_cons (argN_cons argN_nil)))) (fa_cons (fe_fc F__law_take (hr.mono (by omega)) (by rfl) (fa_cons (fe_var 0) (fa_cons fe_int fa_nil)) (argN_cons (argN_cons argN_nil))) fa_nil))) (fe_var 1)) (fe_ix (fe_lst (fa_cons fe_int (fa_cons (fe_neg fe_int) fa_nil))) (fe_fc F__law_take (hr.mono (by omega)) (by rfl) (fa_cons (fe_var 0) (fa_cons fe_int fa_nil)) (argN_cons (argN_cons argN_nil)))))))))), hm, F.kp, F.binds (ps := ["_law_bag_here"]) (fun _ _ _ _ _ _ us hl => match us, hl with | [_], _ => rfl)⟩
abbrev s__law_step : Stmt := topS 31
abbrev n__law_step : List Str := ["_law_bag_here", "_law_word", "_law_by", "_law_keys", "_law_number_here", "_law_key"]
theorem sc__law_step : FnScope n__law_step ["_law_bag_here"] (defScope s__law_step) := ⟨rfl, rfl, rfl, by decide +kernel, rfl, by decide +kernel, by decide +kernel⟩
theorem fc__law_step (T : Df K mg "_law_step" s__law_step) (F__law_number : Fc P w K mg base 2 "_law_number" ["_law_bag_here"] (spM0 1 m__law_number)) (F__law_one : Fc P w K mg base 2 "_law_one" ["_law_bag_here", "_law_things"] (spM0 2 m__law_one)) (F__law_take : Fc P w K mg base 1 "_law_take" ["_law_bag_here", "_law_many"] (spM0 2 m__law_take))  (m_abs : mg "abs" = none) (m_max : mg "max" = none) (m_range : mg "range" = none) (m_tuple : mg "tuple" = none) : Fc P w K mg base 3 "_law_step" ["_law_bag_here"] (spM0 1 m__law_step) := by
  obtain ⟨f, fd, F, hm⟩ := T
  have nd := sc__law_step.nd
  exact ⟨f, fd, fn_f (k := 2) (N := n__law_step) (fs := fs__law_step) F sc__law_step (by decide) (fun cdv A outer s H E hr => (fss_cons (fs_set (i := 1) nd (fe_fc F__law_one (hr.mono (by omega)) (by rfl) (fa_cons (fe_var 0) (fa_cons (fe_lst (fa_cons fe_str (fa_cons fe_str (fa_cons fe_str (fa_cons fe_str (fa_cons fe_str fa_nil)))))) fa_nil)) (argN_cons (argN_cons argN_nil))))
      (fss_cons (fs_wipe [2, 3] (fs_if (ft_eq hr.units (fe_var 1) fe_str) (fss_cons (fs_set (i := 2) nd (fe_ix (fe_lst (fa_cons fe_int (fa_cons fe_int (fa_cons fe_int (fa_cons (fe_add (fe_pow fe_int fe_int) fe_int) fa_nil))))) (fe_fc F__law_take (hr.mono (by omega)) (by rfl) (fa_cons (fe_var 0) (fa_cons fe_int fa_nil)) (argN_cons (argN_cons argN_nil)))))
      (fss_cons (fs_set (i := 3) nd (fe_sl (fe_lc (fe := e__law_step_c1) (t := t__law_step_c1) gN_imp rfl nd (fi_rng2 (by rfl) m_range (fa_cons (fe_neg fe_int) (fa_cons fe_int fa_nil))) (blkOk_by (own := [("_law_key", 5)]) (N := n__law_step) (sc := defScope s__law_step) (by decide +kernel)) (gok_name (by decide)) rfl (fun _ _ _ _ _ => pg_name (i := 5) nd rfl (.inl rfl)) (fun _ _ _ _ _ => fts_one (ft_eq hr.units (fe_fc F__law_take (hr.mono (by omega)) (by rfl) (fa_cons (fe_var 0) (fa_cons fe_int fa_nil)) (argN_cons (argN_cons argN_nil))) fe_int)) (fun _ _ _ _ _ => (fe_mul (fe_var 5) (fe_var 2)))) fo_none (fo_some fe_int)))
      (fss_one (fs_ret (fe_tup (fa_cons fe_str (fa_cons (fe_ct bs_tuple call_tupF cl_tuple (by rfl) m_tuple (by decide +kernel) (fa_cons (fe_lc (fe := e__law_step_c2) (t := fYes) gN_imp rfl nd (fi_seq (fe_var 3)) (blkOk_by (own := [("_law_key", 5)]) (N := n__law_step) (sc := defScope s__law_step) (by decide +kernel)) (gok_name (by decide)) rfl (fun _ _ _ _ _ => pg_name (i := 5) nd rfl (.inl rfl)) (fun _ _ _ _ _ => fts_nil) (fun _ _ _ _ _ => (fe_tup (fa_cons (fe_var 5) (fa_cons (fe_fc F__law_number (hr.mono (by omega)) (by rfl) (fa_cons (fe_var 0) fa_nil) (argN_cons argN_nil)) fa_nil))))) fa_nil)) fa_nil))))))) fss_nil))
      (fss_cons (fs_set (i := 4) nd (fe_fc F__law_number (hr.mono (by omega)) (by rfl) (fa_cons (fe_var 0) fa_nil) (argN_cons argN_nil)))
      (fss_cons (fs_if (ft_eq hr.units (fe_var 1) fe_str) (fss_one (fs_ret (fe_tup (fa_cons fe_str (fa_cons (fe_cb bs_max2 (call_max2 rfl) cl_max2 (by rfl) m_max (by decide +kernel) (fa_cons fe_int (fa_cons (fe_cb bs_abs call_abs cl_abs (by rfl) m_abs (by decide +kernel) (fa_cons (fe_var 4) fa_nil)) fa_nil))) fa_nil))))) fss_nil)
      (fss_one (fs_ret (fe_tup (fa_cons (fe_var 1) (fa_cons (fe_if (PW.pt (ft_or (ft_ne hr.units (fe_var 4) fe_int) (ft_or1 (ft_ne hr.units (fe_var 1) fe_str)))) (fe_var 4) fe_int) fa_nil)))))))))), hm, F.kp, F.binds (ps := ["_law_bag_here"]) (fun _ _ _ _ _ _ us hl => match us, hl with | [_], _ => rfl)⟩
abbrev s__law_test : Stmt := topS 32
abbrev n__law_test : List Str := ["_law_bag_here", "_law_names", "_law_name", "_law_way", "_law_steps", "_law_k"]
theorem sc__law_test : FnScope n__law_test ["_law_bag_here", "_law_names"] (defScope s__law_test) := ⟨rfl, rfl, rfl, by decide +kernel, rfl, by decide +kernel, by decide +kernel⟩
theorem fc__law_test (T : Df K mg "_law_test" s__law_test) (F__law_one : Fc P w K mg base 2 "_law_one" ["_law_bag_here", "_law_things"] (spM0 2 m__law_one)) (F__law_step : Fc P w K mg base 3 "_law_step" ["_law_bag_here"] (spM0 1 m__law_step)) (F__law_take : Fc P w K mg base 1 "_law_take" ["_law_bag_here", "_law_many"] (spM0 2 m__law_take))  (m_range : mg "range" = none) (m_tuple : mg "tuple" = none) : Fc P w K mg base 4 "_law_test" ["_law_bag_here", "_law_names"] (spM0 2 m__law_test) := by
  obtain ⟨f, fd, F, hm⟩ := T
  have nd := sc__law_test.nd
  exact ⟨f, fd, fn_f (k := 3) (N := n__law_test) (fs := fs__law_test) F sc__law_test (by decide) (fun cdv A outer s H E hr => (fss_cons (fs_par2 (i := 2) (j := 3) rfl nd rfl rfl (by decide) rfl rfl (fa_cons (fe_fc F__law_one (hr.mono (by omega)) (by rfl) (fa_cons (fe_var 0) (fa_cons (fe_var 1) fa_nil)) (argN_cons (argN_cons argN_nil))) (fa_cons (fe_fc F__law_take (hr.mono (by omega)) (by rfl) (fa_cons (fe_var 0) (fa_cons fe_int fa_nil)) (argN_cons (argN_cons argN_nil))) fa_nil)))
      (fss_cons (fs_if (ft_lt (fe_var 3) fe_int) (fss_one (fs_ret (fe_tup (fa_cons (fe_ix (fe_lst (fa_cons fe_str (fa_cons fe_str fa_nil))) (fe_var 3)) (fa_cons (fe_var 2) fa_nil))))) fss_nil)
      (fss_cons (fs_set (i := 4) nd (fe_tup fa_nil))
      (fss_cons (fs_if (ft_gt (fe_var 3) fe_int) (fss_one (fs_set (i := 4) nd (fe_tup (fa_cons (fe_tup (fa_cons fe_str (fa_cons (fe_sub (fe_fc F__law_take (hr.mono (by omega)) (by rfl) (fa_cons (fe_var 0) (fa_cons fe_int fa_nil)) (argN_cons (argN_cons argN_nil))) fe_int) fa_nil))) (fa_cons (fe_tup (fa_cons fe_str (fa_cons (fe_sub (fe_fc F__law_take (hr.mono (by omega)) (by rfl) (fa_cons (fe_var 0) (fa_cons fe_int fa_nil)) (argN_cons (argN_cons argN_nil))) fe_int) fa_nil))) fa_nil))))) fss_nil)
      (fss_cons (fs_if (ft_gt (fe_var 3) fe_int) (fss_one (fs_set (i := 4) nd (fe_ct bs_tuple call_tupF cl_tuple (by rfl) m_tuple (by decide +kernel) (fa_cons (fe_lc (fe := e__law_test_c1) (t := fYes) gN_imp rfl nd (fi_rng1 (by rfl) m_range (fa_cons (fe_add fe_int (fe_fc F__law_take (hr.mono (by omega)) (by rfl) (fa_cons (fe_var 0) (fa_cons fe_int fa_nil)) (argN_cons (argN_cons argN_nil)))) fa_nil)) (blkOk_by (own := [("_law_k", 5)]) (N := n__law_test) (sc := defScope s__law_test) (by decide +kernel)) (gok_name (by decide)) rfl (fun _ _ _ _ _ => pg_name (i := 5) nd rfl (.inl rfl)) (fun _ _ _ _ _ => fts_nil) (fun _ _ _ _ _ => (fe_fc F__law_step (hr.mono (by omega)) (by rfl) (fa_cons (fe_var 0) fa_nil) (argN_cons argN_nil)))) fa_nil)))) fss_nil)
      (fss_one (fs_ret (fe_tup (fa_cons fe_str (fa_cons (fe_var 2) (fa_cons (fe_var 4) (fa_cons (fe_fc F__law_one (hr.mono (by omega)) (by rfl) (fa_cons (fe_var 0) (fa_cons (fe_lst (fa_cons fe_str (fa_cons fe_str (fa_cons fe_str (fa_cons fe_str (fa_cons fe_str (fa_cons fe_str fa_nil))))))) fa_nil)) (argN_cons (argN_cons argN_nil))) (fa_cons (fe_sub (fe_fc F__law_take (hr.mono (by omega)) (by rfl) (fa_cons (fe_var 0) (fa_cons fe_int fa_nil)) (argN_cons (argN_cons argN_nil))) fe_int) fa_nil)))))))))))))), hm, F.kp, F.binds (ps := ["_law_bag_here", "_law_names"]) (fun _ _ _ _ _ _ us hl => match us, hl with | [_, _], _ => rfl)⟩
abbrev s__law_leaf : Stmt := topS 33
abbrev n__law_leaf : List Str := ["_law_bag_here", "_law_names"]
theorem sc__law_leaf : FnScope n__law_leaf ["_law_bag_here", "_law_names"] (defScope s__law_leaf) := ⟨rfl, rfl, rfl, by decide +kernel, rfl, by decide +kernel, by decide +kernel⟩
theorem fc__law_leaf (T : Df K mg "_law_leaf" s__law_leaf) (F__law_one : Fc P w K mg base 2 "_law_one" ["_law_bag_here", "_law_things"] (spM0 2 m__law_one)) (F__law_take : Fc P w K mg base 1 "_law_take" ["_law_bag_here", "_law_many"] (spM0 2 m__law_take)) (F__law_test : Fc P w K mg base 4 "_law_test" ["_law_bag_here", "_law_names"] (spM0 2 m__law_test))   : Fc P w K mg base 5 "_law_leaf" ["_law_bag_here", "_law_names"] (spM0 2 m__law_leaf) := by
  obtain ⟨f, fd, F, hm⟩ := T
  have nd := sc__law_leaf.nd
  exact ⟨f, fd, fn_f (k := 4) (N := n__law_leaf) (fs := fs__law_leaf) F sc__law_leaf (by decide) (fun cdv A outer s H E hr => (fss_cons (fs_if (ft_eq hr.units (fe_fc F__law_take (hr.mono (by omega)) (by rfl) (fa_cons (fe_var 0) (fa_cons fe_int fa_nil)) (argN_cons (argN_cons argN_nil))) fe_int) (fss_one (fs_ret (fe_tup (fa_cons fe_str (fa_cons (fe_fc F__law_one (hr.mono (by omega)) (by rfl) (fa_cons (fe_var 0) (fa_cons (fe_lst (fa_cons fe_str (fa_cons fe_str (fa_cons fe_str (fa_cons fe_str fa_nil))))) fa_nil)) (argN_cons (argN_cons argN_nil))) fa_nil))))) fss_nil)
      (fss_one (fs_ret (fe_fc F__law_test (hr.mono (by omega)) (by rfl) (fa_cons (fe_var 0) (fa_cons (fe_var 1) fa_nil)) (argN_cons (argN_cons argN_nil))))))), hm, F.kp, F.binds (ps := ["_law_bag_here", "_law_names"]) (fun _ _ _ _ _ _ us hl => match us, hl with | [_, _], _ => rfl)⟩
abbrev s__law_small : Stmt := topS 34
abbrev n__law_small : List Str := ["_law_bag_here", "_law_names", "_law_way", "_law_leaf_here"]
theorem sc__law_small : FnScope n__law_small ["_law_bag_here", "_law_names"] (defScope s__law_small) := ⟨rfl, rfl, rfl, by decide +kernel, rfl, by decide +kernel, by decide +kernel⟩
theorem fc__law_small (T : Df K mg "_law_small" s__law_small) (F__law_leaf : Fc P w K mg base 5 "_law_leaf" ["_law_bag_here", "_law_names"] (spM0 2 m__law_leaf)) (F__law_one : Fc P w K mg base 2 "_law_one" ["_law_bag_here", "_law_things"] (spM0 2 m__law_one)) (F__law_take : Fc P w K mg base 1 "_law_take" ["_law_bag_here", "_law_many"] (spM0 2 m__law_take))   : Fc P w K mg base 6 "_law_small" ["_law_bag_here", "_law_names"] (spM0 2 m__law_small) := by
  obtain ⟨f, fd, F, hm⟩ := T
  have nd := sc__law_small.nd
  exact ⟨f, fd, fn_f (k := 5) (N := n__law_small) (fs := fs__law_small) F sc__law_small (by decide) (fun cdv A outer s H E hr => (fss_cons (fs_par2 (i := 2) (j := 3) rfl nd rfl rfl (by decide) rfl rfl (fa_cons (fe_fc F__law_take (hr.mono (by omega)) (by rfl) (fa_cons (fe_var 0) (fa_cons fe_int fa_nil)) (argN_cons (argN_cons argN_nil))) (fa_cons (fe_fc F__law_leaf (hr.mono (by omega)) (by rfl) (fa_cons (fe_var 0) (fa_cons (fe_var 1) fa_nil)) (argN_cons (argN_cons argN_nil))) fa_nil)))
      (fss_cons (fs_if (ft_eq hr.units (fe_var 2) fe_int) (fss_one (fs_ret (fe_fc F__law_one (hr.mono (by omega)) (by rfl) (fa_cons (fe_var 0) (fa_cons (fe_lst (fa_cons (fe_tup (fa_cons fe_str (fa_cons (fe_tup fa_nil) fa_nil))) (fa_cons (fe_tup (fa_cons fe_str (fa_cons (fe_tup fa_nil) fa_nil))) (fa_cons (fe_tup (fa_cons fe_str (fa_cons (fe_tup fa_nil) fa_nil))) (fa_cons (fe_tup (fa_cons fe_str (fa_cons (fe_tup fa_nil) (fa_cons (fe_var 3) fa_nil)))) (fa_cons (fe_tup (fa_cons fe_str (fa_cons (fe_tup fa_nil) (fa_cons (fe_var 3) fa_nil)))) fa_nil)))))) fa_nil)) (argN_cons (argN_cons argN_nil))))) fss_nil)
      (fss_cons (fs_if (ft_eq hr.units (fe_var 2) fe_int) (fss_one (fs_ret (fe_fc F__law_one (hr.mono (by omega)) (by rfl) (fa_cons (fe_var 0) (fa_cons (fe_lst (fa_cons (fe_tup (fa_cons fe_str (fa_cons (fe_var 3) fa_nil))) (fa_cons (fe_tup (fa_cons fe_str (fa_cons (fe_var 3) fa_nil))) (fa_cons (fe_tup (fa_cons fe_str (fa_cons (fe_tup (fa_cons (fe_var 3) fa_nil)) fa_nil))) (fa_cons (fe_tup (fa_cons fe_str (fa_cons (fe_tup (fa_cons (fe_var 3) fa_nil)) fa_nil))) (fa_cons (fe_tup (fa_cons fe_str (fa_cons (fe_tup (fa_cons (fe_var 3) fa_nil)) fa_nil))) fa_nil)))))) fa_nil)) (argN_cons (argN_cons argN_nil))))) fss_nil)
      (fss_one (fs_ret (fe_var 3))))))), hm, F.kp, F.binds (ps := ["_law_bag_here", "_law_names"]) (fun _ _ _ _ _ _ us hl => match us, hl with | [_, _], _ => rfl)⟩
abbrev s__law_split : Stmt := topS 35
abbrev n__law_split : List Str := ["_law_bag_here", "_law_many", "_law_number_here", "_law_sizes", "_law_k"]
theorem sc__law_split : FnScope n__law_split ["_law_bag_here", "_law_many", "_law_number_here"] (defScope s__law_split) := ⟨rfl, rfl, rfl, by decide +kernel, rfl, by decide +kernel, by decide +kernel⟩
theorem fc__law_split (T : Df K mg "_law_split" s__law_split) (F__law_take : Fc P w K mg base 1 "_law_take" ["_law_bag_here", "_law_many"] (spM0 2 m__law_take))  (m_range : mg "range" = none) : Fc P w K mg base 2 "_law_split" ["_law_bag_here", "_law_many", "_law_number_here"] (spM0 3 m__law_split) := by
  obtain ⟨f, fd, F, hm⟩ := T
  have nd := sc__law_split.nd
  exact ⟨f, fd, fn_f (k := 1) (N := n__law_split) (fs := fs__law_split) F sc__law_split (by decide) (fun cdv A outer s H E hr => (fss_cons (fs_set (i := 3) nd (fe_mul (fe_lst (fa_cons fe_int fa_nil)) (fe_var 2)))
      (fss_cons (fs_wipe [4] (fs_for (b := b__law_split_1) PassesOwn.never rfl (fi_wipe [4] (fi_rng1 (by rfl) m_range (fa_cons (fe_sub (fe_var 1) (fe_var 2)) fa_nil))) (fg_name (i := 4) nd) (fss_wipe [4] (fss_one (fs_aug (pv 3) (fe_fc F__law_take (hr.mono (by omega)) (by rfl) (fa_cons (fe_var 0) (fa_cons (fe_var 2) fa_nil)) (argN_cons (argN_cons argN_nil))) fe_int)))))
      (fss_one (fs_ret (fe_var 3)))))), hm, F.kp, F.binds (ps := ["_law_bag_here", "_law_many", "_law_number_here"]) (fun _ _ _ _ _ _ us hl => match us, hl with | [_, _, _], _ => rfl)⟩
abbrev s__law_tree : Stmt := topS 36
abbrev n__law_tree : List Str := ["_law_bag_here", "_law_names", "_law_many", "_law_deep", "_law_way", "_law_number_here", "_law_some", "_law_size", "_law_at"]
theorem sc__law_tree : FnScope n__law_tree ["_law_bag_here", "_law_names", "_law_many", "_law_deep"] (defScope s__law_tree) := ⟨rfl, rfl, rfl, by decide +kernel, rfl, by decide +kernel, by decide +kernel⟩
theorem fc__law_tree {r__law_tree : FM} {k : Nat} (hk : 6 ≤ k) (T : Df K mg "_law_tree" s__law_tree) (F__law_small : Fc P w K mg base 6 "_law_small" ["_law_bag_here", "_law_names"] (spM0 2 m__law_small)) (F__law_split : Fc P w K mg base 2 "_law_split" ["_law_bag_here", "_law_many", "_law_number_here"] (spM0 3 m__law_split)) (F__law_take : Fc P w K mg base 1 "_law_take" ["_law_bag_here", "_law_many"] (spM0 2 m__law_take)) (F__law_tree : Fc P w K mg base k "_law_tree" ["_law_bag_here", "_law_names", "_law_many", "_law_deep"] (spM0 4 r__law_tree))  (m_int : mg "int" = none) (m_min : mg "min" = none) (m_range : mg "range" = none) (m_tuple : mg "tuple" = none) : Fc P w K mg base (k + 1) "_law_tree" ["_law_bag_here", "_law_names", "_law_many", "_law_deep"] (spM0 4 (mk 9 (fs__law_tree r__law_tree))) := by
  obtain ⟨f, fd, F, hm⟩ := T
  have nd := sc__law_tree.nd
  exact ⟨f, fd, fn_f (k := k) (N := n__law_tree) (fs := fs__law_tree r__law_tree) F sc__law_tree (by decide) (fun cdv A outer s H E hr => (fss_cons (fs_if (PW.pt (ft_or (ft_lt (fe_var 2) fe_int) (ft_or1 (ft_lt (fe_var 3) fe_int)))) (fss_one (fs_ret (fe_fc F__law_small (hr.mono (by omega)) (by rfl) (fa_cons (fe_var 0) (fa_cons (fe_var 1) fa_nil)) (argN_cons (argN_cons argN_nil))))) fss_nil)
      (fss_cons (fs_par2 (i := 4) (j := 5) rfl nd rfl rfl (by decide) rfl rfl (fa_cons (fe_fc F__law_take (hr.mono (by omega)) (by rfl) (fa_cons (fe_var 0) (fa_cons fe_int fa_nil)) (argN_cons (argN_cons argN_nil))) (fa_cons (fe_add fe_int (fe_fc F__law_take (hr.mono (by omega)) (by rfl) (fa_cons (fe_var 0) (fa_cons (fe_sub (fe_cb bs_min2 (call_min2 rfl) cl_min2 (by rfl) m_min (by decide +kernel) (fa_cons (fe_var 2) (fa_cons fe_int fa_nil))) fe_int) fa_nil)) (argN_cons (argN_cons argN_nil)))) fa_nil)))
      (fss_cons (fs_if (ft_eq hr.units (fe_var 4) fe_int) (fss_one (fs_ret (fe_tup (fa_cons fe_str (fa_cons (fe_fc F__law_tree (hr.mono (by omega)) (by rfl) (fa_cons (fe_var 0) (fa_cons (fe_var 1) (fa_cons (fe_var 2) (fa_cons (fe_sub (fe_var 3) fe_int) fa_nil)))) (argN_cons (argN_cons (argN_cons (argN_cons argN_nil))))) fa_nil))))) fss_nil)
      (fss_cons (fs_if (PW.pt (ft_and (ft_eq hr.units (fe_var 4) fe_int) (ft_and1 (ft_gt (fe_var 2) fe_int)))) (fss_one (fs_set (i := 5) nd (fe_add fe_int (fe_mul fe_int (fe_ct bs_int call_int1 cl_int (by rfl) m_int (by decide +kernel) (fa_cons (fe_and (fe_gt (fe_var 2) fe_int) (fe_one (fe_gt (fe_var 5) fe_int))) fa_nil)))))) fss_nil)
      (fss_cons (fs_set (i := 6) nd (fe_lc (fe := (e__law_tree_c1 r__law_tree)) (t := fYes) gN_imp rfl nd (fi_seq (fe_fc F__law_split (hr.mono (by omega)) (by rfl) (fa_cons (fe_var 0) (fa_cons (fe_var 2) (fa_cons (fe_var 5) fa_nil))) (argN_cons (argN_cons (argN_cons argN_nil))))) (blkOk_by (own := [("_law_size", 7)]) (N := n__law_tree) (sc := defScope s__law_tree) (by decide +kernel)) (gok_name (by decide)) rfl (fun _ _ _ _ _ => pg_name (i := 7) nd rfl (.inl rfl)) (fun _ _ _ _ _ => fts_nil) (fun _ _ _ _ _ => (fe_fc F__law_tree (hr.mono (by omega)) (by rfl) (fa_cons (fe_var 0) (fa_cons (fe_var 1) (fa_cons (fe_var 7) (fa_cons (fe_sub (fe_var 3) fe_int) fa_nil)))) (argN_cons (argN_cons (argN_cons (argN_cons argN_nil))))))))
      (fss_cons (fs_if (PW.pt (ft_and (ft_eq hr.units (fe_var 4) fe_int) (ft_and1 (ft_gt (fe_var 2) fe_int)))) (fss_one (fs_ret (fe_tup (fa_cons fe_str (fa_cons (fe_ct bs_tuple call_tupF cl_tuple (by rfl) m_tuple (by decide +kernel) (fa_cons (fe_lc (fe := (e__law_tree_c2 r__law_tree)) (t := fYes) gN_imp rfl nd (fi_rng1 (by rfl) m_range (fa_cons (fe_fdiv (fe_var 5) fe_int) fa_nil)) (blkOk_by (own := [("_law_at", 8)]) (N := n__law_tree) (sc := defScope s__law_tree) (by decide +kernel)) (gok_name (by decide)) rfl (fun _ _ _ _ _ => pg_name (i := 8) nd rfl (.inl rfl)) (fun _ _ _ _ _ => fts_nil) (fun _ _ _ _ _ => (fe_tup (fa_cons (fe_ix (fe_var 6) (fe_mul fe_int (fe_var 8))) (fa_cons (fe_ix (fe_var 6) (fe_add (fe_mul fe_int (fe_var 8)) fe_int)) fa_nil))))) fa_nil)) (fa_cons (fe_ix (fe_var 6) (fe_neg fe_int)) fa_nil)))))) fss_nil)
      (fss_one (fs_ret (fe_tup (fa_cons (fe_if (ft_lt (fe_var 4) fe_int) fe_str (fe_ix (fe_lst (fa_cons fe_str (fa_cons fe_str fa_nil))) (fe_mod (fe_ct bs_int call_int1 cl_int (by rfl) m_int (by decide +kernel) (fa_cons (fe_var 4) fa_nil)) fe_int))) (fa_cons (fe_ct bs_tuple call_tupF cl_tuple (by rfl) m_tuple (by decide +kernel) (fa_cons (fe_var 6) fa_nil)) fa_nil)))))))))))), hm, F.kp, F.binds (ps := ["_law_bag_here", "_law_names", "_law_many", "_law_deep"]) (fun _ _ _ _ _ _ us hl => match us, hl with | [_, _, _, _], _ => rfl)⟩
theorem rec__law_tree (T_law_tree : Df K mg "_law_tree" s__law_tree) (F__law_small : Fc P w K mg base 6 "_law_small" ["_law_bag_here", "_law_names"] (spM0 2 m__law_small)) (F__law_split : Fc P w K mg base 2 "_law_split" ["_law_bag_here", "_law_many", "_law_number_here"] (spM0 3 m__law_split)) (F__law_take : Fc P w K mg base 1 "_law_take" ["_law_bag_here", "_law_many"] (spM0 2 m__law_take))  (m_int : mg "int" = none) (m_min : mg "min" = none) (m_range : mg "range" = none) (m_tuple : mg "tuple" = none) : ∀ n : Nat, Fc P w K mg base (6 + n) "_law_tree" ["_law_bag_here", "_law_names", "_law_many", "_law_deep"] (spM0 4 (m__law_tree n))
  | 0 => by
    obtain ⟨f__law_tree, d__law_tree, U__law_tree, g__law_tree⟩ := T_law_tree
    exact ⟨f__law_tree, d__law_tree, fn_none _ none_no, g__law_tree, U__law_tree.kp, U__law_tree.binds (ps := ["_law_bag_here", "_law_names", "_law_many", "_law_deep"]) (fun _ _ _ _ _ _ us hl => match us, hl with | [_, _, _, _], _ => rfl)⟩
  | n + 1 => by
    have ih := rec__law_tree T_law_tree F__law_small F__law_split F__law_take m_int m_min m_range m_tuple n
    have F__law_tree := ih
    exact fc__law_tree (k := 6 + n) (by omega) T_law_tree F__law_small F__law_split F__law_take F__law_tree m_int m_min m_range m_tuple
abbrev s__law_column : Stmt := topS 37
abbrev n__law_column : List Str := ["_law_bag_here", "_law_name", "_law_low"]
theorem sc__law_column : FnScope n__law_column ["_law_bag_here", "_law_name"] (defScope s__law_column) := ⟨rfl, rfl, rfl, by decide +kernel, rfl, by decide +kernel, by decide +kernel⟩
theorem fc__law_column (T : Df K mg "_law_column" s__law_column) (F__law_take : Fc P w K mg base 1 "_law_take" ["_law_bag_here", "_law_many"] (spM0 2 m__law_take))   : Fc P w K mg base 2 "_law_column" ["_law_bag_here", "_law_name"] (spM0 2 m__law_column) := by
  obtain ⟨f, fd, F, hm⟩ := T
  have nd := sc__law_column.nd
  exact ⟨f, fd, fn_f (k := 1) (N := n__law_column) (fs := fs__law_column) F sc__law_column (by decide) (fun cdv A outer s H E hr => (fss_cons (fs_set (i := 2) nd (fe_sub (fe_fc F__law_take (hr.mono (by omega)) (by rfl) (fa_cons (fe_var 0) (fa_cons fe_int fa_nil)) (argN_cons (argN_cons argN_nil))) fe_int))
      (fss_one (fs_ret (fe_tup (fa_cons (fe_var 1) (fa_cons (fe_var 2) (fa_cons (fe_add (fe_var 2) (fe_fc F__law_take (hr.mono (by omega)) (by rfl) (fa_cons (fe_var 0) (fa_cons fe_int fa_nil)) (argN_cons (argN_cons argN_nil)))) (fa_cons (fe_eq hr.units (fe_fc F__law_take (hr.mono (by omega)) (by rfl) (fa_cons (fe_var 0) (fa_cons fe_int fa_nil)) (argN_cons (argN_cons argN_nil))) fe_int) (fa_cons (fe_eq hr.units (fe_fc F__law_take (hr.mono (by omega)) (by rfl) (fa_cons (fe_var 0) (fa_cons fe_int fa_nil)) (argN_cons (argN_cons argN_nil))) fe_int) fa_nil)))))))))), hm, F.kp, F.binds (ps := ["_law_bag_here", "_law_name"]) (fun _ _ _ _ _ _ us hl => match us, hl with | [_, _], _ => rfl)⟩
abbrev s__law_values : Stmt := topS 38
abbrev n__law_values : List Str := ["_law_column_here", "_law_some"]
theorem sc__law_values : FnScope n__law_values ["_law_column_here"] (defScope s__law_values) := ⟨rfl, rfl, rfl, by decide +kernel, rfl, by decide +kernel, by decide +kernel⟩
theorem fc__law_values (T : Df K mg "_law_values" s__law_values)   (m_int : mg "int" = none) (m_list : mg "list" = none) (m_max : mg "max" = none) (m_min : mg "min" = none) (m_range : mg "range" = none) : Fc P w K mg base 1 "_law_values" ["_law_column_here"] (spM0 1 m__law_values) := by
  obtain ⟨f, fd, F, hm⟩ := T
  have nd := sc__law_values.nd
  exact ⟨f, fd, fn_f (k := 0) (N := n__law_values) (fs := fs__law_values) F sc__law_values (by decide) (fun cdv A outer s H E hr => (fss_cons (fs_set (i := 1) nd (fe_lrng2 rfl (by rfl) m_list (by rfl) m_range (fe_ix (fe_var 0) fe_int) (fe_add (fe_cb bs_min2 (call_min2 rfl) cl_min2 (by rfl) m_min (by decide +kernel) (fa_cons (fe_ix (fe_var 0) fe_int) (fa_cons (fe_add (fe_ix (fe_var 0) fe_int) fe_int) fa_nil))) fe_int)))
      (fss_cons (fs_if (ft_gt (fe_sub (fe_ix (fe_var 0) fe_int) (fe_ix (fe_var 0) fe_int)) fe_int) (fss_one (fs_set (i := 1) nd (fe_add (fe_add (fe_sl (fe_var 1) fo_none (fo_some fe_int)) (fe_lrng2 rfl (by rfl) m_list (by rfl) m_range (fe_cb bs_max2 (call_max2 rfl) cl_max2 (by rfl) m_max (by decide +kernel) (fa_cons (fe_add (fe_ix (fe_var 0) fe_int) fe_int) (fa_cons (fe_neg fe_int) fa_nil))) (fe_add (fe_cb bs_min2 (call_min2 rfl) cl_min2 (by rfl) m_min (by decide +kernel) (fa_cons (fe_sub (fe_ix (fe_var 0) fe_int) fe_int) (fa_cons fe_int fa_nil))) fe_int))) (fe_lst (fa_cons (fe_sub (fe_ix (fe_var 0) fe_int) fe_int) (fa_cons (fe_ix (fe_var 0) fe_int) fa_nil)))))) fss_nil)
      (fss_one (fs_ret (fe_add (fe_add (fe_var 1) (fe_mul (fe_lst (fa_cons fe_non fa_nil)) (fe_ct bs_int call_int1 cl_int (by rfl) m_int (by decide +kernel) (fa_cons (fe_ix (fe_var 0) fe_int) fa_nil)))) (fe_mul (fe_lst (fa_cons fe_str (fa_cons fe_str fa_nil))) (fe_ct bs_int call_int1 cl_int (by rfl) m_int (by decide +kernel) (fa_cons (fe_ix (fe_var 0) fe_int) fa_nil))))))))), hm, F.kp, F.binds (ps := ["_law_column_here"]) (fun _ _ _ _ _ _ us hl => match us, hl with | [_], _ => rfl)⟩
abbrev s__law_longer_rows : Stmt := topS 40
abbrev n__law_longer_rows : List Str := ["_law_listed", "_law_column_here", "_law_found", "_law_row", "_law_value"]
theorem sc__law_longer_rows : FnScope n__law_longer_rows ["_law_listed", "_law_column_here"] (defScope s__law_longer_rows) := ⟨rfl, rfl, rfl, by decide +kernel, rfl, by decide +kernel, by decide +kernel⟩
theorem fc__law_longer_rows (T : Df K mg "_law_longer_rows" s__law_longer_rows) (F__law_values : Fc P w K mg base 1 "_law_values" ["_law_column_here"] (spM0 1 m__law_values))  (m_dict : mg "dict" = none) (m_list : mg "list" = none) : Fc P w K mg base 2 "_law_longer_rows" ["_law_listed", "_law_column_here"] (spM0 2 m__law_longer_rows) := by
  obtain ⟨f, fd, F, hm⟩ := T
  have nd := sc__law_longer_rows.nd
  exact ⟨f, fd, fn_f (k := 1) (N := n__law_longer_rows) (fs := fs__law_longer_rows) F sc__law_longer_rows (by decide) (fun cdv A outer s H E hr => (fss_cons (fs_set (i := 2) nd (fe_lst fa_nil))
      (fss_cons (fs_wipe [3, 4] (fs_for (b := b__law_longer_rows_2) PassesOwn.never rfl (fi_wipe [3, 4] (fi_seq (fe_var 0))) (fg_name (i := 3) nd) (fss_wipe [3, 4] (fss_one (fs_wipe [3, 4] (fs_for (b := b__law_longer_rows_1) PassesOwn.never rfl (fi_wipe [4] (fi_seq (fe_fc F__law_values (hr.mono (by omega)) (by rfl) (fa_cons (fe_var 1) fa_nil) (argN_cons argN_nil)))) (fg_name (i := 4) nd) (fss_wipe [4] (fss_one (fs_expr (fe_append (pv 2) (fe_ct bs_dictA (call_dictA rfl) cl_dictA (by rfl) m_dict (by decide +kernel) (fa_cons (fe_add (fe_items rfl (fe_var 3) (by rfl) m_list) (fe_lst (fa_cons (fe_tup (fa_cons (fe_ix (fe_var 1) fe_int) (fa_cons (fe_var 4) fa_nil))) fa_nil))) fa_nil))))))))))))
      (fss_one (fs_ret (fe_var 2)))))), hm, F.kp, F.binds (ps := ["_law_listed", "_law_column_here"]) (fun _ _ _ _ _ _ us hl => match us, hl with | [_, _], _ => rfl)⟩
abbrev s__law_every_row : Stmt := topS 39
abbrev n__law_every_row : List Str := ["_law_columns", "_law_found", "_law_column_here"]
theorem sc__law_every_row : FnScope n__law_every_row ["_law_columns"] (defScope s__law_every_row) := ⟨rfl, rfl, rfl, by decide +kernel, rfl, by decide +kernel, by decide +kernel⟩
theorem fc__law_every_row (T : Df K mg "_law_every_row" s__law_every_row) (F__law_longer_rows : Fc P w K mg base 2 "_law_longer_rows" ["_law_listed", "_law_column_here"] (spM0 2 m__law_longer_rows))   : Fc P w K mg base 3 "_law_every_row" ["_law_columns"] (spM0 1 m__law_every_row) := by
  obtain ⟨f, fd, F, hm⟩ := T
  have nd := sc__law_every_row.nd
  exact ⟨f, fd, fn_f (k := 2) (N := n__law_every_row) (fs := fs__law_every_row) F sc__law_every_row (by decide) (fun cdv A outer s H E hr => (fss_cons (fs_set (i := 1) nd (fe_lst (fa_cons fe_dnew fa_nil)))
      (fss_cons (fs_wipe [2] (fs_for (b := b__law_every_row_1) PassesOwn.never rfl (fi_wipe [2] (fi_seq (fe_var 0))) (fg_name (i := 2) nd) (fss_wipe [2] (fss_one (fs_set (i := 1) nd (fe_fc F__law_longer_rows (hr.mono (by omega)) (by rfl) (fa_cons (fe_var 1) (fa_cons (fe_var 2) fa_nil)) (argN_cons (argN_cons argN_nil))))))))
      (fss_one (fs_ret (fe_var 1)))))), hm, F.kp, F.binds (ps := ["_law_columns"]) (fun _ _ _ _ _ _ us hl => match us, hl with | [_], _ => rfl)⟩
abbrev s__law_cases : Stmt := topS 41
abbrev n__law_cases : List Str := ["_law_some", "_law_last", "_law_found", "_law_part"]
theorem sc__law_cases : FnScope n__law_cases ["_law_some", "_law_last"] (defScope s__law_cases) := ⟨rfl, rfl, rfl, by decide +kernel, rfl, by decide +kernel, by decide +kernel⟩
theorem fc__law_cases (T : Df K mg "_law_cases" s__law_cases)    : Fc P w K mg base 1 "_law_cases" ["_law_some", "_law_last"] (spM0 2 m__law_cases) := by
  obtain ⟨f, fd, F, hm⟩ := T
  have nd := sc__law_cases.nd
  exact ⟨f, fd, fn_f (k := 0) (N := n__law_cases) (fs := fs__law_cases) F sc__law_cases (by decide) (fun cdv A outer s H E hr => (fss_cons (fs_set (i := 2) nd (fe_tup (fa_cons fe_str (fa_cons (fe_var 1) fa_nil))))
      (fss_cons (fs_wipe [3] (fs_for (b := b__law_cases_1) PassesOwn.never rfl (fi_wipe [3] (fi_seq (fe_rev (fe_var 0)))) (fg_name (i := 3) nd) (fss_wipe [3] (fss_one (fs_set (i := 2) nd (fe_tup (fa_cons fe_str (fa_cons (fe_tup (fa_cons (fe_tup (fa_cons (fe_var 3) (fa_cons (fe_var 2) fa_nil))) fa_nil)) (fa_cons (fe_tup (fa_cons fe_str (fa_cons fe_str fa_nil))) fa_nil)))))))))
      (fss_one (fs_ret (fe_var 2)))))), hm, F.kp, F.binds (ps := ["_law_some", "_law_last"]) (fun _ _ _ _ _ _ us hl => match us, hl with | [_, _], _ => rfl)⟩
abbrev s__law_row_right : Stmt := topS 42
abbrev n__law_row_right : List Str := ["_law_some", "_law_row", "_law_entire", "_law_guarded", "_law_one_here", "_law_other", "_law_mine", "_law_its", "_law_spot", "_law_found"]
theorem sc__law_row_right : FnScope n__law_row_right ["_law_some", "_law_row"] (defScope s__law_row_right) := ⟨rfl, rfl, rfl, by decide +kernel, rfl, by decide +kernel, by decide +kernel⟩
theorem fc__law_row_right {c_Errs : Addr} (T : Df K mg "_law_row_right" s__law_row_right) (F__law_cases : Fc P w K mg base 1 "_law_cases" ["_law_some", "_law_last"] (spM0 2 m__law_cases)) (F_answer : Fc P w K mg base 32 "answer" ["condition", "row"] (spM0 2 (m_answer c_Errs))) (F_asked : Fc P w K mg base 32 "asked" ["condition", "row"] (spM0 2 (m_asked c_Errs))) (F_keeps : Fc P w K mg base 33 "keeps" ["condition", "row"] (spM0 2 (m_keeps c_Errs)))  (m_int : mg "int" = none) (m_len : mg "len" = none) (m_tuple : mg "tuple" = none) : Fc P w K mg base 34 "_law_row_right" ["_law_some", "_law_row"] (spM0 2 (m__law_row_right c_Errs)) := by
  obtain ⟨f, fd, F, hm⟩ := T
  have nd := sc__law_row_right.nd
  exact ⟨f, fd, fn_f (k := 33) (N := n__law_row_right) (fs := fs__law_row_right c_Errs) F sc__law_row_right (by decide) (fun cdv A outer s H E hr => (fss_cons (fs_par2 (i := 2) (j := 3) rfl nd rfl rfl (by decide) rfl rfl (fa_cons (fe_tup (fa_cons fe_str (fa_cons (fe_ct bs_tuple call_tupF cl_tuple (by rfl) m_tuple (by decide +kernel) (fa_cons (fe_var 0) fa_nil)) fa_nil))) (fa_cons (fe_fc F__law_cases (hr.mono (by omega)) (by rfl) (fa_cons (fe_var 0) (fa_cons fe_str fa_nil)) (argN_cons (argN_cons argN_nil))) fa_nil)))
      (fss_cons (fs_par2 (i := 4) (j := 5) rfl nd rfl rfl (by decide) rfl rfl (fa_cons (fe_fc F_answer (hr.mono (by omega)) (by rfl) (fa_cons (fe_var 2) (fa_cons (fe_var 1) fa_nil)) (argN_cons (argN_cons argN_nil))) (fa_cons (fe_fc F_answer (hr.mono (by omega)) (by rfl) (fa_cons (fe_var 3) (fa_cons (fe_var 1) fa_nil)) (argN_cons (argN_cons argN_nil))) fa_nil)))
      (fss_cons (fs_if (PW.pt (ft_or (PW.pt (ft_and (ft_eq hr.units (fe_var 5) fe_str) (ft_and1 (ft_ne hr.units (fe_var 4) fe_str)))) (ft_or1 (PW.pt (ft_and (ft_ne hr.units (fe_var 4) fe_str) (ft_and1 (ft_ne hr.units (fe_fc F_keeps (hr.mono (by omega)) (by rfl) (fa_cons (fe_var 2) (fa_cons (fe_var 1) fa_nil)) (argN_cons (argN_cons argN_nil))) (fe_fc F_keeps (hr.mono (by omega)) (by rfl) (fa_cons (fe_var 3) (fa_cons (fe_var 1) fa_nil)) (argN_cons (argN_cons argN_nil)))))))))) (fss_one (fs_ret fe_bl)) fss_nil)
      (fss_cons (fs_setLc (i := 6) (fe := (e__law_row_right_c1 c_Errs)) (t := fYes) (gT_imp (gCons_imp gN_imp (gCons_imp gN_imp gNil_imp))) rfl nd (sw_true rfl rfl rfl (by decide +kernel)) (fi_seq (fe_fc F_asked (hr.mono (by omega)) (by rfl) (fa_cons (fe_var 3) (fa_cons (fe_var 1) fa_nil)) (argN_cons (argN_cons argN_nil)))) (blkOk_by (own := [("_law_spot", 8), ("_law_found", 9)]) (N := n__law_row_right) (sc := defScope s__law_row_right) (by decide +kernel)) (gok_tup (gsok_name (i := 8) (by decide) (gsok_name (i := 9) (by decide) gsok_nil mono_nil) (mono_cons mono_name mono_nil))) rfl (fun _ _ _ _ _ => pg_tup rfl (pgs_cons (pg_name (i := 8) nd rfl (.inl rfl)) (pgs_cons (pg_name (i := 9) nd rfl (.inl rfl)) pgs_nil))) (fun _ _ _ _ _ => fts_nil) (fun _ _ _ _ _ => (fe_var 9)))
      (fss_cons (fs_setLc (i := 7) (fe := (e__law_row_right_c2 c_Errs)) (t := fYes) (gT_imp (gCons_imp gN_imp (gCons_imp gN_imp gNil_imp))) rfl nd (sw_true rfl rfl rfl (by decide +kernel)) (fi_seq (fe_fc F_asked (hr.mono (by omega)) (by rfl) (fa_cons (fe_var 2) (fa_cons (fe_var 1) fa_nil)) (argN_cons (argN_cons argN_nil)))) (blkOk_by (own := [("_law_spot", 8), ("_law_found", 9)]) (N := n__law_row_right) (sc := defScope s__law_row_right) (by decide +kernel)) (gok_tup (gsok_name (i := 8) (by decide) (gsok_name (i := 9) (by decide) gsok_nil mono_nil) (mono_cons mono_name mono_nil))) rfl (fun _ _ _ _ _ => pg_tup rfl (pgs_cons (pg_name (i := 8) nd rfl (.inl rfl)) (pgs_cons (pg_name (i := 9) nd rfl (.inl rfl)) pgs_nil))) (fun _ _ _ _ _ => fts_nil) (fun _ _ _ _ _ => (fe_var 9)))
      (fss_cons (fs_set (i := 6) nd (fe_sl (fe_var 6) fo_none (fo_some (fe_sub (fe_cb bs_len call_len cl_len (by rfl) m_len (by decide +kernel) (fa_cons (fe_var 6) fa_nil)) (fe_ct bs_int call_int1 cl_int (by rfl) m_int (by decide +kernel) (fa_cons (fe_ne hr.units (fe_var 5) fe_str) fa_nil))))))
      (fss_one (fs_ret (fe_and (fe_eq hr.units (fe_var 6) (fe_sl (fe_var 7) fo_none (fo_some (fe_cb bs_len call_len cl_len (by rfl) m_len (by decide +kernel) (fa_cons (fe_var 6) fa_nil))))) (fe_one (fe_in (units65 hr) (fe_var 5) (fe_tup (fa_cons fe_str (fa_cons fe_str (fa_cons fe_str fa_nil)))))))))))))))), hm, F.kp, F.binds (ps := ["_law_some", "_law_row"]) (fun _ _ _ _ _ _ us hl => match us, hl with | [_, _], _ => rfl)⟩
abbrev s_law : Stmt := topS 43
abbrev n_law : List Str := ["_law_script", "_law_bag_here", "_law_turn", "_law_columns", "_law_many", "_law_most", "_law_some", "_law_entire", "_law_row", "_law_k", "_law_part"]
theorem sc_law : FnScope n_law ["_law_script"] (defScope s_law) := ⟨rfl, rfl, rfl, by decide +kernel, rfl, by decide +kernel, by decide +kernel⟩
theorem fn_law_here {f : Addr} {fd : FuncData} {c_Errs : Addr} (F : Fun K "law" "law" s_law f fd) (B : ∃ (fb : Addr) (fdb : FuncData), FnOk P w K mg base CX0 1 fb fdb ["_law_script"] (spBag K) ∧ mg "_law_bag" = some (.ref fb) ∧ PySem.W.keepIn K (.ref fb) = true ∧ Binds K fdb ["_law_script"] []) (F__law_column : Fc P w K mg base 2 "_law_column" ["_law_bag_here", "_law_name"] (spM0 2 m__law_column)) (F__law_every_row : Fc P w K mg base 3 "_law_every_row" ["_law_columns"] (spM0 1 m__law_every_row)) (F__law_row_right : Fc P w K mg base 34 "_law_row_right" ["_law_some", "_law_row"] (spM0 2 (m__law_row_right c_Errs))) (F__law_take : Fc P w K mg base 1 "_law_take" ["_law_bag_here", "_law_many"] (spM0 2 m__law_take)) (F__law_tree : Fc P w K mg base 14 "_law_tree" ["_law_bag_here", "_law_names", "_law_many", "_law_deep"] (spM0 4 (m__law_tree 8))) (F_answer : Fc P w K mg base 32 "answer" ["condition", "row"] (spM0 2 (m_answer c_Errs))) (F_turned : Fc P w K mg base 12 "turned" ["condition"] (spM0 1 (m_turned 12)))  (m_int : mg "int" = none) (m_range : mg "range" = none) (m_tuple : mg "tuple" = none)
    (hd : (m_law c_Errs [.no, .bag]).All fun o => o = .val (.val (.bl true))) : FnG P w K mg base CX0 36 f fd ["_law_script"] (spLaw K) := by
  have nd := sc_law.nd
  obtain ⟨fb, fdb, B1, B2, B3, B4⟩ := B
  exact fn_flaw (N := n_law) (fs := fs_law c_Errs) (k := 35) F sc_law (by decide) rfl (fun cdv A outer s H E hq hr => ⟨ps_asg (pe_call B1 (hr.mono (by decide)) (by rfl) B2 B3 B4 .nil pass0 (pa_cons (pv 0) pa_nil)) (pg_name (i := 1) nd rfl (by first | exact .inl rfl | exact .inr rfl)), (fss_cons (fs_wipe [1, 2, 3, 4, 5, 6, 7, 8] (fs_for (b := (b_law_4 c_Errs)) PassesOwn.never rfl (fi_wipe [2, 3, 4, 5, 6, 7, 8] (fi_rng1 (by rfl) m_range (fa_cons fe_int fa_nil))) (fg_name (i := 2) nd) (fss_wipe [2, 3, 4, 5, 6, 7, 8] (fss_cons (fs_set (i := 3) nd (fe_lst (fa_cons (fe_fc F__law_column (hr.mono (by omega)) (by rfl) (fa_cons (fe_var 1) (fa_cons fe_str fa_nil)) (argN_cons (argN_cons argN_nil))) (fa_cons (fe_fc F__law_column (hr.mono (by omega)) (by rfl) (fa_cons (fe_var 1) (fa_cons fe_str fa_nil)) (argN_cons (argN_cons argN_nil))) fa_nil))))
      (fss_cons (fs_set (i := 4) nd (fe_fc F__law_take (hr.mono (by omega)) (by rfl) (fa_cons (fe_var 1) (fa_cons fe_int fa_nil)) (argN_cons (argN_cons argN_nil))))
      (fss_cons (fs_set (i := 5) nd (fe_add fe_int (fe_ct bs_int call_int1 cl_int (by rfl) m_int (by decide +kernel) (fa_cons (fe_lt (fe_var 4) fe_int) fa_nil))))
      (fss_cons (fs_setLc (i := 6) (fe := (e_law_c1 c_Errs)) (t := fYes) gN_imp rfl nd (sw_true rfl rfl rfl (by decide +kernel)) (fi_rng1 (by rfl) m_range (fa_cons (fe_var 4) fa_nil)) (blkOk_by (own := [("_law_k", 9)]) (N := n_law) (sc := defScope s_law) (by decide +kernel)) (gok_name (by decide)) rfl (fun _ _ _ _ _ => pg_name (i := 9) nd rfl (.inl rfl)) (fun _ _ _ _ _ => fts_nil) (fun _ _ _ _ _ => (fe_fc F__law_tree (hr.mono (by omega)) (by rfl) (fa_cons (fe_var 1) (fa_cons (fe_lst (fa_cons fe_str (fa_cons fe_str fa_nil))) (fa_cons (fe_add fe_int (fe_fc F__law_take (hr.mono (by omega)) (by rfl) (fa_cons (fe_var 1) (fa_cons (fe_var 5) fa_nil)) (argN_cons (argN_cons argN_nil)))) (fa_cons fe_int fa_nil)))) (argN_cons (argN_cons (argN_cons (argN_cons argN_nil)))))))
      (fss_cons (fs_set (i := 7) nd (fe_tup (fa_cons fe_str (fa_cons (fe_ct bs_tuple call_tupF cl_tuple (by rfl) m_tuple (by decide +kernel) (fa_cons (fe_var 6) fa_nil)) fa_nil))))
      (fss_one (fs_wipe [2, 3, 4, 5, 6, 7, 8] (fs_for (b := (b_law_3 c_Errs)) PassesOwn.never rfl (fi_wipe [2, 3, 4, 5, 8] (fi_seq (fe_fc F__law_every_row (hr.mono (by omega)) (by rfl) (fa_cons (fe_var 3) fa_nil) (argN_cons argN_nil)))) (fg_name (i := 8) nd) (fss_wipe [2, 3, 4, 5, 8] (fss_cons (fs_if (ft_not (ft_val (fe_fc F__law_row_right (hr.mono (by omega)) (by rfl) (fa_cons (fe_var 6) (fa_cons (fe_var 8) fa_nil)) (argN_cons (argN_cons argN_nil))))) (fss_one (fs_ret fe_bl)) fss_nil)
      (fss_cons (fs_if (ft_ne hr.units (fe_fc F_answer (hr.mono (by omega)) (by rfl) (fa_cons (fe_fc F_turned (hr.mono (by omega)) (by rfl) (fa_cons (fe_var 7) fa_nil) (argN_cons argN_nil)) (fa_cons (fe_var 8) fa_nil)) (argN_cons (argN_cons argN_nil))) (fe_get (hu_of hr) (fe_disp (fpp_cons fe_str fe_str (fpp_cons fe_str fe_str fpp_nil))) (fe_fc F_answer (hr.mono (by omega)) (by rfl) (fa_cons (fe_var 7) (fa_cons (fe_var 8) fa_nil)) (argN_cons (argN_cons argN_nil))) (fe_fc F_answer (hr.mono (by omega)) (by rfl) (fa_cons (fe_var 7) (fa_cons (fe_var 8) fa_nil)) (argN_cons (argN_cons argN_nil))))) (fss_one (fs_ret fe_bl)) fss_nil)
      (fss_one (fs_if (ft_ne hr.units (fe_fc F_answer (hr.mono (by omega)) (by rfl) (fa_cons (fe_tup (fa_cons fe_str (fa_cons (fe_ct bs_tuple call_tupF cl_tuple (by rfl) m_tuple (by decide +kernel) (fa_cons (fe_lc (fe := (e_law_c2 c_Errs)) (t := fYes) gN_imp rfl nd (fi_seq (fe_var 6)) (blkOk_by (own := [("_law_part", 10)]) (N := n_law) (sc := defScope s_law) (by decide +kernel)) (gok_name (by decide)) rfl (fun _ _ _ _ _ => pg_name (i := 10) nd rfl (.inl rfl)) (fun _ _ _ _ _ => fts_nil) (fun _ _ _ _ _ => (fe_fc F_turned (hr.mono (by omega)) (by rfl) (fa_cons (fe_var 10) fa_nil) (argN_cons argN_nil)))) fa_nil)) fa_nil))) (fa_cons (fe_var 8) fa_nil)) (argN_cons (argN_cons argN_nil))) (fe_fc F_answer (hr.mono (by omega)) (by rfl) (fa_cons (fe_fc F_turned (hr.mono (by omega)) (by rfl) (fa_cons (fe_var 7) fa_nil) (argN_cons argN_nil)) (fa_cons (fe_var 8) fa_nil)) (argN_cons (argN_cons argN_nil)))) (fss_one (fs_ret fe_bl)) fss_nil))))))))))))))))
      (fss_one (fs_ret fe_bl)))⟩) (T.All_eq ▸ hd)
end K28

set_option maxHeartbeats 4000000
namespace K28
open PySem PySem.Spec L2 DL
variable {P : Program} {w : World} {K : PySem.W.Frag} {mg : Str → Option Value} {base : Heap}
abbrev sTake : Stmt := topS 28
abbrev nTake : List Str := ["_law_bag_here", "_law_many", "_law_cell", "_law_mixed", "_law_drawn", "_law_begin", "_law_second"]
theorem scTake : FnScope nTake ["_law_bag_here", "_law_many"] (defScope sTake) := ⟨rfl, rfl, rfl, by decide +kernel, rfl, by decide +kernel, by decide +kernel⟩
abbrev sBag : Stmt := topS 27
theorem scBag : FnScope ["_law_script", "_law_cell"] ["_law_script"] (defScope sBag) := ⟨rfl, rfl, rfl, by decide +kernel, rfl, by decide +kernel, by decide +kernel⟩
def BagAt (H0 H : Hp) (b c : Addr) (x y z : Int) : Prop := H = upd H0 b (.lst [.int x, .int y, .int z, .ref c])
theorem upd_self {H : Hp} {b : Addr} {o : HO} (h : H b = some o) : upd H b o = H := by
  funext a; unfold upd; split
  · rename_i e; subst e; exact h.symm
  · rfl
theorem mod_le {i j : Int} (h : 0 < j) : 0 ≤ i % j ∧ i % j < j := ⟨Int.emod_nonneg i (by omega), Int.emod_lt_of_pos i h⟩
theorem ok_take {f : Addr} {fd : FuncData} {k : Nat} (F : Fun K "_law_take" "_law_take" sTake f fd) (ml : mg "len" = none) (mi : mg "int" = none) : FnOk P w K mg base CX0 (k + 1) f fd ["_law_bag_here", "_law_many"] (spOf K takeS) := by
  refine F.ok scTake (fun vs H Q E h => ?_) (fun cdv A outer s H vs Q E hr h => ?_)
  · obtain ⟨bo, mo, G, rs, P, Xc, _, _, _, ha, ⟨n, rfl, _⟩, _⟩ := h
    rw [ha.1]; rfl
  · obtain ⟨bo, mo, G, rs, P, Xc, hg, hb, hmo, ha, ⟨n, rfl, n0, n1, hp⟩, hq, _⟩ := h
    obtain ⟨v0, r0, rfl, a0, ha⟩ := ha.cons_right
    obtain ⟨v1, r1, rfl, a1, ha⟩ := ha.cons_right
    rw [ha.nil_right]
    obtain ⟨b, rfl, rfl⟩ := a0
    have a1 : Den K G v1 (.int n) := a1
    obtain rfl := a1.of_int
    obtain ⟨gb, x, y, z, c, ns, hHb, hGc, b1, b2, b3, b4, b5⟩ := hb b rfl
    have hHc := hg _ _ hGc
    have ncb : c ≠ b := by rintro rfl; rw [gb] at hGc; cases hGc
    have nd := scTake.nd
    refine ⟨_, Evl.pss_cut (ps_if (pt_cmpR op_eq (pe_ix ix_list (pv 0) pe_int (fun _ _ => rfl)) pe_int (nomark _))
      (pss_cons (ps_set (i := 2) nd rfl (.inl rfl) pe_int)
      (Evl.pss_cut (ps_if (pt_cmpR op_lt (pe_ix ix_list (pv 0) pe_int (fun _ _ => rfl)) (pe_callB call_len_seq (by rfl) ml PySem.boot_len (pa_cons (pe_ix ix_list (pv 0) pe_int (fun _ _ => rfl)) pa_nil)) (nomark _))
        (pss_one (ps_set (i := 2) nd rfl (.inl rfl) (pe_ix ix_list (pe_ix ix_list (pv 0) pe_int (fun _ _ => rfl)) (pe_ix ix_list (pv 0) pe_int (fun _ _ => rfl)) (fun _ _ => rfl)))) pss_nil)
      (pss_cons (ps_augS (pv 0) pe_int get_listG pe_int ip_add set_list)
      (Evl.pss_cut (ps_if (pt_cmpR op_ge (pv 2) (pe_op op_pow pe_int pe_int) (nomark _)) (pss_one (ps_asg (pv 2) (pg_sub (pv 0) pe_int set_list))) pss_nil)
      (pss_cons (ps_set (i := 3) nd rfl (.inl rfl) (pe_op op_add (pe_op op_add (pe_op op_mul (pe_ix ix_list (pv 0) pe_int (fun _ _ => rfl)) pe_int) (pe_op op_mod (pe_callTy call_int1 (by rfl) mi (by decide +kernel) (pa_cons (pv 2) pa_nil)) pe_int)) (pe_op op_mul pe_int (pe_ix ix_list (pv 0) pe_int (fun _ _ => rfl)))))
      (pss_one (ps_asg (pe_op op_mod (pe_callTy call_int1 (by rfl) mi (by decide +kernel) (pa_cons (pv 3) pa_nil)) pe_int) (pg_sub (pv 0) pe_int set_list)))))))) pss_nil)
      (pss_cons (ps_if (pt_cmpR op_gt (pe_ix ix_list (pv 0) pe_int (fun _ _ => rfl)) pe_int (nomark _))
        (pss_cons (ps_set (i := 4) nd rfl (.inl rfl) (pe_op op_mod (pe_callTy call_int1 (by rfl) mi (by decide +kernel) (pa_cons (pe_ix ix_list (pv 0) pe_int (fun _ _ => rfl)) pa_nil)) (pv 1)))
        (pss_cons (ps_asg (pe_op op_fdiv (pe_ix ix_list (pv 0) pe_int (fun _ _ => rfl)) (pv 1)) (pg_sub (pv 0) pe_int set_list))
        (pss_one (ps_ret (pv 4))))) pss_nil)
      (pss_cons (ps_set (i := 5) nd rfl (.inl rfl) (pe_op op_mod (pe_callTy call_int1 (by rfl) mi (by decide +kernel) (pa_cons (pe_op op_mul (pe_op op_add (pe_ix ix_list (pv 0) pe_int (fun _ _ => rfl)) pe_int) pe_int) pa_nil)) pe_int))
      (pss_cons (ps_set (i := 6) nd rfl (.inl rfl) (pe_op op_mod (pe_callTy call_int1 (by rfl) mi (by decide +kernel) (pa_cons (pe_op op_mul (pe_op op_mod (pe_callTy call_int1 (by rfl) mi (by decide +kernel) (pa_cons (pe_op op_mul (pv 5) (pv 5)) pa_nil)) pe_int) pe_int) pa_nil)) pe_int))
      (pss_one (ps_ret (pe_op op_mod (pe_callTy call_int1 (by rfl) mi (by decide +kernel) (pa_cons (pe_op op_fdiv (pv 6) pe_int) pa_nil)) (pv 1))))))), ?_⟩
    rw [← upd_self hHb]
    have gB : ∀ (x y z : Int), (upd H b (.lst [.int x, .int y, .int z, .ref c])) c = some (.lst (ns.map V.int)) := fun x y z => by rw [upd_ne ncb]; exact hHc
    have sq : ∀ (x y z : Int), SqL K (upd H b (.lst [.int x, .int y, .int z, .ref c])) b [.int x, .int y, .int z, .ref c] := fun x y z => .of upd_same
    refine ⟨fun σ H1 => ∃ (x' y' z' : Int) (s2 s3 : Option V), σ = [some (.ref b), some (.int n), s2, s3, none, none, none] ∧ H1 = upd H b (.lst [.int x', .int y', .int z', .ref c]) ∧ 0 ≤ x' ∧ 0 ≤ y' ∧ y' < 2147483647 ∧ 0 ≤ z', ?_, ?_⟩
    · -- the first if
      refine ⟨.ref b, rfl, b, _, 0, _, rfl, rfl, sq x y z, atI_nat (j := 0) rfl, rfl, _, rfl, ite2 (fun e => ?_) (fun e => ?_)⟩
      · -- cell = 0
        refine ⟨fun σ H1 => ∃ (cell : Int), σ = [some (.ref b), some (.int n), some (.int cell), none, none, none, none] ∧ H1 = upd H b (.lst [.int x, .int y, .int z, .ref c]) ∧ 0 ≤ cell, ?_, ?_⟩
        · refine ⟨.ref b, rfl, b, _, 2, _, rfl, rfl, sq x y z, atI_nat (j := 2) rfl, .ref b, rfl, b, _, 3, _, rfl, rfl, sq x y z, atI_nat (j := 3) rfl, c, _, rfl, .inl (.of (gB x y z)), z, _, rfl, rfl, _, rfl, ite2 (fun e => ?_) (fun e => ?_)⟩
          · have hz : z.toNat < ns.length := by
              have := of_decide_eq_true e
              rw [List.length_map] at this
              omega
            have hc : (ns.map V.int)[z.toNat]? = some (.int ns[z.toNat]) := by rw [List.getElem?_map, List.getElem?_eq_getElem hz]; rfl
            refine ⟨.ref b, rfl, b, _, 3, _, rfl, rfl, sq x y z, atI_nat (j := 3) rfl, .ref b, rfl, b, _, 2, _, rfl, rfl, sq x y z, atI_nat (j := 2) rfl, c, _, z, _, rfl, rfl, .of (gB x y z), ?_, _, rfl, rfl, b5 _ (List.getElem_mem hz)⟩
            have := atI_nat hc
            rwa [Int.toNat_of_nonneg b4] at this
          · exact ⟨0, rfl, rfl, Int.le_refl 0⟩
        · rintro σ H1 ⟨cell, rfl, rfl, hcell⟩
          -- bag[2] += 1
          refine ⟨.ref b, rfl, b, _, 2, _, rfl, rfl, sq x y z, rfl, by decide, z, 1, rfl, rfl, b, _, 2, 2, rfl, rfl, upd_same, rfl, ?_⟩
          rw [upd_upd]
          refine ⟨fun σ H1 => ∃ (x' : Int), σ = [some (.ref b), some (.int n), some (.int cell), none, none, none, none] ∧ H1 = upd H b (.lst [.int x', .int y, .int (z + 1), .ref c]) ∧ 0 ≤ x', ?_, ?_⟩
          · refine ⟨_, rfl, 10, 18, rfl, rfl, ⟨by decide, by decide, by decide⟩, cell, _, rfl, rfl, _, rfl, ite2 (fun e => ?_) (fun e => ?_)⟩
            · refine ⟨_, rfl, .ref b, rfl, b, _, 0, 0, rfl, rfl, upd_same, rfl, cell, rfl, ?_, hcell⟩
              rw [upd_upd]; rfl
            · exact ⟨x, rfl, rfl, b1⟩
          · rintro σ H1 ⟨x', rfl, rfl, hx'⟩
            refine ⟨.ref b, rfl, b, _, 1, _, rfl, rfl, sq x' y (z + 1), atI_nat (j := 1) rfl, y, 48271, rfl, rfl, .inr ⟨by decide, by decide⟩, _, rfl, .inl ⟨cell, rfl, cell, 2147483647, rfl, rfl, (show (0 : Int) < 2147483647 by decide), _, _, rfl, rfl, .ref b, rfl, b, _, 2, _, rfl, rfl, sq x' y (z + 1), atI_nat (j := 2) rfl, 7919, z + 1, rfl, rfl, .inl ⟨by decide, by decide⟩, _, _, rfl, rfl, ?_⟩⟩
            refine ⟨_, rfl, .inl ⟨_, rfl, _, 2147483647, rfl, rfl, (show (0 : Int) < 2147483647 by decide), .ref b, rfl, b, _, 1, 1, rfl, rfl, upd_same, rfl, x', (y * 48271 + cell % 2147483647 + 7919 * (z + 1)) % 2147483647, z + 1, _, _, rfl, ?_, hx', (mod_le (by decide)).1, (mod_le (by decide)).2, by omega⟩⟩
            rw [upd_upd]; rfl
      · exact ⟨x, y, z, none, none, rfl, rfl, b1, b2, b3, b4⟩
    · rintro σ H1 ⟨x', y', z', s2, s3, rfl, rfl, c1, c2, c3, c4⟩
      refine ⟨.ref b, rfl, b, _, 0, _, rfl, rfl, sq x' y' z', atI_nat (j := 0) rfl, x', 0, rfl, rfl, _, rfl, ite2 (fun e => ?_) (fun e => ?_)⟩
      · refine ⟨.ref b, rfl, b, _, 0, _, rfl, rfl, sq x' y' z', atI_nat (j := 0) rfl, .inl ⟨x', rfl, _, rfl, x', n, rfl, rfl, n0, ?_⟩⟩
        refine ⟨.ref b, rfl, b, _, 0, _, rfl, rfl, sq x' y' z', atI_nat (j := 0) rfl, _, rfl, x', n, rfl, rfl, ⟨n0, n1⟩, .ref b, rfl, b, _, 0, 0, rfl, rfl, upd_same, rfl, _, rfl, ?_⟩
        rw [upd_upd]
        exact hq _ _ _ G _ (hp _ (mod_le n0).1 (mod_le n0).2) (take_fin (x := x' / n) (y := y') (z := z') hmo rfl hg gb hGc (Int.ediv_nonneg c1 (by omega)) c2 c3 c4 b5) (Den.int _) (fun _ z => by cases z)
      · refine ⟨.ref b, rfl, b, _, 1, _, rfl, rfl, sq x' y' z', atI_nat (j := 1) rfl, y', 1, rfl, rfl, _, 39373, rfl, rfl, .inr ⟨by decide, by decide⟩, .inl ⟨_, rfl, _, 1000000007, rfl, rfl, (show (0 : Int) < 1000000007 by decide), ?_⟩⟩
        have hb := mod_le (i := (y' + 1) * 39373) (j := 1000000007) (by decide)
        refine ⟨_, rfl, _, rfl, (y' + 1) * 39373 % 1000000007, (y' + 1) * 39373 % 1000000007, rfl, rfl, .inl ⟨by omega, by omega⟩, .inl ⟨_, rfl, _, 998244353, rfl, rfl, (show (0 : Int) < 998244353 by decide), _, 30011, rfl, rfl, .inr ⟨by decide, by decide⟩, .inl ⟨_, rfl, _, 998244353, rfl, rfl, (show (0 : Int) < 998244353 by decide), ?_⟩⟩⟩
        refine ⟨_, rfl, _, 7, rfl, rfl, ⟨by decide, by decide⟩, .inl ⟨_, rfl, _, rfl, _, n, rfl, rfl, n0, ?_⟩⟩
        exact hq _ _ _ G _ (hp _ (mod_le n0).1 (mod_le n0).2) (take_fin (x := x') (y := y') (z := z') hmo rfl hg gb hGc c1 c2 c3 c4 b5) (Den.int _) (fun _ z => by cases z)

theorem ok_bag {f : Addr} {fd : FuncData} {k : Nat} (F : Fun K "_law_bag" "_law_bag" sBag f fd) (ma : mg "abs" = none) : FnOk P w K mg base CX0 (k + 1) f fd ["_law_script"] (spBag K) := by
  refine F.ok scBag (fun vs H Q E h => ?_) (fun cdv A outer s H vs Q E hr h => ?_)
  · obtain ⟨a, ns, rfl, _⟩ := h; rfl
  · obtain ⟨a, ns, rfl, sq, l, q⟩ := h
    have nd := scBag.nd
    refine ⟨_, pss_one (ps_ret (pe_lst (pa_cons pe_int (pa_cons pe_int (pa_cons pe_int (pa_cons (pe_lc (own := [("_law_cell", 1)]) (g := gName 1) (tt := tYes) rfl nd (pi_list (pe_slice sl_list (pv 0) po_none (po_some pe_int)))
      (blkOk_by (own := [("_law_cell", 1)]) (N := ["_law_script", "_law_cell"]) (sc := defScope sBag) (by decide +kernel)) (fun _ _ _ _ _ => pg_name (i := 1) nd rfl (.inl rfl)) (fun _ _ _ _ _ => pts_nil)
      (fun _ _ _ _ _ => pe_callB call_abs (by rfl) ma (by decide +kernel) (pa_cons (pv 1) pa_nil))) pa_nil)))))), ?_⟩
    refine ⟨.ref a, rfl, 63, rfl, a, _, rfl, sq, fun b hb => ?_⟩
    have eb : (upd H b (.lst (cutV (ns.map V.int) none (some 63)))) b = some (.lst (cutV (ns.map V.int) none (some 63))) := upd_same
    have ec : cutV (ns.map V.int) none (some 63) = ((ns.take 63).map V.int) := by
      unfold cutV
      rw [HT.sIx_none, List.drop_zero, Nat.sub_zero, show HT.sIx (ns.map V.int).length (ns.map V.int).length (some 63) = min 63 (ns.map V.int).length from HT.sIx_nat _ _ 63, List.length_map, List.map_take]
      rw [Nat.min_eq_right l, List.take_of_length_le (by rw [List.length_map]; exact Nat.le_refl _), List.take_of_length_le (by rw [List.length_map]; exact l)]
    rw [ec] at eb ⊢
    have lm : (ns.take 63).length ≤ 63 := by rw [List.length_take]; exact Nat.min_le_left _ _
    generalize ns.take 63 = ms at eb lm ⊢
    refine ⟨b, rfl, ⟨_, .of eb⟩, fun c hc => ?_⟩
    have nbc : b ≠ c := ne_of_none eb hc
    let f : Int → Int := fun i => if i < 0 then -i else i
    refine lc_list (xs := ms.map V.int) (fun i H' => H' b = some (.lst (ms.map V.int)) ∧ H' c = some (.lst ((ms.take i).map fun n => V.int (f n)))) ⟨by rw [upd_ne nbc]; exact eb, by rw [upd_same]; rfl⟩ (fun i H' _ p => .of p.1) (fun i x H' hx p => ?_) (fun H' p => ?_)
    · obtain ⟨n, hn, rfl⟩ : ∃ n, ms[i]? = some n ∧ V.int n = x := by rw [List.getElem?_map] at hx; exact Option.map_eq_some_iff.mp hx
      refine ⟨rfl, _, rfl, n, rfl, _, p.2, ?_, by rw [upd_ne nbc]; exact p.1, ?_⟩
      · rw [List.length_map, List.length_take]
        exact Nat.lt_of_le_of_lt (Nat.min_le_right _ _) (Nat.lt_of_le_of_lt lm (by decide))
      · rw [upd_same, List.take_add_one, hn, List.map_append]; rfl
    · refine ⟨by show 4 ≤ sizeLine; decide, fun p' hp' => ?_⟩
      have np : c ≠ p' := ne_of_none p.2 hp'
      refine q p' c (ms.map f) _ np.symm upd_same (by rw [upd_ne np, p.2, List.length_map, List.take_length, List.map_map]; rfl) fun m hm => ?_
      obtain ⟨n, _, rfl⟩ := List.mem_map.mp hm
      show 0 ≤ (if n < 0 then -n else n)
      split <;> omega

abbrev i_Errs : Stmt := inClass (topS 2) 0
theorem sci_Errs : FnScope ["self", "number"] ["self", "number"] (defScope i_Errs) := ⟨rfl, rfl, rfl, by decide +kernel, rfl, by decide +kernel, by decide +kernel⟩
def D_fn : List He.DefD := [
  ⟨("_law_take", none), "_law_take", "_law_take", defArgs sTake, defBody sTake, defScope sTake, [], []⟩,
  ⟨("_law_bag", none), "_law_bag", "_law_bag", defArgs sBag, defBody sBag, defScope sBag, [], []⟩,
  ⟨("is_integer", none), "is_integer", "is_integer", defArgs s_is_integer, defBody s_is_integer, defScope s_is_integer, [], []⟩,
  ⟨("step_on", none), "step_on", "step_on", defArgs s_step_on, defBody s_step_on, defScope s_step_on, [], []⟩,
  ⟨("steps_on", none), "steps_on", "steps_on", defArgs s_steps_on, defBody s_steps_on, defScope s_steps_on, [], []⟩,
  ⟨("is_so", none), "is_so", "is_so", defArgs s_is_so, defBody s_is_so, defScope s_is_so, [], []⟩,
  ⟨("number_answer", none), "number_answer", "number_answer", defArgs s_number_answer, defBody s_number_answer, defScope s_number_answer, [], []⟩,
  ⟨("test_answer", none), "test_answer", "test_answer", defArgs s_test_answer, defBody s_test_answer, defScope s_test_answer, [], []⟩,
  ⟨("is_leaf", none), "is_leaf", "is_leaf", defArgs s_is_leaf, defBody s_is_leaf, defScope s_is_leaf, [], []⟩,
  ⟨("parts", none), "parts", "parts", defArgs s_parts, defBody s_parts, defScope s_parts, [], []⟩,
  ⟨("turned", none), "turned", "turned", defArgs s_turned, defBody s_turned, defScope s_turned, [], []⟩,
  ⟨("leaf_answer", none), "leaf_answer", "leaf_answer", defArgs s_leaf_answer, defBody s_leaf_answer, defScope s_leaf_answer, [], []⟩,
  ⟨("ask_node", none), "ask_node", "ask_node", defArgs s_ask_node, defBody s_ask_node, defScope s_ask_node, [], []⟩,
  ⟨("ask_case", none), "ask_case", "ask_case", defArgs s_ask_case, defBody s_ask_case, defScope s_ask_case, [], []⟩,
  ⟨("ask", none), "ask", "ask", defArgs s_ask, defBody s_ask, defScope s_ask, [], []⟩,
  ⟨("answer", none), "answer", "answer", defArgs s_answer, defBody s_answer, defScope s_answer, [], []⟩,
  ⟨("asked", none), "asked", "asked", defArgs s_asked, defBody s_asked, defScope s_asked, [], []⟩,
  ⟨("keeps", none), "keeps", "keeps", defArgs s_keeps, defBody s_keeps, defScope s_keeps, [], []⟩,
  ⟨("_law_one", none), "_law_one", "_law_one", defArgs s__law_one, defBody s__law_one, defScope s__law_one, [], []⟩,
  ⟨("_law_number", none), "_law_number", "_law_number", defArgs s__law_number, defBody s__law_number, defScope s__law_number, [], []⟩,
  ⟨("_law_step", none), "_law_step", "_law_step", defArgs s__law_step, defBody s__law_step, defScope s__law_step, [], []⟩,
  ⟨("_law_test", none), "_law_test", "_law_test", defArgs s__law_test, defBody s__law_test, defScope s__law_test, [], []⟩,
  ⟨("_law_leaf", none), "_law_leaf", "_law_leaf", defArgs s__law_leaf, defBody s__law_leaf, defScope s__law_leaf, [], []⟩,
  ⟨("_law_small", none), "_law_small", "_law_small", defArgs s__law_small, defBody s__law_small, defScope s__law_small, [], []⟩,
  ⟨("_law_split", none), "_law_split", "_law_split", defArgs s__law_split, defBody s__law_split, defScope s__law_split, [], []⟩,
  ⟨("_law_tree", none), "_law_tree", "_law_tree", defArgs s__law_tree, defBody s__law_tree, defScope s__law_tree, [], []⟩,
  ⟨("_law_column", none), "_law_column", "_law_column", defArgs s__law_column, defBody s__law_column, defScope s__law_column, [], []⟩,
  ⟨("_law_values", none), "_law_values", "_law_values", defArgs s__law_values, defBody s__law_values, defScope s__law_values, [], []⟩,
  ⟨("_law_longer_rows", none), "_law_longer_rows", "_law_longer_rows", defArgs s__law_longer_rows, defBody s__law_longer_rows, defScope s__law_longer_rows, [], []⟩,
  ⟨("_law_every_row", none), "_law_every_row", "_law_every_row", defArgs s__law_every_row, defBody s__law_every_row, defScope s__law_every_row, [], []⟩,
  ⟨("_law_cases", none), "_law_cases", "_law_cases", defArgs s__law_cases, defBody s__law_cases, defScope s__law_cases, [], []⟩,
  ⟨("_law_row_right", none), "_law_row_right", "_law_row_right", defArgs s__law_row_right, defBody s__law_row_right, defScope s__law_row_right, [], []⟩,
  ⟨("law", none), "law", "law", defArgs s_law, defBody s_law, defScope s_law, [], []⟩,
  ⟨("Errs", some "__init__"), "__init__", "Errs.__init__", defArgs i_Errs, defBody i_Errs, defScope i_Errs, [], []⟩]
def D_ex : List (PySem.W.Frag → Bool) := [
  fun K => gloB K "_law_take",
  fun K => gloB K "_law_bag",
  fun K => gloB K "is_integer",
  fun K => gloB K "step_on",
  fun K => gloB K "steps_on",
  fun K => gloB K "is_so",
  fun K => gloB K "number_answer",
  fun K => gloB K "test_answer",
  fun K => gloB K "is_leaf",
  fun K => gloB K "parts",
  fun K => gloB K "turned",
  fun K => gloB K "leaf_answer",
  fun K => gloB K "ask_node",
  fun K => gloB K "ask_case",
  fun K => gloB K "ask",
  fun K => gloB K "answer",
  fun K => gloB K "asked",
  fun K => gloB K "keeps",
  fun K => gloB K "_law_one",
  fun K => gloB K "_law_number",
  fun K => gloB K "_law_step",
  fun K => gloB K "_law_test",
  fun K => gloB K "_law_leaf",
  fun K => gloB K "_law_small",
  fun K => gloB K "_law_split",
  fun K => gloB K "_law_tree",
  fun K => gloB K "_law_column",
  fun K => gloB K "_law_values",
  fun K => gloB K "_law_longer_rows",
  fun K => gloB K "_law_every_row",
  fun K => gloB K "_law_cases",
  fun K => gloB K "_law_row_right",
  fun K => gloB K "law",
  fun K => freeB K "abs",
  fun K => freeB K "bool",
  fun K => freeB K "dict",
  fun K => freeB K "enumerate",
  fun K => freeB K "int",
  fun K => freeB K "isinstance",
  fun K => freeB K "len",
  fun K => freeB K "list",
  fun K => freeB K "max",
  fun K => freeB K "min",
  fun K => freeB K "range",
  fun K => freeB K "tuple",
  fun K => errB K "Errs" "number",
  fun K => gloB K "DECIDING",
  fun K => gloB K "TURNED",
  fun K => tabB K (He.ga K "DECIDING") tt_DECIDING,
  fun K => tabB K (He.ga K "TURNED") tt_TURNED]
abbrev RowX : PySem.W.OpenRow := PySem.W.OpenLaw.row PySem.Challenge.rw_refusedahead_k28_whole_guards_as_cases
def D_ts : List He.Tab := [((fun K => He.ga K "DECIDING"), tt_DECIDING.map (·.1)), ((fun K => He.ga K "TURNED"), tt_TURNED.map (·.1))]
abbrev Hk : PySem.W.Hook := hookF 5 D_fn D_ex D_ts
def Ob (s : PySem.W.SharedT) : AlF := obsF 5 D_fn D_ex D_ts (HandSHeadRun.getT s)
theorem Ob_eq (s : PySem.W.SharedT) : Ob s = Hk.obs s.abs := obsF_eq (HandSHeadRun.getT_eq s)
def Loose : List Str := (["AskError", "Errs", "is_integer", "step_on", "steps_on", "is_so", "number_answer", "test_answer", "TURNED", "is_leaf", "parts", "turned", "DECIDING", "leaf_answer", "ask_node", "ask_case"] : List Str) ++ (["ask", "answer", "asked", "keeps", "_law_bag", "_law_take", "_law_one", "_law_number", "_law_step", "_law_test", "_law_leaf", "_law_small", "_law_split", "_law_tree", "_law_column", "_law_values"] : List Str) ++ (["_law_every_row", "_law_longer_rows", "_law_cases", "_law_row_right"] : List Str)
set_option maxHeartbeats 0 in
theorem Run_true (w : World) : HandSHeadRun.RunEq RowX (PySem.W.view RowX.prog [43]) Hk Ob 4000 Loose (putW w true) := by
  intro os
  kernel_rfl
set_option maxHeartbeats 0 in
theorem Run_false (w : World) : HandSHeadRun.RunEq RowX (PySem.W.view RowX.prog [43]) Hk Ob 4000 Loose (putW w false) := by
  intro os
  kernel_rfl
theorem Run (w : World) : HandSHeadRun.RunEq RowX (PySem.W.view RowX.prog [43]) Hk Ob 4000 Loose w := by_flag Run_true Run_false w
theorem facts {P : Program} {w : World} {K : PySem.W.Frag} {h : Heap} {mg : Str → Option Value} {f : Addr} (X : K.In h) (G : h.Ns mainGlobals mg) (hfa : mg ("law" : Str) = some (.ref f)) (cF : SaysF D_fn D_ex D_ts w K) :
    ∃ fd : FuncData, (∀ (s : Shared) (v : Value), BindsTo s fd ⟨[v], []⟩ [("_law_script", v)]) ∧ ∀ base : Heap, K.In base → base.Ns mainGlobals mg → FnG P w K mg base CX0 36 f fd ["_law_script"] (spLaw K) := by
  have c := cF.e
  obtain ⟨d__law_take, D__law_take⟩ := c.d.def_ 0 (d := ⟨("_law_take", none), "_law_take", "_law_take", defArgs sTake, defBody sTake, defScope sTake, [], []⟩) rfl
  obtain ⟨d__law_bag, D__law_bag⟩ := c.d.def_ 1 (d := ⟨("_law_bag", none), "_law_bag", "_law_bag", defArgs sBag, defBody sBag, defScope sBag, [], []⟩) rfl
  obtain ⟨d_is_integer, D_is_integer⟩ := c.d.def_ 2 (d := ⟨("is_integer", none), "is_integer", "is_integer", defArgs s_is_integer, defBody s_is_integer, defScope s_is_integer, [], []⟩) rfl
  obtain ⟨d_step_on, D_step_on⟩ := c.d.def_ 3 (d := ⟨("step_on", none), "step_on", "step_on", defArgs s_step_on, defBody s_step_on, defScope s_step_on, [], []⟩) rfl
  obtain ⟨d_steps_on, D_steps_on⟩ := c.d.def_ 4 (d := ⟨("steps_on", none), "steps_on", "steps_on", defArgs s_steps_on, defBody s_steps_on, defScope s_steps_on, [], []⟩) rfl
  obtain ⟨d_is_so, D_is_so⟩ := c.d.def_ 5 (d := ⟨("is_so", none), "is_so", "is_so", defArgs s_is_so, defBody s_is_so, defScope s_is_so, [], []⟩) rfl
  obtain ⟨d_number_answer, D_number_answer⟩ := c.d.def_ 6 (d := ⟨("number_answer", none), "number_answer", "number_answer", defArgs s_number_answer, defBody s_number_answer, defScope s_number_answer, [], []⟩) rfl
  obtain ⟨d_test_answer, D_test_answer⟩ := c.d.def_ 7 (d := ⟨("test_answer", none), "test_answer", "test_answer", defArgs s_test_answer, defBody s_test_answer, defScope s_test_answer, [], []⟩) rfl
  obtain ⟨d_is_leaf, D_is_leaf⟩ := c.d.def_ 8 (d := ⟨("is_leaf", none), "is_leaf", "is_leaf", defArgs s_is_leaf, defBody s_is_leaf, defScope s_is_leaf, [], []⟩) rfl
  obtain ⟨d_parts, D_parts⟩ := c.d.def_ 9 (d := ⟨("parts", none), "parts", "parts", defArgs s_parts, defBody s_parts, defScope s_parts, [], []⟩) rfl
  obtain ⟨d_turned, D_turned⟩ := c.d.def_ 10 (d := ⟨("turned", none), "turned", "turned", defArgs s_turned, defBody s_turned, defScope s_turned, [], []⟩) rfl
  obtain ⟨d_leaf_answer, D_leaf_answer⟩ := c.d.def_ 11 (d := ⟨("leaf_answer", none), "leaf_answer", "leaf_answer", defArgs s_leaf_answer, defBody s_leaf_answer, defScope s_leaf_answer, [], []⟩) rfl
  obtain ⟨d_ask_node, D_ask_node⟩ := c.d.def_ 12 (d := ⟨("ask_node", none), "ask_node", "ask_node", defArgs s_ask_node, defBody s_ask_node, defScope s_ask_node, [], []⟩) rfl
  obtain ⟨d_ask_case, D_ask_case⟩ := c.d.def_ 13 (d := ⟨("ask_case", none), "ask_case", "ask_case", defArgs s_ask_case, defBody s_ask_case, defScope s_ask_case, [], []⟩) rfl
  obtain ⟨d_ask, D_ask⟩ := c.d.def_ 14 (d := ⟨("ask", none), "ask", "ask", defArgs s_ask, defBody s_ask, defScope s_ask, [], []⟩) rfl
  obtain ⟨d_answer, D_answer⟩ := c.d.def_ 15 (d := ⟨("answer", none), "answer", "answer", defArgs s_answer, defBody s_answer, defScope s_answer, [], []⟩) rfl
  obtain ⟨d_asked, D_asked⟩ := c.d.def_ 16 (d := ⟨("asked", none), "asked", "asked", defArgs s_asked, defBody s_asked, defScope s_asked, [], []⟩) rfl
  obtain ⟨d_keeps, D_keeps⟩ := c.d.def_ 17 (d := ⟨("keeps", none), "keeps", "keeps", defArgs s_keeps, defBody s_keeps, defScope s_keeps, [], []⟩) rfl
  obtain ⟨d__law_one, D__law_one⟩ := c.d.def_ 18 (d := ⟨("_law_one", none), "_law_one", "_law_one", defArgs s__law_one, defBody s__law_one, defScope s__law_one, [], []⟩) rfl
  obtain ⟨d__law_number, D__law_number⟩ := c.d.def_ 19 (d := ⟨("_law_number", none), "_law_number", "_law_number", defArgs s__law_number, defBody s__law_number, defScope s__law_number, [], []⟩) rfl
  obtain ⟨d__law_step, D__law_step⟩ := c.d.def_ 20 (d := ⟨("_law_step", none), "_law_step", "_law_step", defArgs s__law_step, defBody s__law_step, defScope s__law_step, [], []⟩) rfl
  obtain ⟨d__law_test, D__law_test⟩ := c.d.def_ 21 (d := ⟨("_law_test", none), "_law_test", "_law_test", defArgs s__law_test, defBody s__law_test, defScope s__law_test, [], []⟩) rfl
  obtain ⟨d__law_leaf, D__law_leaf⟩ := c.d.def_ 22 (d := ⟨("_law_leaf", none), "_law_leaf", "_law_leaf", defArgs s__law_leaf, defBody s__law_leaf, defScope s__law_leaf, [], []⟩) rfl
  obtain ⟨d__law_small, D__law_small⟩ := c.d.def_ 23 (d := ⟨("_law_small", none), "_law_small", "_law_small", defArgs s__law_small, defBody s__law_small, defScope s__law_small, [], []⟩) rfl
  obtain ⟨d__law_split, D__law_split⟩ := c.d.def_ 24 (d := ⟨("_law_split", none), "_law_split", "_law_split", defArgs s__law_split, defBody s__law_split, defScope s__law_split, [], []⟩) rfl
  obtain ⟨d__law_tree, D__law_tree⟩ := c.d.def_ 25 (d := ⟨("_law_tree", none), "_law_tree", "_law_tree", defArgs s__law_tree, defBody s__law_tree, defScope s__law_tree, [], []⟩) rfl
  obtain ⟨d__law_column, D__law_column⟩ := c.d.def_ 26 (d := ⟨("_law_column", none), "_law_column", "_law_column", defArgs s__law_column, defBody s__law_column, defScope s__law_column, [], []⟩) rfl
  obtain ⟨d__law_values, D__law_values⟩ := c.d.def_ 27 (d := ⟨("_law_values", none), "_law_values", "_law_values", defArgs s__law_values, defBody s__law_values, defScope s__law_values, [], []⟩) rfl
  obtain ⟨d__law_longer_rows, D__law_longer_rows⟩ := c.d.def_ 28 (d := ⟨("_law_longer_rows", none), "_law_longer_rows", "_law_longer_rows", defArgs s__law_longer_rows, defBody s__law_longer_rows, defScope s__law_longer_rows, [], []⟩) rfl
  obtain ⟨d__law_every_row, D__law_every_row⟩ := c.d.def_ 29 (d := ⟨("_law_every_row", none), "_law_every_row", "_law_every_row", defArgs s__law_every_row, defBody s__law_every_row, defScope s__law_every_row, [], []⟩) rfl
  obtain ⟨d__law_cases, D__law_cases⟩ := c.d.def_ 30 (d := ⟨("_law_cases", none), "_law_cases", "_law_cases", defArgs s__law_cases, defBody s__law_cases, defScope s__law_cases, [], []⟩) rfl
  obtain ⟨d__law_row_right, D__law_row_right⟩ := c.d.def_ 31 (d := ⟨("_law_row_right", none), "_law_row_right", "_law_row_right", defArgs s__law_row_right, defBody s__law_row_right, defScope s__law_row_right, [], []⟩) rfl
  obtain ⟨d_law, D_law⟩ := c.d.def_ 32 (d := ⟨("law", none), "law", "law", defArgs s_law, defBody s_law, defScope s_law, [], []⟩) rfl
  obtain ⟨d_Errs, D_Errs⟩ := c.d.def_ 33 (d := ⟨("Errs", some "__init__"), "__init__", "Errs.__init__", defArgs i_Errs, defBody i_Errs, defScope i_Errs, [], []⟩) rfl
  have U__law_take : Fun K "_law_take" "_law_take" sTake _ _ := fun_of D__law_take
  have U__law_bag : Fun K "_law_bag" "_law_bag" sBag _ _ := fun_of D__law_bag
  have U_is_integer : Fun K "is_integer" "is_integer" s_is_integer _ _ := fun_of D_is_integer
  have U_step_on : Fun K "step_on" "step_on" s_step_on _ _ := fun_of D_step_on
  have U_steps_on : Fun K "steps_on" "steps_on" s_steps_on _ _ := fun_of D_steps_on
  have U_is_so : Fun K "is_so" "is_so" s_is_so _ _ := fun_of D_is_so
  have U_number_answer : Fun K "number_answer" "number_answer" s_number_answer _ _ := fun_of D_number_answer
  have U_test_answer : Fun K "test_answer" "test_answer" s_test_answer _ _ := fun_of D_test_answer
  have U_is_leaf : Fun K "is_leaf" "is_leaf" s_is_leaf _ _ := fun_of D_is_leaf
  have U_parts : Fun K "parts" "parts" s_parts _ _ := fun_of D_parts
  have U_turned : Fun K "turned" "turned" s_turned _ _ := fun_of D_turned
  have U_leaf_answer : Fun K "leaf_answer" "leaf_answer" s_leaf_answer _ _ := fun_of D_leaf_answer
  have U_ask_node : Fun K "ask_node" "ask_node" s_ask_node _ _ := fun_of D_ask_node
  have U_ask_case : Fun K "ask_case" "ask_case" s_ask_case _ _ := fun_of D_ask_case
  have U_ask : Fun K "ask" "ask" s_ask _ _ := fun_of D_ask
  have U_answer : Fun K "answer" "answer" s_answer _ _ := fun_of D_answer
  have U_asked : Fun K "asked" "asked" s_asked _ _ := fun_of D_asked
  have U_keeps : Fun K "keeps" "keeps" s_keeps _ _ := fun_of D_keeps
  have U__law_one : Fun K "_law_one" "_law_one" s__law_one _ _ := fun_of D__law_one
  have U__law_number : Fun K "_law_number" "_law_number" s__law_number _ _ := fun_of D__law_number
  have U__law_step : Fun K "_law_step" "_law_step" s__law_step _ _ := fun_of D__law_step
  have U__law_test : Fun K "_law_test" "_law_test" s__law_test _ _ := fun_of D__law_test
  have U__law_leaf : Fun K "_law_leaf" "_law_leaf" s__law_leaf _ _ := fun_of D__law_leaf
  have U__law_small : Fun K "_law_small" "_law_small" s__law_small _ _ := fun_of D__law_small
  have U__law_split : Fun K "_law_split" "_law_split" s__law_split _ _ := fun_of D__law_split
  have U__law_tree : Fun K "_law_tree" "_law_tree" s__law_tree _ _ := fun_of D__law_tree
  have U__law_column : Fun K "_law_column" "_law_column" s__law_column _ _ := fun_of D__law_column
  have U__law_values : Fun K "_law_values" "_law_values" s__law_values _ _ := fun_of D__law_values
  have U__law_longer_rows : Fun K "_law_longer_rows" "_law_longer_rows" s__law_longer_rows _ _ := fun_of D__law_longer_rows
  have U__law_every_row : Fun K "_law_every_row" "_law_every_row" s__law_every_row _ _ := fun_of D__law_every_row
  have U__law_cases : Fun K "_law_cases" "_law_cases" s__law_cases _ _ := fun_of D__law_cases
  have U__law_row_right : Fun K "_law_row_right" "_law_row_right" s__law_row_right _ _ := fun_of D__law_row_right
  have U_law : Fun K "law" "law" s_law _ _ := fun_of D_law
  have U_Errs : Fun K "__init__" "Errs.__init__" i_Errs _ _ := fun_of D_Errs
  have g__law_take := glo_of X G (x := "_law_take") (c.at 0)
  have g__law_bag := glo_of X G (x := "_law_bag") (c.at 1)
  have g_is_integer := glo_of X G (x := "is_integer") (c.at 2)
  have g_step_on := glo_of X G (x := "step_on") (c.at 3)
  have g_steps_on := glo_of X G (x := "steps_on") (c.at 4)
  have g_is_so := glo_of X G (x := "is_so") (c.at 5)
  have g_number_answer := glo_of X G (x := "number_answer") (c.at 6)
  have g_test_answer := glo_of X G (x := "test_answer") (c.at 7)
  have g_is_leaf := glo_of X G (x := "is_leaf") (c.at 8)
  have g_parts := glo_of X G (x := "parts") (c.at 9)
  have g_turned := glo_of X G (x := "turned") (c.at 10)
  have g_leaf_answer := glo_of X G (x := "leaf_answer") (c.at 11)
  have g_ask_node := glo_of X G (x := "ask_node") (c.at 12)
  have g_ask_case := glo_of X G (x := "ask_case") (c.at 13)
  have g_ask := glo_of X G (x := "ask") (c.at 14)
  have g_answer := glo_of X G (x := "answer") (c.at 15)
  have g_asked := glo_of X G (x := "asked") (c.at 16)
  have g_keeps := glo_of X G (x := "keeps") (c.at 17)
  have g__law_one := glo_of X G (x := "_law_one") (c.at 18)
  have g__law_number := glo_of X G (x := "_law_number") (c.at 19)
  have g__law_step := glo_of X G (x := "_law_step") (c.at 20)
  have g__law_test := glo_of X G (x := "_law_test") (c.at 21)
  have g__law_leaf := glo_of X G (x := "_law_leaf") (c.at 22)
  have g__law_small := glo_of X G (x := "_law_small") (c.at 23)
  have g__law_split := glo_of X G (x := "_law_split") (c.at 24)
  have g__law_tree := glo_of X G (x := "_law_tree") (c.at 25)
  have g__law_column := glo_of X G (x := "_law_column") (c.at 26)
  have g__law_values := glo_of X G (x := "_law_values") (c.at 27)
  have g__law_longer_rows := glo_of X G (x := "_law_longer_rows") (c.at 28)
  have g__law_every_row := glo_of X G (x := "_law_every_row") (c.at 29)
  have g__law_cases := glo_of X G (x := "_law_cases") (c.at 30)
  have g__law_row_right := glo_of X G (x := "_law_row_right") (c.at 31)
  have g_law := glo_of X G (x := "law") (c.at 32)
  have m_abs := free_of X G (x := "abs") (c.at 33)
  have m_bool := free_of X G (x := "bool") (c.at 34)
  have m_dict := free_of X G (x := "dict") (c.at 35)
  have m_enumerate := free_of X G (x := "enumerate") (c.at 36)
  have m_int := free_of X G (x := "int") (c.at 37)
  have m_isinstance := free_of X G (x := "isinstance") (c.at 38)
  have m_len := free_of X G (x := "len") (c.at 39)
  have m_list := free_of X G (x := "list") (c.at 40)
  have m_max := free_of X G (x := "max") (c.at 41)
  have m_min := free_of X G (x := "min") (c.at 42)
  have m_range := free_of X G (x := "range") (c.at 43)
  have m_tuple := free_of X G (x := "tuple") (c.at 44)
  have g_DECIDING := glo_of X G (x := "DECIDING") (c.at 46)
  have KT_DECIDING : KTab K w (He.ga K "DECIDING") t_DECIDING := tab_of cF 0 (x := "DECIDING") (tbl := tt_DECIDING) rfl (c.at 48)
  have g_TURNED := glo_of X G (x := "TURNED") (c.at 47)
  have KT_TURNED : KTab K w (He.ga K "TURNED") t_TURNED := tab_of cF 1 (x := "TURNED") (tbl := tt_TURNED) rfl (c.at 49)
  have e := hfa.symm.trans g_law
  cases e
  have b := FunD.bindsA (ps := ["_law_script"]) D_law (fun _ _ _ _ _ _ us hl => match us, hl with | [_], _ => rfl)
  refine ⟨d_law, fun s v => b s [v] rfl, fun base _ _ => ?_⟩
  have F_take0 : FnOk P w K mg base CX0 1 _ _ ["_law_bag_here", "_law_many"] (spOf K takeS) := ok_take (k := 0) U__law_take m_len m_int
  have F__law_take := take_fc (x := "_law_take") F_take0 g__law_take U__law_take.kp (U__law_take.binds (ps := ["_law_bag_here", "_law_many"]) (fun _ _ _ _ _ _ us hl => match us, hl with | [_, _], _ => rfl))
  have B : ∃ (fb : Addr) (fdb : FuncData), FnOk P w K mg base CX0 1 fb fdb ["_law_script"] (spBag K) ∧ mg "_law_bag" = some (.ref fb) ∧ PySem.W.keepIn K (.ref fb) = true ∧ Binds K fdb ["_law_script"] [] := ⟨_, _, ok_bag (k := 0) U__law_bag m_abs, g__law_bag, U__law_bag.kp, U__law_bag.binds (ps := ["_law_script"]) (fun _ _ _ _ _ _ us hl => match us, hl with | [_], _ => rfl)⟩
  have T_Errs : ErrC P w K mg base "Errs" (He.ga K "Errs") "number" := errC_of (g := "number") X G (c.at 45) U_Errs sci_Errs rfl (U_Errs.binds (ps := ["self", "number"]) (fun _ _ _ _ _ _ us hl => match us, hl with | [_, _], _ => rfl)) (fun cdv A outer s H E => pss_one (ps_ost (pv 0) (pv 1)))
  have F_is_integer := fc_is_integer (P := P) (w := w) (base := base) ⟨_, _, U_is_integer, g_is_integer⟩ m_bool m_int m_isinstance
  have F_step_on := fc_step_on (P := P) (w := w) (base := base) ⟨_, _, U_step_on, g_step_on⟩ T_Errs
  have F_steps_on := fc_steps_on (P := P) (w := w) (base := base) ⟨_, _, U_steps_on, g_steps_on⟩ F_step_on
  have F_is_so := fc_is_so (P := P) (w := w) (base := base) ⟨_, _, U_is_so, g_is_so⟩
  have F_number_answer := fc_number_answer (P := P) (w := w) (base := base) ⟨_, _, U_number_answer, g_number_answer⟩ F_is_so F_steps_on T_Errs
  have F_test_answer := fc_test_answer (P := P) (w := w) (base := base) ⟨_, _, U_test_answer, g_test_answer⟩ F_is_integer F_number_answer
  have F_is_leaf := fc_is_leaf (P := P) (w := w) (base := base) ⟨_, _, U_is_leaf, g_is_leaf⟩
  have F_parts := fc_parts (P := P) (w := w) (base := base) ⟨_, _, U_parts, g_parts⟩ F_is_leaf m_list
  have R_turned := rec_turned (P := P) (w := w) (base := base) ⟨_, _, U_turned, g_turned⟩ m_tuple KT_TURNED g_TURNED 12
  have F_turned := R_turned
  have F_leaf_answer := fc_leaf_answer (P := P) (w := w) (base := base) ⟨_, _, U_leaf_answer, g_leaf_answer⟩ F_test_answer
  have R_ask_node := rec_ask_node (P := P) (w := w) (base := base) ⟨_, _, U_ask_node, g_ask_node⟩ ⟨_, _, U_ask_case, g_ask_case⟩ ⟨_, _, U_ask, g_ask⟩ F_is_leaf F_leaf_answer F_parts m_enumerate m_len m_range KT_DECIDING g_DECIDING KT_TURNED g_TURNED 24
  obtain ⟨F_ask_node, F_ask_case, F_ask⟩ := R_ask_node
  have F_answer := fc_answer (P := P) (w := w) (base := base) ⟨_, _, U_answer, g_answer⟩ F_ask
  have F_asked := fc_asked (P := P) (w := w) (base := base) ⟨_, _, U_asked, g_asked⟩ F_ask
  have F_keeps := fc_keeps (P := P) (w := w) (base := base) ⟨_, _, U_keeps, g_keeps⟩ F_answer
  have F__law_one := fc__law_one (P := P) (w := w) (base := base) ⟨_, _, U__law_one, g__law_one⟩ F__law_take m_len
  have F__law_number := fc__law_number (P := P) (w := w) (base := base) ⟨_, _, U__law_number, g__law_number⟩ F__law_take
  have F__law_step := fc__law_step (P := P) (w := w) (base := base) ⟨_, _, U__law_step, g__law_step⟩ F__law_number F__law_one F__law_take m_abs m_max m_range m_tuple
  have F__law_test := fc__law_test (P := P) (w := w) (base := base) ⟨_, _, U__law_test, g__law_test⟩ F__law_one F__law_step F__law_take m_range m_tuple
  have F__law_leaf := fc__law_leaf (P := P) (w := w) (base := base) ⟨_, _, U__law_leaf, g__law_leaf⟩ F__law_one F__law_take F__law_test
  have F__law_small := fc__law_small (P := P) (w := w) (base := base) ⟨_, _, U__law_small, g__law_small⟩ F__law_leaf F__law_one F__law_take
  have F__law_split := fc__law_split (P := P) (w := w) (base := base) ⟨_, _, U__law_split, g__law_split⟩ F__law_take m_range
  have R__law_tree := rec__law_tree (P := P) (w := w) (base := base) ⟨_, _, U__law_tree, g__law_tree⟩ F__law_small F__law_split F__law_take m_int m_min m_range m_tuple 8
  have F__law_tree := R__law_tree
  have F__law_column := fc__law_column (P := P) (w := w) (base := base) ⟨_, _, U__law_column, g__law_column⟩ F__law_take
  have F__law_values := fc__law_values (P := P) (w := w) (base := base) ⟨_, _, U__law_values, g__law_values⟩ m_int m_list m_max m_min m_range
  have F__law_longer_rows := fc__law_longer_rows (P := P) (w := w) (base := base) ⟨_, _, U__law_longer_rows, g__law_longer_rows⟩ F__law_values m_dict m_list
  have F__law_every_row := fc__law_every_row (P := P) (w := w) (base := base) ⟨_, _, U__law_every_row, g__law_every_row⟩ F__law_longer_rows
  have F__law_cases := fc__law_cases (P := P) (w := w) (base := base) ⟨_, _, U__law_cases, g__law_cases⟩
  have F__law_row_right := fc__law_row_right (P := P) (w := w) (base := base) ⟨_, _, U__law_row_right, g__law_row_right⟩ F__law_cases F_answer F_asked F_keeps m_int m_len m_tuple
  exact fn_law_here U_law B F__law_column F__law_every_row F__law_row_right F__law_take F__law_tree F_answer F_turned m_int m_range m_tuple (law_all (He.ga K "Errs"))
end K28
open PySem PySem.W PySem.Calls PyProof.Rows
set_option maxHeartbeats 0 in
theorem PySem.Challenge.cw_refusedahead_k28_whole_guards_as_cases_holds : PySem.Challenge.rw_refusedahead_k28_whole_guards_as_cases.Holds := by
  w_on; o_law
  refine HandSHeadRun.head_any (r := OpenLaw.row PySem.Challenge.rw_refusedahead_k28_whole_guards_as_cases) (q := view (OpenLaw.row PySem.Challenge.rw_refusedahead_k28_whole_guards_as_cases).prog [43]) (H := K28.Hk) (ob := K28.Ob) (M := 4000) (loose := K28.Loose) (d := HandSHeadRun.topDef (OpenLaw.row PySem.Challenge.rw_refusedahead_k28_whole_guards_as_cases).prog 43) (kwd := []) K28.Ob_eq
    (by kernel_rfl) (fun s => by kernel_rfl) K28.Run (by kernel_rfl) (by kernel_rfl) (by kernel_rfl) (by rfl) (by first | assumption | decide +kernel) (by decide +kernel) ⟨rfl, rfl, rfl, rfl, rfl, by decide +kernel⟩ ?hw ?hc
  case hw => w_witness2
  case hc =>
    refine DL.law_quiet (l := PySem.Challenge.rw_refusedahead_k28_whole_guards_as_cases) (n := 63) (k := 36) (x := "_law_script") rfl (by decide) (by kernel_rfl) ⟨rfl, by decide, by decide⟩ ?F
    intro w mg fa h Y G hmg0
    obtain ⟨K, KX, c⟩ := Y
    have hmg : mg ("law" : PySem.Str) = some (.ref fa) := by
      have e : (HandSHeadRun.topDef (OpenLaw.row PySem.Challenge.rw_refusedahead_k28_whole_guards_as_cases).prog 43).name = ("law" : PySem.Str) := by kernel_rfl
      rw [← e]
      exact hmg0
    obtain ⟨fd, hb, hF⟩ := K28.facts (P := (PySem.Challenge.rw_refusedahead_k28_whole_guards_as_cases).prog) (w := w) KX G hmg c
    exact ⟨K, fd, DL.spLaw K, KX, hb, fun H a ns hl _ hS => ⟨a, ns, rfl, hS, hl, fun _ => rfl⟩, hF⟩
