import PyProof.Rows.All
import Wide.All
import OpenK.AllK
import Wide.FinOn
import HandS.ForMost
import HandS.TupAny
import HandS.Wide
import KE.KDictPairs
import HandS.Dict
import HandS.Words
import KE.GoesEnum
import HandS.Iter
import HandS.Exc
import HandS.ExcOwn
import HandS.ExcInit
import HandS.ExcField
import HandS.CallSlots
import HandS.WordsExc
import HandS.Conv
import HandS.Evl
import HandS.Defaults
import HandS.Head2
import HandS.HeadEnd
import HandS.HeadHook2
import PySem.Challenge.RW_refusedahead_k17_numbers_led_on
set_option Elab.async false
set_option linter.all false
set_option maxRecDepth 100000
namespace DL
open PySem PySem.Spec L2

/-! ### data -/
inductive D where
  | non | bl (b : Bool) | int (i : Int) | str (x : Str)
  | lst (xs : List D) | tup (xs : List D) | dic (kvs : List (Key × D)) | ins (C : Addr) (fs : List (Str × D))
  | ty (n : String)
  | exc (a d : Addr) (fs : List (Str × D))

def Ex (H H' : Hp) : Prop := ∀ a o, H a = some o → H' a = some o
theorem Ex.refl (H : Hp) : Ex H H := fun _ _ h => h
theorem Ex.trans {H H1 H2 : Hp} (a : Ex H H1) (b : Ex H1 H2) : Ex H H2 := fun x o h => b x o (a x o h)
theorem Ex.new {H : Hp} {p : Addr} {o : HO} (h : H p = none) : Ex H (upd H p o) := fun a u e => by
  rw [upd_ne (ne_of_none e h)]; exact e
theorem Ex.back {H H' : Hp} {p : Addr} (e : Ex H H') (h : H' p = none) : H p = none := by
  cases q : H p with
  | none => rfl
  | some o => rw [e p o q] at h; cases h
theorem ex_rd {H H' : Hp} {a : Addr} {u : HO} (e : Ex H H') (h : Rd H a u) : Rd H' a u := by
  rcases h with h | ⟨o, h⟩
  · exact .inl (e a _ h)
  · exact .inr ⟨o, e a _ h⟩
theorem ex_l {K : PySem.W.Frag} {H H' : Hp} {a : Addr} {xs : List V} (e : Ex H H') (h : SqL K H a xs) : SqL K H' a xs := by
  rcases h with h | h
  · exact .inl (ex_rd e h)
  · exact .inr h
theorem ex_t {K : PySem.W.Frag} {H H' : Hp} {a : Addr} {xs : List V} (e : Ex H H') (h : SqT K H a xs) : SqT K H' a xs := by
  rcases h with h | h
  · exact .inl (ex_rd e h)
  · exact .inr h

/-- two lists that go along -/
def All2 {α β : Type} (F : α → β → Prop) (xs : List α) (ys : List β) : Prop := xs.length = ys.length ∧ ∀ (i : Nat) x y, xs[i]? = some x → ys[i]? = some y → F x y

/-- a tuple as it was made: no dict hangs at it; or one of the written part -/
def TupP (K : PySem.W.Frag) (G : Hp) (a : Addr) (vs : List V) : Prop := (∃ o : Obj, G a = some (.frz o (.tup vs)) ∧ o.dict = none) ∨
  ∃ (o : Obj) (its : Array Value) (n : Nat), K.lookup a = some o ∧ o.cls = .type "tuple" ∧ o.data = .seq its n ∧ its.size ≤ sizeLine ∧ Vals vs its.toList ∧ o.dict = none
theorem TupP.sq {K : PySem.W.Frag} {G : Hp} {a : Addr} {vs : List V} (h : TupP K G a vs) : SqT K G a vs := h.elim (fun ⟨o, e, _⟩ => .inl (.inr ⟨o, e⟩)) fun ⟨o, its, n, e1, e2, e3, e4, e5, _⟩ => .inr ⟨o, its, n, e1, e2, e3, e4, e5⟩
theorem TupP.mono {K : PySem.W.Frag} {G G' : Hp} {a : Addr} {vs : List V} (h : TupP K G a vs) (x : Ex G G') : TupP K G' a vs := h.imp (fun ⟨o, e, n⟩ => ⟨o, x _ _ e, n⟩) id
inductive Den (K : PySem.W.Frag) (G : Hp) : V → D → Prop
  | non : Den K G .non .non
  | bl (b : Bool) : Den K G (.bl b) (.bl b)
  | int (i : Int) : Den K G (.int i) (.int i)
  | str (x : Str) : Den K G (.str x) (.str x)
  | ty (n : String) : Den K G (.ty n) (.ty n)
  | lst {a : Addr} {vs : List V} {ds : List D} (h : G a = some (.lst vs)) (l : vs.length = ds.length) (e : ∀ (i : Nat) v d, vs[i]? = some v → ds[i]? = some d → Den K G v d) : Den K G (.ref a) (.lst ds)
  | tup {a : Addr} {vs : List V} {ds : List D} (h : TupP K G a vs) (l : vs.length = ds.length) (e : ∀ (i : Nat) v d, vs[i]? = some v → ds[i]? = some d → Den K G v d) : Den K G (.ref a) (.tup ds)
  | dic {a : Addr} {kvs : List (Key × V)} {kds : List (Key × D)} (h : Rd G a (.dK kvs)) (l : kvs.length = kds.length) (k : ∀ (i : Nat) p q, kvs[i]? = some p → kds[i]? = some q → p.1 = q.1)
      (e : ∀ (i : Nat) p q, kvs[i]? = some p → kds[i]? = some q → Den K G p.2 q.2) : Den K G (.ref a) (.dic kds)
  | ins {a C dx : Addr} {fs : List (Str × V)} {fds : List (Str × D)} (h : G a = some (.ins C dx fs)) (l : fs.length = fds.length) (k : ∀ (i : Nat) p q, fs[i]? = some p → fds[i]? = some q → p.1 = q.1)
      (e : ∀ (i : Nat) p q, fs[i]? = some p → fds[i]? = some q → Den K G p.2 q.2) : Den K G (.ref a) (.ins C fds)
  | exc {a d : Addr} {fs : List (Str × V)} {fds : List (Str × D)} (h : G d = some (.xd fs)) (l : fs.length = fds.length) (k : ∀ (i : Nat) p q, fs[i]? = some p → fds[i]? = some q → p.1 = q.1)
      (e : ∀ (i : Nat) p q, fs[i]? = some p → fds[i]? = some q → Den K G p.2 q.2) : Den K G (.ref a) (.exc a d fds)
abbrev Dens (K : PySem.W.Frag) (G : Hp) : List V → List D → Prop := All2 (Den K G)
def DensP {κ : Type} (K : PySem.W.Frag) (G : Hp) : List (κ × V) → List (κ × D) → Prop := All2 fun p q => p.1 = q.1 ∧ Den K G p.2 q.2

section
variable {K : PySem.W.Frag} {G G' H : Hp}
theorem Den.mono {v : V} {d : D} (h : Den K G v d) : Ex G G' → Den K G' v d := by
  intro x
  induction h with
  | non => exact .non
  | bl b => exact .bl b
  | int i => exact .int i
  | str x => exact .str x
  | ty n => exact .ty n
  | lst h l e ih => exact .lst (x _ _ h) l ih
  | tup h l e ih => exact .tup (h.mono x) l ih
  | dic h l k e ih => exact .dic (ex_rd x h) l k ih
  | ins h l k e ih => exact .ins (x _ _ h) l k ih
  | exc h l k e ih => exact .exc (x _ _ h) l k ih

theorem All2.nil {α β : Type} {F : α → β → Prop} : All2 F [] [] := ⟨rfl, fun i x y h => by simp at h⟩
theorem All2.cons {α β : Type} {F : α → β → Prop} {x : α} {y : β} {xs : List α} {ys : List β} (h : F x y) (t : All2 F xs ys) : All2 F (x :: xs) (y :: ys) := by
  refine ⟨by simp [t.1], fun i a b ha hb => ?_⟩
  cases i with
  | zero => simp at ha hb; subst ha; subst hb; exact h
  | succ n => exact t.2 n a b (by simpa using ha) (by simpa using hb)
theorem All2.head {α β : Type} {F : α → β → Prop} {x : α} {y : β} {xs : List α} {ys : List β} (h : All2 F (x :: xs) (y :: ys)) : F x y := h.2 0 x y rfl rfl
theorem All2.tail {α β : Type} {F : α → β → Prop} {x : α} {y : β} {xs : List α} {ys : List β} (h : All2 F (x :: xs) (y :: ys)) : All2 F xs ys :=
  ⟨by have := h.1; simpa using this, fun i a b ha hb => h.2 (i + 1) a b (by simpa using ha) (by simpa using hb)⟩
theorem All2.nil_left {α β : Type} {F : α → β → Prop} {ys : List β} (h : All2 F [] ys) : ys = [] := by
  have := h.1; cases ys with | nil => rfl | cons => simp at this
theorem All2.nil_right {α β : Type} {F : α → β → Prop} {xs : List α} (h : All2 F xs []) : xs = [] := by
  have := h.1; cases xs with | nil => rfl | cons => simp at this
theorem All2.cons_right {α β : Type} {F : α → β → Prop} {y : β} {ys : List β} {xs : List α} (h : All2 F xs (y :: ys)) : ∃ x r, xs = x :: r ∧ F x y ∧ All2 F r ys := by
  cases xs with
  | nil => have := h.1; simp at this
  | cons x r => exact ⟨x, r, rfl, h.head, h.tail⟩
theorem All2.imp {α β : Type} {F F' : α → β → Prop} {xs : List α} {ys : List β} (h : All2 F xs ys) (f : ∀ a b, F a b → F' a b) : All2 F' xs ys := ⟨h.1, fun i a b ha hb => f a b (h.2 i a b ha hb)⟩
theorem All2.append {α β : Type} {F : α → β → Prop} : ∀ {xs xs' : List α} {ys ys' : List β}, All2 F xs ys → All2 F xs' ys' → All2 F (xs ++ xs') (ys ++ ys')
  | [], _, ys, _, h, t => by rw [h.nil_left]; exact t
  | x :: xs, _, [], _, h, t => by have := h.1; simp at this
  | x :: xs, _, y :: ys, _, h, t => .cons h.head (All2.append h.tail t)
theorem All2.get {α β : Type} {F : α → β → Prop} {xs : List α} {ys : List β} (h : All2 F xs ys) {i : Nat} {y : β} (e : ys[i]? = some y) : ∃ x, xs[i]? = some x ∧ F x y := by
  have hi : i < ys.length := (List.getElem?_eq_some_iff.mp e).1
  have hx : i < xs.length := by rw [h.1]; exact hi
  exact ⟨xs[i], List.getElem?_eq_getElem hx, h.2 i _ _ (List.getElem?_eq_getElem hx) e⟩
theorem All2.getL {α β : Type} {F : α → β → Prop} {xs : List α} {ys : List β} (h : All2 F xs ys) {i : Nat} {x : α} (e : xs[i]? = some x) : ∃ y, ys[i]? = some y ∧ F x y := by
  have hi : i < xs.length := (List.getElem?_eq_some_iff.mp e).1
  have hx : i < ys.length := by rw [← h.1]; exact hi
  exact ⟨ys[i], List.getElem?_eq_getElem hx, h.2 i _ _ e (List.getElem?_eq_getElem hx)⟩
theorem All2.set {α β : Type} {F : α → β → Prop} {xs : List α} {ys : List β} (h : All2 F xs ys) (i : Nat) {x : α} {y : β} (e : F x y) : All2 F (xs.set i x) (ys.set i y) := by
  refine ⟨by simp [h.1], fun j a b ha hb => ?_⟩
  rw [List.getElem?_set] at ha hb
  by_cases hij : i = j
  · subst hij
    simp only [if_true] at ha hb
    split at ha
    · split at hb
      · cases ha; cases hb; exact e
      · cases hb
    · cases ha
  · rw [if_neg hij] at ha hb
    exact h.2 j a b ha hb
theorem Dens.mono {vs : List V} {ds : List D} (h : Dens K G vs ds) (x : Ex G G') : Dens K G' vs ds := h.imp fun _ _ z => z.mono x
theorem DensP.mono {κ : Type} {vs : List (κ × V)} {ds : List (κ × D)} (h : DensP K G vs ds) (x : Ex G G') : DensP K G' vs ds := h.imp fun _ _ z => ⟨z.1, z.2.mono x⟩
theorem Den.lst' {a : Addr} {vs : List V} {ds : List D} (h : G a = some (.lst vs)) (e : Dens K G vs ds) : Den K G (.ref a) (.lst ds) := .lst h e.1 e.2
theorem Den.tup' {a : Addr} {vs : List V} {ds : List D} (h : TupP K G a vs) (e : Dens K G vs ds) : Den K G (.ref a) (.tup ds) := .tup h e.1 e.2
theorem Den.of_lst {v : V} {ds : List D} (h : Den K G v (.lst ds)) : ∃ a vs, v = .ref a ∧ G a = some (.lst vs) ∧ Dens K G vs ds := by
  cases h with | lst h l e => exact ⟨_, _, rfl, h, l, e⟩
theorem Den.of_tup {v : V} {ds : List D} (h : Den K G v (.tup ds)) : ∃ a vs, v = .ref a ∧ SqT K G a vs ∧ Dens K G vs ds := by
  cases h with | tup h l e => exact ⟨_, _, rfl, h.sq, l, e⟩
theorem Den.of_ins {v : V} {C : Addr} {fs : List (Str × D)} (h : Den K G v (.ins C fs)) : ∃ a dx vs, v = .ref a ∧ G a = some (.ins C dx vs) ∧ DensP K G vs fs := by
  cases h with | ins h l k e => exact ⟨_, _, _, rfl, h, l, fun i p q a b => ⟨k i p q a b, e i p q a b⟩⟩
theorem Den.of_dic {v : V} {kvs : List (Key × D)} (h : Den K G v (.dic kvs)) : ∃ a vs, v = .ref a ∧ Rd G a (.dK vs) ∧ DensP K G vs kvs := by
  cases h with | dic h l k e => exact ⟨_, _, rfl, h, l, fun i p q a b => ⟨k i p q a b, e i p q a b⟩⟩
theorem Den.of_exc {v : V} {a d : Addr} {fs : List (Str × D)} (h : Den K G v (.exc a d fs)) : ∃ vs, v = .ref a ∧ G d = some (.xd vs) ∧ DensP K G vs fs := by
  cases h with | exc h l k e => exact ⟨_, rfl, h, l, fun i p q a b => ⟨k i p q a b, e i p q a b⟩⟩
theorem Den.of_int {v : V} {i : Int} (h : Den K G v (.int i)) : v = .int i := by cases h; rfl
theorem Den.of_bl {v : V} {b : Bool} (h : Den K G v (.bl b)) : v = .bl b := by cases h; rfl
theorem Den.of_str {v : V} {x : Str} (h : Den K G v (.str x)) : v = .str x := by cases h; rfl
theorem Den.of_non {v : V} (h : Den K G v .non) : v = .non := by cases h; rfl
theorem Den.of_ty {v : V} {n : String} (h : Den K G v (.ty n)) : v = .ty n := by cases h; rfl
end

/-! ### results and slots -/
inductive R where
  | no | val (d : D) | own (d : D) | bag | pk (i : Nat)
def gt : List R → Nat → R
  | [], _ => .no
  | x :: _, 0 => x
  | _ :: xs, n + 1 => gt xs n
def st : List R → Nat → R → List R
  | [], _, _ => []
  | _ :: xs, 0, r => r :: xs
  | x :: xs, n + 1, r => x :: st xs n r
theorem gt_st_same : ∀ (δ : List R) (i : Nat) (r : R), gt (st δ i r) i = r ∨ gt (st δ i r) i = .no
  | [], _, _ => .inr rfl
  | _ :: _, 0, _ => .inl rfl
  | _ :: xs, n + 1, r => gt_st_same xs n r
theorem gt_st_ne : ∀ (δ : List R) (i j : Nat) (r : R), i ≠ j → gt (st δ i r) j = gt δ j
  | [], _, _, _, _ => rfl
  | _ :: _, 0, 0, _, h => absurd rfl h
  | _ :: _, 0, _ + 1, _, _ => rfl
  | _ :: _, _ + 1, 0, _, _ => rfl
  | _ :: xs, n + 1, m + 1, r, h => gt_st_ne xs n m r (fun e => h (by rw [e]))

/-- what stands at the top of an object of one's own -/
def Top (K : PySem.W.Frag) (G H : Hp) (p : Addr) : D → Prop
  | .lst ds => ∃ vs, H p = some (.lst vs) ∧ Dens K G vs ds
  | .dic kds => ∃ kvs, H p = some (.dK kvs) ∧ DensP K G kvs kds
  | .ins C fds => ∃ dx fs, H p = some (.ins C dx fs) ∧ DensP K G fs fds
  | _ => False
theorem Top.mono {K : PySem.W.Frag} {G G' H H' : Hp} {p : Addr} {d : D} (h : Top K G H p d) (x : Ex G G') (e : H' p = H p) : Top K G' H' p d := by
  cases d with
  | lst ds => obtain ⟨vs, h1, h2⟩ := h; exact ⟨vs, e.trans h1, h2.mono x⟩
  | dic ds => obtain ⟨vs, h1, h2⟩ := h; exact ⟨vs, e.trans h1, h2.mono x⟩
  | ins C ds => obtain ⟨dx, vs, h1, h2⟩ := h; exact ⟨dx, vs, e.trans h1, h2.mono x⟩
  | non => exact h.elim
  | bl => exact h.elim
  | int => exact h.elim
  | str => exact h.elim
  | tup => exact h.elim
  | ty => exact h.elim
  | exc => exact h.elim
theorem Top.there {K : PySem.W.Frag} {G H : Hp} {p : Addr} {d : D} (h : Top K G H p d) : ∃ o, H p = some o := by
  cases d with
  | lst ds => obtain ⟨vs, h1, h2⟩ := h; exact ⟨_, h1⟩
  | dic ds => obtain ⟨vs, h1, h2⟩ := h; exact ⟨_, h1⟩
  | ins C ds => obtain ⟨dx, vs, h1, h2⟩ := h; exact ⟨_, h1⟩
  | non => exact h.elim
  | bl => exact h.elim
  | int => exact h.elim
  | str => exact h.elim
  | tup => exact h.elim
  | ty => exact h.elim
  | exc => exact h.elim
/-- taken into what stays -/
theorem Top.den {K : PySem.W.Frag} {G H : Hp} {p : Addr} {d : D} {o : HO} (h : Top K G H p d) (n : G p = none) (e : H p = some o) : Den K (upd G p o) (.ref p) d := by
  have x : Ex G (upd G p o) := Ex.new n
  cases d with
  | lst ds => obtain ⟨vs, h1, h2⟩ := h; rw [h1] at e; cases e; exact .lst' upd_same (h2.mono x)
  | dic ds =>
    obtain ⟨vs, h1, h2⟩ := h; rw [h1] at e; cases e
    exact .dic (.inl upd_same) h2.1 (fun i p q a b => (h2.2 i p q a b).1) fun i p q a b => (h2.2 i p q a b).2.mono x
  | ins C ds =>
    obtain ⟨dx, vs, h1, h2⟩ := h; rw [h1] at e; cases e
    exact .ins upd_same h2.1 (fun i p q a b => (h2.2 i p q a b).1) fun i p q a b => (h2.2 i p q a b).2.mono x
  | non => exact h.elim
  | bl => exact h.elim
  | int => exact h.elim
  | str => exact h.elim
  | tup => exact h.elim
  | ty => exact h.elim
  | exc => exact h.elim
/-- the law's bag of drawn numbers -/
def Bag (G H : Hp) (b : Addr) : Prop := G b = none ∧ ∃ (x y z : Int) (c : Addr) (ns : List Int), H b = some (.lst [.int x, .int y, .int z, .ref c]) ∧ G c = some (.lst (ns.map V.int)) ∧
  0 ≤ x ∧ 0 ≤ y ∧ y < 2147483647 ∧ 0 ≤ z ∧ ∀ n ∈ ns, 0 ≤ n
theorem Bag.mono {G G' H H' : Hp} {b : Addr} (h : Bag G H b) (x : Ex G G') (n : G' b = none) (e : H' b = H b) : Bag G' H' b := by
  obtain ⟨_, x0, y, z, c, ns, h1, h2, h3⟩ := h
  exact ⟨n, x0, y, z, c, ns, e.trans h1, x _ _ h2, h3⟩

structure Ct where
  bo : Option Addr
  H0 : Hp
  G0 : Hp
  T : Hp
/-- who owns what -/
abbrev Ow := Addr → Option Nat
def ROk (K : PySem.W.Frag) (C : Ct) (σ : St) (H G : Hp) (W : Ow) (t : Option Nat) (v : V) : R → Prop
  | .no => True
  | .val d => Den K G v d
  | .own d => ∃ p, v = .ref p ∧ (G p = none ∧ C.H0 p = none ∧ C.bo ≠ some p ∧ C.T p = none) ∧ W p = t ∧ Top K G H p d
  | .bag => ∃ b, C.bo = some b ∧ v = .ref b
  | .pk i => t = none ∧ σ[i]? = some (some v)
structure SI (K : PySem.W.Frag) (C : Ct) (σ : St) (H G : Hp) (W : Ow) (δ : List R) : Prop where
  gh : Ex G H
  g0 : Ex C.G0 G
  hh : ∀ a o, C.bo ≠ some a → C.H0 a = some o → H a = some o
  gz : ∀ a, C.H0 a ≠ none → G a = C.G0 a
  b0 : ∀ b, C.bo = some b → C.H0 b ≠ none
  bag : ∀ b, C.bo = some b → Bag G H b
  tm : ∀ a o, C.T a = some o → H a = some o ∧ G a = none ∧ C.bo ≠ some a
  ln : δ.length ≤ σ.length
  sl : ∀ i, gt δ i ≠ .no → ∃ v, σ[i]? = some (some v) ∧ ROk K C σ H G W (some i) v (gt δ i)
def R.pub : R → R
  | .own d => .val d
  | r => r

section
variable {K : PySem.W.Frag} {C : Ct} {σ : St} {H H' G G' : Hp} {W : Ow} {δ : List R} {v : V} {r : R}
/-- p is nobody's -/
def Mine (C : Ct) (G : Hp) (p : Addr) : Prop := G p = none ∧ C.H0 p = none ∧ C.bo ≠ some p ∧ C.T p = none
theorem Top.at_ne {p q : Addr} {d : D} (h : Top K G H q d) (e : H p = none) : q ≠ p := by
  obtain ⟨u, hu⟩ := h.there
  exact ne_of_none hu e
/-- what is owned in a slot or for a moment is taken into what stays -/
theorem SI.publish {p : Addr} {o : HO} (I : SI K C σ H G W δ) (hp : H p = some o) (m : Mine C G p) (hw : ∀ i d, gt δ i = .own d → W p ≠ some i) : SI K C σ H (upd G p o) W δ := by
  obtain ⟨gp, h0, nb, nt⟩ := m
  have x : Ex G (upd G p o) := Ex.new gp
  refine ⟨fun a u e => ?_, I.g0.trans x, I.hh, fun a n => ?_, I.b0, fun b hb => ?_, fun a u e => ?_, I.ln, fun i hi => ?_⟩
  · by_cases ha : a = p
    · subst ha; rw [upd_same] at e; cases e; exact hp
    · rw [upd_ne ha] at e; exact I.gh a u e
  · have ne : a ≠ p := by rintro rfl; exact n h0
    rw [upd_ne ne]; exact I.gz a n
  · refine (I.bag b hb).mono x ?_ rfl
    have ne : b ≠ p := by rintro rfl; exact nb hb
    rw [upd_ne ne]; exact (I.bag b hb).1
  · have ne : a ≠ p := by rintro rfl; rw [nt] at e; cases e
    rw [upd_ne ne]; exact I.tm a u e
  · obtain ⟨v, h1, h2⟩ := I.sl i hi
    refine ⟨v, h1, ?_⟩
    cases hr : gt δ i with
    | no => exact trivial
    | val d => rw [hr] at h2; exact Den.mono h2 x
    | bag => rw [hr] at h2; exact h2
    | pk j => rw [hr] at h2; exact h2
    | own d =>
      rw [hr] at h2
      obtain ⟨q, e, ⟨g, h3, h4, h4'⟩, h5, h6⟩ := h2
      have ne : q ≠ p := fun e => hw i d hr (e ▸ h5)
      exact ⟨q, e, ⟨by rw [upd_ne ne]; exact g, h3, h4, h4'⟩, h5, h6.mono x rfl⟩
theorem SI.pub (I : SI K C σ H G W δ) (h : ROk K C σ H G W none v r) : ∃ G', Ex G G' ∧ SI K C σ H G' W δ ∧ ROk K C σ H G' W none v r.pub := by
  cases r with
  | own d =>
    obtain ⟨p, e, m, h5, h6⟩ := h
    obtain ⟨o, ho⟩ := h6.there
    refine ⟨upd G p o, Ex.new m.1, I.publish ho m (fun i d' _ => by rw [h5]; simp), ?_⟩
    subst e
    exact h6.den m.1 ho
  | no => exact ⟨G, Ex.refl G, I, h⟩
  | val d => exact ⟨G, Ex.refl G, I, h⟩
  | bag => exact ⟨G, Ex.refl G, I, h⟩
  | pk j => exact ⟨G, Ex.refl G, I, h⟩
/-- held things stay -/
theorem ROk.keep {W' : Ow} (h : ROk K C σ H G W none v r.pub) (x : Ex G G') : ROk K C σ H' G' W' none v r.pub := by
  cases r with
  | own d => exact Den.mono (show Den K G v d from h) x
  | no => exact trivial
  | val d => exact Den.mono (show Den K G v d from h) x
  | bag => exact h
  | pk j => exact h
/-- a new object is laid -/
theorem SI.laid {p : Addr} {o : HO} (I : SI K C σ H G W δ) (hp : H p = none) : SI K C σ (upd H p o) G W δ := by
  have x : Ex H (upd H p o) := Ex.new hp
  have hk : ∀ {a : Addr} {u : HO}, H a = some u → upd H p o a = H a := fun {a u} e => by rw [upd_ne (ne_of_none e hp)]
  refine ⟨I.gh.trans x, I.g0, fun a u n e => x a u (I.hh a u n e), I.gz, I.b0, fun b hb => ?_, fun a u e => ⟨x a u (I.tm a u e).1, (I.tm a u e).2⟩, I.ln, fun i hi => ?_⟩
  · obtain ⟨g, x0, y, z, c, ns, h1, _⟩ := I.bag b hb
    exact (I.bag b hb).mono (Ex.refl G) g (hk h1)
  · obtain ⟨v, h1, h2⟩ := I.sl i hi
    refine ⟨v, h1, ?_⟩
    cases hr : gt δ i with
    | no => exact trivial
    | val d => rw [hr] at h2; exact h2
    | bag => rw [hr] at h2; exact h2
    | pk j => rw [hr] at h2; exact h2
    | own d =>
      rw [hr] at h2
      obtain ⟨q, e, m, h5, h6⟩ := h2
      obtain ⟨u, hu⟩ := h6.there
      exact ⟨q, e, m, h5, h6.mono (Ex.refl G) (hk hu)⟩
theorem SI.fresh {p : Addr} (I : SI K C σ H G W δ) (hp : H p = none) : Mine C G p := by
  have hb : C.bo ≠ some p := fun e => by
    obtain ⟨_, x, y, z, c, ns, h, _⟩ := I.bag p e
    rw [hp] at h; cases h
  refine ⟨I.gh.back hp, ?_, hb, ?_⟩
  · cases q : C.H0 p with
    | none => rfl
    | some o => have := I.hh p o hb q; rw [hp] at this; cases this
  · cases q : C.T p with
    | none => rfl
    | some o => have := (I.tm p o q).1; rw [hp] at this; cases this
/-- the owner of what is held for a moment is nobody -/
theorem SI.disown {p : Addr} (I : SI K C σ H G W δ) (h : ∀ i d q, gt δ i = .own d → W q = some i → Top K G H q d → σ[i]? = some (some (.ref q)) → q ≠ p) : SI K C σ H G (fun a => if a = p then none else W a) δ := by
  refine ⟨I.gh, I.g0, I.hh, I.gz, I.b0, I.bag, I.tm, I.ln, fun i hi => ?_⟩
  obtain ⟨v, h1, h2⟩ := I.sl i hi
  refine ⟨v, h1, ?_⟩
  cases hr : gt δ i with
  | no => exact trivial
  | val d => rw [hr] at h2; exact h2
  | bag => rw [hr] at h2; exact h2
  | pk j => rw [hr] at h2; exact h2
  | own d =>
    rw [hr] at h2
    obtain ⟨q, e, m, h5, h6⟩ := h2
    subst e
    refine ⟨q, rfl, m, ?_, h6⟩
    show (if q = p then none else W q) = some i
    rw [if_neg (h i d q hr h5 h6 h1)]; exact h5
/-- a new object, held for a moment -/
theorem SI.lay {p : Addr} {o : HO} (I : SI K C σ H G W δ) (hp : H p = none) : SI K C σ (upd H p o) G (fun a => if a = p then none else W a) δ :=
  (I.laid hp).disown fun i d q e h5 h6 h1 => by
    obtain ⟨v, h1', h2⟩ := I.sl i (by rw [e]; simp)
    rw [h1] at h1'; cases h1'
    rw [e] at h2
    obtain ⟨q', e', _, _, h7⟩ := h2
    cases e'
    exact h7.at_ne hp
end
end DL

namespace DL
open PySem PySem.Spec L2

section
variable {X : Cx}
theorem PE.weak {e : Expr} {t t' : TE} (h : PE X e t) (w : ∀ σ H Q, t' σ H Q → t σ H Q) : PE X e t' := ⟨fun pins s σ H Q I q => h.run pins s σ H Q I (w σ H Q q)⟩
theorem PT.weak {e : Expr} {t t' : TT} (h : PT X e t) (w : ∀ σ H Q, t' σ H Q → t σ H Q) : PT X e t' := ⟨fun pins s σ H Q I q => h.run pins s σ H Q I (w σ H Q q)⟩
theorem PW.weak {e : Expr} {t t' : TT} (h : PW X e t) (w : ∀ σ H Q, t' σ H Q → t σ H Q) : PW X e t' := ⟨fun wh pins s σ H Q I q => h.run wh pins s σ H Q I (w σ H Q q)⟩
theorem PA.weak {e : List Expr} {t t' : TA} (h : PA X e t) (w : ∀ σ H Q, t' σ H Q → t σ H Q) : PA X e t' := ⟨fun pos pins s σ H Q I q => h.run pos pins s σ H Q I (w σ H Q q)⟩
theorem PS.weak {e : Stmt} {t t' : TS} (h : PS X e t) (w : ∀ D σ H, t' D σ H → t D σ H) : PS X e t' := ⟨fun pins s σ H D I q => h.run pins s σ H D I (w D σ H q)⟩
theorem PSs.weak {e : List Stmt} {t t' : TS} (h : PSs X e t) (w : ∀ D σ H, t' D σ H → t D σ H) : PSs X e t' := ⟨fun pins s σ H D I q => h.run pins s σ H D I (w D σ H q)⟩
end

/-! ### readings over data -/
abbrev DE := List R → (R → List R → Prop) → Prop
abbrev DT := List R → (Bool → List R → Prop) → Prop
abbrev DA := List R → (List R → List R → Prop) → Prop
/-- what is wished of an exception: by the heap; by data -/
structure Lk where
  E : Value → Option Addr → St → Hp → Prop
  x : Addr → List (Str × D) → List R → Prop
def L0 : Lk := ⟨fun _ _ _ _ => False, fun _ _ _ => False⟩
def Lnk (K : PySem.W.Frag) (L : Lk) (C : Ct) (G : Hp) : Prop := ∀ c fs δ' d σ' H' G' W' fvs, L.x c fs δ' → Ex G G' → SI K C σ' H' G' W' δ' → G' d = some (.xd fvs) → DensP K G' fvs fs → L.E (.ref c) (some d) σ' H'
theorem Lnk.mono {K : PySem.W.Frag} {L : Lk} {C : Ct} {G G1 : Hp} (h : Lnk K L C G) (x : Ex G G1) : Lnk K L C G1 := fun c fs δ' d σ' H' G' W' fvs h1 h2 => h c fs δ' d σ' H' G' W' fvs h1 (x.trans h2)
theorem Lnk.zero {K : PySem.W.Frag} {C : Ct} {G : Hp} : Lnk K L0 C G := fun _ _ _ _ _ _ _ _ _ h => h.elim
def lift (K : PySem.W.Frag) (L : Lk) (de : DE) : TE := fun σ H Q => ∃ (C : Ct) (G : Hp) (W : Ow) (δ : List R) (P : R → List R → Prop), SI K C σ H G W δ ∧ Lnk K L C G ∧ de δ P ∧
  ∀ r δ' v H' G' W', P r δ' → Ex G G' → SI K C σ H' G' W' δ' → ROk K C σ H' G' W' none v r → Q v H'
def liftT (K : PySem.W.Frag) (L : Lk) (dt : DT) : TT := fun σ H Q => ∃ (C : Ct) (G : Hp) (W : Ow) (δ : List R) (P : Bool → List R → Prop), SI K C σ H G W δ ∧ Lnk K L C G ∧ dt δ P ∧
  ∀ b δ' H' G' W', P b δ' → Ex G G' → SI K C σ H' G' W' δ' → Q b H'
def liftA (K : PySem.W.Frag) (L : Lk) (da : DA) : TA := fun σ H Q => ∃ (C : Ct) (G : Hp) (W : Ow) (δ : List R) (P : List R → List R → Prop), SI K C σ H G W δ ∧ Lnk K L C G ∧ da δ P ∧
  ∀ rs δ' vs H' G' W', P rs δ' → Ex G G' → SI K C σ H' G' W' δ' → All2 (fun v r => ROk K C σ H' G' W' none v (R.pub r)) vs rs → Q vs H'

def R.on : R → Bool
  | .no => false
  | _ => true
def R.dat : R → Option D
  | .val d => some d
  | .own d => some d
  | _ => none
/-- looked at -/
def peek : R → List R → Option D
  | .pk i, δ => (gt δ i).dat
  | r, _ => r.dat
/-- handed on: what was one's own stays from now on -/
def usePk : R → Nat → List R → Option (R × List R)
  | .val d, _, δ => some (.val d, δ)
  | .own d, i, δ => some (.val d, st δ i (.val d))
  | .bag, _, δ => some (.bag, δ)
  | .no, _, _ => none
  | .pk _, _, _ => none
def use : R → List R → Option (R × List R)
  | .pk i, δ => usePk (gt δ i) i δ
  | .val d, δ => some (.val d, δ)
  | .own d, δ => some (.val d, δ)
  | .bag, δ => some (.bag, δ)
  | .no, _ => none
def peekAll : List R → List R → Option (List D)
  | [], _ => some []
  | r :: rs, δ => match peek r δ, peekAll rs δ with
    | some d, some ds => some (d :: ds)
    | _, _ => none
def useAll : List R → List R → Option (List R × List R)
  | [], δ => some ([], δ)
  | r :: rs, δ => match use r δ with
    | some (r', δ') => match useAll rs δ' with
      | some (rs', δ'') => some (r' :: rs', δ'')
      | none => none
    | none => none

theorem st_len : ∀ (δ : List R) (i : Nat) (a : R), (st δ i a).length = δ.length
  | [], _, _ => rfl
  | _ :: _, 0, _ => rfl
  | _ :: xs, n + 1, a => by simp only [st, List.length_cons]; rw [st_len xs n a]
theorem st_st : ∀ (δ : List R) (i : Nat) (a b : R), st (st δ i a) i b = st δ i b
  | [], _, _, _ => rfl
  | _ :: _, 0, _, _ => rfl
  | _ :: xs, n + 1, a, b => by simp only [st]; rw [st_st xs n a b]
section
variable {K : PySem.W.Frag} {C : Ct} {σ : St} {H H' G G' : Hp} {W : Ow} {δ δ' : List R} {v : V} {r r' : R} {d : D}
theorem SI.drop (I : SI K C σ H G W δ) (i : Nat) : SI K C σ H G W (st δ i .no) := by
  refine ⟨I.gh, I.g0, I.hh, I.gz, I.b0, I.bag, I.tm, by rw [st_len]; exact I.ln, fun j hj => ?_⟩
  by_cases e : i = j
  · subst e
    rcases gt_st_same δ i .no with z | z <;> exact absurd z hj
  · rw [gt_st_ne δ i j .no e] at hj ⊢
    exact I.sl j hj
theorem SI.put (I : SI K C σ H G W δ) {i : Nat} (h : σ[i]? = some (some v)) (hr : ROk K C σ H G W (some i) v r) : SI K C σ H G W (st δ i r) := by
  refine ⟨I.gh, I.g0, I.hh, I.gz, I.b0, I.bag, I.tm, by rw [st_len]; exact I.ln, fun j hj => ?_⟩
  by_cases e : i = j
  · subst e
    rcases gt_st_same δ i r with z | z
    · rw [z]; exact ⟨v, h, hr⟩
    · exact absurd z hj
  · rw [gt_st_ne δ i j r e] at hj ⊢
    exact I.sl j hj
theorem gt_put_own {i j : Nat} {d d' : D} (h : gt (st δ i .no) j = .own d') : i ≠ j ∧ gt δ j = .own d' := by
  by_cases e : i = j
  · subst e
    rcases gt_st_same δ i .no with z | z <;> rw [z] at h <;> cases h
  · rw [gt_st_ne δ i j .no e] at h
    exact ⟨e, h⟩
theorem SI.useOk (I : SI K C σ H G W δ) (h : ROk K C σ H G W none v r) (e : use r δ = some (r', δ')) : ∃ G', Ex G G' ∧ SI K C σ H G' W δ' ∧ ROk K C σ H G' W none v r' ∧ r'.pub = r' := by
  cases r with
  | no => cases e
  | val d => cases e; exact ⟨G, Ex.refl G, I, h, rfl⟩
  | bag => cases e; exact ⟨G, Ex.refl G, I, h, rfl⟩
  | own d =>
    cases e
    obtain ⟨G', x, I', h'⟩ := I.pub h
    exact ⟨G', x, I', h', rfl⟩
  | pk i =>
    have e : usePk (gt δ i) i δ = some (r', δ') := e
    cases q : gt δ i with
    | no => rw [q] at e; cases e
    | pk j => rw [q] at e; cases e
    | val d =>
      rw [q] at e; cases e
      obtain ⟨v', h1, h2⟩ := I.sl i (by rw [q]; simp)
      rw [q] at h2
      have : v = v' := by have := h.2.symm.trans h1; simpa using this
      subst this
      exact ⟨G, Ex.refl G, I, h2, rfl⟩
    | bag =>
      rw [q] at e; cases e
      obtain ⟨v', h1, h2⟩ := I.sl i (by rw [q]; simp)
      rw [q] at h2
      have : v = v' := by have := h.2.symm.trans h1; simpa using this
      subst this
      exact ⟨G, Ex.refl G, I, h2, rfl⟩
    | own d =>
      rw [q] at e; cases e
      obtain ⟨v', h1, h2⟩ := I.sl i (by rw [q]; simp)
      rw [q] at h2
      have : v = v' := by have := h.2.symm.trans h1; simpa using this
      subst this
      obtain ⟨p, e, m, h5, h6⟩ := h2
      obtain ⟨o, ho⟩ := h6.there
      subst e
      have dn : Den K (upd G p o) (.ref p) d := h6.den m.1 ho
      have I1 := (I.drop i).publish ho m fun j d' hj => by
        obtain ⟨ne, _⟩ := gt_put_own (d := d) hj
        rw [h5]; intro z; exact ne (Option.some.inj z)
      have I2 : SI K C σ H (upd G p o) W (st (st δ i .no) i (.val d)) := I1.put h1 dn
      rw [st_st] at I2
      exact ⟨upd G p o, Ex.new m.1, I2, dn, rfl⟩
/-- what is looked at: by the whole heap; its items stay -/
def Seen (K : PySem.W.Frag) (G H : Hp) (v : V) (d : D) : Prop := Den K G v d ∨ ∃ p, v = .ref p ∧ Top K G H p d
theorem SI.peekOk (I : SI K C σ H G W δ) (h : ROk K C σ H G W none v r) (e : peek r δ = some d) : Seen K G H v d := by
  cases r with
  | no => cases e
  | val d' => cases e; exact .inl h
  | bag => cases e
  | own d' => cases e; obtain ⟨p, e, _, _, h6⟩ := h; exact .inr ⟨p, e, h6⟩
  | pk i =>
    have e' : (gt δ i).dat = some d := e
    obtain ⟨v', h1, h2⟩ := I.sl i (by intro z; rw [z] at e'; cases e')
    have : v = v' := by have := h.2.symm.trans h1; simpa using this
    subst this
    cases q : gt δ i with
    | no => rw [q] at e'; cases e'
    | pk j => rw [q] at e'; cases e'
    | bag => rw [q] at e'; cases e'
    | val d' => rw [q] at e' h2; cases e'; exact .inl h2
    | own d' => rw [q] at e' h2; cases e'; obtain ⟨p, e, _, _, h6⟩ := h2; exact .inr ⟨p, e, h6⟩
theorem Seen.den {K : PySem.W.Frag} (h : Seen K G H v d) (x : Ex G H) : Den K H v d := by
  rcases h with h | ⟨p, rfl, h⟩
  · exact h.mono x
  · cases d with
    | lst ds => obtain ⟨vs, h1, h2⟩ := h; exact .lst' h1 (h2.mono x)
    | dic ds => obtain ⟨vs, h1, h2⟩ := h; exact .dic (.inl h1) h2.1 (fun i p q a b => (h2.2 i p q a b).1) fun i p q a b => (h2.2 i p q a b).2.mono x
    | ins C ds => obtain ⟨dx, vs, h1, h2⟩ := h; exact .ins h1 h2.1 (fun i p q a b => (h2.2 i p q a b).1) fun i p q a b => (h2.2 i p q a b).2.mono x
    | non => exact h.elim
    | bl => exact h.elim
    | int => exact h.elim
    | str => exact h.elim
    | tup => exact h.elim
    | ty => exact h.elim
    | exc => exact h.elim
theorem Seen.lst {K : PySem.W.Frag} {ds : List D} (h : Seen K G H v (.lst ds)) (x : Ex G H) : ∃ a vs, v = .ref a ∧ H a = some (.lst vs) ∧ Dens K G vs ds := by
  rcases h with h | ⟨p, rfl, vs, h1, h2⟩
  · obtain ⟨a, vs, e, h1, h2⟩ := h.of_lst
    exact ⟨a, vs, e, x _ _ h1, h2⟩
  · exact ⟨p, vs, rfl, h1, h2⟩
theorem Seen.tup {K : PySem.W.Frag} {ds : List D} (h : Seen K G H v (.tup ds)) (x : Ex G H) : ∃ a vs, v = .ref a ∧ SqT K H a vs ∧ Dens K G vs ds := by
  rcases h with h | ⟨p, rfl, h⟩
  · obtain ⟨a, vs, e, h1, h2⟩ := h.of_tup
    exact ⟨a, vs, e, ex_t x h1, h2⟩
  · exact h.elim
theorem Seen.ins {K : PySem.W.Frag} {C : Addr} {fs : List (Str × D)} (h : Seen K G H v (.ins C fs)) (x : Ex G H) : ∃ a dx vs, v = .ref a ∧ H a = some (.ins C dx vs) ∧ DensP K G vs fs := by
  rcases h with h | ⟨p, rfl, h⟩
  · obtain ⟨a, dx, vs, e, h1, h2⟩ := h.of_ins
    exact ⟨a, dx, vs, e, x _ _ h1, h2⟩
  · obtain ⟨dx, vs, h1, h2⟩ := h
    exact ⟨p, dx, vs, rfl, h1, h2⟩
theorem Seen.dic {K : PySem.W.Frag} {kvs : List (Key × D)} (h : Seen K G H v (.dic kvs)) (x : Ex G H) : ∃ a vs, v = .ref a ∧ Rd H a (.dK vs) ∧ DensP K G vs kvs := by
  rcases h with h | ⟨p, rfl, vs, h1, h2⟩
  · obtain ⟨a, vs, e, h1, h2⟩ := h.of_dic
    exact ⟨a, vs, e, ex_rd x h1, h2⟩
  · exact ⟨p, vs, rfl, .inl h1, h2⟩
theorem SI.useAllOk : ∀ {rs : List R} {vs : List V} {δ δ' : List R} {rs' : List R} {G : Hp}, SI K C σ H G W δ → All2 (fun v r => ROk K C σ H G W none v (R.pub r)) vs rs → useAll rs δ = some (rs', δ') →
    ∃ G', Ex G G' ∧ SI K C σ H G' W δ' ∧ All2 (fun v r => ROk K C σ H G' W none v r ∧ r.pub = r) vs rs'
  | [], vs, δ, δ', rs', G, I, h, e => by
    cases e; rw [h.nil_right]; exact ⟨G, Ex.refl G, I, .nil⟩
  | r :: rs, vs, δ, δ', rs', G, I, h, e => by
    obtain ⟨v, vs, rfl, h1, h2⟩ := h.cons_right
    unfold useAll at e
    cases q : use r δ with
    | none => rw [q] at e; cases e
    | some p =>
      obtain ⟨r1, δ1⟩ := p
      rw [q] at e
      simp only at e
      have q' : use r.pub δ = some (r1, δ1) := by cases r <;> exact q
      obtain ⟨G1, x1, I1, o1, p1⟩ := I.useOk h1 q'
      cases q2 : useAll rs δ1 with
      | none => rw [q2] at e; cases e
      | some p =>
        obtain ⟨rs2, δ2⟩ := p
        rw [q2] at e; cases e
        obtain ⟨G2, x2, I2, o2⟩ := SI.useAllOk I1 (h2.imp fun _ _ z => ROk.keep z x1) q2
        refine ⟨G2, x1.trans x2, I2, .cons ⟨?_, p1⟩ o2⟩
        rw [← p1] at o1 ⊢
        exact ROk.keep o1 x2
theorem SI.peekAllOk (I : SI K C σ H G W δ) : ∀ {rs : List R} {vs : List V} {ds : List D}, All2 (fun v r => ROk K C σ H G W none v (R.pub r)) vs rs → peekAll rs δ = some ds → All2 (Seen K G H) vs ds
  | [], vs, ds, h, e => by cases e; rw [h.nil_right]; exact .nil
  | r :: rs, vs, ds, h, e => by
    obtain ⟨v, vs, rfl, h1, h2⟩ := h.cons_right
    unfold peekAll at e
    cases q : peek r δ with
    | none => rw [q] at e; cases e
    | some d =>
      rw [q] at e
      cases q2 : peekAll rs δ with
      | none => rw [q2] at e; cases e
      | some ds =>
        rw [q2] at e; cases e
        have q' : peek r.pub δ = some d := by cases r <;> exact q
        exact .cons (I.peekOk h1 q') (I.peekAllOk h2 q2)
end

/-! ### expressions -/
def dVar (i : Nat) : DE := fun δ P => (gt δ i).on = true ∧ P (.pk i) δ
def dC (d : D) : DE := fun δ P => P (.val d) δ
section
variable {X : Cx} {K : PySem.W.Frag} {L : Lk} {pos : Pos} {a b e : Expr} {es : List Expr} {da db de : DE}
theorem lift_of {t : TE} {de : DE} (h : ∀ C σ H G W δ P (Q : VK), SI K C σ H G W δ → Lnk K L C G → de δ P → (∀ r δ' v H' G' W', P r δ' → Ex G G' → SI K C σ H' G' W' δ' → ROk K C σ H' G' W' none v r → Q v H') → t σ H Q) : ∀ σ H Q, lift K L de σ H Q → t σ H Q :=
  fun σ H Q ⟨C, G, W, δ, P, I, lk, hd, k⟩ => h C σ H G W δ P Q I lk hd k
theorem dv (i : Nat) {x : Str} (hN : X.N[i]? = some x := by rfl) (hv : Vis X.env.scope x := by first | exact Or.inl rfl | exact Or.inr (Or.inl rfl) | exact Or.inr (Or.inr rfl)) (hd : (x == ("__debug__" : Str)) = false := by decide)
    (hcd : (x == ("__classdict__" : Str)) = false := by decide) : PE X (.Name x pos) (lift X.K L (dVar i)) :=
  PE.weak (pe_var hN hv hd hcd) <| lift_of fun C σ H G W δ P Q I lk h k => by
    obtain ⟨h1, h2⟩ := h
    obtain ⟨v, e, _⟩ := I.sl i (by intro z; rw [z] at h1; cases h1)
    exact ⟨v, e, k _ _ v H G W h2 (Ex.refl G) I ⟨rfl, e⟩⟩
theorem lift_c {v : V} {d : D} (h : ∀ G, Den K G v d) : ∀ σ H Q, lift K L (dC d) σ H Q → tC v σ H Q := lift_of fun C σ H G W δ P Q I lk hp k => k _ _ v H G W hp (Ex.refl G) I (h G)
theorem dk_int {i j} : PE X (.Constant (.int i) j pos) (lift X.K L (dC (.int i))) := PE.weak pe_int (lift_c fun _ => .int i)
theorem dk_bl {b j} : PE X (.Constant (.bool b) j pos) (lift X.K L (dC (.bl b))) := PE.weak pe_bl (lift_c fun _ => .bl b)
theorem dk_non {j} : PE X (.Constant .none j pos) (lift X.K L (dC .non)) := PE.weak pe_non (lift_c fun _ => .non)
theorem dk_str {x j} : PE X (.Constant (.str x) j pos) (lift X.K L (dC (.str x))) := PE.weak pe_str (lift_c fun _ => .str x)

/-- two values: what they are handed to -/
def dBin (g : D → D → (R → Prop) → Prop) (da db : DE) : DE := fun δ P => da δ fun r1 δ1 => db δ1 fun r2 δ2 => ∃ d1 δ3 d2 δ4, use r1 δ2 = some (.val d1, δ3) ∧ use r2 δ3 = some (.val d2, δ4) ∧ g d1 d2 fun r => P r δ4
def OpSem (K : PySem.W.Frag) (r : R2) (g : D → D → (R → Prop) → Prop) : Prop := ∀ (C : Ct) (σ : St) (H G : Hp) (W : Ow) (δ : List R) (x y : V) (d1 d2 : D) (P : R → Prop) (Q : VK), SI K C σ H G W δ → Den K G x d1 → Den K G y d2 → g d1 d2 P →
  (∀ r v H' G' W', P r → Ex G G' → SI K C σ H' G' W' δ → ROk K C σ H' G' W' none v r → Q v H') → r x y H Q
theorem use_pub (r : R) (δ : List R) : use r.pub δ = use r δ := by cases r <;> rfl
theorem peek_pub (r : R) (δ : List R) : peek r.pub δ = peek r δ := by cases r <;> rfl
/-- two operands, evaluated -/
theorem lift_two {P2 : R → R → List R → Prop} {T : V → V → Hp → Prop} {σ : St} {H G : Hp} {W : Ow} {δ : List R} {C : Ct} (I : SI K C σ H G W δ) (lk : Lnk K L C G) (h : da δ fun r1 δ1 => db δ1 fun r2 δ2 => P2 r1 r2 δ2)
    (k : ∀ r1 r2 δ2 x y H2 G2 W2, P2 r1 r2 δ2 → Ex G G2 → SI K C σ H2 G2 W2 δ2 → ROk K C σ H2 G2 W2 none x r1.pub → ROk K C σ H2 G2 W2 none y r2.pub → T x y H2) : lift K L da σ H fun x H1 => lift K L db σ H1 fun y H2 => T x y H2 := by
  refine ⟨C, G, W, δ, _, I, lk, h, fun r1 δ1 x H1 G1 W1 h1 x1 I1 o1 => ?_⟩
  obtain ⟨G1', x1', I1', o1'⟩ := I1.pub o1
  refine ⟨C, G1', W1, δ1, _, I1', lk.mono (x1.trans x1'), h1, fun r2 δ2 y H2 G2 W2 h2 x2 I2 o2 => ?_⟩
  obtain ⟨G2', x2', I2', o2'⟩ := I2.pub o2
  exact k r1 r2 δ2 x y H2 G2' W2 h2 (((x1.trans x1').trans x2).trans x2') I2' (ROk.keep o1' (x2.trans x2')) o2'
theorem lift_bin {r : R2} {g : D → D → (R → Prop) → Prop} (hs : OpSem K r g) : ∀ σ H Q, lift K L (dBin g da db) σ H Q → tOp r (lift K L da) (lift K L db) σ H Q :=
  lift_of fun C σ H G W δ P Q I lk h k => lift_two I lk h fun r1 r2 δ2 x y H2 G2 W2 h2 x2 I2 o1 o2 => by
    obtain ⟨d1, δ3, d2, δ4, e1, e2, hg⟩ := h2
    rw [← use_pub] at e1 e2
    obtain ⟨G3, x3, I3, p1, _⟩ := I2.useOk o1 e1
    obtain ⟨G4, x4, I4, p2, _⟩ := I3.useOk (ROk.keep o2 x3) e2
    exact hs C σ H2 G4 W2 δ4 x y d1 d2 _ Q I4 (Den.mono (show Den K G3 x d1 from p1) x4) p2 hg fun r v H' G' W' hp x' I' o' => k r δ4 v H' G' W' hp (((x2.trans x3).trans x4).trans x') I' o'
theorem de_op {op : Operator} {r : R2} {g : D → D → (R → Prop) → Prop} (ho : OpR X (binaryOp op) r) (hs : OpSem X.K r g) (ha : PE X a (lift X.K L da)) (hb : PE X b (lift X.K L db)) : PE X (.BinOp a op b pos) (lift X.K L (dBin g da db)) :=
  PE.weak (pe_op ho ha hb) (lift_bin hs)
/-- comparisons look -/
def dCmp (f : D → D → Bool → Prop) (da db : DE) : DE := fun δ P => da δ fun r1 δ1 => db δ1 fun r2 δ2 => ∃ d1 d2 b, peek r1 δ2 = some d1 ∧ peek r2 δ2 = some d2 ∧ f d1 d2 b ∧ P (.val (.bl b)) δ2
def CmpSem (K : PySem.W.Frag) (r : R2) (f : D → D → Bool → Prop) : Prop := ∀ (H : Hp) (x y : V) (d1 d2 : D) (b : Bool) (Q : VK), Den K H x d1 → Den K H y d2 → f d1 d2 b → Q (.bl b) H → r x y H Q
theorem lift_cmp {r : R2} {f : D → D → Bool → Prop} (hs : CmpSem K r f) : ∀ σ H Q, lift K L (dCmp f da db) σ H Q → tOp r (lift K L da) (lift K L db) σ H Q :=
  lift_of fun C σ H G W δ P Q I lk h k => lift_two I lk h fun r1 r2 δ2 x y H2 G2 W2 h2 x2 I2 o1 o2 => by
    obtain ⟨d1, d2, b, e1, e2, e3, hp⟩ := h2
    rw [← peek_pub] at e1 e2
    exact hs H2 x y d1 d2 b Q ((I2.peekOk o1 e1).den I2.gh) ((I2.peekOk o2 e2).den I2.gh) e3 (k _ δ2 _ H2 G2 W2 hp x2 I2 (.bl b))
theorem de_cmp {op : CmpOp} {r : R2} {f : D → D → Bool → Prop} (ho : OpR X (compareOp op) r) (hs : CmpSem X.K r f) (ha : PE X a (lift X.K L da)) (hb : PE X b (lift X.K L db)) (hm : behindInMarks op b = false) : PE X (.Compare a [op] [b] pos) (lift X.K L (dCmp f da db)) :=
  PE.weak (pe_cmpR ho ha hb hm) (lift_cmp hs)
/-- a value as a test -/
def dTst (de : DE) : DT := fun δ P => de δ fun r δ1 => ∃ b, peek r δ1 = some (.bl b) ∧ P b δ1
theorem liftT_of {t : TT} {dt : DT} (h : ∀ C σ H G W δ P (Q : Bool → Hp → Prop), SI K C σ H G W δ → Lnk K L C G → dt δ P → (∀ b δ' H' G' W', P b δ' → Ex G G' → SI K C σ H' G' W' δ' → Q b H') → t σ H Q) : ∀ σ H Q, liftT K L dt σ H Q → t σ H Q :=
  fun σ H Q ⟨C, G, W, δ, P, I, lk, hd, k⟩ => h C σ H G W δ P Q I lk hd k
theorem lift_tst : ∀ σ H Q, liftT K L (dTst de) σ H Q → tB (lift K L de) σ H Q := liftT_of fun C σ H G W δ P Q I lk h k =>
  ⟨C, G, W, δ, _, I, lk, h, fun r δ1 v H1 G1 W1 h1 x1 I1 o1 => by
    obtain ⟨b, e, hp⟩ := h1
    have := ((I1.peekOk o1 e).den I1.gh).of_bl
    exact ⟨b, this, k b δ1 H1 G1 W1 hp x1 I1⟩⟩
theorem lift_tst' : ∀ σ H Q, liftT K L (dTst (dCmp f da db)) σ H Q → ∀ {r : R2}, CmpSem K r f → tTest (tOp r (lift K L da) (lift K L db)) σ H Q := by
  intro σ H Q ⟨C, G, W, δ, P, I, lk, hd, k⟩ r hs
  exact lift_two I lk hd fun r1 r2 δ2 x y H2 G2 W2 h2 x2 I2 o1 o2 => by
    obtain ⟨d1, d2, b, e1, e2, e3, b', e, hp⟩ := h2
    cases e
    rw [← peek_pub] at e1 e2
    exact hs H2 x y d1 d2 b _ ((I2.peekOk o1 e1).den I2.gh) ((I2.peekOk o2 e2).den I2.gh) e3 ⟨b, rfl, k _ δ2 H2 G2 W2 hp x2 I2⟩
theorem dt_cmp {op : CmpOp} {r : R2} {f : D → D → Bool → Prop} (ho : OpR X (compareOp op) r) (hs : CmpSem X.K r f) (ha : PE X a (lift X.K L da)) (hb : PE X b (lift X.K L db)) (hm : behindInMarks op b = false) : PT X (.Compare a [op] [b] pos) (liftT X.K L (dTst (dCmp f da db))) :=
  PT.weak (pt_cmpR ho ha hb hm) fun σ H Q h => lift_tst' σ H Q h hs
theorem dt_val (h : PE X e (lift X.K L de)) (he : ∀ whole, isTrue e X.env whole = (do let v ← whole; standAt e.pos; holding [v] (truthy v)) := by intro _; rfl) : PT X e (liftT X.K L (dTst de)) := PT.weak (pt_val h he) lift_tst
def dAnd (t u : DT) : DT := fun δ P => t δ fun c δ1 => (c = true → u δ1 P) ∧ (c = false → P false δ1)
def dOr (t u : DT) : DT := fun δ P => t δ fun c δ1 => (c = true → P true δ1) ∧ (c = false → u δ1 P)
def dNot (t : DT) : DT := fun δ P => t δ fun c δ1 => P (!c) δ1
variable {ta tb : DT} {rest : List Expr}
theorem dt_and1 (ha : PT X a (liftT X.K L ta)) : PW X (.BoolOp .And [a] pos) (liftT X.K L ta) := pw_and1 ha
theorem dt_or1 (ha : PT X a (liftT X.K L ta)) : PW X (.BoolOp .Or [a] pos) (liftT X.K L ta) := pw_or1 ha
theorem dt_and (ha : PT X a (liftT X.K L ta)) (hb : PW X (.BoolOp .And (b :: rest) pos) (liftT X.K L tb)) : PW X (.BoolOp .And (a :: b :: rest) pos) (liftT X.K L (dAnd ta tb)) :=
  PW.weak (pw_and ha hb) <| liftT_of fun C σ H G W δ P Q I lk h k => ⟨C, G, W, δ, _, I, lk, h, fun c δ1 H1 G1 W1 h1 x1 I1 => by
    cases c with
    | true => exact ⟨C, G1, W1, δ1, P, I1, lk.mono x1, h1.1 rfl, fun b δ2 H2 G2 W2 hp x2 I2 => k b δ2 H2 G2 W2 hp (x1.trans x2) I2⟩
    | false => exact k false δ1 H1 G1 W1 (h1.2 rfl) x1 I1⟩
theorem dt_or (ha : PT X a (liftT X.K L ta)) (hb : PW X (.BoolOp .Or (b :: rest) pos) (liftT X.K L tb)) : PW X (.BoolOp .Or (a :: b :: rest) pos) (liftT X.K L (dOr ta tb)) :=
  PW.weak (pw_or ha hb) <| liftT_of fun C σ H G W δ P Q I lk h k => ⟨C, G, W, δ, _, I, lk, h, fun c δ1 H1 G1 W1 h1 x1 I1 => by
    cases c with
    | true => exact k true δ1 H1 G1 W1 (h1.1 rfl) x1 I1
    | false => exact ⟨C, G1, W1, δ1, P, I1, lk.mono x1, h1.2 rfl, fun b δ2 H2 G2 W2 hp x2 I2 => k b δ2 H2 G2 W2 hp (x1.trans x2) I2⟩⟩
theorem dt_not (ha : PT X a (liftT X.K L ta)) : PT X (.UnaryOp .Not a pos) (liftT X.K L (dNot ta)) :=
  PT.weak (pt_not ha) <| liftT_of fun C σ H G W δ P Q I lk h k => ⟨C, G, W, δ, _, I, lk, h, fun c δ1 H1 G1 W1 h1 x1 I1 => k _ δ1 H1 G1 W1 h1 x1 I1⟩
def dAndV (da db : DE) : DE := fun δ P => da δ fun r δ1 => ∃ c, peek r δ1 = some (.bl c) ∧ (c = true → db δ1 P) ∧ (c = false → P (.val (.bl false)) δ1)
def dOrV (da db : DE) : DE := fun δ P => da δ fun r δ1 => ∃ c, peek r δ1 = some (.bl c) ∧ (c = true → P (.val (.bl true)) δ1) ∧ (c = false → db δ1 P)
def dNotV (da : DE) : DE := fun δ P => da δ fun r δ1 => ∃ c, peek r δ1 = some (.bl c) ∧ P (.val (.bl (!c))) δ1
theorem de_one {op} (h : PE X a (lift X.K L da)) : PE X (.BoolOp op [a] pos) (lift X.K L da) := pe_one h
theorem de_and (ha : PE X a (lift X.K L da)) (hb : PE X (.BoolOp .And (b :: rest) pos) (lift X.K L db)) : PE X (.BoolOp .And (a :: b :: rest) pos) (lift X.K L (dAndV da db)) :=
  PE.weak (pe_and ha hb) <| lift_of fun C σ H G W δ P Q I lk h k => ⟨C, G, W, δ, _, I, lk, h, fun r δ1 v H1 G1 W1 h1 x1 I1 o1 => by
    obtain ⟨c, e, p1, p2⟩ := h1
    refine ⟨c, ((I1.peekOk o1 e).den I1.gh).of_bl, ?_⟩
    cases c with
    | true => exact ⟨C, G1, W1, δ1, P, I1, lk.mono x1, p1 rfl, fun r δ2 v H2 G2 W2 hp x2 I2 o2 => k r δ2 v H2 G2 W2 hp (x1.trans x2) I2 o2⟩
    | false => exact k _ δ1 _ H1 G1 W1 (p2 rfl) x1 I1 (.bl false)⟩
theorem de_or (ha : PE X a (lift X.K L da)) (hb : PE X (.BoolOp .Or (b :: rest) pos) (lift X.K L db)) : PE X (.BoolOp .Or (a :: b :: rest) pos) (lift X.K L (dOrV da db)) :=
  PE.weak (pe_or ha hb) <| lift_of fun C σ H G W δ P Q I lk h k => ⟨C, G, W, δ, _, I, lk, h, fun r δ1 v H1 G1 W1 h1 x1 I1 o1 => by
    obtain ⟨c, e, p1, p2⟩ := h1
    refine ⟨c, ((I1.peekOk o1 e).den I1.gh).of_bl, ?_⟩
    cases c with
    | true => exact k _ δ1 _ H1 G1 W1 (p1 rfl) x1 I1 (.bl true)
    | false => exact ⟨C, G1, W1, δ1, P, I1, lk.mono x1, p2 rfl, fun r δ2 v H2 G2 W2 hp x2 I2 o2 => k r δ2 v H2 G2 W2 hp (x1.trans x2) I2 o2⟩⟩
theorem de_not (ha : PE X a (lift X.K L da)) : PE X (.UnaryOp .Not a pos) (lift X.K L (dNotV da)) :=
  PE.weak (pe_not ha) <| lift_of fun C σ H G W δ P Q I lk h k => ⟨C, G, W, δ, _, I, lk, h, fun r δ1 v H1 G1 W1 h1 x1 I1 o1 => by
    obtain ⟨c, e, p1⟩ := h1
    exact ⟨c, ((I1.peekOk o1 e).den I1.gh).of_bl, k _ δ1 _ H1 G1 W1 p1 x1 I1 (.bl _)⟩⟩
def dIf (t : DT) (da db : DE) : DE := fun δ P => t δ fun c δ1 => (c = true → da δ1 P) ∧ (c = false → db δ1 P)
theorem de_if {c : Expr} (hc : PT X c (liftT X.K L ta)) (ha : PE X a (lift X.K L da)) (hb : PE X b (lift X.K L db)) : PE X (.IfExp c a b pos) (lift X.K L (dIf ta da db)) :=
  PE.weak (pe_ifExp hc ha hb) <| lift_of fun C σ H G W δ P Q I lk h k => ⟨C, G, W, δ, _, I, lk, h, fun c δ1 H1 G1 W1 h1 x1 I1 => by
    cases c with
    | true => exact ⟨C, G1, W1, δ1, P, I1, lk.mono x1, h1.1 rfl, fun r δ2 v H2 G2 W2 hp x2 I2 o2 => k r δ2 v H2 G2 W2 hp (x1.trans x2) I2 o2⟩
    | false => exact ⟨C, G1, W1, δ1, P, I1, lk.mono x1, h1.2 rfl, fun r δ2 v H2 G2 W2 hp x2 I2 o2 => k r δ2 v H2 G2 W2 hp (x1.trans x2) I2 o2⟩⟩

/-! ### arguments, displays -/
def dNil : DA := fun δ P => P [] δ
def dCons (da : DE) (dr : DA) : DA := fun δ P => da δ fun r δ1 => dr δ1 fun rs δ2 => P (r.pub :: rs) δ2
theorem pub_pub (r : R) : r.pub.pub = r.pub := by cases r <;> rfl
theorem liftA_of {t : TA} {da : DA} (h : ∀ C σ H G W δ P (Q : List V → Hp → Prop), SI K C σ H G W δ → Lnk K L C G → da δ P → (∀ rs δ' vs H' G' W', P rs δ' → Ex G G' → SI K C σ H' G' W' δ' → All2 (fun v r => ROk K C σ H' G' W' none v (R.pub r)) vs rs → Q vs H') → t σ H Q) : ∀ σ H Q, liftA K L da σ H Q → t σ H Q :=
  fun σ H Q ⟨C, G, W, δ, P, I, lk, hd, k⟩ => h C σ H G W δ P Q I lk hd k
theorem da_nil : PA X [] (liftA X.K L dNil) := PA.weak pa_nil <| liftA_of fun C σ H G W δ P Q I lk h k => k [] δ [] H G W h (Ex.refl G) I .nil
theorem da_cons {dr : DA} (ha : PE X e (lift X.K L de)) (hr : PA X es (liftA X.K L dr)) (hs : starEach (e :: es) X.env = (false, eval e X.env) :: starEach es X.env := by rfl) : PA X (e :: es) (liftA X.K L (dCons de dr)) :=
  PA.weak (pa_cons ha hr hs) <| liftA_of fun C σ H G W δ P Q I lk h k => ⟨C, G, W, δ, _, I, lk, h, fun r δ1 v H1 G1 W1 h1 x1 I1 o1 => by
    obtain ⟨G1', x1', I1', o1'⟩ := I1.pub o1
    refine ⟨C, G1', W1, δ1, _, I1', lk.mono (x1.trans x1'), h1, fun rs δ2 vs H2 G2 W2 h2 x2 I2 o2 => ?_⟩
    refine k _ δ2 _ H2 G2 W2 h2 ((x1.trans x1').trans x2) I2 (.cons ?_ o2)
    rw [pub_pub]
    exact ROk.keep o1' x2⟩
/-- all to be handed on: values, no bag -/
def vals? : List R → Option (List D)
  | [] => some []
  | .val d :: rs => (vals? rs).map (d :: ·)
  | _ => none
theorem vals_ok {C : Ct} {σ : St} {H G : Hp} {W : Ow} : ∀ {rs : List R} {vs : List V} {ds : List D}, All2 (fun v r => ROk K C σ H G W none v r ∧ r.pub = r) vs rs → vals? rs = some ds → Dens K G vs ds
  | [], vs, ds, h, e => by cases e; rw [h.nil_right]; exact .nil
  | .val d :: rs, vs, ds, h, e => by
    obtain ⟨v, vs, rfl, h1, h2⟩ := h.cons_right
    cases q : vals? rs with
    | none => simp [vals?, q] at e
    | some ds' => simp [vals?, q] at e; subst e; exact .cons h1.1 (vals_ok h2 q)
  | .no :: rs, vs, ds, h, e => by cases e
  | .own d :: rs, vs, ds, h, e => by cases e
  | .bag :: rs, vs, ds, h, e => by cases e
  | .pk i :: rs, vs, ds, h, e => by cases e
def dTup (da : DA) : DE := fun δ P => da δ fun rs δ1 => ∃ rs' δ2 ds, useAll rs δ1 = some (rs', δ2) ∧ vals? rs' = some ds ∧ ds.length ≤ sizeLine ∧ P (.val (.tup ds)) δ2
def dLst (da : DA) : DE := fun δ P => da δ fun rs δ1 => ∃ rs' δ2 ds, useAll rs δ1 = some (rs', δ2) ∧ vals? rs' = some ds ∧ ds.length ≤ sizeLine ∧ P (.own (.lst ds)) δ2
/-- the tuple object of some values -/
abbrev tupObj (its : List Value) : Obj := { cls := .type "tuple", data := .seq its.toArray }
/-- a new tuple, at once taken into what stays -/
theorem SI.newTup {C : Ct} {σ : St} {H G : Hp} {W : Ow} {δ : List R} {p : Addr} {vs : List V} {ds : List D} {its : List Value} (I : SI K C σ H G W δ) (hp : H p = none) (h : Dens K G vs ds) : SI K C σ (upd H p (.frz (tupObj its) (.tup vs))) (upd G p (.frz (tupObj its) (.tup vs))) (fun a => if a = p then none else W a) δ ∧ Den K (upd G p (.frz (tupObj its) (.tup vs))) (.ref p) (.tup ds) := by
  have m := I.fresh hp
  exact ⟨(I.lay hp).publish upd_same m (fun i d _ => by simp), .tup' (.inl ⟨_, upd_same, rfl⟩) (h.mono (Ex.new m.1))⟩
theorem SI.newLst {C : Ct} {σ : St} {H G : Hp} {W : Ow} {δ : List R} {p : Addr} {vs : List V} {ds : List D} (I : SI K C σ H G W δ) (hp : H p = none) (h : Dens K G vs ds) : SI K C σ (upd H p (.lst vs)) G (fun a => if a = p then none else W a) δ ∧ ROk K C σ (upd H p (.lst vs)) G (fun a => if a = p then none else W a) none (.ref p) (.own (.lst ds)) := by
  have m := I.fresh hp
  exact ⟨I.lay hp, p, rfl, m, if_pos rfl, vs, upd_same, h⟩
/-- the state with a new tuple laid -/
theorem layTup {X : Cx} {pins : List (Addr × Obj)} {σ : St} {H : Hp} {s : Shared} {vs : List V} {its : List Value} (I : Inv X pins σ H s) (r : Vals vs its) (l : vs.length ≤ sizeLine) (tk : Nat) :
    Inv X pins σ (upd H s.heap.objs.size (.frz (tupObj its) (.tup vs))) { s with heap := s.heap.push (tupObj its), toks := tk } :=
  I.laid (fun _ _ z => Heap.get?_push_of_some _ z) (Nat.le_refl _) ⟨Heap.get?_push_size _ rfl, l, its, r, PyProof.Rows.IsTup.new _ _⟩
def tTupF (t : TA) : TE := fun σ H Q => t σ H fun xs H1 => xs.length ≤ sizeLine ∧ ∀ p its, H1 p = none → Q (.ref p) (upd H1 p (.frz (tupObj its) (.tup xs)))
theorem pe_tupF {x1} {t : TA} (h : PA X es t) : PE X (.Tuple es x1 pos) (tTupF t) := ⟨fun pins s σ H Q I hq => wpAny_Tuple_spliced (thn (h.run pos pins s σ H _ I hq) fun us s1 z => by
  obtain ⟨vs, H1, J, rv, l, k⟩ := z
  exact ⟨by rw [← rv.length]; exact l, .ref s1.heap.objs.size, _, layTup J rv l s1.toks, rfl, k _ us (J.hok.fresh (Nat.le_refl _))⟩)⟩
theorem de_tup {x1} {da : DA} (h : PA X es (liftA X.K L da)) : PE X (.Tuple es x1 pos) (lift X.K L (dTup da)) :=
  PE.weak (pe_tupF h) <| lift_of fun C σ H G W δ P Q I lk h k => ⟨C, G, W, δ, _, I, lk, h, fun rs δ1 vs H1 G1 W1 h1 x1 I1 o1 => by
    obtain ⟨rs', δ2, ds, e1, e2, hl, hp⟩ := h1
    obtain ⟨G2, x2, I2, o2⟩ := I1.useAllOk o1 e1
    have dn := vals_ok o2 e2
    refine ⟨by rw [dn.1]; exact hl, fun p its np => ?_⟩
    obtain ⟨I3, dd⟩ := I2.newTup (its := its) np dn
    exact k _ δ2 _ _ _ _ hp ((x1.trans x2).trans (Ex.new (I2.fresh np).1)) I3 dd⟩
theorem de_lst {da : DA} (h : PA X es (liftA X.K L da)) : PE X (.List es pos) (lift X.K L (dLst da)) :=
  PE.weak (pe_lst h) <| lift_of fun C σ H G W δ P Q I lk h k => ⟨C, G, W, δ, _, I, lk, h, fun rs δ1 vs H1 G1 W1 h1 x1 I1 o1 => by
    obtain ⟨rs', δ2, ds, e1, e2, hl, hp⟩ := h1
    obtain ⟨G2, x2, I2, o2⟩ := I1.useAllOk o1 e1
    have dn := vals_ok o2 e2
    refine ⟨by rw [dn.1]; exact hl, fun p np => ?_⟩
    obtain ⟨I3, dd⟩ := I2.newLst np dn
    exact k _ δ2 _ _ _ _ hp (x1.trans x2) I3 dd⟩
end
end DL

namespace DL
open PySem PySem.Spec L2

/-! ### statements over data -/
structure DEnds where
  nx : List R → Prop
  rt : R → List R → Prop
  bk : List R → Prop := fun _ => False
  ct : List R → Prop := fun _ => False
abbrev DS := DEnds → List R → Prop
def R.fine : R → Bool
  | .no => false
  | .pk _ => false
  | _ => true
structure Links (K : PySem.W.Frag) (C : Ct) (G : Hp) (D : Ends) (DD : DEnds) : Prop where
  nx : ∀ σ' H' G' W' δ', Ex G G' → SI K C σ' H' G' W' δ' → DD.nx δ' → D.nx σ' H'
  rt : ∀ v σ' H' G' W' δ' r, Ex G G' → SI K C σ' H' G' W' δ' → ROk K C σ' H' G' W' none v r → r.fine = true → DD.rt r δ' → D.rt v H'
  bk : ∀ σ' H' G' W' δ', Ex G G' → SI K C σ' H' G' W' δ' → DD.bk δ' → D.bk σ' H'
  ct : ∀ σ' H' G' W' δ', Ex G G' → SI K C σ' H' G' W' δ' → DD.ct δ' → D.ct σ' H'
theorem Links.mono {K : PySem.W.Frag} {C : Ct} {G G1 : Hp} {D : Ends} {DD : DEnds} (h : Links K C G D DD) (x : Ex G G1) : Links K C G1 D DD :=
  ⟨fun σ' H' G' W' δ' z => h.nx σ' H' G' W' δ' (x.trans z), fun v σ' H' G' W' δ' r z => h.rt v σ' H' G' W' δ' r (x.trans z), fun σ' H' G' W' δ' z => h.bk σ' H' G' W' δ' (x.trans z), fun σ' H' G' W' δ' z => h.ct σ' H' G' W' δ' (x.trans z)⟩
def liftS (K : PySem.W.Frag) (L : Lk) (ds : DS) : TS := fun D σ H => ∃ (C : Ct) (G : Hp) (W : Ow) (δ : List R) (DD : DEnds), SI K C σ H G W δ ∧ Lnk K L C G ∧ ds DD δ ∧ Links K C G D DD
abbrev DG := D → List R → (List R → Prop) → Prop
def liftG (K : PySem.W.Frag) (dg : DG) : TG := fun v σ H Q => ∃ (C : Ct) (G : Hp) (W : Ow) (δ : List R) (d : D) (P : List R → Prop), SI K C σ H G W δ ∧ Den K G v d ∧ dg d δ P ∧
  ∀ σ' H' G' W' δ', P δ' → Ex G G' → SI K C σ' H' G' W' δ' → Q σ' H'

section
variable {K : PySem.W.Frag} {L : Lk} {C : Ct} {σ : St} {H G : Hp} {W : Ow} {δ : List R}
theorem gt_len : ∀ {δ : List R} {i : Nat}, gt δ i ≠ .no → i < δ.length
  | [], _, h => absurd rfl h
  | _ :: _, 0, _ => Nat.zero_lt_succ _
  | _ :: xs, n + 1, h => Nat.succ_lt_succ (gt_len (δ := xs) (i := n) h)
theorem gt_st_here : ∀ {δ : List R} {i : Nat} {r : R}, i < δ.length → gt (st δ i r) i = r
  | [], _, _, h => absurd h (Nat.not_lt_zero _)
  | _ :: _, 0, _, _ => rfl
  | _ :: xs, n + 1, r, h => gt_st_here (δ := xs) (i := n) (Nat.lt_of_succ_lt_succ h)
/-- slots, when another one is stored -/
theorem SI.others {v : V} {r : R} {i j : Nat} {W' : Ow} (I : SI K C σ H G W δ) (e : i ≠ j) (hj : gt (st δ i r) j ≠ .no) (hw : ∀ q, W q = some j → W' q = some j) : ∃ w, (σ.set i (some v))[j]? = some (some w) ∧ ROk K C (σ.set i (some v)) H G W' (some j) w (gt (st δ i r) j) := by
  rw [gt_st_ne δ i j r e] at hj ⊢
  obtain ⟨w, h1, h2⟩ := I.sl j hj
  refine ⟨w, by rw [List.getElem?_set_ne e]; exact h1, ?_⟩
  cases q : gt δ j with
  | no => exact trivial
  | val d => rw [q] at h2; exact h2
  | bag => rw [q] at h2; exact h2
  | own d =>
    rw [q] at h2
    obtain ⟨p, e1, m, h5, h6⟩ := h2
    exact ⟨p, e1, m, hw p h5, h6⟩
  | pk k => rw [q] at h2; exact absurd h2.1 (by simp)
/-- a slot is stored -/
theorem SI.store {v : V} {r : R} {i : Nat} (I : SI K C σ H G W δ) (hr : ROk K C σ H G W none v r) (nk : ∀ j, r ≠ .pk j) : ∃ W', SI K C (σ.set i (some v)) H G W' (st δ i r) := by
  have hs : i < δ.length → (σ.set i (some v))[i]? = some (some v) := fun h => by
    have : i < σ.length := Nat.lt_of_lt_of_le h I.ln
    simp [this]
  have mk : ∀ W' : Ow, (∀ j q, i ≠ j → W q = some j → W' q = some j) → ROk K C (σ.set i (some v)) H G W' (some i) v r → SI K C (σ.set i (some v)) H G W' (st δ i r) := fun W' hw ho =>
    ⟨I.gh, I.g0, I.hh, I.gz, I.b0, I.bag, I.tm, by rw [st_len, List.length_set]; exact I.ln, fun j hj => by
      by_cases e : i = j
      · subst e
        have hl : i < δ.length := by have := gt_len hj; rwa [st_len] at this
        rw [gt_st_here hl]
        exact ⟨v, hs hl, ho⟩
      · exact I.others e hj fun q hq => hw j q e hq⟩
  cases r with
  | no => exact ⟨W, mk W (fun _ _ _ h => h) trivial⟩
  | val d => exact ⟨W, mk W (fun _ _ _ h => h) hr⟩
  | bag => exact ⟨W, mk W (fun _ _ _ h => h) hr⟩
  | pk j => exact absurd rfl (nk j)
  | own d =>
    obtain ⟨p, e, m, h5, h6⟩ := hr
    refine ⟨fun a => if a = p then some i else W a, mk _ (fun j q hj hq => ?_) ⟨p, e, m, if_pos rfl, h6⟩⟩
    have ne : q ≠ p := by rintro rfl; rw [h5] at hq; cases hq
    show (if q = p then some i else W q) = some j
    rw [if_neg ne]; exact hq
/-- how a result is stored -/
def asR : R → List R → Option (R × List R)
  | .own d, δ => some (.own d, δ)
  | r, δ => use r δ
theorem use_nk {r r' : R} {δ δ' : List R} (e : use r δ = some (r', δ')) : ∀ j, r' ≠ .pk j := by
  intro j z; subst z
  cases r with
  | no => cases e
  | val d => cases e
  | bag => cases e
  | own d => cases e
  | pk i =>
    have e : usePk (gt δ i) i δ = some (.pk j, δ') := e
    cases q : gt δ i <;> rw [q] at e <;> cases e
theorem SI.asOk {v : V} {r r' : R} {δ' : List R} (I : SI K C σ H G W δ) (h : ROk K C σ H G W none v r) (e : asR r δ = some (r', δ')) : ∃ G', Ex G G' ∧ SI K C σ H G' W δ' ∧ ROk K C σ H G' W none v r' ∧ ∀ j, r' ≠ .pk j := by
  by_cases q : ∃ d, r = .own d
  · obtain ⟨d, rfl⟩ := q
    cases e
    exact ⟨G, Ex.refl G, I, h, fun j z => by cases z⟩
  · have e' : use r δ = some (r', δ') := by
      cases r with
      | own d => exact absurd ⟨d, rfl⟩ q
      | no => exact e
      | val d => exact e
      | bag => exact e
      | pk j => exact e
    obtain ⟨G', x, I', o, _⟩ := I.useOk h e'
    exact ⟨G', x, I', o, use_nk e'⟩
/-- how a result is returned -/
def retPk : R → Nat → List R → Option (R × List R)
  | .val d, _, δ => some (.val d, δ)
  | .own d, i, δ => some (.own d, st δ i .no)
  | .bag, _, δ => some (.bag, δ)
  | .no, _, _ => none
  | .pk _, _, _ => none
def retR : R → List R → Option (R × List R)
  | .pk i, δ => retPk (gt δ i) i δ
  | .val d, δ => some (.val d, δ)
  | .own d, δ => some (.own d, δ)
  | .bag, δ => some (.bag, δ)
  | .no, _ => none
theorem SI.retOk {v : V} {r r' : R} {δ' : List R} (I : SI K C σ H G W δ) (h : ROk K C σ H G W none v r) (e : retR r δ = some (r', δ')) : ∃ W', SI K C σ H G W' δ' ∧ ROk K C σ H G W' none v r' ∧ r'.fine = true := by
  cases r with
  | no => cases e
  | val d => cases e; exact ⟨W, I, h, rfl⟩
  | bag => cases e; exact ⟨W, I, h, rfl⟩
  | own d => cases e; exact ⟨W, I, h, rfl⟩
  | pk i =>
    have e : retPk (gt δ i) i δ = some (r', δ') := e
    have hn : gt δ i ≠ .no := by intro z; rw [z] at e; cases e
    obtain ⟨v', h1, h2⟩ := I.sl i hn
    have : v = v' := by have := h.2.symm.trans h1; simpa using this
    subst this
    cases q : gt δ i with
    | no => exact absurd q hn
    | pk j => rw [q] at e; cases e
    | val d => rw [q] at e h2; cases e; exact ⟨W, I, h2, rfl⟩
    | bag => rw [q] at e h2; cases e; exact ⟨W, I, h2, rfl⟩
    | own d =>
      rw [q] at e h2; cases e
      obtain ⟨p, e1, m, h5, h6⟩ := h2
      refine ⟨fun a => if a = p then none else W a, (I.drop i).disown fun j d' q' hj hq _ _ => ?_, ⟨p, e1, m, if_pos rfl, h6⟩, rfl⟩
      obtain ⟨ne, _⟩ := gt_put_own (d := d) hj
      rintro rfl
      rw [h5] at hq
      exact ne (Option.some.inj hq)
theorem liftS_of {t : TS} {ds : DS} (h : ∀ C D σ H G W δ DD, SI K C σ H G W δ → Lnk K L C G → ds DD δ → Links K C G D DD → t D σ H) : ∀ D σ H, liftS K L ds D σ H → t D σ H :=
  fun D σ H ⟨C, G, W, δ, DD, I, lk, hd, k⟩ => h C D σ H G W δ DD I lk hd k
end

def dNext : DS := fun DD δ => DD.nx δ
def dSq (a b : DS) : DS := fun DD δ => a { DD with nx := b DD } δ
def dBreak : DS := fun DD δ => DD.bk δ
def dCont : DS := fun DD δ => DD.ct δ
def dExpr (de : DE) : DS := fun DD δ => de δ fun _ δ1 => DD.nx δ1
def dRet (de : DE) : DS := fun DD δ => de δ fun r δ1 => ∃ r' δ2, retR r δ1 = some (r', δ2) ∧ DD.rt r' δ2
def dRetN : DS := fun DD δ => DD.rt (.val .non) δ
def dIfS (t : DT) (a b : DS) : DS := fun DD δ => t δ fun c δ1 => (c = true → a DD δ1) ∧ (c = false → b DD δ1)
def dSet (i : Nat) (de : DE) : DS := fun DD δ => de δ fun r δ1 => ∃ r' δ2, asR r δ1 = some (r', δ2) ∧ DD.nx (st δ2 i r')
section
variable {X : Cx} {K : PySem.W.Frag} {L : Lk} {pos : Pos} {e : Expr} {de : DE} {sm : Stmt} {rest body orelse : List Stmt} {a b : DS} {ta : DT}
theorem dss_nil : PSs X [] (liftS X.K L dNext) := PSs.weak pss_nil <| liftS_of fun C D σ H G W δ DD I lk h k => k.nx σ H G W δ (Ex.refl G) I h
theorem lift_seq : ∀ D σ H, liftS K L (dSq a b) D σ H → tSeq (liftS K L a) (liftS K L b) D σ H := liftS_of fun C D σ H G W δ DD I lk h k =>
  ⟨C, G, W, δ, { DD with nx := b DD }, I, lk, h, ⟨fun σ' H' G' W' δ' x I' h' => ⟨C, G', W', δ', DD, I', lk.mono x, h', k.mono x⟩, k.rt, k.bk, k.ct⟩⟩
theorem dss_cons (h1 : PS X sm (liftS X.K L a)) (h2 : PSs X rest (liftS X.K L b)) : PSs X (sm :: rest) (liftS X.K L (dSq a b)) := PSs.weak (pss_cons h1 h2) lift_seq
theorem dss_one (h1 : PS X sm (liftS X.K L a)) : PSs X [sm] (liftS X.K L a) := pss_one h1
theorem ds_pass : PS X (.Pass pos) (liftS X.K L dNext) := PS.weak ps_pass <| liftS_of fun C D σ H G W δ DD I lk h k => k.nx σ H G W δ (Ex.refl G) I h
theorem ds_break : PS X (.Break pos) (liftS X.K L dBreak) := PS.weak ps_break <| liftS_of fun C D σ H G W δ DD I lk h k => k.bk σ H G W δ (Ex.refl G) I h
theorem ds_continue : PS X (.Continue pos) (liftS X.K L dCont) := PS.weak ps_continue <| liftS_of fun C D σ H G W δ DD I lk h k => k.ct σ H G W δ (Ex.refl G) I h
theorem ds_expr (he : PE X e (lift X.K L de)) (hs : swapsWith e none pos.line X.env = pure false := by rfl) : PS X (.Expr e pos) (liftS X.K L (dExpr de)) :=
  PS.weak (ps_expr he hs) <| liftS_of fun C D σ H G W δ DD I lk h k => ⟨C, G, W, δ, _, I, lk, h, fun r δ1 v H1 G1 W1 h1 x1 I1 o1 => k.nx σ H1 G1 W1 δ1 x1 I1 h1⟩
theorem ds_ret (he : PE X e (lift X.K L de)) : PS X (.Return (some e) pos) (liftS X.K L (dRet de)) :=
  PS.weak (ps_ret he) <| liftS_of fun C D σ H G W δ DD I lk h k => ⟨C, G, W, δ, _, I, lk, h, fun r δ1 v H1 G1 W1 h1 x1 I1 o1 => by
    obtain ⟨r', δ2, e, hp⟩ := h1
    obtain ⟨W2, I2, o2, fi⟩ := I1.retOk o1 e
    exact k.rt v σ H1 G1 W2 δ2 r' x1 I2 o2 fi hp⟩
theorem ds_retN : PS X (.Return none pos) (liftS X.K L dRetN) :=
  PS.weak ps_retN <| liftS_of fun C D σ H G W δ DD I lk h k => k.rt .non σ H G W δ (.val .non) (Ex.refl G) I Den.non rfl h
theorem ds_if {c : Expr} (hc : PT X c (liftT X.K L ta)) (ha : PSs X body (liftS X.K L a)) (hb : PSs X orelse (liftS X.K L b)) : PS X (.If c body orelse pos) (liftS X.K L (dIfS ta a b)) :=
  PS.weak (ps_if hc ha hb) <| liftS_of fun C D σ H G W δ DD I lk h k => ⟨C, G, W, δ, _, I, lk, h, fun c δ1 H1 G1 W1 h1 x1 I1 => by
    cases c with
    | true => exact ⟨C, G1, W1, δ1, DD, I1, lk.mono x1, h1.1 rfl, k.mono x1⟩
    | false => exact ⟨C, G1, W1, δ1, DD, I1, lk.mono x1, h1.2 rfl, k.mono x1⟩⟩
theorem ds_set {i : Nat} {x : Str} {pos' : Pos} (hN : X.N.Nodup) (he : PE X e (lift X.K L de)) (hi : X.N[i]? = some x := by rfl) (hx : Loc X.env.scope x := by first | exact Or.inl rfl | exact Or.inr rfl) (hs : swapsWith e (some (.Name x pos')) pos.line X.env = pure false := by rfl) (hf : X.fn x = true ∨ X.env.scope.names.lookup x = some .local := by first | exact .inl rfl | exact .inr rfl | assumption) :
    PS X (.Assign [.Name x pos'] e pos) (liftS X.K L (dSet i de)) :=
  PS.weak (ps_set (i := i) hN hi hx he hs hf) <| liftS_of fun C D σ H G W δ DD I lk h k => ⟨C, G, W, δ, _, I, lk, h, fun r δ1 v H1 G1 W1 h1 x1 I1 o1 => by
    obtain ⟨r', δ2, e, hp⟩ := h1
    obtain ⟨G2, x2, I2, o2, nk⟩ := I1.asOk o1 e
    obtain ⟨W3, I3⟩ := I2.store (i := i) o2 nk
    exact k.nx _ H1 G2 W3 _ (x1.trans x2) I3 hp⟩

/-! ### targets -/
def gN (i : Nat) : DG := fun d δ P => P (st δ i (.val d))
abbrev DGs := List D → List R → (List R → Prop) → Prop
def gsNil : DGs := fun ds δ P => ds = [] ∧ P δ
def gsCons (g : DG) (u : DGs) : DGs := fun ds δ P => ∃ d r, ds = d :: r ∧ g d δ fun δ' => u r δ' P
def gT (n : Nat) (u : DGs) : DG := fun d δ P => ∃ ds, d = .tup ds ∧ ds.length = n ∧ u ds δ P
def liftGs (K : PySem.W.Frag) (dg : DGs) : TGs := fun vs σ H Q => ∃ (C : Ct) (G : Hp) (W : Ow) (δ : List R) (ds : List D) (P : List R → Prop), SI K C σ H G W δ ∧ Dens K G vs ds ∧ dg ds δ P ∧
  ∀ σ' H' G' W' δ', P δ' → Ex G G' → SI K C σ' H' G' W' δ' → Q σ' H'
variable {tg : Expr} {ts : List Expr} {g : DG} {gs : DGs}
theorem PG.weak {t t' : TG} (h : PG X tg t) (w : ∀ v σ H Q, t' v σ H Q → t v σ H Q) : PG X tg t' := ⟨fun pins s σ H v u Q I r q => h.run pins s σ H v u Q I r (w v σ H Q q)⟩
theorem PGs.weak {t t' : TGs} (h : PGs X ts t) (w : ∀ v σ H Q, t' v σ H Q → t v σ H Q) : PGs X ts t' := ⟨fun pins s σ H v u Q I r q => h.run pins s σ H v u Q I r (w v σ H Q q)⟩
theorem dg_name {i : Nat} {x : Str} (hN : X.N.Nodup) (hi : X.N[i]? = some x := by rfl) (hx : Loc X.env.scope x := by first | exact Or.inl rfl | exact Or.inr rfl) (hf : X.fn x = true ∨ X.env.scope.names.lookup x = some .local := by first | exact .inl rfl | exact .inr rfl | assumption) : PG X (.Name x pos) (liftG X.K (gN i)) :=
  PG.weak (pg_name (i := i) hN hi hx hf) fun v σ H Q ⟨C, G, W, δ, d, P, I, dn, h, k⟩ => by
    obtain ⟨W', I'⟩ := I.store (i := i) (r := .val d) dn (fun j z => by cases z)
    exact k _ H G W' _ h (Ex.refl G) I'
theorem dgs_nil : PGs X [] (liftGs X.K gsNil) := PGs.weak pgs_nil fun vs σ H Q ⟨C, G, W, δ, ds, P, I, dn, h, k⟩ => by
  obtain ⟨rfl, hp⟩ := h
  exact ⟨dn.nil_right, k σ H G W δ hp (Ex.refl G) I⟩
theorem dgs_cons {es : List Expr} (h1 : PG X tg (liftG X.K g)) (h2 : PGs X es (liftGs X.K gs)) (hs : (assignEach (tg :: es) X.env).map (·.2) = assign tg X.env :: (assignEach es X.env).map (·.2) := by rfl) : PGs X (tg :: es) (liftGs X.K (gsCons g gs)) :=
  PGs.weak (pgs_cons h1 h2 hs) fun vs σ H Q ⟨C, G, W, δ, ds, P, I, dn, h, k⟩ => by
    obtain ⟨d, r, rfl, h⟩ := h
    obtain ⟨v, vr, rfl, d1, d2⟩ := dn.cons_right
    refine ⟨v, vr, rfl, C, G, W, δ, d, _, I, d1, h, fun σ1 H1 G1 W1 δ1 h1 x1 I1 => ?_⟩
    exact ⟨C, G1, W1, δ1, r, P, I1, Dens.mono d2 x1, h1, fun σ2 H2 G2 W2 δ2 hp x2 I2 => k σ2 H2 G2 W2 δ2 hp (x1.trans x2) I2⟩
theorem dg_tup {es : List Expr} {kk : Nat} {n : Nat} (hc : X.calm = true) (h : PGs X es (liftGs X.K gs)) (hn : (assignEach es X.env).length = n := by rfl) (hst : (assignEach es X.env).findIdx? (·.1) = none := by rfl) : PG X (.Tuple es kk pos) (liftG X.K (gT n gs)) :=
  PG.weak (pg_tup hc h hn hst) fun v σ H Q ⟨C, G, W, δ, d, P, I, dn, h, k⟩ => by
    obtain ⟨ds, rfl, hl, h⟩ := h
    obtain ⟨a, vs, rfl, hs, hd⟩ := dn.of_tup
    exact ⟨a, vs, rfl, ex_t I.gh hs, by rw [hd.1]; exact hl, C, G, W, δ, ds, P, I, hd, h, k⟩
/-- a, b = e -/
def dAsg (de : DE) (g : DG) : DS := fun DD δ => de δ fun r δ1 => ∃ d δ2, use r δ1 = some (.val d, δ2) ∧ g d δ2 DD.nx
theorem ds_asg (he : PE X e (lift X.K L de)) (hg : PG X tg (liftG X.K g)) (hs : swapsWithSole [tg] e pos.line X.env = pure false := by rfl) (hw : swappedStores [tg] e X.env = pure none := by rfl) (h1 : (assignEach [tg] X.env).map (·.2) = [assign tg X.env] := by rfl) : PS X (.Assign [tg] e pos) (liftS X.K L (dAsg de g)) :=
  PS.weak (ps_asg he hg hs hw h1) <| liftS_of fun C D σ H G W δ DD I lk h k => ⟨C, G, W, δ, _, I, lk, h, fun r δ1 v H1 G1 W1 h1 x1 I1 o1 => by
    obtain ⟨d, δ2, e, hg⟩ := h1
    obtain ⟨G2, x2, I2, o2, _⟩ := I1.useOk o1 e
    exact ⟨C, G2, W1, δ2, d, _, I2, o2, hg, fun σ' H' G' W' δ' hp x' I' => k.nx σ' H' G' W' δ' ((x1.trans x2).trans x') I' hp⟩⟩

/-! ### what is walked -/
structure JOk (K : PySem.W.Frag) (C : Ct) (G : Hp) (J : It) (ds : List D) : Prop where
  go : ∀ (i : Nat) σ H G' W δ, i < ds.length → Ex G G' → SI K C σ H G' W δ → J.go i H
  stop : ∀ σ H G' W δ, Ex G G' → SI K C σ H G' W δ → J.stop ds.length H
  yld : ∀ (i : Nat) d σ H G' W δ x H', ds[i]? = some d → Ex G G' → SI K C σ H G' W δ → J.yld i H x H' → ∃ G'' W'', Ex G' G'' ∧ SI K C σ H' G'' W'' δ ∧ Den K G'' x d
abbrev DI := List R → (List D → List R → Prop) → Prop
/-- walked in C, or in C with something held -/
structure Less (C C' : Ct) : Prop where
  bo : C'.bo = C.bo
  h0 : C'.H0 = C.H0
  g0 : C'.G0 = C.G0
  tm : ∀ a o, C.T a = some o → C'.T a = some o
theorem Less.refl (C : Ct) : Less C C := ⟨rfl, rfl, rfl, fun _ _ h => h⟩
theorem SI.less {C C' : Ct} {σ : St} {H G : Hp} {W : Ow} {δ : List R} (l : Less C C') (I : SI K C' σ H G W δ) : SI K C σ H G W δ := by
  obtain ⟨bo, H0, G0, T⟩ := C
  obtain ⟨bo', H0', G0', T'⟩ := C'
  obtain ⟨e1, e2, e3, e4⟩ := l
  simp only at e1 e2 e3 e4
  subst e1; subst e2; subst e3
  refine ⟨I.gh, I.g0, I.hh, I.gz, I.b0, I.bag, fun a o e => I.tm a o (e4 a o e), I.ln, fun i hi => ?_⟩
  obtain ⟨v, h1, h2⟩ := I.sl i hi
  refine ⟨v, h1, ?_⟩
  cases q : gt δ i with
  | no => exact trivial
  | val d => rw [q] at h2; exact h2
  | bag => rw [q] at h2; exact h2
  | pk j => rw [q] at h2; exact h2
  | own d =>
    rw [q] at h2
    obtain ⟨p, e, ⟨m1, m2, m3, m4⟩, h5, h6⟩ := h2
    refine ⟨p, e, ⟨m1, m2, m3, ?_⟩, h5, h6⟩
    show T p = none
    have m4 : T' p = none := m4
    cases z : T p with
    | none => rfl
    | some o => have := e4 p o z; rw [this] at m4; cases m4
def liftI (K : PySem.W.Frag) (L : Lk) (di : DI) : TI := fun σ H Q => ∃ (C : Ct) (G : Hp) (W : Ow) (δ : List R) (P : List D → List R → Prop), SI K C σ H G W δ ∧ Lnk K L C G ∧ di δ P ∧
  ∀ ds δ' J H' G' W', P ds δ' → Ex G G' → SI K C σ H' G' W' δ' → (∀ C', Less C C' → JOk K C' G' J ds) → Q J H'
theorem PI.weak {iter : Expr} {t t' : TI} (h : PI X tg iter t) (w : ∀ σ H Q, t' σ H Q → t σ H Q) : PI X tg iter t' := ⟨fun pins s σ H Q I q => h.run pins s σ H Q I (w σ H Q q)⟩
/-- a list or a tuple -/
def iSeq (K : PySem.W.Frag) (tl : TE) : TI := fun σ H R => tl σ H fun x H1 => ∃ a, x = .ref a ∧ (((∃ xs, SqL K H1 a xs) ∧ R (Itl K a) H1) ∨ ((∃ xs, SqT K H1 a xs) ∧ R (Itt K a) H1))
theorem pi_seq {l : Expr} {tl : TE} (hl : PE X l tl) : PI X tg l (iSeq X.K tl) := by
  constructor
  intro pins s σ H R I h
  refine thn (hl.run pins s σ H _ I h) fun v s1 z => ?_
  obtain ⟨x, H1, J, rx, a, rfl, w⟩ := z
  cases rx
  have fp : ∀ b ∈ [s1.heap.objs.size], FpOk X pins H1 b := fun b hb => by
    rw [List.mem_singleton] at hb
    exact hb ▸ J.fpOk (Nat.le_refl _) (J.hok.fresh (Nat.le_refl _))
  have kp : ∀ (o : Obj) b u, s1.heap.get? b = some u → (s1.heap.push o).get? b = some u := fun o b u e => Heap.get?_push_of_some _ e
  rcases w with ⟨⟨xs, hq⟩, q⟩ | ⟨⟨xs, hq⟩, q⟩
  · obtain ⟨ws, _, pl, _⟩ := J.list hq
    exact wpAny_pyIter_list pl.isList ⟨_, _, _, _, H1, rfl, J.kept (t' := s1.toks) (kp _), turn_list a _, ⟨_, Heap.get?_push_size _ rfl, rfl, rfl⟩, fp, q⟩
  · obtain ⟨ws, _, pl, _⟩ := J.tuple hq
    exact wpAny_pyIter_tuple (show s1.heap.IsTuple a ws.toArray from pl) ⟨_, _, _, _, H1, rfl, J.kept (t' := s1.toks) (kp _), turn_tuple a _, ⟨_, Heap.get?_push_size _ rfl, rfl, rfl⟩, fp, q⟩
def D.items : D → Option (List D)
  | .lst ds => some ds
  | .tup ds => some ds
  | _ => none
def diSeq (de : DE) : DI := fun δ P => de δ fun r δ1 => ∃ d δ2 ds, use r δ1 = some (.val d, δ2) ∧ d.items = some ds ∧ P ds δ2
theorem jok_list {C : Ct} {G : Hp} {a : Addr} {vs : List V} {ds : List D} (h0 : G a = some (.lst vs)) (e : Dens K G vs ds) : JOk K C G (Itl K a) ds where
  go := fun i σ H G' W δ hi x I => by
    have hv : i < vs.length := by rw [e.1]; exact hi
    exact ⟨vs, vs[i], SqL.of (I.gh _ _ (x _ _ h0)), by simp [hv]⟩
  stop := fun σ H G' W δ x I => ⟨vs, SqL.of (I.gh _ _ (x _ _ h0)), by rw [e.1]; exact Nat.le_refl _⟩
  yld := fun i d σ H G' W δ v H' hd x I y => by
    obtain ⟨rfl, y⟩ := y
    have hv := y vs (SqL.of (I.gh _ _ (x _ _ h0)))
    exact ⟨G', W, Ex.refl G', I, (e.2 i v d hv hd).mono x⟩
theorem jok_tup {C : Ct} {G : Hp} {a : Addr} {vs : List V} {ds : List D} (h : SqT K G a vs) (e : Dens K G vs ds) : JOk K C G (Itt K a) ds where
  go := fun i σ H G' W δ hi x I => by
    have hv : i < vs.length := by rw [e.1]; exact hi
    exact ⟨vs, vs[i], ex_t I.gh (ex_t x h), by simp [hv]⟩
  stop := fun σ H G' W δ x I => ⟨vs, ex_t I.gh (ex_t x h), by rw [e.1]; exact Nat.le_refl _⟩
  yld := fun i d σ H G' W δ v H' hd x I y => by
    obtain ⟨rfl, y⟩ := y
    have hv := y vs (ex_t I.gh (ex_t x h))
    exact ⟨G', W, Ex.refl G', I, (e.2 i v d hv hd).mono x⟩
theorem liftI_of {t : TI} {di : DI} (h : ∀ C σ H G W δ P (Q : It → Hp → Prop), SI K C σ H G W δ → Lnk K L C G → di δ P → (∀ ds δ' J H' G' W', P ds δ' → Ex G G' → SI K C σ H' G' W' δ' → (∀ C', Less C C' → JOk K C' G' J ds) → Q J H') → t σ H Q) : ∀ σ H Q, liftI K L di σ H Q → t σ H Q :=
  fun σ H Q ⟨C, G, W, δ, P, I, lk, hd, k⟩ => h C σ H G W δ P Q I lk hd k
theorem di_seq {l : Expr} (hl : PE X l (lift X.K L de)) : PI X tg l (liftI X.K L (diSeq de)) :=
  PI.weak (pi_seq hl) <| liftI_of fun C σ H G W δ P Q I lk h k => ⟨C, G, W, δ, _, I, lk, h, fun r δ1 v H1 G1 W1 h1 x1 I1 o1 => by
    obtain ⟨d, δ2, ds, e1, e2, hp⟩ := h1
    obtain ⟨G2, x2, I2, o2, _⟩ := I1.useOk o1 e1
    have o2 : Den X.K G2 v d := o2
    cases d with
    | lst ds' =>
      cases e2
      obtain ⟨a, vs, rfl, hs, hd⟩ := o2.of_lst
      exact ⟨a, rfl, .inl ⟨⟨vs, .of (I2.gh _ _ hs)⟩, k ds δ2 _ H1 G2 W1 hp (x1.trans x2) I2 fun C' _ => jok_list hs hd⟩⟩
    | tup ds' =>
      cases e2
      obtain ⟨a, vs, rfl, hs, hd⟩ := o2.of_tup
      exact ⟨a, rfl, .inr ⟨⟨vs, ex_t I2.gh hs⟩, k ds δ2 _ H1 G2 W1 hp (x1.trans x2) I2 fun C' _ => jok_tup hs hd⟩⟩
    | non => cases e2
    | bl => cases e2
    | int => cases e2
    | str => cases e2
    | dic => cases e2
    | ins => cases e2
    | ty => cases e2
    | exc => cases e2⟩
def rngD (lo : Int) (n : Nat) : List D := (List.range n).map fun (i : Nat) => D.int (lo + (i : Int))
theorem jok_range {C : Ct} {G : Hp} {lo : Int} {n : Nat} : JOk K C G (Itr lo n) (rngD lo n) where
  go := fun i σ H G' W δ hi x I => by show i < n; simpa [rngD] using hi
  stop := fun σ H G' W δ x I => by show n ≤ (rngD lo n).length; simp [rngD]
  yld := fun i d σ H G' W δ v H' hd x I y => by
    obtain ⟨rfl, rfl⟩ := y
    have : d = .int (lo + i) := by
      unfold rngD at hd
      rw [List.getElem?_map] at hd
      cases q : (List.range n)[i]? with
      | none => rw [q] at hd; cases hd
      | some j =>
        rw [q] at hd
        have hj : j = i := by
          rw [List.getElem?_eq_some_iff] at q
          obtain ⟨h1, h2⟩ := q
          simpa using h2.symm
        subst hj
        simpa using hd.symm
    subst this
    exact ⟨G', W, Ex.refl G', I, .int _⟩
def diRng1 (da : DA) : DI := fun δ P => da δ fun rs δ1 => ∃ j : Int, peekAll rs δ1 = some [.int j] ∧ (-(2 ^ 62) ≤ j ∧ j < 2 ^ 62) ∧ P (rngD 0 j.toNat) δ1
def diRng2 (da : DA) : DI := fun δ P => da δ fun rs δ1 => ∃ i j : Int, peekAll rs δ1 = some [.int i, .int j] ∧ (-(2 ^ 62) ≤ i ∧ i < 2 ^ 62 ∧ -(2 ^ 62) ≤ j ∧ j < 2 ^ 62) ∧ P (rngD i (j - i).toNat) δ1
theorem di_rng1 {a : Expr} {da : DA} {p pos : Pos} (hg : Gl X "range") (hm : X.mg "range" = none) (ha : PA X [a] (liftA X.K L da)) (hs : starEach [a] X.env = [(false, eval a X.env)] := by rfl) : PI X tg (.Call (.Name "range" p) [a] [] pos) (liftI X.K L (diRng1 da)) :=
  PI.weak (pi_range1 hg hm ha hs) <| liftI_of fun C σ H G W δ P Q I lk h k => ⟨C, G, W, δ, _, I, lk, h, fun rs δ1 vs H1 G1 W1 h1 x1 I1 o1 => by
    obtain ⟨j, e, hj, hp⟩ := h1
    have z := I1.peekAllOk o1 e
    obtain ⟨v, r, rfl, z1, z2⟩ := z.cons_right
    rw [z2.nil_right]
    have := (z1.den I1.gh).of_int
    subst this
    exact ⟨j, rfl, hj.1, hj.2, k _ δ1 _ H1 G1 W1 hp x1 I1 fun _ _ => jok_range⟩⟩
theorem di_rng2 {a b : Expr} {da : DA} {p pos : Pos} (hg : Gl X "range") (hm : X.mg "range" = none) (ha : PA X [a, b] (liftA X.K L da)) (hs : starEach [a, b] X.env = [(false, eval a X.env), (false, eval b X.env)] := by rfl) (hs2 : starEach [b] X.env = [(false, eval b X.env)] := by rfl) :
    PI X tg (.Call (.Name "range" p) [a, b] [] pos) (liftI X.K L (diRng2 da)) :=
  PI.weak (pi_range2 hg hm ha hs hs2) <| liftI_of fun C σ H G W δ P Q I lk h k => ⟨C, G, W, δ, _, I, lk, h, fun rs δ1 vs H1 G1 W1 h1 x1 I1 o1 => by
    obtain ⟨i, j, e, hj, hp⟩ := h1
    have z := I1.peekAllOk o1 e
    obtain ⟨v, r, rfl, z1, z2⟩ := z.cons_right
    obtain ⟨v', r', rfl, z3, z4⟩ := z2.cons_right
    rw [z4.nil_right]
    have := (z1.den I1.gh).of_int
    subst this
    have := (z3.den I1.gh).of_int
    subst this
    exact ⟨i, j, rfl, hj, k _ δ1 _ H1 G1 W1 hp x1 I1 fun _ _ => jok_range⟩⟩

/-! ### for -/
def dLoop (g : DG) (b : DS) (DD : DEnds) : List D → List R → Prop
  | [], δ => DD.nx δ
  | d :: ds, δ => g d δ fun δ1 => b { DD with nx := dLoop g b DD ds, ct := dLoop g b DD ds, bk := DD.nx } δ1
def dFor (di : DI) (g : DG) (b : DS) : DS := fun DD δ => di δ fun ds δ1 => dLoop g b DD ds δ1
theorem drop_get {α : Type} {xs : List α} {i : Nat} {x : α} (h : xs[i]? = some x) : xs.drop i = x :: xs.drop (i + 1) := by
  obtain ⟨h1, h2⟩ := List.getElem?_eq_some_iff.mp h
  rw [← h2]
  exact List.drop_eq_getElem_cons h1
theorem lift_for {di : DI} : ∀ D σ H, liftS K L (dFor di g b) D σ H → tFor (liftI K L di) (liftG K g) (liftS K L b) D σ H :=
  liftS_of fun C D σ H G W δ DD I lk h k => ⟨C, G, W, δ, _, I, lk, h, fun ds δ1 J H1 G1 W1 h1 x1 I1 jo => by
    have J0 := jo C (Less.refl C)
    refine ⟨fun i m σ H => i + m = ds.length ∧ ∃ G' W' δ', Ex G1 G' ∧ SI K C σ H G' W' δ' ∧ dLoop g b DD (ds.drop i) δ', ⟨ds.length, Nat.zero_add _, G1, W1, δ1, Ex.refl G1, I1, h1⟩, fun i m σ' H' hW => ?_⟩
    obtain ⟨em, G2, W2, δ2, x2, I2, h2⟩ := hW
    by_cases hi : i < ds.length
    · refine .inr ⟨J0.go i σ' H' G2 W2 δ2 hi x2 I2, fun σ3 H3 => ∃ G' W' δ', Ex G1 G' ∧ SI K C σ3 H3 G' W' δ' ∧ dLoop g b DD (ds.drop (i + 1)) δ', fun σ3 H3 h3 => ⟨m - 1, by omega, by omega, h3⟩, fun x H3 hy => ?_⟩
      have hd : ds[i]? = some ds[i] := List.getElem?_eq_getElem hi
      obtain ⟨G3, W3, x3, I3, dn⟩ := J0.yld i ds[i] σ' H' G2 W2 δ2 x H3 hd x2 I2 hy
      rw [drop_get hd] at h2
      refine ⟨C, G3, W3, δ2, ds[i], _, I3, dn, h2, fun σ4 H4 G4 W4 δ4 h4 x4 I4 => ?_⟩
      have xx : Ex G1 G4 := (x2.trans x3).trans x4
      refine ⟨C, G4, W4, δ4, _, I4, lk.mono (x1.trans xx), h4, ⟨fun σ5 H5 G5 W5 δ5 x5 I5 h5 => ⟨G5, W5, δ5, xx.trans x5, I5, h5⟩, (k.mono (x1.trans xx)).rt, fun σ5 H5 G5 W5 δ5 x5 I5 h5 => k.nx σ5 H5 G5 W5 δ5 ((x1.trans xx).trans x5) I5 h5, fun σ5 H5 G5 W5 δ5 x5 I5 h5 => ⟨G5, W5, δ5, xx.trans x5, I5, h5⟩⟩⟩
    · have e : i = ds.length := by omega
      subst e
      rw [List.drop_length] at h2
      exact .inl ⟨J0.stop σ' H' G2 W2 δ2 x2 I2, k.nx σ' H' G2 W2 δ2 (x1.trans x2) I2 h2⟩⟩
theorem ds_for {iter : Expr} {di : DI} (hp : PassesOwn (model X.prog X.w) X.A X.env X.xe) (hc : X.calm = true) (hi : PI X tg iter (liftI X.K L di)) (hg : PG X tg (liftG X.K g)) (hb : PSs X body (liftS X.K L b))
    (hs : ∀ x, foldedSetIterable iter X.env x = pure x := by intro _; rfl) : PS X (.For tg iter body [] pos) (liftS X.K L (dFor di g b)) := PS.weak (ps_for hp hc hi hg hb hs) lift_for
end
end DL

namespace DL
open PySem PySem.Spec L2

/-! ### comprehensions -/
def wipeD (δ : List R) : List Nat → List R
  | [] => δ
  | v :: vs => st (wipeD δ vs) v .no
def R.stay : R → R
  | .val d => .val d
  | .bag => .bag
  | _ => .no
def backD (δ δ0 : List R) : List Nat → List R
  | [] => δ
  | v :: vs => st (backD δ δ0 vs) v (gt δ0 v).stay
def dLc (g : DG) (t : DT) (e : DE) (vs : List Nat) : List D → List D → List R → (List D → List R → Prop) → Prop
  | [], acc, δ, P => P acc δ
  | d :: ds, acc, δ, P => g d δ fun δ1 => t δ1 fun b δ2 => (b = true → e δ2 fun r δ3 => ∃ d' δ4, use r δ3 = some (.val d', δ4) ∧ acc.length < sizeLine ∧ dLc g t e vs ds (acc ++ [d']) (wipeD δ4 vs) P) ∧ (b = false → dLc g t e vs ds acc (wipeD δ2 vs) P)
def dComp (di : DI) (g : DG) (t : DT) (e : DE) (vs : List Nat) : DE := fun δ P => di δ fun ds δ1 => dLc g t e vs ds [] (wipeD δ1 vs) fun acc δ2 => P (.own (.lst acc)) (backD δ2 δ1 vs)
def dYes : DT := fun δ P => P true δ

section
variable {K : PySem.W.Frag} {L : Lk} {C : Ct} {σ σ2 : St} {H G : Hp} {W : Ow} {δ : List R}
theorem gt_wipe (δ : List R) : ∀ (vs : List Nat) (i : Nat), i ∉ vs → gt (wipeD δ vs) i = gt δ i
  | [], _, _ => rfl
  | v :: vs, i, h => by
    show gt (st (wipeD δ vs) v .no) i = _
    rw [gt_st_ne _ _ _ _ (fun e => h (by rw [e]; exact List.mem_cons_self ..))]
    exact gt_wipe δ vs i fun z => h (List.mem_cons_of_mem _ z)
theorem gt_wipe_in (δ : List R) : ∀ (vs : List Nat) (i : Nat), i ∈ vs → gt (wipeD δ vs) i = .no
  | v :: vs, i, h => by
    show gt (st (wipeD δ vs) v .no) i = _
    by_cases e : v = i
    · subst e; rcases gt_st_same (wipeD δ vs) v .no with z | z <;> exact z
    · rw [gt_st_ne _ _ _ _ e]
      rcases List.mem_cons.mp h with z | z
      · exact absurd z.symm e
      · exact gt_wipe_in δ vs i z
theorem wipeD_len (δ : List R) : ∀ vs : List Nat, (wipeD δ vs).length = δ.length
  | [] => rfl
  | v :: vs => by show (st (wipeD δ vs) v .no).length = _; rw [st_len, wipeD_len δ vs]
theorem backD_len (δ δ0 : List R) : ∀ vs : List Nat, (backD δ δ0 vs).length = δ.length
  | [] => rfl
  | v :: vs => by show (st (backD δ δ0 vs) v _).length = _; rw [st_len, backD_len δ δ0 vs]
theorem gt_back (δ δ0 : List R) : ∀ (vs : List Nat) (i : Nat), i ∉ vs → gt (backD δ δ0 vs) i = gt δ i
  | [], _, _ => rfl
  | v :: vs, i, h => by
    show gt (st (backD δ δ0 vs) v _) i = _
    rw [gt_st_ne _ _ _ _ (fun e => h (by rw [e]; exact List.mem_cons_self ..))]
    exact gt_back δ δ0 vs i fun z => h (List.mem_cons_of_mem _ z)
theorem gt_back_in (δ δ0 : List R) : ∀ (vs : List Nat) (i : Nat), i ∈ vs → gt (backD δ δ0 vs) i = (gt δ0 i).stay ∨ gt (backD δ δ0 vs) i = .no
  | v :: vs, i, h => by
    show gt (st (backD δ δ0 vs) v _) i = _ ∨ gt (st (backD δ δ0 vs) v _) i = _
    by_cases e : v = i
    · subst e; exact gt_st_same (backD δ δ0 vs) v _
    · rw [gt_st_ne _ _ _ _ e]
      rcases List.mem_cons.mp h with z | z
      · exact absurd z.symm e
      · exact gt_back_in δ δ0 vs i z
theorem wipe_get {σ : St} : ∀ {vs : List Nat} {i : Nat}, i ∉ vs → (wipe σ vs)[i]? = σ[i]?
  | [], _, _ => rfl
  | v :: vs, i, h => by
    show ((wipe σ vs).set v none)[i]? = _
    rw [List.getElem?_set_ne (fun e => h (by rw [e]; exact List.mem_cons_self ..))]
    exact wipe_get fun z => h (List.mem_cons_of_mem _ z)
/-- the slots of the block's own names are forgotten; σ2 goes along with σ but for them -/
theorem SI.wipe {vs : List Nat} (I : SI K C σ2 H G W δ) (e : L2.wipe σ2 vs = L2.wipe σ vs) : SI K C (L2.wipe σ vs) H G W (wipeD δ vs) := by
  refine ⟨I.gh, I.g0, I.hh, I.gz, I.b0, I.bag, I.tm, by rw [wipeD_len, ← e, wipe_length]; exact I.ln, fun i hi => ?_⟩
  by_cases hv : i ∈ vs
  · exact absurd (gt_wipe_in δ vs i hv) hi
  · rw [gt_wipe δ vs i hv] at hi ⊢
    obtain ⟨v, h1, h2⟩ := I.sl i hi
    refine ⟨v, by rw [← e, wipe_get hv]; exact h1, ?_⟩
    cases q : gt δ i with
    | no => exact trivial
    | val d => rw [q] at h2; exact h2
    | bag => rw [q] at h2; exact h2
    | own d => rw [q] at h2; exact h2
    | pk j => rw [q] at h2; exact absurd h2.1 (by simp)
/-- back behind the block -/
theorem SI.back {vs : List Nat} {δ0 : List R} {H0 G0 : Hp} {W0 : Ow} (I : SI K C (L2.wipe σ vs) H G W δ) (I0 : SI K C σ H0 G0 W0 δ0) (x : Ex G0 G) : SI K C σ H G W (backD δ δ0 vs) := by
  refine ⟨I.gh, I.g0, I.hh, I.gz, I.b0, I.bag, I.tm, by rw [backD_len]; have := I.ln; rwa [wipe_length] at this, fun i hi => ?_⟩
  by_cases hv : i ∈ vs
  · rcases gt_back_in δ δ0 vs i hv with z | z
    · rw [z] at hi ⊢
      have hn : gt δ0 i ≠ .no := fun e => hi (by rw [e]; rfl)
      obtain ⟨v, h1, h2⟩ := I0.sl i hn
      refine ⟨v, h1, ?_⟩
      cases q : gt δ0 i with
      | no => exact absurd q hn
      | val d => rw [q] at h2; exact Den.mono (show Den K G0 v d from h2) x
      | bag => rw [q] at h2; exact h2
      | own d => rw [q] at hi; exact absurd rfl hi
      | pk j => rw [q] at hi; exact absurd rfl hi
    · exact absurd z hi
  · rw [gt_back δ δ0 vs i hv] at hi ⊢
    obtain ⟨v, h1, h2⟩ := I.sl i hi
    refine ⟨v, by rw [← wipe_get hv]; exact h1, ?_⟩
    cases q : gt δ i with
    | no => exact trivial
    | val d => rw [q] at h2; exact h2
    | bag => rw [q] at h2; exact h2
    | own d => rw [q] at h2; exact h2
    | pk j => rw [q] at h2; exact absurd h2.1 (by simp)
/-- something is held besides -/
def Ct.hold (C : Ct) (p : Addr) (o : HO) : Ct := { C with T := upd C.T p o }
theorem Ct.hold_less {p : Addr} {o : HO} (n : C.T p = none) : Less C (C.hold p o) := ⟨rfl, rfl, rfl, fun a u e => by show upd C.T p o a = some u; rw [upd_ne (ne_of_none e n)]; exact e⟩
theorem SI.hold {p : Addr} {o : HO} (I : SI K C σ H G W δ) (hp : H p = none) : SI K (C.hold p o) σ (upd H p o) G W δ := by
  have m := I.fresh hp
  have J := I.laid (o := o) hp
  refine ⟨J.gh, J.g0, J.hh, J.gz, J.b0, J.bag, fun a u e => ?_, J.ln, fun i hi => ?_⟩
  · by_cases ha : a = p
    · subst ha
      have e : upd C.T a o a = some u := e
      rw [upd_same] at e; cases e
      exact ⟨upd_same, m.1, m.2.2.1⟩
    · have e : upd C.T p o a = some u := e
      rw [upd_ne ha] at e
      exact J.tm a u e
  · obtain ⟨v, h1, h2⟩ := J.sl i hi
    obtain ⟨v', h1', h2'⟩ := I.sl i hi
    rw [h1] at h1'; cases h1'
    refine ⟨v, h1, ?_⟩
    cases q : gt δ i with
    | no => exact trivial
    | val d => rw [q] at h2; exact h2
    | bag => rw [q] at h2; exact h2
    | pk j => rw [q] at h2; exact absurd h2.1 (by simp)
    | own d =>
      rw [q] at h2 h2'
      obtain ⟨a, e, ⟨m1, m2, m3, m4⟩, h5, h6⟩ := h2
      obtain ⟨a', e', _, _, h7⟩ := h2'
      rw [e] at e'; cases e'
      refine ⟨a, e, ⟨m1, m2, m3, ?_⟩, h5, h6⟩
      show upd C.T p o a = none
      rw [upd_ne (h7.at_ne hp)]; exact m4
/-- what is held is changed -/
theorem SI.rehold {p : Addr} {o o' : HO} (I : SI K (C.hold p o) σ H G W δ) (n : C.H0 p = none) : SI K (C.hold p o') σ (upd H p o') G W δ := by
  have hpT : (C.hold p o).T p = some o := upd_same
  obtain ⟨t1, t2, t3⟩ := I.tm p o hpT
  refine ⟨fun a u e => ?_, I.g0, fun a u nb e => ?_, I.gz, I.b0, fun b hb => ?_, fun a u e => ?_, I.ln, fun i hi => ?_⟩
  · rw [upd_ne (ne_of_none e t2)]; exact I.gh a u e
  · rw [upd_ne (ne_of_none (H := C.H0) e n)]; exact I.hh a u nb e
  · have ne : b ≠ p := by rintro rfl; exact t3 hb
    exact (I.bag b hb).mono (Ex.refl G) (I.bag b hb).1 (upd_ne ne)
  · by_cases ha : a = p
    · subst ha
      have e : upd C.T a o' a = some u := e
      rw [upd_same] at e; cases e
      exact ⟨upd_same, t2, t3⟩
    · have e : upd C.T p o' a = some u := e
      rw [upd_ne ha] at e
      rw [upd_ne ha]
      exact I.tm a u (by show upd C.T p o a = some u; rw [upd_ne ha]; exact e)
  · obtain ⟨v, h1, h2⟩ := I.sl i hi
    refine ⟨v, h1, ?_⟩
    cases q : gt δ i with
    | no => exact trivial
    | val d => rw [q] at h2; exact h2
    | bag => rw [q] at h2; exact h2
    | pk j => rw [q] at h2; exact absurd h2.1 (by simp)
    | own d =>
      rw [q] at h2
      obtain ⟨a, e, ⟨m1, m2, m3, m4⟩, h5, h6⟩ := h2
      have ne : a ≠ p := by rintro rfl; rw [hpT] at m4; cases m4
      refine ⟨a, e, ⟨m1, m2, m3, ?_⟩, h5, h6.mono (Ex.refl G) (upd_ne ne)⟩
      show upd C.T p o' a = none
      rw [upd_ne ne]
      have m4 : upd C.T p o a = none := m4
      rwa [upd_ne ne] at m4
/-- what is held is one's own -/
theorem SI.unhold {p : Addr} {vs : List V} {ds : List D} (I : SI K (C.hold p (.lst vs)) σ H G W δ) (n0 : C.H0 p = none) (nt : C.T p = none) (h : Dens K G vs ds) : ∃ W', SI K C σ H G W' δ ∧ ROk K C σ H G W' none (.ref p) (.own (.lst ds)) := by
  have hpT : (C.hold p (.lst vs)).T p = some (.lst vs) := upd_same
  obtain ⟨t1, t2, t3⟩ := I.tm p _ hpT
  have J : SI K (C.hold p (.lst vs)) σ H G (fun a => if a = p then none else W a) δ := I.disown fun i d q hi hw ht hs => by
    obtain ⟨v, h1, h2⟩ := I.sl i (by rw [hi]; simp)
    rw [hs] at h1; cases h1
    rw [hi] at h2
    obtain ⟨a, e, ⟨_, _, _, m4⟩, _⟩ := h2
    cases e
    rintro rfl
    rw [hpT] at m4; cases m4
  exact ⟨_, SI.less (Ct.hold_less nt) J, p, rfl, ⟨t2, n0, t3, nt⟩, if_pos rfl, vs, t1, h⟩
end

section
variable {X : Cx} {K : PySem.W.Frag} {L : Lk} {pos : Pos} {e elt tg iter : Expr} {de : DE} {ta : DT} {di : DI} {g : DG}
/-- a target stores its own slots alone -/
def GOk (g : DG) (tgt : TG) (K : PySem.W.Frag) (vs : List Nat) : Prop := ∀ (C : Ct) (G : Hp) (W : Ow) (δ : List R) (d : D) (P : List R → Prop) (v : V) (σ : St) (H : Hp) (Q : St → Hp → Prop), SI K C σ H G W δ → Den K G v d → g d δ P →
  (∀ σ' H' G' W' δ', L2.wipe σ' vs = L2.wipe σ vs → P δ' → Ex G G' → SI K C σ' H' G' W' δ' → Q σ' H') → tgt v σ H fun σ' H' => L2.wipe σ' vs = L2.wipe σ vs ∧ Q σ' H'
def GsOk (g : DGs) (tgt : TGs) (K : PySem.W.Frag) (vs : List Nat) : Prop := ∀ (C : Ct) (G : Hp) (W : Ow) (δ : List R) (d : List D) (P : List R → Prop) (v : List V) (σ : St) (H : Hp) (Q : St → Hp → Prop), SI K C σ H G W δ → Dens K G v d → g d δ P →
  (∀ σ' H' G' W' δ', L2.wipe σ' vs = L2.wipe σ vs → P δ' → Ex G G' → SI K C σ' H' G' W' δ' → Q σ' H') → tgt v σ H fun σ' H' => L2.wipe σ' vs = L2.wipe σ vs ∧ Q σ' H'
theorem wipe_set {σ : St} {i : Nat} {x : Option V} : ∀ {vs : List Nat}, i ∈ vs → L2.wipe (σ.set i x) vs = L2.wipe σ vs
  | v :: vs, h => by
    show (L2.wipe (σ.set i x) vs).set v none = (L2.wipe σ vs).set v none
    by_cases hv : i ∈ vs
    · rw [wipe_set hv]
    · have e : i = v := by rcases List.mem_cons.mp h with z | z; exact z; exact absurd z hv
      subst e
      have : ∀ (vs : List Nat), i ∉ vs → L2.wipe (σ.set i x) vs = (L2.wipe σ vs).set i x := by
        intro vs
        induction vs with
        | nil => intro _; rfl
        | cons w ws ih =>
          intro hn
          show (L2.wipe (σ.set i x) ws).set w none = ((L2.wipe σ ws).set w none).set i x
          rw [ih (fun z => hn (List.mem_cons_of_mem _ z)), List.set_comm _ _ (fun e => hn (by rw [e]; exact List.mem_cons_self ..))]
      rw [this vs hv, List.set_set]
theorem wipe_wipe (σ : St) : ∀ (vs : List Nat), L2.wipe (L2.wipe σ vs) vs = L2.wipe σ vs := by
  intro vs
  have : ∀ us, (∀ u ∈ us, u ∈ vs) → L2.wipe (L2.wipe σ us) vs = L2.wipe σ vs := by
    intro us
    induction us with
    | nil => intro _; rfl
    | cons u us ih =>
      intro h
      show L2.wipe ((L2.wipe σ us).set u none) vs = _
      rw [wipe_set (h u (List.mem_cons_self ..))]
      exact ih fun w hw => h w (List.mem_cons_of_mem _ hw)
  exact this vs fun _ h => h
theorem gok_name {i : Nat} {vs : List Nat} (h : i ∈ vs) : GOk (gN i) (gName i) K vs := fun C G W δ d P v σ H Q I dn hg k => by
  obtain ⟨W', I'⟩ := I.store (i := i) (r := .val d) dn (fun j z => by cases z)
  exact ⟨wipe_set h, k _ H G W' _ (wipe_set h) hg (Ex.refl G) I'⟩
theorem gsok_nil {vs : List Nat} : GsOk gsNil gNil K vs := fun C G W δ d P v σ H Q I dn hg k => by
  obtain ⟨rfl, hp⟩ := hg
  exact ⟨dn.nil_right, rfl, k σ H G W δ rfl hp (Ex.refl G) I⟩
theorem gsok_cons {gs : DGs} {t : TG} {ts : TGs} {vs : List Nat} (h1 : GOk g t K vs) (h2 : GsOk gs ts K vs) (hm : ∀ v σ H Q Q', t v σ H Q → (∀ σ' H', Q σ' H' → Q' σ' H') → t v σ H Q') (hm2 : ∀ v σ H Q Q', ts v σ H Q → (∀ σ' H', Q σ' H' → Q' σ' H') → ts v σ H Q') : GsOk (gsCons g gs) (gCons t ts) K vs := fun C G W δ d P v σ H Q I dn hg k => by
  obtain ⟨d, r, rfl, hg⟩ := hg
  obtain ⟨v, vr, rfl, d1, d2⟩ := dn.cons_right
  refine ⟨v, vr, rfl, hm _ _ _ _ _ (h1 C G W δ d _ v σ H (fun σ' H' => L2.wipe σ' vs = L2.wipe σ vs → ts vr σ' H' fun σ' H' => L2.wipe σ' vs = L2.wipe σ vs ∧ Q σ' H') I d1 hg fun σ1 H1 G1 W1 δ1 e1 h1 x1 I1 _ => ?_) fun σ' H' z => z.2 z.1⟩
  refine hm2 _ _ _ _ _ (h2 C G1 W1 δ1 r P vr σ1 H1 Q I1 (Dens.mono d2 x1) h1 fun σ2 H2 G2 W2 δ2 e2 hp x2 I2 => k σ2 H2 G2 W2 δ2 (e2.trans e1) hp (x1.trans x2) I2) fun σ' H' z => ⟨z.1.trans e1, z.2⟩
theorem mono_name {i : Nat} : ∀ v σ H Q Q', gName i v σ H Q → (∀ σ' H', Q σ' H' → Q' σ' H') → gName i v σ H Q' := fun v σ H Q Q' h k => k _ _ h
theorem mono_nil : ∀ v σ H Q Q', gNil v σ H Q → (∀ σ' H', Q σ' H' → Q' σ' H') → gNil v σ H Q' := fun v σ H Q Q' h k => ⟨h.1, k _ _ h.2⟩
theorem mono_cons {t : TG} {ts : TGs} (hm : ∀ v σ H Q Q', t v σ H Q → (∀ σ' H', Q σ' H' → Q' σ' H') → t v σ H Q') (hm2 : ∀ v σ H Q Q', ts v σ H Q → (∀ σ' H', Q σ' H' → Q' σ' H') → ts v σ H Q') : ∀ v σ H Q Q', gCons t ts v σ H Q → (∀ σ' H', Q σ' H' → Q' σ' H') → gCons t ts v σ H Q' :=
  fun v σ H Q Q' ⟨a, r, e, h⟩ k => ⟨a, r, e, hm _ _ _ _ _ h fun σ' H' z => hm2 _ _ _ _ _ z k⟩
theorem gok_tup {gs : DGs} {ts : TGs} {n : Nat} {vs : List Nat} (h : GsOk gs ts K vs) : GOk (gT n gs) (gTup K n ts) K vs := fun C G W δ d P v σ H Q I dn hg k => by
  obtain ⟨ds, rfl, hl, hg⟩ := hg
  obtain ⟨a, us, rfl, hs, hd⟩ := dn.of_tup
  exact ⟨a, us, rfl, ex_t I.gh hs, by rw [hd.1]; exact hl, h C G W δ ds P us σ H Q I hd hg k⟩
/-- names i, j, .. as a tuple -/
theorem gsok_name {i : Nat} {gs : DGs} {ts : TGs} {vs : List Nat} (h : i ∈ vs) (h2 : GsOk gs ts K vs) (hm2 : ∀ v σ H Q Q', ts v σ H Q → (∀ σ' H', Q σ' H' → Q' σ' H') → ts v σ H Q') : GsOk (gsCons (gN i) gs) (gCons (gName i) ts) K vs := gsok_cons (gok_name h) h2 mono_name hm2
theorem lift_lc {tgt : TG} {vs : List Nat} (hg : GOk g tgt K vs) : ∀ σ H Q, lift K L (dComp di g ta de vs) σ H Q → tLc (liftI K L di) tgt (liftT K L0 ta) (lift K L0 de) vs σ H Q := by
  refine lift_of fun C σ H G W δ P Q I lk h k => ⟨C, G, W, δ, _, I, lk, h, fun ds δ1 J H1 G1 W1 h1 x1 I1 jo D hD => ?_⟩
  have mD := I1.fresh hD
  have less : ∀ o, Less C (C.hold D o) := fun o => Ct.hold_less mD.2.2.2
  refine ⟨fun i m H' => i + m = ds.length ∧ ∃ accV acc G' W' δ', Ex G1 G' ∧ SI K (C.hold D (.lst accV)) (L2.wipe σ vs) H' G' W' δ' ∧ Dens K G' accV acc ∧ dLc g ta de vs (ds.drop i) acc δ' fun acc δ2 => P (.own (.lst acc)) (backD δ2 δ1 vs),
    ⟨ds.length, Nat.zero_add _, [], [], G1, W1, wipeD δ1 vs, Ex.refl G1, ((I1.wipe rfl).hold hD), .nil, h1⟩, fun i m H2 hW => ?_⟩
  obtain ⟨em, accV, acc, G2, W2, δ2, x2, I2, da, h2⟩ := hW
  have J0 := jo _ (less (.lst accV))
  by_cases hi : i < ds.length
  · refine .inr ⟨J0.go i _ H2 G2 W2 δ2 hi x2 I2, fun H' => ∃ accV acc G' W' δ', Ex G1 G' ∧ SI K (C.hold D (.lst accV)) (L2.wipe σ vs) H' G' W' δ' ∧ Dens K G' accV acc ∧ dLc g ta de vs (ds.drop (i + 1)) acc δ' fun acc δ2 => P (.own (.lst acc)) (backD δ2 δ1 vs),
      fun H' h' => ⟨m - 1, by omega, by omega, h'⟩, fun x H3 hy => ?_⟩
    have hd : ds[i]? = some ds[i] := List.getElem?_eq_getElem hi
    obtain ⟨G3, W3, x3, I3, dn⟩ := J0.yld i ds[i] _ H2 G2 W2 δ2 x H3 hd x2 I2 hy
    rw [drop_get hd] at h2
    have ew : L2.wipe (L2.wipe σ vs) vs = L2.wipe σ vs := wipe_wipe σ vs
    refine (fun step => by rw [ew] at step; exact step) (hg (C.hold D (.lst accV)) G3 W3 δ2 ds[i] _ x (L2.wipe σ vs) H3 (fun σ' H' => liftT K L0 ta σ' H' fun b H3 => if b = true then lift K L0 de σ' H3 fun y H4 => ∃ acc, H4 D = some (.lst acc) ∧ acc.length < sizeLine ∧ ∃ accV acc' G' W' δ', Ex G1 G' ∧ SI K (C.hold D (.lst accV)) (L2.wipe σ vs) (upd H4 D (.lst (acc ++ [y]))) G' W' δ' ∧ Dens K G' accV acc' ∧ dLc g ta de vs (ds.drop (i + 1)) acc' δ' fun acc δ2 => P (.own (.lst acc)) (backD δ2 δ1 vs)
        else ∃ accV acc G' W' δ', Ex G1 G' ∧ SI K (C.hold D (.lst accV)) (L2.wipe σ vs) H3 G' W' δ' ∧ Dens K G' accV acc ∧ dLc g ta de vs (ds.drop (i + 1)) acc δ' fun acc δ2 => P (.own (.lst acc)) (backD δ2 δ1 vs)) I3 dn h2 fun σ4 H4 G4 W4 δ4 e4 h4 x4 I4 => ?_)
    · have e4' : L2.wipe σ4 vs = L2.wipe σ vs := e4.trans ew
      refine ⟨_, G4, W4, δ4, _, I4, Lnk.zero, h4, fun b δ5 H5 G5 W5 h5 x5 I5 => ?_⟩
      cases b with
      | false => exact ⟨accV, acc, G5, W5, _, ((x2.trans x3).trans x4).trans x5, I5.wipe e4', da.mono ((x3.trans x4).trans x5), h5.2 rfl⟩
      | true =>
        refine ⟨_, G5, W5, δ5, _, I5, Lnk.zero, h5.1 rfl, fun r δ6 y H6 G6 W6 h6 x6 I6 o6 => ?_⟩
        obtain ⟨d', δ7, e7, hz, h7⟩ := h6
        obtain ⟨G7, x7, I7, o7, _⟩ := I6.useOk o6 e7
        have hT : (C.hold D (.lst accV)).T D = some (.lst accV) := upd_same
        have xx : Ex G2 G7 := (((x3.trans x4).trans x5).trans x6).trans x7
        refine ⟨accV, (I7.tm D _ hT).1, by rw [da.1]; exact hz, accV ++ [y], acc ++ [d'], G7, W6, _, x2.trans xx, (I7.wipe e4').rehold mD.2.1, (da.mono xx).append (.cons o7 .nil), h7⟩
  · have e : i = ds.length := by omega
    subst e
    rw [List.drop_length] at h2
    obtain ⟨W', J, o⟩ := I2.unhold mD.2.1 mD.2.2.2 da
    exact .inl ⟨J0.stop _ H2 G2 W2 δ2 x2 I2, k _ _ _ H2 G2 W' h2 (x1.trans x2) (J.back I1 x2) o⟩
end
end DL

namespace DL
open PySem PySem.Spec L2

/-! ### promises over data -/
abbrev DSp := List R → (R → Prop) → (Addr → List (Str × D) → Prop) → Prop
structure Fin (bo : Option Addr) (G H G' H' : Hp) : Prop where
  ex : Ex G G'
  gh : Ex G' H'
  hh : ∀ a o, bo ≠ some a → H a = some o → H' a = some o
  gz : ∀ a, H a ≠ none → G' a = G a
  bag : ∀ b, bo = some b → Bag G' H' b
def RFin (K : PySem.W.Frag) (bo : Option Addr) (H G' H' : Hp) (v : V) : R → Prop
  | .val d => Den K G' v d
  | .own d => ∃ p, v = .ref p ∧ H p = none ∧ G' p = none ∧ Top K G' H' p d
  | .bag => ∃ b, bo = some b ∧ v = .ref b
  | _ => False
def AOk (K : PySem.W.Frag) (bo : Option Addr) (G : Hp) (v : V) : R → Prop
  | .val d => Den K G v d
  | .bag => ∃ b, bo = some b ∧ v = .ref b
  | _ => False
def spOf (K : PySem.W.Frag) (S : DSp) : Sp := fun vs H Q E => ∃ (bo : Option Addr) (G : Hp) (rs : List R) (P : R → Prop) (Xc : Addr → List (Str × D) → Prop), Ex G H ∧ (∀ b, bo = some b → Bag G H b) ∧ All2 (AOk K bo G) vs rs ∧ S rs P Xc ∧
  (∀ r v G' H', P r → Fin bo G H G' H' → RFin K bo H G' H' v r → Q v H') ∧
  (∀ c fs d fvs G' H', Xc c fs → Fin bo G H G' H' → G' d = some (.xd fvs) → DensP K G' fvs fs → E (.ref c) (some d) H')
def startD (N : List Str) (rs : List R) : List R := rs ++ List.replicate (N.length - rs.length) .no
theorem gt_nos : ∀ (ts : List R) (i : Nat), (∀ t ∈ ts, t = .no) → gt ts i = .no
  | [], _, _ => rfl
  | t :: _, 0, h => h t (List.mem_cons_self ..)
  | _ :: ts, n + 1, h => gt_nos ts n fun u hu => h u (List.mem_cons_of_mem _ hu)
theorem gt_append : ∀ {rs : List R} {i : Nat} {ts : List R}, (∀ t ∈ ts, t = .no) → gt (rs ++ ts) i ≠ .no → ∃ r, rs[i]? = some r ∧ gt (rs ++ ts) i = r
  | [], i, ts, ht, h => by
    exfalso; apply h
    exact gt_nos ts i ht
  | r :: rs, 0, ts, ht, h => ⟨r, rfl, rfl⟩
  | r :: rs, n + 1, ts, ht, h => by
    obtain ⟨q, h1, h2⟩ := gt_append (rs := rs) (i := n) (ts := ts) ht h
    exact ⟨q, by simpa using h1, h2⟩
section
variable {P : Program} {w : World} {K : PySem.W.Frag} {mg : Str → Option Value} {base : Heap} {C : Ct} {σ : St} {H H' G G' : Hp} {W : Ow} {δ : List R} {L : Lk}
theorem SI.start {N : List Str} {vs : List V} {rs : List R} {bo : Option Addr} (hl : vs.length ≤ N.length) (e : Ex G H) (hb : ∀ b, bo = some b → Bag G H b) (ha : All2 (AOk K bo G) vs rs) : SI K ⟨bo, H, G, fun _ => none⟩ (L2.start N vs) H G (fun _ => none) (startD N rs) := by
  refine ⟨e, Ex.refl G, fun _ _ _ h => h, fun _ _ => rfl, fun b h => ?_, hb, (fun a o h => by cases h), ?_, fun i hi => ?_⟩
  · obtain ⟨_, x, y, z, c, ns, h1, _⟩ := hb b h
    show H b ≠ none
    rw [h1]; simp
  · unfold startD L2.start
    simp [ha.1]
  · obtain ⟨r, h1, h2⟩ := gt_append (rs := rs) (fun t ht => by simp at ht; exact ht.2) hi
    have h2 : gt (startD N rs) i = r := h2
    rw [h2]
    obtain ⟨v, hv, ho⟩ := ha.get h1
    refine ⟨v, ?_, ?_⟩
    · have hi : i < vs.length := (List.getElem?_eq_some_iff.mp hv).1
      unfold L2.start
      rw [List.getElem?_append_left (by simpa using hi), List.getElem?_map, hv]; rfl
    · cases r with
      | val d => exact ho
      | bag => exact ho
      | no => exact ho.elim
      | own d => exact ho.elim
      | pk j => exact ho.elim
theorem SI.fin (I : SI K C σ H G W δ) (h0 : ∀ b, C.bo = some b → C.H0 b ≠ none) : Fin C.bo C.G0 C.H0 G H := ⟨I.g0, I.gh, I.hh, I.gz, I.bag⟩
theorem ROk.fin {v : V} {r : R} (h : ROk K C σ H G W none v r) (nk : r.fine = true) : RFin K C.bo C.H0 G H v r := by
  cases r with
  | no => cases nk
  | val d => exact h
  | bag => exact h
  | own d => obtain ⟨p, e, m, h5, h6⟩ := h; exact ⟨p, e, m.2.1, m.1, h6⟩
  | pk j => cases nk
/-- behind a call -/
theorem SI.called (I : SI K C σ H G W δ) (f : Fin C.bo G H G' H') {v : V} {r : R} (h : RFin K C.bo H G' H' v r) : ∃ W', SI K C σ H' G' W' δ ∧ ROk K C σ H' G' W' none v r := by
  have some_of : ∀ a, C.H0 a ≠ none → H a ≠ none := fun a n z => by
    by_cases hb : C.bo = some a
    · obtain ⟨_, x, y, zz, c, ns, h1, _⟩ := I.bag a hb
      rw [z] at h1; cases h1
    · cases q : C.H0 a with
      | none => exact n q
      | some o => have := I.hh a o hb q; rw [z] at this; cases this
  have J : SI K C σ H' G' W δ := by
    refine ⟨f.gh, I.g0.trans f.ex, fun a o nb e => f.hh a o nb (I.hh a o nb e), fun a n => (f.gz a (some_of a n)).trans (I.gz a n), I.b0, f.bag, fun a o e => ?_, I.ln, fun i hi => ?_⟩
    · obtain ⟨t1, t2, t3⟩ := I.tm a o e
      exact ⟨f.hh a o t3 t1, (f.gz a (by rw [t1]; simp)).trans t2, t3⟩
    · obtain ⟨v, h1, h2⟩ := I.sl i hi
      refine ⟨v, h1, ?_⟩
      cases q : gt δ i with
      | no => exact trivial
      | val d => rw [q] at h2; exact Den.mono (show Den K G v d from h2) f.ex
      | bag => rw [q] at h2; exact h2
      | pk j => rw [q] at h2; exact absurd h2.1 (by simp)
      | own d =>
        rw [q] at h2
        obtain ⟨p, e, ⟨m1, m2, m3, m4⟩, h5, h6⟩ := h2
        obtain ⟨o, ho⟩ := h6.there
        exact ⟨p, e, ⟨(f.gz p (by rw [ho]; simp)).trans m1, m2, m3, m4⟩, h5, h6.mono f.ex ((f.hh p o m3 ho).trans ho.symm)⟩
  cases r with
  | no => exact h.elim
  | val d => exact ⟨W, J, h⟩
  | bag => exact ⟨W, J, h⟩
  | pk j => exact h.elim
  | own d =>
    obtain ⟨p, e, np, gp, ht⟩ := h
    have m := I.fresh np
    refine ⟨fun a => if a = p then none else W a, J.disown fun i d' q hi hw _ hs => ?_, p, e, ⟨gp, m.2.1, m.2.2.1, m.2.2.2⟩, if_pos rfl, ht⟩
    obtain ⟨v', h1, h2⟩ := I.sl i (by rw [hi]; simp)
    rw [hs] at h1; cases h1
    rw [hi] at h2
    obtain ⟨a, e', _, _, h7⟩ := h2
    cases e'
    exact h7.at_ne np
theorem fn_d {x qual : Str} {sm : Stmt} {f : Addr} {fd : FuncData} {N ps : List Str} {k : Nat} {S : DSp} (F : Fun K x qual sm f fd) (Sc : FnScope N ps (defScope sm)) (hl : ∀ rs P Xc, S rs P Xc → rs.length = ps.length) (hN : ps.length ≤ N.length)
    (hbody : ∀ (cdv : Value) (A : Around) (outer : List Env) (s : Shared) (H : Hp) (E : XK), Room k (A.deeper (PyProof.Rows.envOfC qual (defScope sm) s.heap.objs.size f cdv)) →
      ∃ ds, PSs (cxOf CX0 P w K mg base N qual (defScope sm) f cdv A outer s H E).nox (defBody sm) (liftS K L0 ds) ∧ ∀ rs P Xc, S rs P Xc → ds { nx := fun _ => P (.val .non), rt := fun r _ => P r } (startD N rs)) : FnOk P w K mg base CX0 (k + 1) f fd ps (spOf K S) := by
  refine F.ok Sc (fun vs H Q E h => ?_) (fun cdv A outer s H vs Q E hr h => ?_)
  · obtain ⟨bo, G, rs, P, Xc, _, _, ha, hs, _⟩ := h
    rw [ha.1]; exact hl rs P Xc hs
  · obtain ⟨bo, G, rs, P, Xc, hg, hb, ha, hs, hq, hx⟩ := h
    obtain ⟨ds, hd, hk⟩ := hbody cdv A outer s H E hr
    refine ⟨_, hd, ⟨bo, H, G, fun _ => none⟩, G, fun _ => none, startD N rs, _, SI.start (by rw [ha.1, hl rs P Xc hs]; exact hN) hg hb ha, Lnk.zero, hk rs P Xc hs, ?_⟩
    refine ⟨fun σ' H' G' W' δ' x I hp => ?_, fun v σ' H' G' W' δ' r x I o fi hp => ?_, fun _ _ _ _ _ _ _ hp => hp, fun _ _ _ _ _ _ _ hp => hp⟩
    · exact hq _ _ G' H' hp (I.fin I.b0) Den.non
    · exact hq _ v G' H' hp (I.fin I.b0) (ROk.fin o fi)
end
def dCall (S : DSp) (da : DA) : DE := fun δ P => da δ fun rs δ1 => ∃ rs' δ2, useAll rs δ1 = some (rs', δ2) ∧ S rs' (fun r => P r δ2) (fun _ _ => False)
section
variable {X : Cx} {L : Lk} {k : Nat} {f : Addr} {fd : FuncData} {ps : List Str} {S : DSp} {x : Str} {p pos : Pos} {e : Expr} {es : List Expr} {da : DA}
theorem aok_of {K : PySem.W.Frag} {C : Ct} {σ : St} {H G : Hp} {W : Ow} {rs' : List R} {rs : List R} {δ δ' : List R} {vs : List V} (o : All2 (fun v r => ROk K C σ H G W none v r ∧ r.pub = r) vs rs') (nk : ∀ r ∈ rs', r.on = true ∧ ∀ j, r ≠ .pk j) : All2 (AOk K C.bo G) vs rs' := by
  refine ⟨o.1, fun i v r hv hr => ?_⟩
  obtain ⟨h1, h2⟩ := o.2 i v r hv hr
  obtain ⟨n1, n2⟩ := nk r (List.mem_of_getElem? hr)
  cases r with
  | no => cases n1
  | val d => exact h1
  | bag => exact h1
  | own d => cases h2
  | pk j => exact absurd rfl (n2 j)
theorem use_on {r r' : R} {δ δ' : List R} (e : use r δ = some (r', δ')) : r'.on = true := by
  cases r with
  | no => cases e
  | val d => cases e; rfl
  | bag => cases e; rfl
  | own d => cases e; rfl
  | pk i =>
    have e : usePk (gt δ i) i δ = some (r', δ') := e
    cases q : gt δ i <;> rw [q] at e <;> first | (cases e; rfl) | cases e
theorem useAll_on : ∀ {rs rs' δ δ' : List R}, useAll rs δ = some (rs', δ') → ∀ r ∈ rs', r.on = true ∧ ∀ j, r ≠ .pk j
  | [], rs', δ, δ', e, r, h => by cases e; cases h
  | a :: rs, rs', δ, δ', e, r, h => by
    unfold useAll at e
    cases q : use a δ with
    | none => rw [q] at e; cases e
    | some p =>
      obtain ⟨r1, δ1⟩ := p
      rw [q] at e
      simp only at e
      cases q2 : useAll rs δ1 with
      | none => rw [q2] at e; cases e
      | some p =>
        obtain ⟨rs2, δ2⟩ := p
        rw [q2] at e; cases e
        rcases List.mem_cons.mp h with z | z
        · subst z; exact ⟨use_on q, use_nk q⟩
        · exact useAll_on q2 r z
theorem lift_call {K : PySem.W.Frag} : ∀ σ H Q, lift K L (dCall S da) σ H Q → tCall (spOf K S) [] E0 (liftA K L da) σ H Q :=
  lift_of fun C σ H G W δ P Q I lk h k => ⟨C, G, W, δ, _, I, lk, h, fun rs δ1 vs H1 G1 W1 h1 x1 I1 o1 => by
    obtain ⟨rs', δ2, e, hs⟩ := h1
    obtain ⟨G2, x2, I2, o2⟩ := I1.useAllOk o1 e
    rw [List.append_nil]
    refine ⟨C.bo, G2, rs', _, _, I2.gh, I2.bag, aok_of (rs := rs) (δ := δ1) (δ' := δ2) o2 (useAll_on e), hs, fun r v G' H' hp hf ho => ?_, fun c fs d fvs G' H' hx => hx.elim⟩
    obtain ⟨W', I3, o3⟩ := I2.called hf ho
    exact k r δ2 v H' G' W' hp ((x1.trans x2).trans hf.ex) I3 o3⟩
theorem de_call (F : FnOk X.prog X.w X.K X.mg X.base CX0 k f fd ps (spOf X.K S)) (hr : Room k X.A) (hg : Gl X x) (hm : X.mg x = some (.ref f)) (hk : PySem.W.keepIn X.K (.ref f) = true) (hb : Binds X.K fd ps [])
    (ha : PA X (e :: es) (liftA X.K L da)) (hdb : (x == ("__debug__" : Str)) = false := by decide) (he : starEach (e :: es) X.env = (false, eval e X.env) :: starEach es X.env := by rfl) (hpl : (backTo pos (starEach es X.env)).any (·.1) = false := by rfl) :
    PE X (.Call (.Name x p) (e :: es) [] pos) (lift X.K L (dCall S da)) := PE.weak (pe_call F hr hg hm hk hb .nil pass0 ha hdb he hpl) lift_call
theorem de_call0 (F : FnOk X.prog X.w X.K X.mg X.base CX0 k f fd ps (spOf X.K S)) (hr : Room k X.A) (hg : Gl X x) (hm : X.mg x = some (.ref f)) (hk : PySem.W.keepIn X.K (.ref f) = true) (hb : Binds X.K fd ps [])
    (hdb : (x == ("__debug__" : Str)) = false := by decide) : PE X (.Call (.Name x p) [] [] pos) (lift X.K L (dCall S dNil)) := PE.weak (pe_call0 F hr hg hm hk hb .nil pass0 hdb) fun σ H Q h => by
      have := lift_call σ H Q h
      obtain ⟨C, G, W, δ, P, I, lk, hd, kk⟩ := this
      exact kk [] δ [] H G W hd (Ex.refl G) I .nil
/-- a list comprehension -/
theorem de_lc {elt tg iter : Expr} {ifs : List Expr} {scope : Scope} {own : List (Str × Nat)} {di : DI} {g : DG} {tgt : TG} {dt : DT} {de : DE} {vs : List Nat} (hc : X.calm = true) (hN : X.N.Nodup) (hi : PI X tg iter (liftI X.K L di)) (ok : BlkOk X.N X.env.scope scope own)
    (gok : GOk g tgt X.K vs) (hv : own.map (·.2) = vs)
    (hg : ∀ (s : Shared) (H : Hp) (C : Addr) (cl : List (Str × Addr)) (fp : List Addr), PG (X.blk s H scope (compEnvC scope cl C X.env) fp) tg tgt) (ht : ∀ (s : Shared) (H : Hp) (C : Addr) (cl : List (Str × Addr)) (fp : List Addr), PTs (X.blk s H scope (compEnvC scope cl C X.env) fp) ifs (liftT X.K L0 dt))
    (he : ∀ (s : Shared) (H : Hp) (C : Addr) (cl : List (Str × Addr)) (fp : List Addr), PE (X.blk s H scope (compEnvC scope cl C X.env) fp) elt (lift X.K L0 de)) (hs : ∀ x, foldedSetIterable iter X.env x = pure x := by intro _; rfl) :
    PE X (.ListComp elt [⟨tg, iter, ifs, 0⟩] scope pos) (lift X.K L (dComp di g dt de vs)) := by
  have h := pe_lc (pos := pos) (own := own) hc hN hi ok hg ht he hs
  rw [hv] at h
  exact PE.weak h (lift_lc gok)
theorem ds_setLc {i : Nat} {y : Str} {py spos : Pos} {elt tg iter : Expr} {ifs : List Expr} {scope : Scope} {own : List (Str × Nat)} {di : DI} {g : DG} {tgt : TG} {dt : DT} {de : DE} {vs : List Nat} (hc : X.calm = true) (hN : X.N.Nodup)
    (hsw : swapsWith (.ListComp elt [⟨tg, iter, ifs, 0⟩] scope pos) (some (.Name y py)) spos.line X.env = pure true) (hi : PI X tg iter (liftI X.K L di)) (ok : BlkOk X.N X.env.scope scope own)
    (gok : GOk g tgt X.K vs) (hv : own.map (·.2) = vs)
    (hg : ∀ (s : Shared) (H : Hp) (C : Addr) (cl : List (Str × Addr)) (fp : List Addr), PG (X.blk s H scope (compEnvC scope cl C X.env) fp) tg tgt) (ht : ∀ (s : Shared) (H : Hp) (C : Addr) (cl : List (Str × Addr)) (fp : List Addr), PTs (X.blk s H scope (compEnvC scope cl C X.env) fp) ifs (liftT X.K L0 dt))
    (he : ∀ (s : Shared) (H : Hp) (C : Addr) (cl : List (Str × Addr)) (fp : List Addr), PE (X.blk s H scope (compEnvC scope cl C X.env) fp) elt (lift X.K L0 de)) (hy : X.N[i]? = some y := by rfl) (hyl : X.env.scope.names.lookup y = some .local := by rfl) (hs : ∀ x, foldedSetIterable iter X.env x = pure x := by intro _; rfl) :
    PS X (.Assign [.Name y py] (.ListComp elt [⟨tg, iter, ifs, 0⟩] scope pos) spos) (liftS X.K L (dSet i (dComp di g dt de vs))) := by
  have h := ps_setLc (i := i) (own := own) hc hN hy hyl hsw hi ok hg ht he hs
  rw [hv] at h
  refine PS.weak h <| liftS_of fun C D σ H G W δ DD I lk h k => ?_
  refine lift_lc gok σ H _ ⟨C, G, W, δ, _, I, lk, h, fun r δ1 v H1 G1 W1 h1 x1 I1 o1 => ?_⟩
  obtain ⟨r', δ2, e, hp⟩ := h1
  obtain ⟨G2, x2, I2, o2, nk⟩ := I1.asOk o1 e
  obtain ⟨W3, I3⟩ := I2.store (i := i) o2 nk
  exact k.nx _ H1 G2 W3 _ (x1.trans x2) I3 hp
theorem dts_nil : PTs X [] (liftT X.K L dYes) := ⟨fun pins s σ H Q I h => pts_nil.run pins s σ H Q I (by
  obtain ⟨C, G, W, δ, P, J, lk, hd, k⟩ := h
  exact k true δ H G W hd (Ex.refl G) J)⟩
theorem dts_one {c : Expr} {dt : DT} (h : PT X c (liftT X.K L dt)) : PTs X [c] (liftT X.K L dt) := pts_one h
end
end DL

namespace DL
open PySem PySem.Spec L2

section
variable {X : Cx} {K : PySem.W.Frag} {L : Lk} {r r' : R2} {a b e : Expr} {da db de : DE} {pos : Pos}
theorem OpR.or {f : Value → Value → Sem Value} (h : OpR X f r) (h' : OpR X f r') : OpR X f (fun x y H Q => r x y H Q ∨ r' x y H Q) := fun pins s σ H x y v u Q I rx ry q => by
  rcases q with q | q
  · exact h pins s σ H x y v u Q I rx ry q
  · exact h' pins s σ H x y v u Q I rx ry q
/-! ### numbers -/
def gI (c : Int → Int → Prop) (f : Int → Int → D) : D → D → (R → Prop) → Prop
  | .int i, .int j, P => c i j ∧ P (.val (f i j))
  | _, _, _ => False
theorem two_ints {d1 d2 : D} {c : Int → Int → Prop} {f : Int → Int → D} {P : R → Prop} (h : gI c f d1 d2 P) : ∃ i j, d1 = .int i ∧ d2 = .int j ∧ c i j ∧ P (.val (f i j)) := by
  cases d1 with
  | int i => cases d2 with
    | int j => exact ⟨i, j, rfl, rfl, h.1, h.2⟩
    | _ => exact h.elim
  | _ => cases d2 <;> exact h.elim
theorem os_I {c : Int → Int → Prop} {f : Int → Int → Int} : OpSem K (rI c fun i j => .int (f i j)) (gI c fun i j => .int (f i j)) := fun C σ H G W δ x y d1 d2 P Q I h1 h2 hg k => by
  obtain ⟨i, j, rfl, rfl, hc, hp⟩ := two_ints hg
  exact ⟨i, j, h1.of_int, h2.of_int, hc, k _ _ H G W hp (Ex.refl G) I (Den.int _)⟩
theorem os_I0 {f : Int → Int → Int} : OpSem K (rI0 fun i j => .int (f i j)) (gI (fun _ _ => True) fun i j => .int (f i j)) := fun C σ H G W δ x y d1 d2 P Q I h1 h2 hg k => by
  obtain ⟨i, j, rfl, rfl, hc, hp⟩ := two_ints hg
  exact ⟨i, j, h1.of_int, h2.of_int, k _ _ H G W hp (Ex.refl G) I (Den.int _)⟩
abbrev gMinus := gI (fun _ _ => True) fun i j => .int (i - j)
abbrev gMod := gI (fun _ j => j ≠ 0) fun i j => .int (i.fmod j)
abbrev gPow := gI CPow fun i j => .int (i ^ j.toNat)
abbrev gShr := gI (fun _ j => 0 ≤ j) fun i j => .int (i / 2 ^ j.toNat)
theorem de_sub (ha : PE X a (lift X.K L da)) (hb : PE X b (lift X.K L db)) : PE X (.BinOp a .Sub b pos) (lift X.K L (dBin gMinus da db)) := de_op op_sub os_I0 ha hb
theorem de_mod (ha : PE X a (lift X.K L da)) (hb : PE X b (lift X.K L db)) : PE X (.BinOp a .Mod b pos) (lift X.K L (dBin gMod da db)) := de_op op_modN os_I ha hb
theorem de_pow (ha : PE X a (lift X.K L da)) (hb : PE X b (lift X.K L db)) : PE X (.BinOp a .Pow b pos) (lift X.K L (dBin gPow da db)) := de_op op_pow os_I ha hb
theorem de_shr (ha : PE X a (lift X.K L da)) (hb : PE X b (lift X.K L db)) : PE X (.BinOp a .RShift b pos) (lift X.K L (dBin gShr da db)) := de_op op_shr os_I ha hb
/-- // by what is not nought, below 2 ^ 9000 -/
def CDivA (i j : Int) : Prop := j ≠ 0 ∧ j.natAbs.log2 < 9000
theorem op_fdivA : OpR X (binaryOp .FloorDiv) (rI CDivA fun i j => .int (i.fdiv j)) := opI fun _ _ _ _ _ _ _ hc q => PyProof.Rows.floordiv_int hc.1 q (.inl (PyProof.noPylong_of_log2 hc.2))
abbrev gFdivA := gI CDivA fun i j => .int (i.fdiv j)
theorem de_fdiv (ha : PE X a (lift X.K L da)) (hb : PE X b (lift X.K L db)) : PE X (.BinOp a .FloorDiv b pos) (lift X.K L (dBin gFdivA da db)) := de_op op_fdivA os_I ha hb
/-! ### + -/
/-- t + u: the made tuple is a plain one -/
def rCatF (K : PySem.W.Frag) : R2 := fun x y H Q => ∃ a b xs ys, x = .ref a ∧ y = .ref b ∧ SqT K H a xs ∧ SqT K H b ys ∧ xs.length + ys.length ≤ sizeLine ∧
  (xs = [] → Q (.ref b) H) ∧ (xs ≠ [] → ys = [] → Q (.ref a) H) ∧ (xs ≠ [] → ys ≠ [] → ∀ p its, H p = none → Q (.ref p) (upd H p (.frz (tupObj its) (.tup (xs ++ ys)))))
theorem op_catF : OpR X (binaryOp .Add) (rCatF X.K) := fun pins s σ H x y v u Q I rx ry h => by
  obtain ⟨a, b, xs, ys, rfl, rfl, ha, hb, l, q0, q1, q2⟩ := h
  by_cases hx : xs = []
  · exact op_catA pins s σ H _ _ v u Q I rx ry ⟨a, b, xs, ys, rfl, rfl, ha, hb, l, q0, fun z => absurd hx z, fun z => absurd hx z⟩
  · cases rx
    cases ry
    obtain ⟨vs, rv, tv, _⟩ := I.tuple ha
    obtain ⟨ws, rw', tw, _⟩ := I.tuple hb
    refine HT.cat_tup tv tw (fun z => hx (rv.nil_iff.mp z)) (fun z => ⟨.ref a, H, I, rfl, q1 hx (rw'.nil_iff.mp z)⟩) (fun z => ?_) (by rw [← rv.length, ← rw'.length]; exact l)
    exact ⟨.ref s.heap.objs.size, _, layTup I (rv.append rw') (by rw [List.length_append]; exact l) s.toks, rfl, q2 hx (fun e => z (rw'.nil_iff.mpr e)) _ _ (I.hok.fresh (Nat.le_refl _))⟩
def gAdd : D → D → (R → Prop) → Prop
  | .int i, .int j, P => P (.val (.int (i + j)))
  | .str x, .str y, P => x.length + y.length ≤ sizeLine ∧ P (.val (.str (x ++ y)))
  | .lst x, .lst y, P => x.length + y.length ≤ sizeLine ∧ P (.own (.lst (x ++ y)))
  | .tup x, .tup y, P => x.length + y.length ≤ sizeLine ∧ P (.val (.tup (x ++ y)))
  | _, _, _ => False
def rAddA (K : PySem.W.Frag) : R2 := fun x y H Q => rI0 (fun i j => .int (i + j)) x y H Q ∨ (∃ i j, x = .str i ∧ y = .str j ∧ i.length + j.length ≤ sizeLine ∧ Q (.str (i ++ j)) H) ∨ rCat x y H Q ∨ rCatF K x y H Q
theorem op_addA : OpR X (binaryOp .Add) (rAddA X.K) := OpR.or op_add (OpR.or op_add_str (OpR.or op_cat op_catF))
theorem os_add : OpSem K (rAddA K) gAdd := fun C σ H G W δ x y d1 d2 P Q I h1 h2 hg k => by
  cases d1 with
  | int i => cases d2 with
    | int j => exact .inl ⟨i, j, h1.of_int, h2.of_int, k _ _ H G W hg (Ex.refl G) I (Den.int _)⟩
    | _ => exact hg.elim
  | str i => cases d2 with
    | str j => exact .inr (.inl ⟨i, j, h1.of_str, h2.of_str, hg.1, k _ _ H G W hg.2 (Ex.refl G) I (Den.str _)⟩)
    | _ => exact hg.elim
  | lst xs => cases d2 with
    | lst ys =>
      obtain ⟨p, vs, rfl, hp, dp⟩ := h1.of_lst
      obtain ⟨q, us, rfl, hq, dq⟩ := h2.of_lst
      refine .inr (.inr (.inl ⟨p, q, vs, us, rfl, rfl, I.gh _ _ hp, I.gh _ _ hq, by rw [dp.1, dq.1]; exact hg.1, fun t ht => ?_⟩))
      obtain ⟨I', o⟩ := I.newLst ht (dp.append dq)
      exact k _ _ _ _ _ hg.2 (Ex.refl G) I' o
    | _ => exact hg.elim
  | tup xs => cases d2 with
    | tup ys =>
      obtain ⟨p, vs, rfl, hp, dp⟩ := h1.of_tup
      obtain ⟨q, us, rfl, hq, dq⟩ := h2.of_tup
      refine .inr (.inr (.inr ⟨p, q, vs, us, rfl, rfl, ex_t I.gh hp, ex_t I.gh hq, by rw [dp.1, dq.1]; exact hg.1, ?_⟩))
      refine ⟨fun e => ?_, fun ne e => ?_, fun ne ne' t its ht => ?_⟩
      · subst e
        have e : xs = [] := dp.nil_left
        subst e
        exact k _ _ H G W hg.2 (Ex.refl G) I h2
      · subst e
        have e : ys = [] := dq.nil_left
        subst e
        have hp := hg.2
        rw [List.append_nil] at hp
        exact k _ _ H G W hp (Ex.refl G) I h1
      · obtain ⟨I', o⟩ := I.newTup (its := its) ht (dp.append dq)
        exact k _ _ _ _ _ hg.2 (Ex.new (I.fresh ht).1) I' o
    | _ => exact hg.elim
  | _ => cases d2 <;> exact hg.elim
theorem de_add (ha : PE X a (lift X.K L da)) (hb : PE X b (lift X.K L db)) : PE X (.BinOp a .Add b pos) (lift X.K L (dBin gAdd da db)) := de_op op_addA os_add ha hb
/-! ### * -/
def CMulA (i j : Int) : Prop := CMul i j ∨ CMulW i j
def gMul : D → D → (R → Prop) → Prop
  | .int i, .int j, P => CMulA i j ∧ P (.val (.int (i * j)))
  | .lst x, .int k, P => (-(2 ^ 63) ≤ k ∧ k < 2 ^ 63) ∧ x.length * k.toNat ≤ sizeLine ∧ P (.own (.lst (List.replicate k.toNat x).flatten))
  | _, _, _ => False
def rMulA : R2 := fun x y H Q => rI CMulA (fun i j => .int (i * j)) x y H Q ∨ rRep x y H Q
theorem op_mulA : OpR X (binaryOp .Mult) rMulA := by
  refine OpR.or (fun pins s σ H x y v u Q I rx ry h => ?_) op_rep
  obtain ⟨i, j, hx, hy, hc, q⟩ := h
  rcases hc with hc | hc
  · exact op_mul pins s σ H x y v u Q I rx ry ⟨i, j, hx, hy, hc, q⟩
  · exact op_mulW pins s σ H x y v u Q I rx ry ⟨i, j, hx, hy, hc, q⟩
theorem all2_flat {F : V → D → Prop} {vs : List V} {ds : List D} (h : All2 F vs ds) : ∀ n : Nat, All2 F (List.replicate n vs).flatten (List.replicate n ds).flatten
  | 0 => by simp; exact .nil
  | n + 1 => by
    rw [List.replicate_succ, List.replicate_succ, List.flatten_cons, List.flatten_cons]
    exact h.append (all2_flat h n)
theorem os_mul : OpSem K rMulA gMul := fun C σ H G W δ x y d1 d2 P Q I h1 h2 hg k => by
  cases d1 with
  | int i => cases d2 with
    | int j => exact .inl ⟨i, j, h1.of_int, h2.of_int, hg.1, k _ _ H G W hg.2 (Ex.refl G) I (Den.int _)⟩
    | _ => exact hg.elim
  | lst xs => cases d2 with
    | int n =>
      obtain ⟨p, vs, rfl, hp, dp⟩ := h1.of_lst
      obtain ⟨⟨g1, g2⟩, g3, g4⟩ := hg
      refine .inr ⟨p, n, vs, rfl, h2.of_int, I.gh _ _ hp, g1, g2, by rw [dp.1]; exact g3, fun t ht => ?_⟩
      obtain ⟨I', o⟩ := I.newLst ht (all2_flat dp n.toNat)
      exact k _ _ _ _ _ g4 (Ex.refl G) I' o
    | _ => exact hg.elim
  | _ => cases d2 <;> exact hg.elim
theorem de_mul (ha : PE X a (lift X.K L da)) (hb : PE X b (lift X.K L db)) : PE X (.BinOp a .Mult b pos) (lift X.K L (dBin gMul da db)) := de_op op_mulA os_mul ha hb
/-! ### -a -/
def dNeg (da : DE) : DE := fun δ P => da δ fun r δ1 => ∃ i, peek r δ1 = some (.int i) ∧ P (.val (.int (-i))) δ1
theorem de_neg (ha : PE X a (lift X.K L da)) : PE X (.UnaryOp .USub a pos) (lift X.K L (dNeg da)) :=
  PE.weak (pe_un un_neg ha) <| lift_of fun C σ H G W δ P Q I lk h k => ⟨C, G, W, δ, _, I, lk, h, fun r δ1 v H1 G1 W1 h1 x1 I1 o1 => by
    obtain ⟨i, e, hp⟩ := h1
    exact ⟨i, ((I1.peekOk o1 e).den I1.gh).of_int, k _ δ1 _ H1 G1 W1 hp x1 I1 (Den.int _)⟩⟩
/-! ### comparisons of numbers -/
def cI (f : Int → Int → Bool) : D → D → Bool → Prop
  | .int i, .int j, b => b = f i j
  | _, _, _ => False
theorem cs_I {f : Int → Int → Bool} : CmpSem K (rI0 fun i j => .bl (f i j)) (cI f) := fun H x y d1 d2 b Q h1 h2 hc q => by
  cases d1 with
  | int i => cases d2 with
    | int j => have hc : b = f i j := hc; subst hc; exact ⟨i, j, h1.of_int, h2.of_int, q⟩
    | _ => exact hc.elim
  | _ => cases d2 <;> exact hc.elim
theorem de_lt (ha : PE X a (lift X.K L da)) (hb : PE X b (lift X.K L db)) : PE X (.Compare a [.Lt] [b] pos) (lift X.K L (dCmp (cI fun i j => decide (i < j)) da db)) := de_cmp op_lt cs_I ha hb (nomark _)
theorem de_le (ha : PE X a (lift X.K L da)) (hb : PE X b (lift X.K L db)) : PE X (.Compare a [.LtE] [b] pos) (lift X.K L (dCmp (cI fun i j => decide (i ≤ j)) da db)) := de_cmp op_le cs_I ha hb (nomark _)
theorem de_gt (ha : PE X a (lift X.K L da)) (hb : PE X b (lift X.K L db)) : PE X (.Compare a [.Gt] [b] pos) (lift X.K L (dCmp (cI fun i j => decide (j < i)) da db)) := de_cmp op_gt cs_I ha hb (nomark _)
theorem de_ge (ha : PE X a (lift X.K L da)) (hb : PE X b (lift X.K L db)) : PE X (.Compare a [.GtE] [b] pos) (lift X.K L (dCmp (cI fun i j => decide (j ≤ i)) da db)) := de_cmp op_ge cs_I ha hb (nomark _)
theorem dt_lt (ha : PE X a (lift X.K L da)) (hb : PE X b (lift X.K L db)) : PT X (.Compare a [.Lt] [b] pos) (liftT X.K L (dTst (dCmp (cI fun i j => decide (i < j)) da db))) := dt_cmp op_lt cs_I ha hb (nomark _)
theorem dt_le (ha : PE X a (lift X.K L da)) (hb : PE X b (lift X.K L db)) : PT X (.Compare a [.LtE] [b] pos) (liftT X.K L (dTst (dCmp (cI fun i j => decide (i ≤ j)) da db))) := dt_cmp op_le cs_I ha hb (nomark _)
theorem dt_gt (ha : PE X a (lift X.K L da)) (hb : PE X b (lift X.K L db)) : PT X (.Compare a [.Gt] [b] pos) (liftT X.K L (dTst (dCmp (cI fun i j => decide (j < i)) da db))) := dt_cmp op_gt cs_I ha hb (nomark _)
theorem dt_ge (ha : PE X a (lift X.K L da)) (hb : PE X b (lift X.K L db)) : PT X (.Compare a [.GtE] [b] pos) (liftT X.K L (dTst (dCmp (cI fun i j => decide (j ≤ i)) da db))) := dt_cmp op_ge cs_I ha hb (nomark _)
/-! ### is None -/
def D.isN : D → Bool
  | .non => true
  | _ => false
theorem Den.isN {H : Hp} {x : V} {d : D} (h : Den K H x d) : decide (x = .non) = d.isN := by
  cases h <;> rfl
def cIsN (n : Bool) : D → D → Bool → Prop := fun d e b => e = .non ∧ b = (if n then !d.isN else d.isN)
theorem cs_isN : CmpSem K (fun x y H Q => y = .non ∧ Q (.bl (decide (x = .non))) H) (cIsN false) := fun H x y d1 d2 b Q h1 h2 hc q => by
  obtain ⟨rfl, rfl⟩ := hc
  exact ⟨h2.of_non, by rw [h1.isN]; exact q⟩
theorem cs_notN : CmpSem K (fun x y H Q => y = .non ∧ Q (.bl (!decide (x = .non))) H) (cIsN true) := fun H x y d1 d2 b Q h1 h2 hc q => by
  obtain ⟨rfl, rfl⟩ := hc
  exact ⟨h2.of_non, by rw [h1.isN]; exact q⟩
theorem de_is (ha : PE X a (lift X.K L da)) (hb : PE X b (lift X.K L db)) : PE X (.Compare a [.Is] [b] pos) (lift X.K L (dCmp (cIsN false) da db)) := de_cmp op_isN cs_isN ha hb (nomark _)
theorem de_isnot (ha : PE X a (lift X.K L da)) (hb : PE X b (lift X.K L db)) : PE X (.Compare a [.IsNot] [b] pos) (lift X.K L (dCmp (cIsN true) da db)) := de_cmp op_notN cs_notN ha hb (nomark _)
theorem dt_is (ha : PE X a (lift X.K L da)) (hb : PE X b (lift X.K L db)) : PT X (.Compare a [.Is] [b] pos) (liftT X.K L (dTst (dCmp (cIsN false) da db))) := dt_cmp op_isN cs_isN ha hb (nomark _)
theorem dt_isnot (ha : PE X a (lift X.K L da)) (hb : PE X b (lift X.K L db)) : PT X (.Compare a [.IsNot] [b] pos) (liftT X.K L (dTst (dCmp (cIsN true) da db))) := dt_cmp op_notN cs_notN ha hb (nomark _)
end
end DL

namespace DL
open PySem PySem.Spec L2

/-! ### data as the library's -/
mutual
def D.py : D → PyData
  | .non => .none
  | .bl b => .bool b
  | .int i => .int i
  | .str x => .str x
  | .lst xs => .list (D.pys xs)
  | .tup xs => .tuple (D.pys xs)
  | .dic _ => .none
  | .ins _ _ => .none
  | .ty _ => .none
  | .exc _ _ _ => .none
def D.pys : List D → List PyData
  | [] => []
  | d :: ds => D.py d :: D.pys ds
end
/-- plain data, at most n deep -/
def D.Ok : Nat → D → Prop
  | _, .non => True
  | _, .bl _ => True
  | _, .int _ => True
  | _, .str x => PyData.strOk x = true
  | n + 1, .lst xs => ∀ d ∈ xs, D.Ok n d
  | n + 1, .tup xs => ∀ d ∈ xs, D.Ok n d
  | _, _ => False
theorem pys_map : ∀ ds : List D, D.pys ds = ds.map D.py
  | [] => rfl
  | d :: ds => by rw [List.map_cons, ← pys_map ds]; rfl
section
variable {K : PySem.W.Frag} {H : Hp}
theorem dpAll_of : ∀ {vs : List V} {ds : List D}, vs.length = ds.length → (∀ (i : Nat) v d, vs[i]? = some v → ds[i]? = some d → Dp K H v d.py) → DpAll K H vs (D.pys ds)
  | [], [], _, _ => .nil
  | [], _ :: _, h, _ => by simp at h
  | _ :: _, [], h, _ => by simp at h
  | v :: vs, d :: ds, h, f => .cons (f 0 v d rfl rfl) (dpAll_of (by simpa using h) fun i a b ha hb => f (i + 1) a b (by simpa using ha) (by simpa using hb))
theorem Den.dp : ∀ {n : Nat} {v : V} {d : D}, Den K H v d → d.Ok n → Dp K H v d.py
  | _, _, _, .non, _ => .non
  | _, _, _, .bl b, _ => .bl b
  | _, _, _, .int i, _ => .int i
  | _, _, _, .str x, _ => .str x
  | _, _, _, .ty n, h => by unfold D.Ok at h; exact h.elim
  | 0, _, _, .lst h l e, o => o.elim
  | n + 1, _, _, .lst h l e, o => .lst (.of h) (dpAll_of l fun i v d hv hd => Den.dp (e i v d hv hd) (o d (List.mem_of_getElem? hd)))
  | 0, _, _, .tup h l e, o => o.elim
  | n + 1, _, _, .tup h l e, o => .tup h.sq (dpAll_of l fun i v d hv hd => Den.dp (e i v d hv hd) (o d (List.mem_of_getElem? hd)))
  | _, _, _, .dic h l k e, o => by unfold D.Ok at o; exact o.elim
  | _, _, _, .ins h l k e, o => by unfold D.Ok at o; exact o.elim
  | _, _, _, .exc h l k e, o => by unfold D.Ok at o; exact o.elim
end
theorem canLayAll_of : ∀ ds : List PyData, (∀ d ∈ ds, d.canLay0 = true) → PyData.canLayAll0 ds = true
  | [], _ => by simp only [PyData.canLayAll0]
  | d :: ds, h => by
    simp only [PyData.canLayAll0, Bool.and_eq_true]
    exact ⟨h d (List.mem_cons_self ..), canLayAll_of ds fun e he => h e (List.mem_cons_of_mem _ he)⟩
theorem depthAll_of {n : Nat} : ∀ ds : List PyData, (∀ d ∈ ds, d.depth ≤ n) → PyData.depthAll ds ≤ n
  | [], _ => by simp only [PyData.depthAll]; exact Nat.zero_le _
  | d :: ds, h => by
    simp only [PyData.depthAll]
    have h1 := h d (List.mem_cons_self ..)
    have h2 := depthAll_of ds fun e he => h e (List.mem_cons_of_mem _ he)
    omega
theorem Ok_lay : ∀ {n : Nat} {d : D}, d.Ok n → d.py.canLay0 = true ∧ d.py.depth ≤ n
  | n, .non, _ => by simp [D.py, PyData.canLay0, PyData.depth]
  | n, .bl b, _ => by simp [D.py, PyData.canLay0, PyData.depth]
  | n, .int i, _ => by simp [D.py, PyData.canLay0, PyData.depth]
  | n, .str x, h => by
    have h : PyData.strOk x = true := by unfold D.Ok at h; exact h
    simp [D.py, PyData.canLay0, PyData.depth, h]
  | 0, .lst xs, h => h.elim
  | 0, .tup xs, h => h.elim
  | n + 1, .lst xs, h => by
    have h : ∀ d ∈ xs, D.Ok n d := h
    have a : ∀ e ∈ D.pys xs, e.canLay0 = true ∧ e.depth ≤ n := fun e he => by
      rw [pys_map] at he
      obtain ⟨d, hd, rfl⟩ := List.mem_map.mp he
      exact Ok_lay (h d hd)
    simp only [D.py, PyData.canLay0, PyData.depth]
    have := depthAll_of (n := n) (D.pys xs) fun e he => (a e he).2
    exact ⟨canLayAll_of _ fun e he => (a e he).1, by omega⟩
  | n + 1, .tup xs, h => by
    have h : ∀ d ∈ xs, D.Ok n d := h
    have a : ∀ e ∈ D.pys xs, e.canLay0 = true ∧ e.depth ≤ n := fun e he => by
      rw [pys_map] at he
      obtain ⟨d, hd, rfl⟩ := List.mem_map.mp he
      exact Ok_lay (h d hd)
    simp only [D.py, PyData.canLay0, PyData.depth]
    have := depthAll_of (n := n) (D.pys xs) fun e he => (a e he).2
    exact ⟨canLayAll_of _ fun e he => (a e he).1, by omega⟩
  | 0, .dic _, h => h.elim
  | 0, .ins _ _, h => h.elim
  | 0, .ty _, h => h.elim
  | 0, .exc _ _ _, h => h.elim
  | n + 1, .dic _, h => h.elim
  | n + 1, .ins _ _, h => h.elim
  | n + 1, .ty _, h => h.elim
  | n + 1, .exc _ _ _, h => h.elim
theorem Ok_shaped {n : Nat} {d : D} (h : d.Ok n) (hn : n ≤ 64) : SeqAt.shaped d.py = true := by
  obtain ⟨a, b⟩ := Ok_lay h
  unfold SeqAt.shaped
  rw [a, decide_eq_true (Nat.le_trans b hn)]; rfl
/-! ### == -/
def eqAll (f : D → D → Bool) : List D → List D → Bool
  | [], [] => true
  | x :: xs, y :: ys => f x y && eqAll f xs ys
  | _, _ => false
def eqD : Nat → D → D → Bool
  | _, .non, .non => true
  | _, .bl a, .bl b => a == b
  | _, .bl a, .int j => (if a then 1 else 0) == j
  | _, .int i, .bl b => i == (if b then 1 else 0)
  | _, .int i, .int j => i == j
  | _, .str x, .str y => x == y
  | n + 1, .lst xs, .lst ys => eqAll (eqD n) xs ys
  | n + 1, .tup xs, .tup ys => eqAll (eqD n) xs ys
  | _, _, _ => false
theorem eqvAll_eq {n : Nat} : ∀ (xs ys : List D), (∀ x ∈ xs, ∀ y ∈ ys, PyData.eqv x.py y.py = eqD n x y) → PyData.eqvAll (D.pys xs) (D.pys ys) = eqAll (eqD n) xs ys
  | [], [], _ => by simp [D.pys, PyData.eqvAll, eqAll]
  | [], _ :: _, _ => by simp [D.pys, PyData.eqvAll, eqAll]
  | _ :: _, [], _ => by simp [D.pys, PyData.eqvAll, eqAll]
  | x :: xs, y :: ys, h => by
    simp only [D.pys, PyData.eqvAll, eqAll]
    rw [h x (List.mem_cons_self ..) y (List.mem_cons_self ..), eqvAll_eq xs ys fun a ha b hb => h a (List.mem_cons_of_mem _ ha) b (List.mem_cons_of_mem _ hb)]
theorem eqv_eq : ∀ {n : Nat} {d e : D}, d.Ok n → e.Ok n → PyData.eqv d.py e.py = eqD n d e := by
  intro n
  induction n with
  | zero =>
    intro d e hd he
    cases d <;> first | exact hd.elim | (cases e <;> first | exact he.elim | simp [D.py, PyData.eqv, eqD])
  | succ n ih =>
    intro d e hd he
    cases d with
    | dic => exact hd.elim
    | ins => exact hd.elim
    | ty => exact hd.elim
    | exc => exact hd.elim
    | lst xs => cases e with
      | lst ys =>
        simp only [D.py, PyData.eqv, eqD]
        exact eqvAll_eq xs ys fun x hx y hy => ih (hd x hx) (he y hy)
      | _ => first | exact he.elim | simp [D.py, PyData.eqv, eqD]
    | tup xs => cases e with
      | tup ys =>
        simp only [D.py, PyData.eqv, eqD]
        exact eqvAll_eq xs ys fun x hx y hy => ih (hd x hx) (he y hy)
      | _ => first | exact he.elim | simp [D.py, PyData.eqv, eqD]
    | _ => cases e <;> first | exact he.elim | simp [D.py, PyData.eqv, eqD]
theorem eqAll_refl {n : Nat} : ∀ (xs : List D), (∀ x ∈ xs, eqD n x x = true) → eqAll (eqD n) xs xs = true
  | [], _ => rfl
  | x :: xs, h => by
    simp only [eqAll, Bool.and_eq_true]
    exact ⟨h x (List.mem_cons_self ..), eqAll_refl xs fun y hy => h y (List.mem_cons_of_mem _ hy)⟩
theorem eqD_refl : ∀ {n : Nat} {d : D}, d.Ok n → eqD n d d = true := by
  intro n
  induction n with
  | zero => intro d h; cases d <;> first | exact h.elim | simp [eqD]
  | succ n ih =>
    intro d h
    cases d with
    | lst xs => simp only [eqD]; exact eqAll_refl xs fun x hx => ih (h x hx)
    | tup xs => simp only [eqD]; exact eqAll_refl xs fun x hx => ih (h x hx)
    | dic => exact h.elim
    | ins => exact h.elim
    | ty => exact h.elim
    | exc => exact h.elim
    | _ => simp [eqD]
def cEq (ne : Bool) : D → D → Bool → Prop := fun d e b => d.Ok 60 ∧ e.Ok 60 ∧ b = (if ne then !eqD 60 d e else eqD 60 d e)
section
variable {X : Cx} {K : PySem.W.Frag} {L : Lk} {a b e : Expr} {es : List Expr} {da db de : DE} {pos : Pos}
theorem cs_eq : CmpSem K (rEqD K) (cEq false) := fun H x y d1 d2 b Q h1 h2 hc q => by
  obtain ⟨o1, o2, rfl⟩ := hc
  exact ⟨d1.py, d2.py, h1.dp o1, h2.dp o2, Ok_shaped o1 (by decide), Ok_shaped o2 (by decide), by rw [eqv_eq o1 o2]; exact q⟩
theorem cs_ne : CmpSem K (rNeD K) (cEq true) := fun H x y d1 d2 b Q h1 h2 hc q => by
  obtain ⟨o1, o2, rfl⟩ := hc
  exact ⟨d1.py, d2.py, h1.dp o1, h2.dp o2, Ok_shaped o1 (by decide), Ok_shaped o2 (by decide), by rw [eqv_eq o1 o2]; exact q⟩
theorem de_eq (hu : X.A.units + 64 < cLine) (ha : PE X a (lift X.K L da)) (hb : PE X b (lift X.K L db)) : PE X (.Compare a [.Eq] [b] pos) (lift X.K L (dCmp (cEq false) da db)) := de_cmp (op_eqD hu) cs_eq ha hb (nomark _)
theorem de_ne (hu : X.A.units + 64 < cLine) (ha : PE X a (lift X.K L da)) (hb : PE X b (lift X.K L db)) : PE X (.Compare a [.NotEq] [b] pos) (lift X.K L (dCmp (cEq true) da db)) := de_cmp (op_neD hu) cs_ne ha hb (nomark _)
theorem dt_eq (hu : X.A.units + 64 < cLine) (ha : PE X a (lift X.K L da)) (hb : PE X b (lift X.K L db)) : PT X (.Compare a [.Eq] [b] pos) (liftT X.K L (dTst (dCmp (cEq false) da db))) := dt_cmp (op_eqD hu) cs_eq ha hb (nomark _)
theorem dt_ne (hu : X.A.units + 64 < cLine) (ha : PE X a (lift X.K L da)) (hb : PE X b (lift X.K L db)) : PT X (.Compare a [.NotEq] [b] pos) (liftT X.K L (dTst (dCmp (cEq true) da db))) := dt_cmp (op_neD hu) cs_ne ha hb (nomark _)
/-! ### items, slices -/
/-- t[lo:hi]: the made tuple is a plain one -/
def rSlF (K : PySem.W.Frag) : V → Option Int → Option Int → Hp → VK → Prop := fun x lo hi H Q => ∃ a xs, x = .ref a ∧ SqT K H a xs ∧
  (HT.sIx xs.length 0 lo = 0 ∧ HT.sIx xs.length xs.length hi = xs.length → Q (.ref a) H) ∧ (¬ (HT.sIx xs.length 0 lo = 0 ∧ HT.sIx xs.length xs.length hi = xs.length) → ∀ p its, H p = none → Q (.ref p) (upd H p (.frz (tupObj its) (.tup (cutV xs lo hi)))))
theorem sl_tupF : SlR X (rSlF X.K) := fun pins s σ H x v vl vu lo hi sl Q I rx hs pl pu h => by
  obtain ⟨a, xs, rfl, hx, q1, q2⟩ := h
  by_cases hw : HT.sIx xs.length 0 lo = 0 ∧ HT.sIx xs.length xs.length hi = xs.length
  · exact sl_tupA pins s σ H _ v vl vu lo hi sl Q I rx hs pl pu ⟨a, xs, rfl, hx, q1, fun z => absurd hw z⟩
  · cases rx
    obtain ⟨ws, rel, tt, l⟩ := I.tuple hx
    have sz : ws.toArray.size = xs.length := by rw [List.size_toArray, rel.length]
    refine ⟨"tuple", _, PyProof.Rows.slot_tuple_getitem.lookup, tt.typeIs, HT.getItem_tuple_cut tt hs pl pu (by rw [sz]; exact hw) ?_ (by rw [sz]; exact l)⟩
    rw [sz]
    exact ⟨.ref s.heap.objs.size, _, layTup I ((rel.drop (HT.sIx xs.length 0 lo)).take (HT.sIx xs.length xs.length hi - HT.sIx xs.length 0 lo)) (Nat.le_trans (cutV_length xs lo hi) l) s.toks, rfl, q2 hw _ _ (I.hok.fresh (Nat.le_refl _))⟩
def ixD : D → Int → D → Prop
  | .lst xs, i, d => atI xs i = some d
  | .tup xs, i, d => atI xs i = some d
  | .str z, i, d => z.length ≤ sizeLine ∧ ∃ c, atI z.cps.toList i = some c ∧ d = .str ⟨#[c]⟩
  | _, _, _ => False
def dIx (da db : DE) : DE := fun δ P => da δ fun r1 δ1 => db δ1 fun r2 δ2 => ∃ d i d', peek r1 δ2 = some d ∧ peek r2 δ2 = some (.int i) ∧ ixD d i d' ∧ P (.val d') δ2
theorem all2_at {F : V → D → Prop} {vs : List V} {ds : List D} {i : Int} {d : D} (h : All2 F vs ds) (e : atI ds i = some d) : ∃ v, atI vs i = some v ∧ F v d := by
  unfold atI at e ⊢
  rw [h.1]
  cases q : ixN ds.length i with
  | none => rw [q] at e; cases e
  | some j =>
    rw [q] at e
    have e : ds[j]? = some d := e
    obtain ⟨v, hv, f⟩ := h.get e
    exact ⟨v, hv, f⟩
theorem de_ix (ha : PE X a (lift X.K L da)) (hb : PE X b (lift X.K L db)) (hs : PlainIx b := by exact fun _ _ => rfl) : PE X (.Subscript a b pos) (lift X.K L (dIx da db)) :=
  PE.weak (pe_ix ix_seq ha hb hs) <| lift_of fun C σ H G W δ P Q I lk h k => lift_two I lk h fun r1 r2 δ2 x y H2 G2 W2 h2 x2 I2 o1 o2 => by
    obtain ⟨d, i, d', e1, e2, hx, hp⟩ := h2
    rw [← peek_pub] at e1 e2
    have s1 := I2.peekOk o1 e1
    have ey := ((I2.peekOk o2 e2).den I2.gh).of_int
    subst ey
    cases d with
    | lst xs =>
      obtain ⟨p, vs, rfl, hl, dn⟩ := s1.lst I2.gh
      obtain ⟨v, hv, dv⟩ := all2_at dn hx
      exact .inl ⟨p, vs, i, v, rfl, rfl, .of hl, hv, k _ δ2 v H2 G2 W2 hp x2 I2 dv⟩
    | tup xs =>
      obtain ⟨p, vs, rfl, hl, dn⟩ := s1.tup I2.gh
      obtain ⟨v, hv, dv⟩ := all2_at dn hx
      exact .inr (.inl ⟨p, vs, i, v, rfl, rfl, hl, hv, k _ δ2 v H2 G2 W2 hp x2 I2 dv⟩)
    | str z =>
      obtain ⟨hz, c, hc, rfl⟩ := hx
      exact .inr (.inr ⟨z, i, c, (s1.den I2.gh).of_str, rfl, hz, hc, k _ δ2 _ H2 G2 W2 hp x2 I2 (Den.str _)⟩)
    | _ => exact hx.elim
abbrev DO := List R → (Option Int → List R → Prop) → Prop
def liftO (K : PySem.W.Frag) (L : Lk) (d : DO) : TO := fun σ H Q => ∃ (C : Ct) (G : Hp) (W : Ow) (δ : List R) (P : Option Int → List R → Prop), SI K C σ H G W δ ∧ Lnk K L C G ∧ d δ P ∧
  ∀ o δ' H' G' W', P o δ' → Ex G G' → SI K C σ H' G' W' δ' → Q o H'
def doNone : DO := fun δ P => P none δ
def doSome (de : DE) : DO := fun δ P => de δ fun r δ1 => ∃ i, peek r δ1 = some (.int i) ∧ P (some i) δ1
theorem PO.weak {o : Option Expr} {t t' : TO} (h : PO X o t) (w : ∀ σ H Q, t' σ H Q → t σ H Q) : PO X o t' := ⟨fun pins s σ H Q I q => h.run pins s σ H Q I (w σ H Q q)⟩
theorem do_none : PO X none (liftO X.K L doNone) := PO.weak po_none fun σ H Q ⟨C, G, W, δ, P, I, lk, hd, k⟩ => k none δ H G W hd (Ex.refl G) I
theorem do_some (h : PE X e (lift X.K L de)) : PO X (some e) (liftO X.K L (doSome de)) := PO.weak (po_some h) fun σ H Q ⟨C, G, W, δ, P, I, lk, hd, k⟩ => ⟨C, G, W, δ, _, I, lk, hd, fun r δ1 v H1 G1 W1 h1 x1 I1 o1 => by
  obtain ⟨i, e, hp⟩ := h1
  exact ⟨i, ((I1.peekOk o1 e).den I1.gh).of_int, k _ δ1 H1 G1 W1 hp x1 I1⟩⟩
def cut {α : Type} (xs : List α) (lo hi : Option Int) : List α := (xs.drop (HT.sIx xs.length 0 lo)).take (HT.sIx xs.length xs.length hi - HT.sIx xs.length 0 lo)
theorem all2_cut {F : V → D → Prop} {vs : List V} {ds : List D} (h : All2 F vs ds) (lo hi : Option Int) : All2 F (cutV vs lo hi) (cut ds lo hi) := by
  unfold cutV cut
  rw [h.1]
  refine ⟨by simp [h.1], fun i x y hx hy => ?_⟩
  rw [List.getElem?_take] at hx hy
  split at hx
  · rename_i hi
    rw [if_pos hi] at hy
    rw [List.getElem?_drop] at hx hy
    exact h.2 _ x y hx hy
  · cases hx
def slD : D → Option Int → Option Int → R → Prop
  | .lst xs, lo, hi, r => r = .own (.lst (cut xs lo hi))
  | .tup xs, lo, hi, r => r = .val (.tup (cut xs lo hi))
  | .str z, lo, hi, r => z.length ≤ sizeLine ∧ r = .val (.str (cutS z lo hi))
  | _, _, _, _ => False
def dSl (da : DE) (dl dh : DO) : DE := fun δ P => da δ fun r1 δ1 => dl δ1 fun lo δ2 => dh δ2 fun hi δ3 => ∃ d r, peek r1 δ3 = some d ∧ slD d lo hi r ∧ P r δ3
theorem cut_whole {α : Type} {xs : List α} {lo hi : Option Int} (h1 : HT.sIx xs.length 0 lo = 0) (h2 : HT.sIx xs.length xs.length hi = xs.length) : cut xs lo hi = xs := by
  unfold cut
  rw [h1, h2]
  simp
theorem de_sl {lo hi : Option Expr} {p2 : Pos} {dl dh : DO} (ha : PE X a (lift X.K L da)) (hl : PO X lo (liftO X.K L dl)) (hh : PO X hi (liftO X.K L dh)) : PE X (.Subscript a (.Slice lo hi none p2) pos) (lift X.K L (dSl da dl dh)) :=
  PE.weak (pe_slice (SlR.or sl_list (SlR.or sl_tupF sl_str)) ha hl hh) <| lift_of fun C σ H G W δ P Q I lk h k => ⟨C, G, W, δ, _, I, lk, h, fun r1 δ1 x H1 G1 W1 h1 x1 I1 o1 => by
    obtain ⟨G1', x1', I1', o1'⟩ := I1.pub o1
    refine ⟨C, G1', W1, δ1, _, I1', lk.mono (x1.trans x1'), h1, fun l δ2 H2 G2 W2 h2 x2 I2 => ?_⟩
    refine ⟨C, G2, W2, δ2, _, I2, lk.mono ((x1.trans x1').trans x2), h2, fun u δ3 H3 G3 W3 h3 x3 I3 => ?_⟩
    obtain ⟨d, r, e, hs, hp⟩ := h3
    rw [← peek_pub] at e
    have sn := I3.peekOk (ROk.keep o1' (x2.trans x3)) e
    have xx : Ex G G3 := ((x1.trans x1').trans x2).trans x3
    cases d with
    | lst xs =>
      have hs : r = .own (.lst (cut xs l u)) := hs
      subst hs
      obtain ⟨p, vs, rfl, hq, dn⟩ := sn.lst I3.gh
      refine .inl ⟨p, vs, rfl, .of hq, fun t ht => ?_⟩
      obtain ⟨I', o⟩ := I3.newLst ht (all2_cut dn l u)
      exact k _ _ _ _ _ _ hp xx I' o
    | tup xs =>
      have hs : r = .val (.tup (cut xs l u)) := hs
      subst hs
      obtain ⟨p, vs, rfl, hq, dn⟩ := sn.tup I3.gh
      refine .inr (.inl ⟨p, vs, rfl, hq, fun hw => ?_, fun hw t its ht => ?_⟩)
      · refine k _ δ3 _ H3 G3 W3 hp xx I3 ?_
        rw [dn.1] at hw
        rw [cut_whole hw.1 hw.2]
        rcases sn with sn | ⟨q, _, z⟩
        · exact sn
        · exact z.elim
      · obtain ⟨I', o⟩ := I3.newTup (its := its) ht (all2_cut dn l u)
        exact k _ _ _ _ _ _ hp (xx.trans (Ex.new (I3.fresh ht).1)) I' o
    | str z =>
      obtain ⟨hz, rfl⟩ := hs
      exact .inr (.inr ⟨z, (sn.den I3.gh).of_str, hz, k _ δ3 _ H3 G3 W3 hp xx I3 (Den.str _)⟩)
    | _ => exact hs.elim⟩
/-! ### calls of built-ins that look -/
def CallLook (K : PySem.W.Frag) (r : List V → Hp → VK → Prop) (g : List D → (R → Prop) → Prop) : Prop := ∀ (C : Ct) (σ : St) (H G : Hp) (W : Ow) (δ : List R) (vs : List V) (ds : List D) (P : R → Prop) (Q : VK), SI K C σ H G W δ → All2 (Seen K G H) vs ds → g ds P →
  (∀ r v H' G' W', P r → Ex G G' → SI K C σ H' G' W' δ → ROk K C σ H' G' W' none v r → Q v H') → r vs H Q
def dCB (g : List D → (R → Prop) → Prop) (da : DA) : DE := fun δ P => da δ fun rs δ1 => ∃ ds, peekAll rs δ1 = some ds ∧ g ds fun r => P r δ1
theorem lift_cb {r : List V → Hp → VK → Prop} {g : List D → (R → Prop) → Prop} {da : DA} (hs : CallLook K r g) : ∀ σ H Q, lift K L (dCB g da) σ H Q → tCB r (liftA K L da) σ H Q :=
  lift_of fun C σ H G W δ P Q I lk h k => ⟨C, G, W, δ, _, I, lk, h, fun rs δ1 vs H1 G1 W1 h1 x1 I1 o1 => by
    obtain ⟨ds, e, hg⟩ := h1
    exact hs C σ H1 G1 W1 δ1 vs ds _ Q I1 (I1.peekAllOk o1 e) hg fun r v H' G' W' hp x' I' o' => k r δ1 v H' G' W' hp (x1.trans x') I' o'⟩
variable {x : Str} {p : Pos} {id T : String} {r : List V → Hp → VK → Prop} {g : List D → (R → Prop) → Prop} {da : DA}
theorem de_cb (hc : CallR X (.builtin id) r) (hs : CallLook X.K r g) (hg : Gl X x) (hm : X.mg x = none) (hv : bootBuiltins x = some (.builtin id)) (ha : PA X (e :: es) (liftA X.K L da)) (hn : x ≠ "__name__" := by decide) (hdb : (x == ("__debug__" : Str)) = false := by decide)
    (he : starEach (e :: es) X.env = (false, eval e X.env) :: starEach es X.env := by rfl) (hpl : (backTo pos (starEach es X.env)).any (·.1) = false := by rfl) : PE X (.Call (.Name x p) (e :: es) [] pos) (lift X.K L (dCB g da)) := PE.weak (pe_callB hc hg hm hv ha hn hdb he hpl) (lift_cb hs)
theorem de_ct (hc : CallR X (.type T) r) (hs : CallLook X.K r g) (hg : Gl X x) (hm : X.mg x = none) (hv : bootBuiltins x = some (.type T)) (ha : PA X (e :: es) (liftA X.K L da)) (hn : x ≠ "__name__" := by decide) (hdb : (x == ("__debug__" : Str)) = false := by decide)
    (he : starEach (e :: es) X.env = (false, eval e X.env) :: starEach es X.env := by rfl) (hpl : (backTo pos (starEach es X.env)).any (·.1) = false := by rfl) : PE X (.Call (.Name x p) (e :: es) [] pos) (lift X.K L (dCB g da)) := PE.weak (pe_callTy hc hg hm hv ha hn hdb he hpl) (lift_cb hs)
def bLen : List D → (R → Prop) → Prop
  | [.lst xs], P => P (.val (.int xs.length))
  | [.tup xs], P => P (.val (.int xs.length))
  | [.str z], P => z.length ≤ sizeLine ∧ P (.val (.int z.length))
  | _, _ => False
theorem one_of {F : V → D → Prop} {vs : List V} {d : D} (h : All2 F vs [d]) : ∃ v, vs = [v] ∧ F v d := by
  obtain ⟨v, r, rfl, f, t⟩ := h.cons_right
  rw [t.nil_right]
  exact ⟨v, rfl, f⟩
theorem two_of {F : V → D → Prop} {vs : List V} {d e : D} (h : All2 F vs [d, e]) : ∃ v u, vs = [v, u] ∧ F v d ∧ F u e := by
  obtain ⟨v, r, rfl, f, t⟩ := h.cons_right
  obtain ⟨u, rfl, f'⟩ := one_of t
  exact ⟨v, u, rfl, f, f'⟩
theorem cl_len : CallLook K (fun xs H Q => ∃ x n, xs = [x] ∧ LenV K x H n ∧ Q (.int n) H) bLen := fun C σ H G W δ vs ds P Q I a hg k => by
  match ds, hg with
  | [.lst xs], hg =>
    obtain ⟨v, rfl, s⟩ := one_of a
    obtain ⟨p, us, rfl, hl, dn⟩ := s.lst I.gh
    exact ⟨_, us.length, rfl, .inl ⟨us, .of hl, rfl⟩, by rw [dn.1]; exact k _ _ H G W hg (Ex.refl G) I (Den.int _)⟩
  | [.tup xs], hg =>
    obtain ⟨v, rfl, s⟩ := one_of a
    obtain ⟨p, us, rfl, hl, dn⟩ := s.tup I.gh
    exact ⟨_, us.length, rfl, .inr ⟨us, hl, rfl⟩, by rw [dn.1]; exact k _ _ H G W hg (Ex.refl G) I (Den.int _)⟩
  | [.str z], hg =>
    obtain ⟨v, rfl, s⟩ := one_of a
    have := (s.den I.gh).of_str
    subst this
    exact ⟨_, z.length, rfl, ⟨hg.1, rfl⟩, k _ _ H G W hg.2 (Ex.refl G) I (Den.int _)⟩
def bInt : List D → (R → Prop) → Prop
  | [.int i], P => P (.val (.int i))
  | [.bl k], P => P (.val (.int (if k then 1 else 0)))
  | _, _ => False
theorem cl_int : CallLook K (fun xs H Q => (∃ i, xs = [.int i] ∧ Q (.int i) H) ∨ ∃ k, xs = [.bl k] ∧ Q (.int (if k then 1 else 0)) H) bInt := fun C σ H G W δ vs ds P Q I a hg k => by
  match ds, hg with
  | [.int i], hg =>
    obtain ⟨v, rfl, s⟩ := one_of a
    have := (s.den I.gh).of_int
    subst this
    exact .inl ⟨i, rfl, k _ _ H G W hg (Ex.refl G) I (Den.int _)⟩
  | [.bl b], hg =>
    obtain ⟨v, rfl, s⟩ := one_of a
    have := (s.den I.gh).of_bl
    subst this
    exact .inr ⟨b, rfl, k _ _ H G W hg (Ex.refl G) I (Den.int _)⟩
def bAbs : List D → (R → Prop) → Prop
  | [.int i], P => P (.val (.int (if i < 0 then -i else i)))
  | _, _ => False
theorem cl_abs : CallLook K (fun xs H Q => ∃ i, xs = [.int i] ∧ Q (.int (if i < 0 then -i else i)) H) bAbs := fun C σ H G W δ vs ds P Q I a hg k => by
  match ds, hg with
  | [.int i], hg =>
    obtain ⟨v, rfl, s⟩ := one_of a
    have := (s.den I.gh).of_int
    subst this
    exact ⟨i, rfl, k _ _ H G W hg (Ex.refl G) I (Den.int _)⟩
def bMax2 : List D → (R → Prop) → Prop
  | [.int i, .int j], P => P (.val (.int (if j > i then j else i)))
  | _, _ => False
def bMin2 : List D → (R → Prop) → Prop
  | [.int i, .int j], P => P (.val (.int (if j < i then j else i)))
  | _, _ => False
theorem cl_max2 : CallLook K (fun xs H Q => ∃ i j, xs = [.int i, .int j] ∧ Q (.int (if j > i then j else i)) H) bMax2 := fun C σ H G W δ vs ds P Q I a hg k => by
  match ds, hg with
  | [.int i, .int j], hg =>
    obtain ⟨v, u, rfl, s, t⟩ := two_of a
    have := (s.den I.gh).of_int
    subst this
    have := (t.den I.gh).of_int
    subst this
    exact ⟨i, j, rfl, k _ _ H G W hg (Ex.refl G) I (Den.int _)⟩
theorem cl_min2 : CallLook K (fun xs H Q => ∃ i j, xs = [.int i, .int j] ∧ Q (.int (if j < i then j else i)) H) bMin2 := fun C σ H G W δ vs ds P Q I a hg k => by
  match ds, hg with
  | [.int i, .int j], hg =>
    obtain ⟨v, u, rfl, s, t⟩ := two_of a
    have := (s.den I.gh).of_int
    subst this
    have := (t.den I.gh).of_int
    subst this
    exact ⟨i, j, rfl, k _ _ H G W hg (Ex.refl G) I (Den.int _)⟩
def bList : List D → (R → Prop) → Prop
  | [.lst xs], P => P (.own (.lst xs))
  | [.tup xs], P => P (.own (.lst xs))
  | _, _ => False
theorem cl_list : CallLook K (fun xs H Q => ∃ p ys, xs = [.ref p] ∧ (SqL K H p ys ∨ SqT K H p ys) ∧ ∀ l, H l = none → Q (.ref l) (upd H l (.lst ys))) bList := fun C σ H G W δ vs ds P Q I a hg k => by
  match ds, hg with
  | [.lst xs], hg =>
    obtain ⟨v, rfl, s⟩ := one_of a
    obtain ⟨p, us, rfl, hl, dn⟩ := s.lst I.gh
    refine ⟨p, us, rfl, .inl (.of hl), fun t ht => ?_⟩
    obtain ⟨I', o⟩ := I.newLst ht dn
    exact k _ _ _ _ _ hg (Ex.refl G) I' o
  | [.tup xs], hg =>
    obtain ⟨v, rfl, s⟩ := one_of a
    obtain ⟨p, us, rfl, hl, dn⟩ := s.tup I.gh
    refine ⟨p, us, rfl, .inr hl, fun t ht => ?_⟩
    obtain ⟨I', o⟩ := I.newLst ht dn
    exact k _ _ _ _ _ hg (Ex.refl G) I' o
def bTuple : List D → (R → Prop) → Prop
  | [.lst xs], P => P (.val (.tup xs))
  | [.tup xs], P => P (.val (.tup xs))
  | _, _ => False
def rTupOf (K : PySem.W.Frag) : List V → Hp → VK → Prop := fun xs H Q => ∃ p ys, xs = [.ref p] ∧ ((SqL K H p ys ∧ ∀ l its, H l = none → Q (.ref l) (upd H l (.frz (tupObj its) (.tup ys)))) ∨ (SqT K H p ys ∧ Q (.ref p) H))
theorem call_tupF : CallR X (.type "tuple") (rTupOf X.K) := fun pins s σ H xs us Q I r h => by
  obtain ⟨p, ys, rfl, h⟩ := h
  rcases h with ⟨hl, q⟩ | ⟨ht, q⟩
  · obtain ⟨u, rfl, rx⟩ := vals1 r
    cases rx
    obtain ⟨ws, rel, pl, l⟩ := I.list hl
    have sz := rel.length
    refine call_tuple_list pl.isList (fun h' kp => ?_) (by rw [List.size_toArray]; omega)
    have J : Inv X pins σ H { s with heap := h' } := I.kept kp
    exact ⟨.ref h'.objs.size, _, layTup J rel l s.toks, rfl, q _ _ (J.hok.fresh (Nat.le_refl _))⟩
  · exact call_tuple_of pins s σ H _ us Q I r ⟨p, ys, rfl, .inr ⟨ht, q⟩⟩
theorem cl_tuple : CallLook K (rTupOf K) bTuple := fun C σ H G W δ vs ds P Q I a hg k => by
  match ds, hg with
  | [.lst xs], hg =>
    obtain ⟨v, rfl, s⟩ := one_of a
    obtain ⟨p, us, rfl, hl, dn⟩ := s.lst I.gh
    refine ⟨p, us, rfl, .inl ⟨.of hl, fun t its ht => ?_⟩⟩
    obtain ⟨I', o⟩ := I.newTup (its := its) ht dn
    exact k _ _ _ _ _ hg (Ex.new (I.fresh ht).1) I' o
  | [.tup xs], hg =>
    obtain ⟨v, rfl, s⟩ := one_of a
    obtain ⟨p, us, rfl, hl, dn⟩ := s.tup I.gh
    refine ⟨p, us, rfl, .inr ⟨hl, ?_⟩⟩
    rcases s with s | ⟨q, _, z⟩
    · exact k _ _ H G W hg (Ex.refl G) I s
    · exact z.elim
end
end DL

namespace DL
open PySem PySem.Spec L2

/-! ### defs that show data: no guard of a repr stands around -/
abbrev Quiet (A : Around) : Prop := A.guards = some []
structure FnG (P : Program) (w : World) (K : PySem.W.Frag) (mg : Str → Option Value) (base : Heap) (CX : CXT) (k : Nat) (f : Addr) (fd : FuncData) (ps : List Str) (sp : Sp) : Prop where
  len : ∀ vs H Q E, sp vs H Q E → vs.length = ps.length
  run : ∀ (A : Around) (outer : List Env) (s : Shared) (H : Hp) (args : Args) (us : List Value) (vs : List V) (Q : VK) (E : XK), Quiet A → Room k A → Env0 P w K mg base A outer s H → BindsTo s fd args (ps.zip us) →
    Vals vs us → sp vs H Q E → codeAny (model P w) A (.call (.ref f) args) (CR CX outer P w H s Q E) s
section
variable {P : Program} {w : World} {K : PySem.W.Frag} {mg : Str → Option Value} {base : Heap} {CX : CXT} {k : Nat} {f : Addr} {fd : FuncData} {ps : List Str} {sp : Sp}
theorem FnG.of (F : FnOk P w K mg base CX k f fd ps sp) : FnG P w K mg base CX k f fd ps sp := ⟨F.len, fun A o s H args us vs Q E _ hr => F.run A o s H args us vs Q E hr⟩
theorem quiet_deeper {A : Around} (h : Quiet A) (env : Env) : Quiet (A.deeper env) := h
/-- a def by its body, no guard around -/
theorem fn_quiet {name qual : Str} {params : Arguments} {body : List Stmt} {scope : Scope} {dV kV doc pm cdv ct oc : Value} {an od : Option Addr} {osl : Array (Option Value)} {N : List Str}
    (hlk : K.lookup f = some ⟨oc, od, .func (PySem.W.fnOf name qual params body scope dV kV doc pm an cdv ct), osl⟩) (hcd : PySem.W.codeIn K cdv qual = true) (Sc : FnScope N ps scope) (len : ∀ vs H Q E, sp vs H Q E → vs.length = ps.length)
    (bd : ∀ (A : Around) (outer : List Env) (s : Shared) (H : Hp) (vs : List V) (Q : VK) (E : XK), Quiet A → Room k (A.deeper (PyProof.Rows.envOfC qual scope s.heap.objs.size f cdv)) → sp vs H Q E →
      ∃ t, PSs (cxOf CX P w K mg base N qual scope f cdv A outer s H E) body t ∧ t { nx := fun _ H' => Q .non H', rt := Q } (start N vs) H) :
    FnG P w K mg base CX (k + 1) f (PySem.W.fnOf name qual params body scope dV kV doc pm an cdv ct) ps sp := by
  refine ⟨len, fun A outer s H args us vs Q E hgu hr e0 hb hv hsp => ?_⟩
  have kin : K.In s.heap := e0.mod.kin.keeps fun x y z => (e0.bs x y z).1
  have names : ∀ y ∈ ps.zip us, scope.names.lookup y.1 = some .local ∨ (scope.names.lookup y.1 = some .cell ∧ ((cellsFrom (s.heap.objs.size + 1) scope.names []).lookup y.1).isSome = true) := by
    rintro ⟨n, v⟩ hy
    exact (Sc.par n (List.of_mem_zip hy).1).imp id fun q => ⟨q, PySem.W.cellsFrom_some _ _ _ (.inl q)⟩
  apply codeAny_call_function hr.depth (kin _ _ hlk) rfl Sc.co Sc.gen rfl (PySem.W.codeRec_of kin hcd)
  apply hb
  apply wpAny_newFunctionEnv_cells Sc.kind names
  intro env henv s1 inn
  subst henv
  refine ⟨(e0.mod.nolimit.keeps fun x y z => (e0.bs x y z).1).keeps inn.toInCall.keep, codeAny_func ?_⟩
  obtain ⟨t, pt, ht⟩ := bd A outer s H vs Q E hgu (hr.deeper _) hsp
  refine wpAny_mono (pt.run [] s1 (start N vs) H _ (inv_start Sc hr.hd e0 (len _ _ _ _ hsp) hv inn) ht) (fun fl s' hs => ?_) fun _ _ z => z
  cases fl with
  | ret u => obtain ⟨v, σ', H', J, rv, q⟩ := hs; exact ⟨v, H', J.os, J.bare, J.base, J.hok, rv, q⟩
  | next => obtain ⟨σ', H', J, q⟩ := hs; exact ⟨V.non, H', J.os, J.bare, J.base, J.hok, rfl, q⟩
  | brk => obtain ⟨_, _, _, q⟩ := hs; exact q.elim
  | cont => obtain ⟨_, _, _, q⟩ := hs; exact q.elim
theorem fn_dg {x qual : Str} {sm : Stmt} {N : List Str} {S : DSp} (F : Fun K x qual sm f fd) (Sc : FnScope N ps (defScope sm)) (hl : ∀ rs P Xc, S rs P Xc → rs.length = ps.length) (hN : ps.length ≤ N.length)
    (hbody : ∀ (cdv : Value) (A : Around) (outer : List Env) (s : Shared) (H : Hp) (E : XK), Quiet A → Room k (A.deeper (PyProof.Rows.envOfC qual (defScope sm) s.heap.objs.size f cdv)) →
      ∃ ds, PSs (cxOf CX0 P w K mg base N qual (defScope sm) f cdv A outer s H E).nox (defBody sm) (liftS K L0 ds) ∧ ∀ rs P Xc, S rs P Xc → ds { nx := fun _ => P (.val .non), rt := fun r _ => P r } (startD N rs)) : FnG P w K mg base CX0 (k + 1) f fd ps (spOf K S) := by
  obtain ⟨oc, od, kV, doc, pm, an, cdv, ct, osl, rfl, lk, hcd⟩ := F.ex
  refine fn_quiet lk hcd Sc (fun vs H Q E h => ?_) (fun A outer s H vs Q E hq hr h => ?_)
  · obtain ⟨bo, G, rs, P, Xc, _, _, ha, hs, _⟩ := h
    rw [ha.1]; exact hl rs P Xc hs
  · obtain ⟨bo, G, rs, P, Xc, hg, hb, ha, hs, hq', hx⟩ := h
    obtain ⟨ds, hd, hk⟩ := hbody cdv A outer s H E hq hr
    refine ⟨_, hd.nox, ⟨bo, H, G, fun _ => none⟩, G, fun _ => none, startD N rs, _, SI.start (by rw [ha.1, hl rs P Xc hs]; exact hN) hg hb ha, Lnk.zero, hk rs P Xc hs, ?_⟩
    refine ⟨fun σ' H' G' W' δ' x I hp => ?_, fun v σ' H' G' W' δ' r x I o fi hp => ?_, fun _ _ _ _ _ _ _ hp => hp, fun _ _ _ _ _ _ _ hp => hp⟩
    · exact hq' _ _ G' H' hp (I.fin I.b0) Den.non
    · exact hq' _ v G' H' hp (I.fin I.b0) (ROk.fin o fi)
end
section
variable {X : Cx} {L : Lk} {CX : CXT} {k : Nat} {f : Addr} {fd : FuncData} {ps : List Str} {sp : Sp} {S : DSp} {x : Str} {p pos : Pos} {e : Expr} {es : List Expr} {da : DA} {t : TA} {E : XK}
theorem run_quiet {pins : List (Addr × Obj)} {σ : St} {H : Hp} {s : Shared} {Q : VK} {us : List Value} {vs : List V} (F : FnG X.prog X.w X.K X.mg X.base CX k f fd ps sp) (hq : Quiet X.A) (hr : Room k X.A) (hb : Binds X.K fd ps []) (hx : Passes CX X E)
    (I : Inv X pins σ H s) (r : Vals vs us) (h : sp vs H Q E) : wpAny (model X.prog X.w) X.A (call (.ref f) us) (EP X pins σ Q) X.xe s := by
  have hl : (us ++ []).length = ps.length := by rw [List.append_nil, ← r.length]; exact F.len _ _ _ _ h
  have bb := hb s us I.kIn hl
  rw [List.append_nil] at bb
  apply wpAny_call
  apply codeAny_mono (F.run X.A X.stack s H ⟨us, []⟩ us vs Q E hq hr I.env0 bb r h)
  rintro (e | (u | _ | _ | _)) s' hz
  all_goals first | exact hx pins σ H s _ s' I hz | exact I.after hz | exact hz.elim
theorem pe_quiet (F : FnG X.prog X.w X.K X.mg X.base CX k f fd ps sp) (hq : Quiet X.A) (hr : Room k X.A) (hg : Gl X x) (hm : X.mg x = some (.ref f)) (hk : PySem.W.keepIn X.K (.ref f) = true) (hb : Binds X.K fd ps []) (hx : Passes CX X E)
    (ha : PA X (e :: es) t) (hdb : (x == ("__debug__" : Str)) = false := by decide) (he : starEach (e :: es) X.env = (false, eval e X.env) :: starEach es X.env := by rfl) (hpl : (backTo pos (starEach es X.env)).any (·.1) = false := by rfl) :
    PE X (.Call (.Name x p) (e :: es) [] pos) (fun σ H Q => t σ H fun vs H1 => sp vs H1 Q E) :=
  ⟨fun pins s σ H Q I h => wpAny_Call_Name_kw (ld_glob I hg hm (PySem.W.callWith_K (h₀ := X.base) I.ok.mod.kin hk (thn (ha.run pos pins s σ H _ I h) fun us s1 z => by
    obtain ⟨vs, H1, I1, rv, q⟩ := z
    exact ⟨I1.kIn, run_quiet F hq hr hb hx I1 rv q⟩) he hpl) hdb)⟩
theorem de_callG (F : FnG X.prog X.w X.K X.mg X.base CX0 k f fd ps (spOf X.K S)) (hq : Quiet X.A) (hr : Room k X.A) (hg : Gl X x) (hm : X.mg x = some (.ref f)) (hk : PySem.W.keepIn X.K (.ref f) = true) (hb : Binds X.K fd ps [])
    (ha : PA X (e :: es) (liftA X.K L da)) (hdb : (x == ("__debug__" : Str)) = false := by decide) (he : starEach (e :: es) X.env = (false, eval e X.env) :: starEach es X.env := by rfl) (hpl : (backTo pos (starEach es X.env)).any (·.1) = false := by rfl) :
    PE X (.Call (.Name x p) (e :: es) [] pos) (lift X.K L (dCall S da)) := PE.weak (pe_quiet F hq hr hg hm hk hb pass0 ha hdb he hpl) fun σ H Q h => by
      have z := lift_call σ H Q h
      obtain ⟨C, G, W, δ, P, I, lk, hd, kk⟩ := z
      refine ⟨C, G, W, δ, P, I, lk, hd, fun rs δ' vs H' G' W' h1 h2 h3 h4 => ?_⟩
      have z : spOf X.K S (vs ++ []) H' Q E0 := kk rs δ' vs H' G' W' h1 h2 h3 h4
      rwa [List.append_nil] at z
/-! ### repr -/
/-- what can be shown: n deep, w signs -/
def D.Fits : Nat → Nat → D → Prop
  | _, w, .non => 4 ≤ w
  | _, w, .bl _ => 5 ≤ w
  | _, w, .int i => i.natAbs < 2 ^ 1900 ∧ i.natAbs < 10 ^ (w - 1) ∧ 2 ≤ w
  | _, w, .str x => PyData.strOk x = true ∧ 10 * x.length + 2 ≤ w
  | n + 1, w, .lst xs => ∃ k m, xs.length ≤ k ∧ (∀ d ∈ xs, D.Fits n m d) ∧ 4 + k * (m + 2) ≤ w
  | n + 1, w, .tup xs => ∃ k m, xs.length ≤ k ∧ (∀ d ∈ xs, D.Fits n m d) ∧ 4 + k * (m + 2) ≤ w
  | _, _, _ => False
theorem Fits.ok : ∀ {n w : Nat} {d : D}, d.Fits n w → d.Ok n
  | n, w, .non, _ => by unfold D.Ok; trivial
  | n, w, .bl b, _ => by unfold D.Ok; trivial
  | n, w, .int i, _ => by unfold D.Ok; trivial
  | n, w, .str x, h => by unfold D.Fits at h; unfold D.Ok; exact h.1
  | 0, w, .lst xs, h => h.elim
  | 0, w, .tup xs, h => h.elim
  | n + 1, w, .lst xs, h => by
    obtain ⟨k, m, _, h2, _⟩ := h
    exact fun d hd => Fits.ok (h2 d hd)
  | n + 1, w, .tup xs, h => by
    obtain ⟨k, m, _, h2, _⟩ := h
    exact fun d hd => Fits.ok (h2 d hd)
  | 0, w, .dic _, h => h.elim
  | 0, w, .ins _ _, h => h.elim
  | 0, w, .ty _, h => h.elim
  | 0, w, .exc _ _ _, h => h.elim
  | n + 1, w, .dic _, h => h.elim
  | n + 1, w, .ins _ _, h => h.elim
  | n + 1, w, .ty _, h => h.elim
  | n + 1, w, .exc _ _ _, h => h.elim
theorem shownAll_map : ∀ ds : List PyData, PyData.shownAll ds = ds.map PyData.shown
  | [] => by simp only [PyData.shownAll, List.map_nil]
  | d :: ds => by simp only [PyData.shownAll, List.map_cons, shownAll_map ds]
theorem showableAll_of : ∀ ds : List PyData, (∀ d ∈ ds, d.showable = true) → PyData.showableAll ds = true
  | [], _ => by simp only [PyData.showableAll]
  | d :: ds, h => by
    simp only [PyData.showableAll, Bool.and_eq_true]
    exact ⟨h d (List.mem_cons_self ..), showableAll_of ds fun e he => h e (List.mem_cons_of_mem _ he)⟩
theorem sum_le {m : Nat} : ∀ (l : List Nat), (∀ x ∈ l, x ≤ m) → l.sum ≤ l.length * m
  | [], _ => by simp
  | x :: l, h => by
    have h1 := h x (List.mem_cons_self ..)
    have h2 := sum_le l fun y hy => h y (List.mem_cons_of_mem _ hy)
    rw [List.sum_cons, List.length_cons, Nat.succ_mul]
    omega
theorem fits_sum {m k w : Nat} {xs : List D} (hk : xs.length ≤ k) (h : ∀ d ∈ xs, d.py.shown.length ≤ m) (hw : 4 + k * (m + 2) ≤ w) : ((PyData.shownAll (D.pys xs)).map (·.length)).sum + 2 * (PyData.shownAll (D.pys xs)).length + 3 ≤ w := by
  rw [shownAll_map, pys_map]
  have a := sum_le (m := m) (((xs.map D.py).map PyData.shown).map (·.length)) fun x hx => by
    simp only [List.mem_map] at hx
    obtain ⟨y, ⟨z, ⟨d, hd, rfl⟩, rfl⟩, rfl⟩ := hx
    exact h d hd
  simp only [List.length_map] at a ⊢
  have b : xs.length * m ≤ k * m := Nat.mul_le_mul_right m hk
  rw [Nat.mul_add] at hw
  omega
theorem Fits.shown : ∀ {n w : Nat} {d : D}, d.Fits n w → d.py.showable = true ∧ d.py.shown.length ≤ w
  | n, w, .non, h => by
    have h : 4 ≤ w := by unfold D.Fits at h; exact h
    simp only [D.py, PyData.showable, PyData.shown]; exact ⟨trivial, h⟩
  | n, w, .bl b, h => by
    have h : 5 ≤ w := by unfold D.Fits at h; exact h
    simp only [D.py, PyData.showable, PyData.shown]
    refine ⟨trivial, ?_⟩
    cases b
    · exact (show (Str.ofString "False").length ≤ w from Nat.le_trans (by decide +kernel : (Str.ofString "False").length ≤ 5) ‹5 ≤ w›)
    · exact (show (Str.ofString "True").length ≤ w from Nat.le_trans (by decide +kernel : (Str.ofString "True").length ≤ 5) ‹5 ≤ w›)
  | n, w, .int i, h => by
    obtain ⟨h1, h2, h3⟩ : i.natAbs < 2 ^ 1900 ∧ i.natAbs < 10 ^ (w - 1) ∧ 2 ≤ w := by unfold D.Fits at h; exact h
    simp only [D.py, PyData.showable, PyData.shown]
    refine ⟨decide_eq_true ?_, ?_⟩
    · by_cases hz : i.natAbs = 0
      · rw [hz]; decide
      · have := (Nat.log2_lt hz).mpr h1
        omega
    · have := int_text_length_le10 (a := i) (k := w - 1) (by omega) h2
      exact Nat.le_trans (show (Str.ofString (toString i)).length ≤ w - 1 + 1 by rw [ofString_length]; exact this) (by omega)
  | n, w, .str x, h => by
    obtain ⟨h1, h2⟩ : PyData.strOk x = true ∧ 10 * x.length + 2 ≤ w := by unfold D.Fits at h; exact h
    simp only [D.py, PyData.showable, PyData.shown]
    refine ⟨trivial, Nat.le_trans (PySem.StrLaws.reprText_len x fun c hc => ?_) h2⟩
    unfold PyData.strOk at h1
    rw [Array.all_eq_true'] at h1
    have := h1 c (by simpa using hc)
    have : c < 0x110000 := of_decide_eq_true this
    omega
  | 0, w, .lst xs, h => h.elim
  | 0, w, .tup xs, h => h.elim
  | n + 1, w, .lst xs, h => by
    obtain ⟨k, m, h1, h2, h3⟩ := h
    have a : ∀ e ∈ D.pys xs, e.showable = true := fun e he => by
      rw [pys_map] at he
      obtain ⟨d, hd, rfl⟩ := List.mem_map.mp he
      exact (Fits.shown (h2 d hd)).1
    simp only [D.py, PyData.showable, PyData.shown]
    exact ⟨showableAll_of _ a, Nat.le_trans (listText_len_le _) (fits_sum h1 (fun d hd => (Fits.shown (h2 d hd)).2) h3)⟩
  | n + 1, w, .tup xs, h => by
    obtain ⟨k, m, h1, h2, h3⟩ := h
    have a : ∀ e ∈ D.pys xs, e.showable = true := fun e he => by
      rw [pys_map] at he
      obtain ⟨d, hd, rfl⟩ := List.mem_map.mp he
      exact (Fits.shown (h2 d hd)).1
    simp only [D.py, PyData.showable, PyData.shown]
    exact ⟨showableAll_of _ a, Nat.le_trans (tupleText_len_le _) (fits_sum h1 (fun d hd => (Fits.shown (h2 d hd)).2) h3)⟩
  | 0, w, .dic _, h => h.elim
  | 0, w, .ins _ _, h => h.elim
  | 0, w, .ty _, h => h.elim
  | 0, w, .exc _ _ _, h => h.elim
  | n + 1, w, .dic _, h => h.elim
  | n + 1, w, .ins _ _, h => h.elim
  | n + 1, w, .ty _, h => h.elim
  | n + 1, w, .exc _ _ _, h => h.elim
def rRepr (K : PySem.W.Frag) : List V → Hp → VK → Prop := fun xs H Q => ∃ (x : V) (d : D) (n w : Nat), xs = [x] ∧ Den K H x d ∧ d.Fits n w ∧ n ≤ 60 ∧ w ≤ sizeLine ∧ Q (.str d.py.shown) H
theorem call_reprD (hq : Quiet X.A) (hu : X.A.units + 64 < cLine) : CallR X (.builtin "repr") (rRepr X.K) := by
  intro pins s σ H xs us Q I r h
  obtain ⟨x, d, n, w, rfl, dn, hf, hn, hw, q⟩ := h
  obtain ⟨u, rfl, rx⟩ := vals1 r
  obtain ⟨hs, hl⟩ := Fits.shown hf
  have ok := Fits.ok hf
  obtain ⟨lay, dep⟩ := Ok_lay ok
  have nd := PyData.hasDict_of_canLay _ lay
  obtain ⟨as, rd⟩ := Dp.reads I d.py x u (dn.dp ok) rx
  have fin : ∀ (y : Str) (t : Tok) (tk : Nat), y = d.py.shown → EP X pins σ Q (.str y t) { s with toks := tk } := fun y t tk e => ⟨.str y, H, I.tok tk, ⟨t, rfl⟩, by rw [e]; exact q⟩
  cases dn with
  | non => obtain rfl : u = Value.none := rx; exact P.repr_of_none (fin _ _ _ (by simp only [D.py, PyData.shown]))
  | bl b => obtain rfl : u = Value.bool b := rx; exact P.repr_of_bool (fin _ _ _ (by cases b <;> simp [D.py, PyData.shown]))
  | int i =>
    obtain ⟨t, rfl⟩ := rx
    refine P.repr_of_int ?_ (fin _ _ _ (by simp only [D.py, PyData.shown]))
    simp only [D.py, PyData.showable] at hs
    exact of_decide_eq_true hs
  | str z =>
    obtain ⟨t, rfl⟩ := rx
    refine P.repr_of_str (fin _ _ _ (by simp only [D.py, PyData.shown])) ?_
    simp only [D.py, PyData.shown] at hl
    exact Nat.le_trans hl hw
  | ty m => cases n <;> exact hf.elim
  | exc a d fs => cases n <;> exact hf.elim
  | dic _ _ _ _ => cases n <;> exact hf.elim
  | ins _ _ _ _ => cases n <;> exact hf.elim
  | lst h l e =>
    cases rx
    exact repr_of_reads' rd hs (fun z => by rw [nd] at z; cases z) hq (by omega) (fun _ _ z => z) (fun h' t tk k => ⟨.str _, H, I.kept k, ⟨t, rfl⟩, q⟩) (Nat.le_trans hl hw)
  | tup h l e =>
    cases rx
    exact repr_of_reads' rd hs (fun z => by rw [nd] at z; cases z) hq (by omega) (fun _ _ z => z) (fun h' t tk k => ⟨.str _, H, I.kept k, ⟨t, rfl⟩, q⟩) (Nat.le_trans hl hw)
def bRepr : List D → (R → Prop) → Prop
  | [d], P => ∃ n w, d.Fits n w ∧ n ≤ 60 ∧ w ≤ sizeLine ∧ P (.val (.str d.py.shown))
  | _, _ => False
theorem cl_repr {K : PySem.W.Frag} : CallLook K (rRepr K) bRepr := fun C σ H G W δ vs ds P Q I a hg k => by
  match ds, hg with
  | [d], ⟨n, w, h1, h2, h3, h4⟩ =>
    obtain ⟨v, rfl, s⟩ := one_of a
    exact ⟨v, d, n, w, rfl, s.den I.gh, h1, h2, h3, k _ _ H G W h4 (Ex.refl G) I (Den.str _)⟩
end
end DL

namespace DL
open PySem PySem.Spec L2

section
variable {X : Cx} {K : PySem.W.Frag} {L : Lk} {C : Ct} {σ : St} {H G : Hp} {W : Ow} {δ : List R} {pos : Pos} {e : Expr} {de : DE}
/-! ### what is one's own is changed -/
theorem SI.write {i : Nat} {p : Addr} {d d' : D} {o : HO} (I : SI K C σ H G W δ) (hi : gt δ i = .own d) (hs : σ[i]? = some (some (.ref p))) (ht : Top K G (upd H p o) p d') : SI K C σ (upd H p o) G W (st δ i (.own d')) := by
  obtain ⟨v, h1, h2⟩ := I.sl i (by rw [hi]; simp)
  rw [hs] at h1; cases h1
  rw [hi] at h2
  obtain ⟨q, e, ⟨m1, m2, m3, m4⟩, h5, h6⟩ := h2
  cases e
  refine ⟨fun a u e => ?_, I.g0, fun a u nb e => ?_, I.gz, I.b0, fun b hb => ?_, fun a u e => ?_, by rw [st_len]; exact I.ln, fun j hj => ?_⟩
  · rw [upd_ne (ne_of_none e m1)]; exact I.gh a u e
  · rw [upd_ne (ne_of_none (H := C.H0) e m2)]; exact I.hh a u nb e
  · have ne : b ≠ p := by rintro rfl; exact m3 hb
    exact (I.bag b hb).mono (Ex.refl G) (I.bag b hb).1 (upd_ne ne)
  · have ne : a ≠ p := by rintro rfl; rw [m4] at e; cases e
    rw [upd_ne ne]; exact I.tm a u e
  · by_cases hij : i = j
    · subst hij
      have hl : i < δ.length := by have := gt_len hj; rwa [st_len] at this
      rw [gt_st_here hl]
      exact ⟨_, hs, p, rfl, ⟨m1, m2, m3, m4⟩, h5, ht⟩
    · rw [gt_st_ne δ i j _ hij] at hj ⊢
      obtain ⟨v, h1, h2⟩ := I.sl j hj
      refine ⟨v, h1, ?_⟩
      cases q : gt δ j with
      | no => exact trivial
      | val d => rw [q] at h2; exact h2
      | bag => rw [q] at h2; exact h2
      | pk k => rw [q] at h2; exact absurd h2.1 (by simp)
      | own d2 =>
        rw [q] at h2
        obtain ⟨a, e, m, h7, h8⟩ := h2
        have ne : a ≠ p := by rintro rfl; rw [h5] at h7; exact hij (Option.some.inj h7)
        exact ⟨a, e, m, h7, h8.mono (Ex.refl G) (upd_ne ne)⟩
theorem SI.ownAt {i : Nat} {d : D} (I : SI K C σ H G W δ) (hi : gt δ i = .own d) : ∃ p, σ[i]? = some (some (.ref p)) ∧ Top K G H p d := by
  obtain ⟨v, h1, h2⟩ := I.sl i (by rw [hi]; simp)
  rw [hi] at h2
  obtain ⟨q, e, m, h5, h6⟩ := h2
  subst e
  exact ⟨q, h1, h6⟩
/-- x.append(e), x one's own -/
def dApp (i : Nat) (de : DE) : DE := fun δ P => (∃ ds0, gt δ i = .own (.lst ds0)) ∧ de δ fun r δ1 => ∃ d δ2 ds, use r δ1 = some (.val d, δ2) ∧ gt δ2 i = .own (.lst ds) ∧ ds.length < sizeLine ∧ P (.val .non) (st δ2 i (.own (.lst (ds ++ [d]))))
theorem de_append {i : Nat} {x : Str} {px apos cpos : Pos} (ho : PE X (.Name x px) (tVar i)) (ha : PE X e (lift X.K L de))
    (hbase : attributeBase (.Name x px) "append" X.env (eval (.Name x px) X.env) = eval (.Name x px) X.env := by rfl)
    (hfew : ((backTo cpos (starEach [e] X.env)).all (fun x => !x.1) && (backToKw cpos (keywordEach [] X.env)).all (fun x => x.1.isSome) && decide (([e] : List Expr).length + ([] : List Keyword).length + (if ([] : List Keyword).isEmpty then 0 else 1) < 30)) = true := by rfl)
    (hline : (apos.endLine == cpos.line) = true := by rfl) (hs : starEach [e] X.env = (false, eval e X.env) :: starEach [] X.env := by rfl) (hplain : (backTo cpos (starEach [] X.env)).any (·.1) = false := by rfl) :
    PE X (.Call (.Attribute (.Name x px) "append" apos) [e] [] cpos) (lift X.K L (dApp i de)) :=
  PE.weak (pe_bm PySem.F.plainAttrs_list PySem.F.slot_list_append PySem.F.type_list_append mt_append ho (pa_cons ha pa_nil hs) hbase hfew hline hs hplain) <| lift_of fun C σ H G W δ P Q I lk h k => by
    obtain ⟨⟨ds0, h0⟩, h⟩ := h
    obtain ⟨p, hp, vs0, ht, _⟩ := I.ownAt h0
    refine ⟨.ref p, hp, .inl ⟨rfl, vs0, .of ht⟩, C, G, W, δ, _, I, lk, h, fun r δ1 v H1 G1 W1 h1 x1 I1 o1 => ?_⟩
    obtain ⟨d, δ2, ds, e, hg, hz, hp'⟩ := h1
    obtain ⟨G2, x2, I2, o2, _⟩ := I1.useOk o1 e
    obtain ⟨q, hq, vs, hv, dn⟩ := I2.ownAt hg
    rw [hp] at hq
    have eq : p = q := by simpa using hq
    subst eq
    refine ⟨p, vs, v, rfl, rfl, hv, by rw [dn.1]; exact hz, ?_⟩
    exact k _ _ _ _ _ W1 hp' (x1.trans x2) (I2.write hg hp ⟨_, upd_same, dn.append (.cons o2 .nil)⟩) Den.non
/-! ### xs[i] read for xs[i] += e -/
def rGetL (K : PySem.W.Frag) : V → V → Hp → VK → Prop := fun o i H Q => ∃ p xs k v, o = .ref p ∧ i = .int (k : Nat) ∧ SqL K H p xs ∧ xs[k]? = some v ∧ k < 2 ^ 62 ∧ Q v H
theorem get_listG : PGet X (rGetL X.K) := fun pins s σ H o i ov iv Q I ro ri h => by
  obtain ⟨p, xs, k, v, rfl, rfl, hl, hv, hk, q⟩ := h
  cases ro
  obtain ⟨t, rfl⟩ := ri
  obtain ⟨ys, rel, pl, _⟩ := I.list hl
  obtain ⟨y, ey, ry⟩ := rel.get hv
  exact wpAny_getItem_list pl.isList (by omega) (by omega) (by simpa using ey) ⟨v, H, I, ry, q⟩
end
end DL

namespace DL
open PySem PySem.Spec L2

section
variable {X : Cx} {K : PySem.W.Frag} {L : Lk} {pos : Pos} {e ix : Expr} {de dx : DE}
/-- x[i] = e, x one's own -/
def dSetIx (i : Nat) (dx de : DE) : DS := fun DD δ => de δ fun r δ1 => (∃ ds0, gt δ1 i = .own (.lst ds0)) ∧ dx δ1 fun r2 δ2 => ∃ d δ3 ds k j, use r δ2 = some (.val d, δ3) ∧ peek r2 δ3 = some (.int k) ∧ gt δ3 i = .own (.lst ds) ∧ ixN ds.length k = some j ∧ DD.nx (st δ3 i (.own (.lst (ds.set j d))))
theorem peek_keep {δ δ' : List R} {r r' rr : R} (h : use rr δ = some (r', δ')) : ∀ {d : D}, peek r δ' = some d → peek r δ = some d := by
  intro d e
  cases rr with
  | no => cases h
  | val x => cases h; exact e
  | own x => cases h; exact e
  | bag => cases h; exact e
  | pk i =>
    have h : usePk (gt δ i) i δ = some (r', δ') := h
    cases q : gt δ i with
    | no => rw [q] at h; cases h
    | pk j => rw [q] at h; cases h
    | val x => rw [q] at h; cases h; exact e
    | bag => rw [q] at h; cases h; exact e
    | own x =>
      rw [q] at h; cases h
      cases r with
      | pk j =>
        have e : (gt (st δ i (.val x)) j).dat = some d := e
        show (gt δ j).dat = some d
        by_cases hij : i = j
        · subst hij
          have hl : i < δ.length := gt_len (by rw [q]; simp)
          rw [gt_st_here hl] at e
          rw [q]; exact e
        · rw [gt_st_ne δ i j _ hij] at e; exact e
      | _ => exact e
theorem ds_setIx {i : Nat} {x : Str} {px tpos : Pos} (he : PE X e (lift X.K L de)) (pg : PG X (.Subscript (.Name x px) ix tpos) (L2.gSub (tVar i) (lift X.K L dx) rSetL))
    (hs : swapsWithSole [.Subscript (.Name x px) ix tpos] e pos.line X.env = pure false := by rfl) (hw : swappedStores [.Subscript (.Name x px) ix tpos] e X.env = pure none := by rfl) (h1 : (assignEach [.Subscript (.Name x px) ix tpos] X.env).map (·.2) = [assign (.Subscript (.Name x px) ix tpos) X.env] := by rfl) :
    PS X (.Assign [.Subscript (.Name x px) ix tpos] e pos) (liftS X.K L (dSetIx i dx de)) :=
  PS.weak (ps_asg he pg hs hw h1) <| liftS_of fun C D σ H G W δ DD I lk h k => ⟨C, G, W, δ, _, I, lk, h, fun r δ1 v H1 G1 W1 h1 x1 I1 o1 => by
    obtain ⟨G1', x1', I1', o1'⟩ := I1.pub o1
    obtain ⟨⟨ds0, h0⟩, h1⟩ := h1
    obtain ⟨p, hp, _⟩ := I1'.ownAt h0
    refine ⟨.ref p, hp, C, G1', W1, δ1, _, I1', lk.mono (x1.trans x1'), h1, fun r2 δ2 y H2 G2 W2 h2 x2 I2 o2 => ?_⟩
    obtain ⟨d, δ3, ds, k', j, e1, e2, e3, e4, hn⟩ := h2
    obtain ⟨G2', x2', I2', o2'⟩ := I2.pub o2
    rw [← use_pub] at e1
    obtain ⟨G3, x3, I3, o3, _⟩ := I2'.useOk (ROk.keep o1' (x2.trans x2')) e1
    rw [← peek_pub] at e2
    have ey := ((I3.peekOk (ROk.keep o2' x3) e2).den I3.gh).of_int
    subst ey
    obtain ⟨q, hq, vs, hv, dn⟩ := I3.ownAt e3
    rw [hp] at hq
    have eq : p = q := by simpa using hq
    subst eq
    refine ⟨p, vs, k', j, rfl, rfl, hv, by rw [dn.1]; exact e4, ?_⟩
    exact k.nx σ _ G3 W2 _ ((((x1.trans x1').trans x2).trans x2').trans x3) (I3.write (d' := .lst (ds.set j d)) e3 hp ⟨_, upd_same, All2.set dn j o3⟩) hn⟩
/-- x[i] += e, x one's own, numbers -/
def dAugIx (i : Nat) (dx de : DE) : DS := fun DD δ => (∃ ds0, gt δ i = .own (.lst ds0)) ∧ dx δ fun r1 δ1 => (∃ (k : Nat) (ds : List D) (a : Int), peek r1 δ1 = some (.int k) ∧ k < 2 ^ 62 ∧ gt δ1 i = .own (.lst ds) ∧ ds[k]? = some (.int a) ∧
  de δ1 fun r2 δ2 => ∃ b, peek r2 δ2 = some (.int b) ∧ gt δ2 i = .own (.lst ds) ∧ DD.nx (st δ2 i (.own (.lst (ds.set k (.int (a + b)))))))
theorem ds_augIx {i : Nat} {x : Str} {px tpos : Pos} (ho : PE X (.Name x px) (tVar i)) (hx : PE X ix (lift X.K L dx)) (he : PE X e (lift X.K L de))
    (ha : ∀ ov iv new, augStore ix ov iv new = (do holding [new, ov, iv] (setItem ov iv new); release [new, ov, iv] []; pure .next) := by intros; rfl) : PS X (.AugAssign (.Subscript (.Name x px) ix tpos) .Add e pos) (liftS X.K L (dAugIx i dx de)) :=
  PS.weak (ps_augS ho hx get_listG he ip_add set_list ha) <| liftS_of fun C D σ H G W δ DD I lk h k => by
    obtain ⟨⟨ds0, h0⟩, h⟩ := h
    obtain ⟨p, hp, _⟩ := I.ownAt h0
    refine ⟨.ref p, hp, C, G, W, δ, _, I, lk, h, fun r1 δ1 y H1 G1 W1 h1 x1 I1 o1 => ?_⟩
    obtain ⟨k', ds, a, e1, hk, e2, e3, h1⟩ := h1
    have ey := ((I1.peekOk o1 e1).den I1.gh).of_int
    subst ey
    obtain ⟨q, hq, vs, hv, dn⟩ := I1.ownAt e2
    rw [hp] at hq
    have eq : p = q := by simpa using hq
    subst eq
    obtain ⟨va, hva, da⟩ := dn.get e3
    have eva := da.of_int
    subst eva
    refine ⟨p, vs, k', .int a, rfl, rfl, .of hv, hva, hk, C, G1, W1, δ1, _, I1, lk.mono x1, h1, fun r2 δ2 z H2 G2 W2 h2 x2 I2 o2 => ?_⟩
    obtain ⟨b, e4, e5, hn⟩ := h2
    have ez := ((I2.peekOk o2 e4).den I2.gh).of_int
    subst ez
    obtain ⟨q, hq, vs2, hv2, dn2⟩ := I2.ownAt e5
    rw [hp] at hq
    have eq : p = q := by simpa using hq
    subst eq
    have hkl : k' < ds.length := (List.getElem?_eq_some_iff.mp e3).1
    refine ⟨a, b, rfl, rfl, p, vs2, (k' : Int), k', rfl, rfl, hv2, ?_, ?_⟩
    · unfold ixN
      rw [if_pos (by omega), if_pos (by rw [dn2.1]; omega)]; simp
    · exact k.nx σ _ G2 W2 _ (x1.trans x2) (I2.write (d' := .lst (ds.set k' (.int (a + b)))) e5 hp ⟨_, upd_same, All2.set dn2 k' (Den.int _)⟩) hn
end
/-! ### drawing from the bag -/
def takeS : DSp := fun rs P _ => ∃ n, rs = [.bag, .val (.int n)] ∧ 0 < n ∧ n < 1073741824 ∧ ∀ r : Int, 0 ≤ r → r < n → P (.val (.int r))
def bagD (x y z : Int) (ns : List Int) : D := .lst [.int x, .int y, .int z, .lst (ns.map D.int)]
section
variable {P : Program} {w : World} {K : PySem.W.Frag} {mg : Str → Option Value} {base : Heap}
theorem dens_ints {G : Hp} : ∀ (ns : List Int), Dens K G (ns.map V.int) (ns.map D.int)
  | [] => .nil
  | n :: ns => .cons (.int n) (dens_ints ns)
theorem ints_dens {G : Hp} : ∀ {ns : List Int} {vs : List V}, Dens K G vs (ns.map D.int) → vs = ns.map V.int
  | [], vs, h => h.nil_right
  | n :: ns, vs, h => by
    obtain ⟨v, r, rfl, h1, h2⟩ := All2.cons_right (ys := ns.map D.int) h
    rw [h1.of_int, ints_dens h2]; rfl
/-- what drawing does to the heap -/
theorem take_fin {bo : Option Addr} {G H : Hp} {b c : Addr} {x y z : Int} {ns : List Int} (hbo : bo = some b) (hg : Ex G H) (gb : G b = none) (gc : G c = some (.lst (ns.map V.int))) (h1 : 0 ≤ x) (h2 : 0 ≤ y) (h3 : y < 2147483647) (h4 : 0 ≤ z) (h5 : ∀ n ∈ ns, 0 ≤ n) :
    Fin bo G H G (upd H b (.lst [.int x, .int y, .int z, .ref c])) := by
  refine ⟨Ex.refl G, fun a o e => ?_, fun a o nb e => ?_, fun _ _ => rfl, fun b' e => ?_⟩
  · rw [upd_ne (ne_of_none e gb)]; exact hg a o e
  · have ne : a ≠ b := by rintro rfl; exact nb hbo
    rw [upd_ne ne]; exact e
  · rw [hbo] at e; cases e
    exact ⟨gb, x, y, z, c, ns, upd_same, gc, h1, h2, h3, h4, h5⟩
end
/-! ### the defs of a text, and what they keep -/
def Df (K : PySem.W.Frag) (mg : Str → Option Value) (x : Str) (sm : Stmt) : Prop := ∃ (f : Addr) (fd : FuncData), Fun K x x sm f fd ∧ mg x = some (.ref f)
def Fc (P : Program) (w : World) (K : PySem.W.Frag) (mg : Str → Option Value) (base : Heap) (k : Nat) (x : Str) (ps : List Str) (S : DSp) : Prop :=
  ∃ (f : Addr) (fd : FuncData), FnOk P w K mg base CX0 k f fd ps (spOf K S) ∧ mg x = some (.ref f) ∧ PySem.W.keepIn K (.ref f) = true ∧ Binds K fd ps []
def FcG (P : Program) (w : World) (K : PySem.W.Frag) (mg : Str → Option Value) (base : Heap) (k : Nat) (x : Str) (ps : List Str) (S : DSp) : Prop :=
  ∃ (f : Addr) (fd : FuncData), FnG P w K mg base CX0 k f fd ps (spOf K S) ∧ mg x = some (.ref f) ∧ PySem.W.keepIn K (.ref f) = true ∧ Binds K fd ps []
section
variable {X : Cx} {L : Lk} {k : Nat} {ps : List Str} {S : DSp} {x : Str} {p pos : Pos} {e : Expr} {es : List Expr} {da : DA}
theorem de_fc (F : Fc X.prog X.w X.K X.mg X.base k x ps S) (hr : Room k X.A) (hg : Gl X x) (ha : PA X (e :: es) (liftA X.K L da)) (hdb : (x == ("__debug__" : Str)) = false := by decide)
    (he : starEach (e :: es) X.env = (false, eval e X.env) :: starEach es X.env := by rfl) (hpl : (backTo pos (starEach es X.env)).any (·.1) = false := by rfl) : PE X (.Call (.Name x p) (e :: es) [] pos) (lift X.K L (dCall S da)) :=
  let ⟨_, _, h1, h2, h3, h4⟩ := F
  de_call h1 hr hg h2 h3 h4 ha hdb he hpl
theorem de_fc0 (F : Fc X.prog X.w X.K X.mg X.base k x ps S) (hr : Room k X.A) (hg : Gl X x) (hdb : (x == ("__debug__" : Str)) = false := by decide) : PE X (.Call (.Name x p) [] [] pos) (lift X.K L (dCall S dNil)) :=
  let ⟨_, _, h1, h2, h3, h4⟩ := F
  de_call0 h1 hr hg h2 h3 h4 hdb
theorem de_fcG (F : FcG X.prog X.w X.K X.mg X.base k x ps S) (hq : Quiet X.A) (hr : Room k X.A) (hg : Gl X x) (ha : PA X (e :: es) (liftA X.K L da)) (hdb : (x == ("__debug__" : Str)) = false := by decide)
    (he : starEach (e :: es) X.env = (false, eval e X.env) :: starEach es X.env := by rfl) (hpl : (backTo pos (starEach es X.env)).any (·.1) = false := by rfl) : PE X (.Call (.Name x p) (e :: es) [] pos) (lift X.K L (dCall S da)) :=
  let ⟨_, _, h1, h2, h3, h4⟩ := F
  de_callG h1 hq hr hg h2 h3 h4 ha hdb he hpl
end
end DL

namespace DL
open PySem PySem.Spec L2
/-! ### going through a reading over data, from the left -/
theorem okI {n : Nat} {i : Int} : D.Ok n (.int i) := by unfold D.Ok; trivial
theorem okN {n : Nat} : D.Ok n .non := by unfold D.Ok; trivial
theorem okB {n : Nat} {b : Bool} : D.Ok n (.bl b) := by unfold D.Ok; trivial
theorem okS {n : Nat} {x : Str} (h : PyData.strOk x = true) : D.Ok n (.str x) := by unfold D.Ok; exact h
theorem okT {n : Nat} {xs : List D} (h : ∀ d ∈ xs, D.Ok n d) : D.Ok (n + 1) (.tup xs) := h
theorem okL {n : Nat} {xs : List D} (h : ∀ d ∈ xs, D.Ok n d) : D.Ok (n + 1) (.lst xs) := h
theorem eqII {n : Nat} {i j : Int} : eqD n (.int i) (.int j) = (i == j) := by unfold eqD; rfl
theorem eqSS {n : Nat} {x y : Str} : eqD n (.str x) (.str y) = (x == y) := by unfold eqD; rfl
section
variable {δ δ1 δ2 δ3 δ4 : List R} {P : R → List R → Prop} {PB : Bool → List R → Prop} {PA : List R → List R → Prop} {da db de dx : DE} {t u : DT} {DD : DEnds} {i j : Nat} {d d1 d2 d' : D} {r r1 r2 r' : R} {Q : R → Prop} {a b c : DS}
theorem i_var (h : P (.pk i) δ) (e : (gt δ i).on = true := by rfl) : dVar i δ P := ⟨e, h⟩
theorem i_c (h : P (.val d) δ) : dC d δ P := h
theorem i_bin {g : D → D → (R → Prop) → Prop} (h : da δ fun r1 δ1 => db δ1 fun r2 δ2 => ∃ d1 δ3 d2 δ4, use r1 δ2 = some (.val d1, δ3) ∧ use r2 δ3 = some (.val d2, δ4) ∧ g d1 d2 fun r => P r δ4) : dBin g da db δ P := h
theorem i_bin2 {g : D → D → (R → Prop) → Prop} (h : g d1 d2 fun r => P r δ4) (e1 : use r1 δ2 = some (.val d1, δ3) := by rfl) (e2 : use r2 δ3 = some (.val d2, δ4) := by rfl) : ∃ d1 δ3 d2 δ4, use r1 δ2 = some (.val d1, δ3) ∧ use r2 δ3 = some (.val d2, δ4) ∧ g d1 d2 fun r => P r δ4 := ⟨_, _, _, _, e1, e2, h⟩
theorem i_addI {x y : Int} (h : Q (.val (.int (x + y)))) : gAdd (.int x) (.int y) Q := h
theorem i_addL {x y : List D} (h : Q (.own (.lst (x ++ y)))) (l : x.length + y.length ≤ sizeLine) : gAdd (.lst x) (.lst y) Q := ⟨l, h⟩
theorem i_addT {x y : List D} (h : Q (.val (.tup (x ++ y)))) (l : x.length + y.length ≤ sizeLine) : gAdd (.tup x) (.tup y) Q := ⟨l, h⟩
theorem i_sub {x y : Int} (h : Q (.val (.int (x - y)))) : gMinus (.int x) (.int y) Q := ⟨trivial, h⟩
theorem i_mul {x y : Int} (h : Q (.val (.int (x * y)))) (c : CMulA x y) : gMul (.int x) (.int y) Q := ⟨c, h⟩
theorem i_fdiv {x y : Int} (h : Q (.val (.int (x.fdiv y)))) (c : CDivA x y) : gFdivA (.int x) (.int y) Q := ⟨c, h⟩
theorem i_mod {x y : Int} (h : Q (.val (.int (x.fmod y)))) (c : y ≠ 0) : gMod (.int x) (.int y) Q := ⟨c, h⟩
theorem i_pow {x y : Int} (h : Q (.val (.int (x ^ y.toNat)))) (c : CPow x y) : gPow (.int x) (.int y) Q := ⟨c, h⟩
theorem i_neg (h : da δ fun r δ1 => ∃ i, peek r δ1 = some (.int i) ∧ P (.val (.int (-i))) δ1) : dNeg da δ P := h
theorem i_neg2 {x : Int} {B : Int → Prop} (h : B x) (e : peek r δ1 = some (.int x) := by rfl) : ∃ i, peek r δ1 = some (.int i) ∧ B i := ⟨_, e, h⟩
theorem i_cmp {f : D → D → Bool → Prop} (h : da δ fun r1 δ1 => db δ1 fun r2 δ2 => ∃ d1 d2 b, peek r1 δ2 = some d1 ∧ peek r2 δ2 = some d2 ∧ f d1 d2 b ∧ P (.val (.bl b)) δ2) : dCmp f da db δ P := h
theorem i_cmpI {f : Int → Int → Bool} {x y : Int} {B : Bool → Prop} (h : B (f x y)) (e1 : peek r1 δ2 = some (.int x) := by rfl) (e2 : peek r2 δ2 = some (.int y) := by rfl) : ∃ d1 d2 b, peek r1 δ2 = some d1 ∧ peek r2 δ2 = some d2 ∧ cI f d1 d2 b ∧ B b := ⟨_, _, _, e1, e2, rfl, h⟩
theorem i_cmpN {n : Bool} {B : Bool → Prop} (h : B (if n then !d1.isN else d1.isN)) (e1 : peek r1 δ2 = some d1 := by rfl) (e2 : peek r2 δ2 = some .non := by rfl) : ∃ d1 d2 b, peek r1 δ2 = some d1 ∧ peek r2 δ2 = some d2 ∧ cIsN n d1 d2 b ∧ B b := ⟨_, _, _, e1, e2, ⟨rfl, rfl⟩, h⟩
theorem i_cmpE {n : Bool} {B : Bool → Prop} (e1 : peek r1 δ2 = some d1 := by rfl) (e2 : peek r2 δ2 = some d2 := by rfl) (o1 : d1.Ok 60) (o2 : d2.Ok 60) (h : B (if n then !eqD 60 d1 d2 else eqD 60 d1 d2)) : ∃ d1 d2 b, peek r1 δ2 = some d1 ∧ peek r2 δ2 = some d2 ∧ cEq n d1 d2 b ∧ B b := ⟨_, _, _, e1, e2, ⟨o1, o2, rfl⟩, h⟩
theorem i_tst (h : de δ fun r δ1 => ∃ b, peek r δ1 = some (.bl b) ∧ PB b δ1) : dTst de δ PB := h
theorem i_tst2 {x : Bool} {B : Bool → Prop} (h : B x) (e : peek r δ1 = some (.bl x) := by rfl) : ∃ b, peek r δ1 = some (.bl b) ∧ B b := ⟨_, e, h⟩
theorem i_and (h : t δ fun c δ1 => (c = true → u δ1 PB) ∧ (c = false → PB false δ1)) : dAnd t u δ PB := h
theorem i_or (h : t δ fun c δ1 => (c = true → PB true δ1) ∧ (c = false → u δ1 PB)) : dOr t u δ PB := h
theorem i_not (h : t δ fun c δ1 => PB (!c) δ1) : dNot t δ PB := h
theorem i_andV (h : da δ fun r δ1 => ∃ c, peek r δ1 = some (.bl c) ∧ (c = true → db δ1 P) ∧ (c = false → P (.val (.bl false)) δ1)) : dAndV da db δ P := h
theorem i_orV (h : da δ fun r δ1 => ∃ c, peek r δ1 = some (.bl c) ∧ (c = true → P (.val (.bl true)) δ1) ∧ (c = false → db δ1 P)) : dOrV da db δ P := h
theorem i_two {x : Bool} {A B : Bool → Prop} (h : A x ∧ B x) (e : peek r δ1 = some (.bl x) := by rfl) : ∃ c, peek r δ1 = some (.bl c) ∧ A c ∧ B c := ⟨_, e, h⟩
theorem i_notV (h : da δ fun r δ1 => ∃ c, peek r δ1 = some (.bl c) ∧ P (.val (.bl (!c))) δ1) : dNotV da δ P := h
theorem i_if (h : t δ fun c δ1 => (c = true → da δ1 P) ∧ (c = false → db δ1 P)) : dIf t da db δ P := h
theorem i_nil (h : PA [] δ) : dNil δ PA := h
theorem i_cons {dr : DA} (h : da δ fun r δ1 => dr δ1 fun rs δ2 => PA (r.pub :: rs) δ2) : dCons da dr δ PA := h
theorem i_tup {da : DA} (h : da δ fun rs δ1 => ∃ rs' δ2 ds, useAll rs δ1 = some (rs', δ2) ∧ vals? rs' = some ds ∧ ds.length ≤ sizeLine ∧ P (.val (.tup ds)) δ2) : dTup da δ P := h
theorem i_lst {da : DA} (h : da δ fun rs δ1 => ∃ rs' δ2 ds, useAll rs δ1 = some (rs', δ2) ∧ vals? rs' = some ds ∧ ds.length ≤ sizeLine ∧ P (.own (.lst ds)) δ2) : dLst da δ P := h
theorem i_all {rs rs' : List R} {ds : List D} {A : List D → List R → Prop} (h : A ds δ2) (e1 : useAll rs δ1 = some (rs', δ2) := by rfl) (e2 : vals? rs' = some ds := by rfl) (l : ds.length ≤ sizeLine := by first | decide | simp [sizeLine_eq]) : ∃ rs' δ2 ds, useAll rs δ1 = some (rs', δ2) ∧ vals? rs' = some ds ∧ ds.length ≤ sizeLine ∧ A ds δ2 := ⟨_, _, _, e1, e2, l, h⟩
theorem i_call {S : DSp} {da : DA} (h : da δ fun rs δ1 => ∃ rs' δ2, useAll rs δ1 = some (rs', δ2) ∧ S rs' (fun r => P r δ2) (fun _ _ => False)) : dCall S da δ P := h
theorem i_call2 {rs rs' : List R} {B : List R → List R → Prop} (h : B rs' δ2) (e1 : useAll rs δ1 = some (rs', δ2) := by rfl) : ∃ rs' δ2, useAll rs δ1 = some (rs', δ2) ∧ B rs' δ2 := ⟨_, _, e1, h⟩
theorem i_cb {g : List D → (R → Prop) → Prop} {da : DA} (h : da δ fun rs δ1 => ∃ ds, peekAll rs δ1 = some ds ∧ g ds fun r => P r δ1) : dCB g da δ P := h
theorem i_cb2 {rs : List R} {ds : List D} {B : List D → Prop} (h : B ds) (e1 : peekAll rs δ1 = some ds := by rfl) : ∃ ds, peekAll rs δ1 = some ds ∧ B ds := ⟨_, e1, h⟩
theorem i_ix (h : da δ fun r1 δ1 => db δ1 fun r2 δ2 => ∃ d i d', peek r1 δ2 = some d ∧ peek r2 δ2 = some (.int i) ∧ ixD d i d' ∧ P (.val d') δ2) : dIx da db δ P := h
theorem i_ixL {xs : List D} {x : Int} {y : D} {B : D → Prop} (h : B y) (e : atI xs x = some y) (e1 : peek r1 δ2 = some (.lst xs) := by rfl) (e2 : peek r2 δ2 = some (.int x) := by rfl) : ∃ d i d', peek r1 δ2 = some d ∧ peek r2 δ2 = some (.int i) ∧ ixD d i d' ∧ B d' := ⟨_, _, _, e1, e2, e, h⟩
theorem i_ixT {xs : List D} {x : Int} {y : D} {B : D → Prop} (h : B y) (e : atI xs x = some y) (e1 : peek r1 δ2 = some (.tup xs) := by rfl) (e2 : peek r2 δ2 = some (.int x) := by rfl) : ∃ d i d', peek r1 δ2 = some d ∧ peek r2 δ2 = some (.int i) ∧ ixD d i d' ∧ B d' := ⟨_, _, _, e1, e2, e, h⟩
theorem i_sl {dl dh : DO} (h : da δ fun r1 δ1 => dl δ1 fun lo δ2 => dh δ2 fun hi δ3 => ∃ d r, peek r1 δ3 = some d ∧ slD d lo hi r ∧ P r δ3) : dSl da dl dh δ P := h
theorem i_slL {xs : List D} {lo hi : Option Int} {B : R → Prop} (h : B (.own (.lst (cut xs lo hi)))) (e1 : peek r1 δ3 = some (.lst xs) := by rfl) : ∃ d r, peek r1 δ3 = some d ∧ slD d lo hi r ∧ B r := ⟨_, _, e1, rfl, h⟩
theorem i_slT {xs : List D} {lo hi : Option Int} {B : R → Prop} (h : B (.val (.tup (cut xs lo hi)))) (e1 : peek r1 δ3 = some (.tup xs) := by rfl) : ∃ d r, peek r1 δ3 = some d ∧ slD d lo hi r ∧ B r := ⟨_, _, e1, rfl, h⟩
theorem i_none {PO : Option Int → List R → Prop} (h : PO none δ) : doNone δ PO := h
theorem i_some {PO : Option Int → List R → Prop} (h : de δ fun r δ1 => ∃ i, peek r δ1 = some (.int i) ∧ PO (some i) δ1) : doSome de δ PO := h
theorem i_some2 {x : Int} {B : Int → Prop} (h : B x) (e : peek r δ1 = some (.int x) := by rfl) : ∃ i, peek r δ1 = some (.int i) ∧ B i := ⟨_, e, h⟩
theorem i_take {n : Int} {Xc : Addr → List (Str × D) → Prop} (h : ∀ r : Int, 0 ≤ r → r < n → Q (.val (.int r))) (n0 : 0 < n := by decide) (n1 : n < 1073741824 := by decide) : takeS [.bag, .val (.int n)] Q Xc := ⟨n, rfl, n0, n1, h⟩
theorem i_lenL {xs : List D} (h : Q (.val (.int xs.length))) : bLen [.lst xs] Q := h
theorem i_lenT {xs : List D} (h : Q (.val (.int xs.length))) : bLen [.tup xs] Q := h
theorem i_int {x : Int} (h : Q (.val (.int x))) : bInt [.int x] Q := h
theorem i_abs {x : Int} (h : Q (.val (.int (if x < 0 then -x else x)))) : bAbs [.int x] Q := h
theorem i_listL {xs : List D} (h : Q (.own (.lst xs))) : bList [.lst xs] Q := h
theorem i_listT {xs : List D} (h : Q (.own (.lst xs))) : bList [.tup xs] Q := h
theorem i_tupleL {xs : List D} (h : Q (.val (.tup xs))) : bTuple [.lst xs] Q := h
theorem i_tupleT {xs : List D} (h : Q (.val (.tup xs))) : bTuple [.tup xs] Q := h
theorem i_max2 {x y : Int} (h : Q (.val (.int (if y > x then y else x)))) : bMax2 [.int x, .int y] Q := h
theorem i_repr {n w : Nat} (h : Q (.val (.str d.py.shown))) (f : d.Fits n w) (hn : n ≤ 60 := by omega) (hw : w ≤ sizeLine := by rw [sizeLine_eq]; omega) : bRepr [d] Q := ⟨n, w, f, hn, hw, h⟩
/-! statements -/
theorem i_sq (h : a { DD with nx := b DD } δ) : dSq a b DD δ := h
theorem i_next (h : DD.nx δ) : dNext DD δ := h
theorem i_expr (h : de δ fun _ δ1 => DD.nx δ1) : dExpr de DD δ := h
theorem i_ret (h : de δ fun r δ1 => ∃ r' δ2, retR r δ1 = some (r', δ2) ∧ DD.rt r' δ2) : dRet de DD δ := h
theorem i_ret2 {B : R → List R → Prop} (h : B r' δ2) (e : retR r δ1 = some (r', δ2) := by rfl) : ∃ r' δ2, retR r δ1 = some (r', δ2) ∧ B r' δ2 := ⟨_, _, e, h⟩
theorem i_ifS (h : t δ fun c δ1 => (c = true → a DD δ1) ∧ (c = false → b DD δ1)) : dIfS t a b DD δ := h
theorem i_set (h : de δ fun r δ1 => ∃ r' δ2, asR r δ1 = some (r', δ2) ∧ DD.nx (st δ2 i r')) : dSet i de DD δ := h
theorem i_set2 {B : R → List R → Prop} (h : B r' δ2) (e : asR r δ1 = some (r', δ2) := by rfl) : ∃ r' δ2, asR r δ1 = some (r', δ2) ∧ B r' δ2 := ⟨_, _, e, h⟩
theorem i_asg {g : DG} (h : de δ fun r δ1 => ∃ d δ2, use r δ1 = some (.val d, δ2) ∧ g d δ2 DD.nx) : dAsg de g DD δ := h
theorem i_asg2 {B : D → List R → Prop} (h : B d δ2) (e : use r δ1 = some (.val d, δ2) := by rfl) : ∃ d δ2, use r δ1 = some (.val d, δ2) ∧ B d δ2 := ⟨_, _, e, h⟩
theorem i_gT2 {x y : D} {K : List R → Prop} (h : K (st (st δ i (.val x)) j (.val y))) : gT 2 (gsCons (gN i) (gsCons (gN j) gsNil)) (.tup [x, y]) δ K := ⟨_, rfl, rfl, _, _, rfl, _, _, rfl, rfl, h⟩
theorem i_app {ds0 : List D} (h : de δ fun r δ1 => ∃ d δ2 ds, use r δ1 = some (.val d, δ2) ∧ gt δ2 i = .own (.lst ds) ∧ ds.length < sizeLine ∧ P (.val .non) (st δ2 i (.own (.lst (ds ++ [d]))))) (e : gt δ i = .own (.lst ds0) := by rfl) : dApp i de δ P := ⟨⟨_, e⟩, h⟩
theorem i_app2 {ds : List D} {B : D → List R → List D → Prop} (h : B d δ2 ds) (l : ds.length < sizeLine) (e : use r δ1 = some (.val d, δ2) := by rfl) (e2 : gt δ2 i = .own (.lst ds) := by rfl) : ∃ d δ2 ds, use r δ1 = some (.val d, δ2) ∧ gt δ2 i = .own (.lst ds) ∧ ds.length < sizeLine ∧ B d δ2 ds := ⟨_, _, _, e, e2, l, h⟩
theorem i_for {di : DI} {g : DG} (h : di δ fun ds δ1 => dLoop g b DD ds δ1) : dFor di g b DD δ := h
theorem i_diS {PI : List D → List R → Prop} (h : de δ fun r δ1 => ∃ d δ2 ds, use r δ1 = some (.val d, δ2) ∧ d.items = some ds ∧ PI ds δ2) : diSeq de δ PI := h
theorem i_diS2 {PI : List D → List R → Prop} {ds : List D} (h : PI ds δ2) (e : use r δ1 = some (.val d, δ2) := by rfl) (e2 : d.items = some ds := by rfl) : ∃ d δ2 ds, use r δ1 = some (.val d, δ2) ∧ d.items = some ds ∧ PI ds δ2 := ⟨_, _, _, e, e2, h⟩
theorem i_rng1 {da : DA} {PI : List D → List R → Prop} (h : da δ fun rs δ1 => ∃ j : Int, peekAll rs δ1 = some [.int j] ∧ (-(2 ^ 62) ≤ j ∧ j < 2 ^ 62) ∧ PI (rngD 0 j.toNat) δ1) : diRng1 da δ PI := h
theorem i_rng2 {da : DA} {PI : List D → List R → Prop} (h : da δ fun rs δ1 => ∃ i j : Int, peekAll rs δ1 = some [.int i, .int j] ∧ (-(2 ^ 62) ≤ i ∧ i < 2 ^ 62 ∧ -(2 ^ 62) ≤ j ∧ j < 2 ^ 62) ∧ PI (rngD i (j - i).toNat) δ1) : diRng2 da δ PI := h
theorem i_rng12 {rs : List R} {x : Int} {B : Int → Prop} (h : B x) (l : -(2 ^ 62) ≤ x ∧ x < 2 ^ 62) (e : peekAll rs δ1 = some [.int x] := by rfl) : ∃ j : Int, peekAll rs δ1 = some [.int j] ∧ (-(2 ^ 62) ≤ j ∧ j < 2 ^ 62) ∧ B j := ⟨_, e, l, h⟩
theorem i_rng22 {rs : List R} {x y : Int} {B : Int → Int → Prop} (h : B x y) (l : -(2 ^ 62) ≤ x ∧ x < 2 ^ 62 ∧ -(2 ^ 62) ≤ y ∧ y < 2 ^ 62) (e : peekAll rs δ1 = some [.int x, .int y] := by rfl) : ∃ i j : Int, peekAll rs δ1 = some [.int i, .int j] ∧ (-(2 ^ 62) ≤ i ∧ i < 2 ^ 62 ∧ -(2 ^ 62) ≤ j ∧ j < 2 ^ 62) ∧ B i j := ⟨_, _, e, l, h⟩
theorem i_comp {di : DI} {g : DG} {vs : List Nat} (h : di δ fun ds δ1 => dLc g t de vs ds [] (wipeD δ1 vs) fun acc δ2 => P (.own (.lst acc)) (backD δ2 δ1 vs)) : dComp di g t de vs δ P := h
theorem i_yes (h : PB true δ) : dYes δ PB := h
end
end DL

namespace DL
open PySem PySem.Spec L2 PyProof.Rows
/-! ### the end of a law, no guard around -/
theorem quiet_caller : Quiet callerA := rfl
/-- the law's call at a heap where at most the script is tracked -/
theorem end_at {P : Program} {w : World} {K : PySem.W.Frag} {mg mb : Str → Option Value} {k : Nat} {fa a : Addr} {fd : FuncData} {x : Str} {sp : Sp} {s1 : Shared} {items : Array Value} {H : Hp}
    (kin : K.In s1.heap) (gl : s1.heap.Ns mainGlobals mg) (bl : s1.heap.Ns builtinsNs mb) (bb : ∀ x : Str, x ≠ "__name__" → mb x = bootBuiltins x) (lim : s1.heap.NoLimit) (gens : s1.gens = #[])
    (ha : s1.heap.get? a = some { cls := .type "list", data := .seq items }) (hr : Room k callerA)
    (F : ∀ base : Heap, K.In base → base.Ns mainGlobals mg → FnG P w K mg base CX0 k fa fd [x] sp) (bind : ∀ (s : Shared) (u : Value), BindsTo s fd ⟨[u], []⟩ [(x, u)])
    (only : Only H) (hok : HOk P w H s1.heap) (one : ∀ b, H b ≠ none → b = a) (noK : H a ≠ none → K.lookup a = none) (hsp : sp [.ref a] H (fun v _ => v = .bl true) fun _ _ _ => False) :
    codeAny (model P w) callerA (.call (.ref fa) ⟨[.ref a], []⟩) (fun r s' => r = .ok (.ret (.bool true)) ∧ OldK s1.heap s'.heap ∧ s'.os = s1.os ∧ AllBare s'.gens) s1 := by
  have back : ∀ {b : Addr} {o : Obj}, s1.heap.get? b = some o → H b = none → (hidT s1.heap H).get? b = some o := hidT_get
  have free : ∀ {b : Addr} {o : Obj} {es : Array DictEntry} {ep : Nat}, s1.heap.get? b = some o → o.data = .dict es ep → H b = none := by
    intro b o es ep e d
    refine Classical.byContradiction fun z => ?_
    obtain rfl := one b z
    rw [ha] at e
    cases e
    cases d
  have ns : ∀ {b : Addr} {m : Str → Option Value}, s1.heap.Ns b m → (hidT s1.heap H).Ns b m := by
    rintro b m ⟨o, es, ep, e, d, r⟩
    exact ⟨o, es, ep, back e (free e d), d, r⟩
  have kb : K.In (hidT s1.heap H) := fun b o e => back (kin b o e) (Classical.byContradiction fun z => by
    obtain rfl := one b z
    rw [noK z] at e
    cases e)
  obtain ⟨mc, l1, l2⟩ := lim
  have e0 : Env0 P w K mg (hidT s1.heap H) callerA [] s1 H :=
    { frames := rfl, mod := ⟨kb, ns gl, ⟨mb, ns bl, bb⟩, mc, ns l1, l2⟩, bs := fun b o e => of_hidT e, bsz := Nat.le_of_eq (hidT_size _ _), funs := trivial, frf := (fun b hb => by cases hb), hok := hok, bare := .of_eq gens }
  refine codeAny_mono ((F _ kb (ns gl)).run callerA [] s1 H ⟨[.ref a], []⟩ [.ref a] [.ref a] _ _ quiet_caller hr e0 (bind s1 (.ref a)) (.cons rfl .nil) hsp) ?_
  intro r s' z
  match r, z with
  | .ok (.ret u), z =>
    obtain ⟨v, H', os, bare, un, hok', r', q⟩ := z
    have q : v = .bl true := q
    subst q
    obtain rfl : u = Value.bool true := r'
    refine ⟨rfl, OldK.of_keep fun b o e => ?_, os, bare⟩
    rcases only b with z | ⟨ob, xs, z⟩
    · exact un.keep b o e z (by intro t; cases t) (by intro t; cases t)
    · have o1 : s1.heap.get? b = some ob := (hok b _ z).1
      have o2 : s'.heap.get? b = some ob := (hok' b _ (un.frzs b ob _ z)).1
      rw [o2, ← o1]; exact e
theorem law_quiet {l : PySem.W.OpenLaw} {n k : Nat} {q : Program} {loose : List Str} {XP : (Str → Option Value) → Heap → Prop} {YP : World → Heap → Prop} {d : DefRec} {x : Str} (hn : l.most = some n) (hn2 : n ≤ sizeLine) (hdf : d.params.defaults = []) (hr : Room k callerA)
    (F : ∀ (w : World) (mg : Str → Option Value) (fa : Addr) (h : Heap), YP w h → h.Ns mainGlobals mg → mg d.name = some (.ref fa) → ∃ (K : PySem.W.Frag) (fd : FuncData) (sp : Sp), K.In h ∧ (∀ (s : Shared) (u : Value), BindsTo s fd ⟨[u], []⟩ [(x, u)]) ∧
      (∀ (H : Hp) (a : Addr) (ns : List Int), ns.length ≤ n → Only H → SqL K H a (ns.map V.int) → sp [.ref a] H (fun v _ => v = .bl true) fun _ _ _ => False) ∧ ∀ base : Heap, K.In base → base.Ns mainGlobals mg → FnG l.prog w K mg base CX0 k fa fd [x] sp) :
    PySem.W.WalkO q loose XP YP l.row.toRowW d [] (fun f vs => PySem.call f vs) := by
  refine Att.attach_call hn hdf fun w s0 s1 mg mb fa o pm cd doc a vs ns G Y ho hd hcd hmg hobj hints hlen hg => ?_
  obtain ⟨K, fd, sp, kin, hb, hsp, hF⟩ := F w mg fa _ Y G.T.g hmg
  have rv := vals_ints hints
  have le : ns.length ≤ sizeLine := Nat.le_trans hlen hn2
  have go := fun H => end_at (H := H) kin G.T.g G.T.b G.T.builtins G.T.nolimit hg hobj hr hF hb
  by_cases hk : K.lookup a = none
  · let ob : Obj := { cls := .type "list", data := .seq vs.toArray }
    have hat : (fun b => if b = a then some (HO.frz ob (.lst (ns.map V.int))) else none : Hp) a = some (.frz ob (.lst (ns.map V.int))) := if_pos rfl
    have ho : ∀ b, (fun b => if b = a then some (HO.frz ob (.lst (ns.map V.int))) else none : Hp) b = none ∨ b = a := fun b => by
      by_cases e : b = a
      · exact .inr e
      · exact .inl (if_neg e)
    have on : Only (fun b => if b = a then some (HO.frz ob (.lst (ns.map V.int))) else none) := fun b => (ho b).imp id fun e => ⟨ob, ns.map V.int, by rw [e]; exact hat⟩
    refine go _ on (fun b u z => ?_) (fun b z => (ho b).resolve_left z) (fun _ => hk) (hsp _ a ns hlen on (.inl (.inr ⟨ob, hat⟩)))
    rcases ho b with e | e
    · have := e.symm.trans z; cases this
    · subst e
      have z' := hat.symm.trans z
      cases z'
      exact ⟨hobj, by rw [List.length_map]; exact le, vs, _, rv, hobj⟩
  · cases hl : K.lookup a with
    | none => exact absurd hl hk
    | some o1 =>
      have e := kin a o1 hl
      rw [hobj] at e
      cases e
      exact go (fun _ => none) (fun _ => .inl rfl) (fun b u z => by cases z) (fun b z => absurd rfl z) (fun z => absurd rfl z)
        (hsp _ a ns hlen (fun _ => .inl rfl) (.inr ⟨_, vs.toArray, _, hl, rfl, rfl, rfl, by rw [List.size_toArray, hints.length]; exact le, by simpa using rv⟩))
end DL

namespace DL
open PySem PySem.Spec L2
/-! ### the law's entry: its bag -/
def spBag (K : PySem.W.Frag) : Sp := fun vs H Q _ => ∃ (a : Addr) (ns : List Int), vs = [.ref a] ∧ SqL K H a (ns.map V.int) ∧ ns.length ≤ 63 ∧ ∀ (p c : Addr) (ms : List Int) (H' : Hp), p ≠ c → H' p = some (.lst [.int 0, .int 1234567891, .int 0, .ref c]) → H' c = some (.lst (ms.map V.int)) → (∀ m ∈ ms, 0 ≤ m) → Q (.ref p) H'
def spLaw (K : PySem.W.Frag) : Sp := fun vs H Q _ => ∃ (a : Addr) (ns : List Int), vs = [.ref a] ∧ SqL K H a (ns.map V.int) ∧ ns.length ≤ 63 ∧ ∀ H', Q (.bl true) H'
def bagStart (N : List Str) : List R := .no :: .bag :: List.replicate (N.length - 2) .no
section
variable {P : Program} {w : World} {K : PySem.W.Frag} {mg : Str → Option Value} {base : Heap}
theorem gt_bagStart {N : List Str} : ∀ {i : Nat}, gt (bagStart N) i ≠ .no → i = 1
  | 0, h => absurd rfl h
  | 1, _ => rfl
  | i + 2, h => absurd (gt_nos _ i fun t ht => by simp at ht; exact ht.2) h
theorem enter_bag {N : List Str} {ds : DS} {D : Ends} {a p c : Addr} {ms : List Int} {H' : Hp} (hN : 2 ≤ N.length) (hpc : p ≠ c) (hp : H' p = some (.lst [.int 0, .int 1234567891, .int 0, .ref c])) (hc : H' c = some (.lst (ms.map V.int))) (hm : ∀ m ∈ ms, 0 ≤ m)
    (hd : ds { nx := fun _ => False, rt := fun r _ => r = .val (.bl true) } (bagStart N)) (hq : ∀ H', D.rt (.bl true) H') : liftS K L0 ds D ((start N [.ref a]).set 1 (some (.ref p))) H' := by
  let G : Hp := fun x => if x = c then H' c else none
  have gc : G c = some (.lst (ms.map V.int)) := (if_pos rfl).trans hc
  have gp : G p = none := if_neg hpc
  refine ⟨⟨some p, H', G, fun _ => none⟩, G, fun _ => none, bagStart N, _, ⟨fun x o e => ?_, Ex.refl G, fun _ _ _ e => e, fun _ _ => rfl, fun b e => ?_, fun b e => ?_, (fun _ _ e => by cases e), ?_, fun i hi => ?_⟩, Lnk.zero, hd, fun _ _ _ _ _ _ _ z => z.elim, fun v σ' H2 G2 W2 δ2 r x I o _ z => ?_, fun _ _ _ _ _ _ _ z => z.elim, fun _ _ _ _ _ _ _ z => z.elim⟩
  · by_cases hx : x = c
    · subst hx
      have e : (if x = x then H' x else none) = some o := e
      rw [if_pos rfl] at e; exact e
    · have e : (if x = c then H' c else none) = some o := e
      rw [if_neg hx] at e; cases e
  · cases e
    show H' p ≠ none
    rw [hp]; simp
  · cases e
    exact ⟨gp, 0, 1234567891, 0, c, ms, hp, gc, by decide, by decide, by decide, by decide, hm⟩
  · unfold bagStart L2.start
    simp
    omega
  · obtain rfl := gt_bagStart hi
    refine ⟨.ref p, ?_, p, rfl, rfl⟩
    have : 1 < (start N [V.ref a]).length := by unfold L2.start; simp; omega
    simp [this]
  · have z : r = .val (.bl true) := z
    subst z
    have o : Den K G2 v (.bl true) := o
    rw [o.of_bl]
    exact hq H2
theorem fn_law {sm st0 : Stmt} {rest : List Stmt} {f : Addr} {fd : FuncData} {N : List Str} {k : Nat} {ds : DS} (F : Fun K "law" "law" sm f fd) (Sc : FnScope N ["_law_script"] (defScope sm)) (hN : 2 ≤ N.length) (hb : defBody sm = st0 :: rest)
    (h : ∀ (cdv : Value) (A : Around) (outer : List Env) (s : Shared) (H : Hp) (E : XK), Quiet A → Room k (A.deeper (PyProof.Rows.envOfC "law" (defScope sm) s.heap.objs.size f cdv)) →
      PS (cxOf CX0 P w K mg base N "law" (defScope sm) f cdv A outer s H E).nox st0 (tAsg (tCall (spBag K) [] E0 (tCons (tVar 0) tNil)) (gName 1)) ∧ PSs (cxOf CX0 P w K mg base N "law" (defScope sm) f cdv A outer s H E).nox rest (liftS K L0 ds))
    (hd : ds { nx := fun _ => False, rt := fun r _ => r = .val (.bl true) } (bagStart N)) : FnG P w K mg base CX0 (k + 1) f fd ["_law_script"] (spLaw K) := by
  obtain ⟨oc, od, kV, doc, pm, an, cdv, ct, osl, rfl, lk, hcd⟩ := F.ex
  refine fn_quiet lk hcd Sc (fun vs H Q E z => ?_) (fun A outer s H vs Q E hq hr z => ?_)
  · obtain ⟨a, ns, rfl, _⟩ := z; rfl
  · obtain ⟨a, ns, rfl, sq, l, q⟩ := z
    obtain ⟨p0, pr⟩ := h cdv A outer s H E hq hr
    have e0 : (L2.start N [V.ref a])[0]? = some (some (.ref a)) := by unfold L2.start; simp
    have rd : tSeq (tAsg (tCall (spBag K) [] E0 (tCons (tVar 0) tNil)) (gName 1)) (liftS K L0 ds) { nx := fun _ H' => Q .non H', rt := Q } (L2.start N [V.ref a]) H :=
      ⟨.ref a, e0, a, ns, rfl, sq, l, fun p c ms H' n1 n2 n3 n4 => enter_bag hN n1 n2 n3 n4 hd q⟩
    exact ⟨_, PSs.nox (by rw [hb]; exact pss_cons p0 pr), rd⟩
end
end DL

namespace DL
open PySem PySem.Spec L2
/-! ### dict(a tuple of pairs) -/
def rDictT (K : PySem.W.Frag) : List V → Hp → VK → Prop := fun xs H Q => ∃ (a : Addr) (ps : List Addr) (kvs : List (Key × V)), xs = [.ref a] ∧ TupP K H a (ps.map V.ref) ∧ Paired (fun p kv => SqT K H p [kV kv.1, kv.2]) ps kvs ∧
  ∀ p, H p = none → Q (.ref p) (upd H p (.dK (mergeK [] kvs)))
section
variable {X : Cx} {K : PySem.W.Frag} {L : Lk} {a b e : Expr} {da db de : DE} {pos : Pos}
theorem call_dictT (hc : X.calm = true) : CallR X (.type "dict") (rDictT X.K) := fun pins s σ H xs us Q I r h => by
  obtain ⟨a, ps, kvs, rfl, hT, hp, q⟩ := h
  obtain ⟨u, rfl, rx⟩ := vals1 r
  cases rx
  obtain ⟨o, ws, n, g, c2, hd, d2, rel, ln⟩ : ∃ (o : Obj) (ws : List Value) (n : Nat), s.heap.get? a = some o ∧ o.cls = .type "tuple" ∧ o.dict = none ∧ o.data = .seq ws.toArray n ∧ Vals (ps.map V.ref) ws ∧ (ps.map V.ref).length ≤ sizeLine := by
    rcases hT with ⟨o, hH, hd⟩ | ⟨o, its, n, e1, e2, e3, e4, e5, e6⟩
    · obtain ⟨g, ln, ws, rel, o2, g2, c2, n, d2⟩ := I.hok a _ hH
      rw [g] at g2
      cases g2
      exact ⟨o, ws, n, g, c2, hd, d2, rel, ln⟩
    · have e := e5.length
      simp only [Array.length_toList] at e
      exact ⟨o, its.toList, n, I.kIn a o e1, e2, e6, by simpa using e3, e5, by omega⟩
  obtain rfl := refs_at rel
  obtain ⟨prs, kv, hl, hpr⟩ := pairs_of I hp
  have lz : ps.length ≤ sizeLine := by rw [List.length_map] at ln; exact ln
  -- the pairs by their values
  have key : ∀ j : Nat, ∃ T : Addr, ∀ q, prs[j]? = some q → ps[j]? = some T := fun j => by
    cases e : prs[j]? with
    | none => exact ⟨0, fun q z => by cases z⟩
    | some q => obtain ⟨b, _, h1, _⟩ := hpr j q e; exact ⟨b, fun _ _ => h1⟩
  have tie : ∃ vps : List (Value × Value), vps.length = prs.length ∧ ∀ (j : Nat) k v, vps[j]? = some (k, v) → ∃ kk, prs[j]? = some (kk, v) ∧ keyIs kk k = true ∧ ∃ T, ps[j]? = some T ∧ PyProof.Rows.IsTup s.heap T #[k, v] := by
    clear key kv
    have gen : ∀ (qs : List (Key × Value)) (ts : List Addr), (∀ (j : Nat) (q : Key × Value), qs[j]? = some q → ∃ (b : Addr) (u : Value), ts[j]? = some b ∧ PyProof.Rows.IsTup s.heap b #[u, q.2] ∧ keyIs q.1 u = true) →
        ∃ vps : List (Value × Value), vps.length = qs.length ∧ ∀ (j : Nat) k v, vps[j]? = some (k, v) → ∃ kk, qs[j]? = some (kk, v) ∧ keyIs kk k = true ∧ ∃ T, ts[j]? = some T ∧ PyProof.Rows.IsTup s.heap T #[k, v] := by
      intro qs
      induction qs with
      | nil => intro ts _; exact ⟨[], rfl, fun j k v z => by simp at z⟩
      | cons q qs ih =>
        intro ts hx
        obtain ⟨b, u, h1, h2, h3⟩ := hx 0 q rfl
        cases ts with
        | nil => simp at h1
        | cons t ts =>
          obtain ⟨vps, l1, l2⟩ := ih ts fun j q' z => by
            obtain ⟨b, u, y1, y2⟩ := hx (j + 1) q' (by simpa using z)
            exact ⟨b, u, by simpa using y1, y2⟩
          refine ⟨(u, q.2) :: vps, by simp [l1], fun j k v z => ?_⟩
          cases j with
          | zero =>
            simp at z
            obtain ⟨rfl, rfl⟩ := z
            exact ⟨q.1, rfl, h3, b, h1, h2⟩
          | succ j =>
            obtain ⟨kk, y1, y2, T, y3, y4⟩ := l2 j k v (by simpa using z)
            exact ⟨kk, by simpa using y1, y2, T, by simpa using y3, y4⟩
    exact gen prs ps hpr
  obtain ⟨vps, vl, vt⟩ := tie
  refine PySem.call_dict_pairs (knd := mixKind X.prog X.w) (kvs := prs) (PySem.PairArg.tuple a (ps.map Value.ref).toArray (fun j => (ps[j]?).getD 0) vps) (I.ok.hd hc) ⟨⟨_, n, g, c2, hd, d2⟩, ?_, ?_⟩ ⟨vl.symm, fun i k v z => ?_⟩ (by rw [vl, hl]; exact lz) fun h' tk hd' kp => ?_
  · simp [vl, hl]
  · intro j k v z
    obtain ⟨kk, y1, y2, T, y3, y4⟩ := vt j k v z
    refine ⟨by simp [y3], .inl ?_⟩
    show PyProof.Rows.IsTup s.heap ((ps[j]?).getD 0) #[k, v]
    rw [y3]; exact y4
  · obtain ⟨kk, y1, y2, _⟩ := vt i k v z
    exact ⟨kk, y1, y2⟩
  · have nm : (s.heap.objs.size == sysModules) = false := beq_eq_false_iff_ne.mpr (Nat.ne_of_gt I.big)
    have sz : (mergeK [] kvs).length ≤ sizeLine := Nat.le_trans (length_mergeK kvs []) (by rw [List.length_nil, Nat.zero_add, kv.length, hl]; exact lz)
    exact ⟨.ref s.heap.objs.size, _, I.laid (t' := tk) (o := .dK (mergeK [] kvs)) (fun b o z => kp b o (by simp) z) (Nat.le_refl _) ⟨sz, nm, merged [] prs, KV.merge kv .nil, hd'⟩, rfl, q _ (I.hok.fresh (Nat.le_refl _))⟩
end
end DL

namespace DL
open PySem PySem.Spec L2
/-! ### dicts over data -/
def valD (kvs : List (Key × D)) (k : Key) : Option D := (kvs.find? fun kv => decide (kv.1 = k)).map (·.2)
def putD (kvs : List (Key × D)) (k : Key) (d : D) : List (Key × D) := if (kvs.any fun kv => decide (kv.1 = k)) = true then kvs.map (fun kv => if kv.1 = k then (kv.1, d) else kv) else kvs ++ [(k, d)]
def mergeD (kvs more : List (Key × D)) : List (Key × D) := more.foldl (fun acc kv => putD acc kv.1 kv.2) kvs
def keyD : D → Option Key
  | .int i => some (.inl i)
  | .str x => some (.inr x)
  | _ => none
def pairsD : List D → Option (List (Key × D))
  | [] => some []
  | .tup [a, d] :: r => match keyD a, pairsD r with
    | some k, some kvs => some ((k, d) :: kvs)
    | _, _ => none
  | _ => none
section
variable {X : Cx} {K : PySem.W.Frag} {L : Lk} {a b e : Expr} {da db de : DE} {pos : Pos} {G H : Hp}
theorem key_of_den {v : V} {d : D} {k : Key} (h : Den K G v d) (e : keyD d = some k) : v = kV k := by
  cases d with
  | int i => cases e; exact h.of_int
  | str x => cases e; exact h.of_str
  | _ => cases e
theorem val_some {kvs : List (Key × V)} {kds : List (Key × D)} (h : DensP K G kvs kds) {k : Key} {d : D} (e : valD kds k = some d) : ∃ v, valV kvs k = some v ∧ Den K G v d := by
  induction kds generalizing kvs with
  | nil => simp [valD] at e
  | cons q r ih =>
    obtain ⟨p, vr, rfl, ⟨h1, h2⟩, h3⟩ := All2.cons_right h
    by_cases z : q.1 = k
    · have : q.2 = d := by simpa [valD, List.find?_cons, z] using e
      subst this
      exact ⟨p.2, valV_pos (h1.trans z), h2⟩
    · have e' : valD r k = some d := by simpa [valD, List.find?_cons, z] using e
      obtain ⟨v, y1, y2⟩ := ih h3 e'
      exact ⟨v, by rw [valV_neg (fun y => z (h1.symm.trans y))]; exact y1, y2⟩
theorem val_isSome {kvs : List (Key × V)} {kds : List (Key × D)} (h : DensP K G kvs kds) (k : Key) : (valV kvs k).isSome = (valD kds k).isSome := by
  induction kds generalizing kvs with
  | nil => rw [All2.nil_right h]; rfl
  | cons q r ih =>
    obtain ⟨p, vr, rfl, ⟨h1, h2⟩, h3⟩ := All2.cons_right h
    by_cases z : q.1 = k
    · rw [valV_pos (h1.trans z)]; simp [valD, List.find?_cons, z]
    · rw [valV_neg (fun y => z (h1.symm.trans y)), ih h3]; simp [valD, List.find?_cons, z]
theorem any_key {kvs : List (Key × V)} {kds : List (Key × D)} (h : DensP K G kvs kds) (k : Key) : (kvs.any fun kv => decide (kv.1 = k)) = (kds.any fun kv => decide (kv.1 = k)) := by
  induction kds generalizing kvs with
  | nil => rw [All2.nil_right h]; rfl
  | cons q r ih =>
    obtain ⟨p, vr, rfl, ⟨h1, h2⟩, h3⟩ := All2.cons_right h
    rw [List.any_cons, List.any_cons, ih h3, h1]
theorem map_key {kvs : List (Key × V)} {kds : List (Key × D)} (h : DensP K G kvs kds) {k : Key} {v : V} {d : D} (e : Den K G v d) : DensP K G (kvs.map fun kv => if kv.1 = k then (kv.1, v) else kv) (kds.map fun kv => if kv.1 = k then (kv.1, d) else kv) := by
  induction kds generalizing kvs with
  | nil => rw [All2.nil_right h]; exact .nil
  | cons q r ih =>
    obtain ⟨p, vr, rfl, ⟨h1, h2⟩, h3⟩ := All2.cons_right h
    refine .cons ?_ (ih h3)
    show (if p.1 = k then (p.1, v) else p).1 = (if q.1 = k then (q.1, d) else q).1 ∧ Den K G (if p.1 = k then (p.1, v) else p).2 (if q.1 = k then (q.1, d) else q).2
    by_cases z : q.1 = k
    · rw [if_pos z, if_pos (h1.trans z)]; exact ⟨h1, e⟩
    · rw [if_neg z, if_neg (fun y => z (h1.symm.trans y))]; exact ⟨h1, h2⟩
theorem put_ok {kvs : List (Key × V)} {kds : List (Key × D)} (h : DensP K G kvs kds) {k : Key} {v : V} {d : D} (e : Den K G v d) : DensP K G (putK kvs k v) (putD kds k d) := by
  unfold putK putD
  rw [any_key h]
  split
  · exact map_key h e
  · exact All2.append h (.cons ⟨rfl, e⟩ .nil)
theorem merge_ok {more : List (Key × V)} {mds : List (Key × D)} (h : DensP K G more mds) : ∀ {kvs : List (Key × V)} {kds : List (Key × D)}, DensP K G kvs kds → DensP K G (mergeK kvs more) (mergeD kds mds) := by
  induction mds generalizing more with
  | nil => intro kvs kds h0; rw [All2.nil_right h]; exact h0
  | cons q r ih =>
    intro kvs kds h0
    obtain ⟨p, vr, rfl, ⟨h1, h2⟩, h3⟩ := All2.cons_right h
    have := ih h3 (put_ok (k := q.1) h0 h2)
    unfold mergeK mergeD at this ⊢
    rw [List.foldl_cons, List.foldl_cons, h1]; exact this
/-- y in d -/
def cDin (neg : Bool) : D → D → Bool → Prop := fun d1 d2 b => ∃ k kvs, keyD d1 = some k ∧ d2 = .dic kvs ∧ b = (if neg then !(valD kvs k).isSome else (valD kvs k).isSome)
theorem de_din (hu : X.A.units + 1 < cLine) (ha : PE X a (lift X.K L da)) (hb : PE X b (lift X.K L db)) (hm : behindInMarks .In b = false := by rfl) : PE X (.Compare a [.In] [b] pos) (lift X.K L (dCmp (cDin false) da db)) :=
  PE.weak (pe_cmp (pc_din hu ha hb) hm) <| lift_of fun C σ H G W δ P Q I lk h k => lift_two I lk h fun r1 r2 δ2 x y H2 G2 W2 h2 x2 I2 o1 o2 => by
    obtain ⟨d1, d2, b, e1, e2, ⟨kk, kvs, f1, rfl, rfl⟩, hp⟩ := h2
    rw [← peek_pub] at e1 e2
    have k1 := key_of_den ((I2.peekOk o1 e1).den I2.gh) f1
    obtain ⟨p, vs, rfl, hr, dn⟩ := (I2.peekOk o2 e2).dic I2.gh
    refine ⟨p, valV vs kk, rfl, .inl ⟨vs, kk, hr, k1, rfl⟩, ?_⟩
    rw [val_isSome dn]
    exact k _ δ2 _ H2 G2 W2 hp x2 I2 (.bl _)
theorem de_dnotin (hu : X.A.units + 1 < cLine) (ha : PE X a (lift X.K L da)) (hb : PE X b (lift X.K L db)) (hm : behindInMarks .NotIn b = false := by rfl) : PE X (.Compare a [.NotIn] [b] pos) (lift X.K L (dCmp (cDin true) da db)) :=
  PE.weak (pe_cmp (pc_dnotin hu ha hb) hm) <| lift_of fun C σ H G W δ P Q I lk h k => lift_two I lk h fun r1 r2 δ2 x y H2 G2 W2 h2 x2 I2 o1 o2 => by
    obtain ⟨d1, d2, b, e1, e2, ⟨kk, kvs, f1, rfl, rfl⟩, hp⟩ := h2
    rw [← peek_pub] at e1 e2
    have k1 := key_of_den ((I2.peekOk o1 e1).den I2.gh) f1
    obtain ⟨p, vs, rfl, hr, dn⟩ := (I2.peekOk o2 e2).dic I2.gh
    refine ⟨p, valV vs kk, rfl, .inl ⟨vs, kk, hr, k1, rfl⟩, ?_⟩
    rw [val_isSome dn]
    exact k _ δ2 _ H2 G2 W2 hp x2 I2 (.bl _)
theorem lift_tB {t : TE} {de : DE} (w : ∀ σ H Q, lift K L de σ H Q → t σ H Q) : ∀ σ H Q, liftT K L (dTst de) σ H Q → tB t σ H Q := liftT_of fun C σ H G W δ P Q I lk h k =>
  w σ H _ ⟨C, G, W, δ, _, I, lk, h, fun r δ1 v H1 G1 W1 h1 x1 I1 o1 => by
    obtain ⟨b, e, hp⟩ := h1
    have := ((I1.peekOk o1 e).den I1.gh).of_bl
    exact ⟨b, this, k b δ1 H1 G1 W1 hp x1 I1⟩⟩
theorem lift_din : ∀ σ H Q, lift K L (dCmp (cDin false) da db) σ H Q → tDIn (lift K L da) (lift K L db) σ H Q :=
  lift_of fun C σ H G W δ P Q I lk h k => lift_two I lk h fun r1 r2 δ2 x y H2 G2 W2 h2 x2 I2 o1 o2 => by
    obtain ⟨d1, d2, b, e1, e2, ⟨kk, kvs, f1, rfl, rfl⟩, hp⟩ := h2
    rw [← peek_pub] at e1 e2
    have k1 := key_of_den ((I2.peekOk o1 e1).den I2.gh) f1
    obtain ⟨p, vs, rfl, hr, dn⟩ := (I2.peekOk o2 e2).dic I2.gh
    refine ⟨p, valV vs kk, rfl, .inl ⟨vs, kk, hr, k1, rfl⟩, ?_⟩
    rw [val_isSome dn]
    exact k _ δ2 _ H2 G2 W2 hp x2 I2 (.bl _)
theorem lift_dnotin : ∀ σ H Q, lift K L (dCmp (cDin true) da db) σ H Q → tDNotIn (lift K L da) (lift K L db) σ H Q :=
  lift_of fun C σ H G W δ P Q I lk h k => lift_two I lk h fun r1 r2 δ2 x y H2 G2 W2 h2 x2 I2 o1 o2 => by
    obtain ⟨d1, d2, b, e1, e2, ⟨kk, kvs, f1, rfl, rfl⟩, hp⟩ := h2
    rw [← peek_pub] at e1 e2
    have k1 := key_of_den ((I2.peekOk o1 e1).den I2.gh) f1
    obtain ⟨p, vs, rfl, hr, dn⟩ := (I2.peekOk o2 e2).dic I2.gh
    refine ⟨p, valV vs kk, rfl, .inl ⟨vs, kk, hr, k1, rfl⟩, ?_⟩
    rw [val_isSome dn]
    exact k _ δ2 _ H2 G2 W2 hp x2 I2 (.bl _)
theorem dt_din (hu : X.A.units + 1 < cLine) (ha : PE X a (lift X.K L da)) (hb : PE X b (lift X.K L db)) (hm : behindInMarks .In b = false := by rfl) : PT X (.Compare a [.In] [b] pos) (liftT X.K L (dTst (dCmp (cDin false) da db))) :=
  PT.weak (pt_cmp (pc_din hu ha hb) hm) (lift_tB lift_din)
theorem dt_dnotin (hu : X.A.units + 1 < cLine) (ha : PE X a (lift X.K L da)) (hb : PE X b (lift X.K L db)) (hm : behindInMarks .NotIn b = false := by rfl) : PT X (.Compare a [.NotIn] [b] pos) (liftT X.K L (dTst (dCmp (cDin true) da db))) :=
  PT.weak (pt_cmp (pc_dnotin hu ha hb) hm) (lift_tB lift_dnotin)
/-- d[y] -/
def dDix (da db : DE) : DE := fun δ P => da δ fun r1 δ1 => db δ1 fun r2 δ2 => ∃ kvs dk k d, peek r1 δ2 = some (.dic kvs) ∧ peek r2 δ2 = some dk ∧ keyD dk = some k ∧ valD kvs k = some d ∧ P (.val d) δ2
theorem de_dix (hu : X.A.units + 1 < cLine) (ha : PE X a (lift X.K L da)) (hb : PE X b (lift X.K L db)) (hs : NoSl b := by exact fun _ _ => rfl) : PE X (.Subscript a b pos) (lift X.K L (dDix da db)) :=
  PE.weak (pe_dget hu ha hb hs) <| lift_of fun C σ H G W δ P Q I lk h k => lift_two I lk h fun r1 r2 δ2 x y H2 G2 W2 h2 x2 I2 o1 o2 => by
    obtain ⟨kvs, dk, kk, d, e1, e2, f1, f2, hp⟩ := h2
    rw [← peek_pub] at e1 e2
    have k1 := key_of_den ((I2.peekOk o2 e2).den I2.gh) f1
    obtain ⟨p, vs, rfl, hr, dn⟩ := (I2.peekOk o1 e1).dic I2.gh
    obtain ⟨v, y1, y2⟩ := val_some dn f2
    exact ⟨p, v, rfl, .inl ⟨vs, kk, hr, k1, y1.symm⟩, k _ δ2 v H2 G2 W2 hp x2 I2 y2⟩
/-- dict(t) -/
def bDict : List D → (R → Prop) → Prop
  | [.tup ps], P => ∃ kvs, pairsD ps = some kvs ∧ P (.own (.dic (mergeD [] kvs)))
  | _, _ => False
theorem pairs_ok (x : Ex G H) : ∀ {ps : List D} {vs : List V} {kds : List (Key × D)}, Dens K G vs ps → pairsD ps = some kds → ∃ (as : List Addr) (kvs : List (Key × V)), vs = as.map V.ref ∧ Paired (fun p kv => SqT K H p [kV kv.1, kv.2]) as kvs ∧ DensP K G kvs kds
  | [], vs, kds, h, e => by cases e; rw [h.nil_right]; exact ⟨[], [], rfl, .nil, .nil⟩
  | q :: r, vs, kds, h, e => by
    obtain ⟨v, vr, rfl, h1, h2⟩ := All2.cons_right h
    unfold pairsD at e
    split at e
    · rename_i hh; cases hh
    · rename_i z1 a d z2 hh
      injection hh with hq hr'
      subst hq; subst hr'
      split at e
      · rename_i k kvs' e1 e2
        cases e
        obtain ⟨as, kvs, rfl, y2, y3⟩ := pairs_ok x h2 e2
        obtain ⟨p, us, rfl, t1, t2⟩ := h1.of_tup
        obtain ⟨u1, u2, rfl, t3, t4⟩ := two_of t2
        have := key_of_den t3 e1
        subst this
        exact ⟨p :: as, (k, u2) :: kvs, rfl, .cons (ex_t x t1) y2, .cons ⟨rfl, t4⟩ y3⟩
      · cases e
    · cases e
theorem cl_dict : CallLook K (rDictT K) bDict := fun C σ H G W δ vs ds P Q I a hg k => by
  match ds, hg with
  | [.tup xs], hg =>
    obtain ⟨kds, e, hp⟩ := hg
    obtain ⟨v, rfl, s⟩ := one_of a
    have s : Den K G v (.tup xs) := by
      rcases s with s | ⟨p, _, z⟩
      · exact s
      · exact z.elim
    cases s with
    | tup h l e' =>
      obtain ⟨as, kvs, rfl, y2, y3⟩ := pairs_ok I.gh ⟨l, e'⟩ e
      refine ⟨_, as, kvs, rfl, h.mono I.gh, y2, fun t ht => ?_⟩
      have m := I.fresh ht
      exact k _ _ _ _ _ hp (Ex.refl G) (I.lay ht) ⟨t, rfl, m, if_pos rfl, _, upd_same, merge_ok y3 .nil⟩
end
end DL

namespace DL
open PySem PySem.Spec L2
open Sem (wp)
/-! ### enumerate(v), v a list or a tuple -/
set_option maxHeartbeats 1000000 in
theorem meets_enum1 {v : Value} {o : Obj} {Hh : Heap → Prop} (B : Begins v o Hh) :
    Meets (Builtin.«enumerate.__new__» ⟨[.type "enumerate", v], []⟩) (fun _ R s => Hh s.heap ∧
      R (.ok (.ret (.ref (s.heap.push o).objs.size))) { s with heap := (s.heap.push o).push { cls := .type "enumerate", data := .fields #[.none, .bool false, .ref s.heap.objs.size, rawInt 0, .none, .none] } }) :=
  .of_wp fun prog w A R s h => by
    obtain ⟨hp, g, d, tk, os⟩ := s; obtain ⟨h1, h⟩ := h
    have hsub := sub_enumerate
    have q1 : ∀ {A' : Around} {E : Value → Shared → Prop} {Q : Value → Shared → Prop}, Q (.ref hp.objs.size) ⟨hp.push o, g, d, tk, os⟩ → wpAny (model prog w) A' (pyIter v) Q E ⟨hp, g, d, tk, os⟩ :=
      fun q => B.iter prog w _ _ ⟨hp, g, d, tk, os⟩ _ h1 q
    wp_walk using q1
    refine wpAny_stack_any fun st => wpAny_pure ?_
    split
    · rename_i c _ _ _ _ _
      cases (c == Value.type "enumerate")
      · wp_walk using q1
        exact ⟨_, rfl, h⟩
      · wp_walk using q1
        exact ⟨_, rfl, h⟩
    · wp_walk using q1
      exact ⟨_, rfl, h⟩
theorem call_enum1 {prog : Program} {w : World} {A : Around} {E : Value → Shared → Prop} {s : Shared} {v : Value} {o : Obj} {Hh : Heap → Prop} {Q : Value → Shared → Prop} (B : Begins v o Hh) (h1 : Hh s.heap)
    (h : ∀ h', IsEnum h' (s.heap.objs.size + 1) s.heap.objs.size 0 .none → h'.get? s.heap.objs.size = some o → h'.objs.size = s.heap.objs.size + 2 →
      (∀ b o, s.heap.get? b = some o → h'.get? b = some o) → Q (.ref (s.heap.objs.size + 1)) { s with heap := h' }) : wpAny (model prog w) A (call (.type "enumerate") [v]) Q E s := by
  refine callType_new F.called_enumerate (by decide) (F.typeCall_enumerate_1 _) (F.newCall_enumerate_1 _) (fun obj => F.args_object_init_2 obj _) F.entry_enumerate_new (meets_enum1 B) ⟨h1, ?_⟩
  have hz : (s.heap.push o).objs.size = s.heap.objs.size + 1 := Heap.size_push ..
  show _ ∧ _
  rw [hz]
  have he : IsEnum ((s.heap.push o).push { cls := .type "enumerate", data := .fields #[.none, .bool false, .ref s.heap.objs.size, rawInt 0, .none, .none] }) (s.heap.objs.size + 1) s.heap.objs.size 0 .none := by
    have := Heap.get?_push_size (s.heap.push o) (o := { cls := .type "enumerate", data := .fields #[.none, .bool false, .ref s.heap.objs.size, rawInt 0, .none, .none] }) rfl
    rw [hz] at this; exact this
  exact ⟨⟨_, he, rfl⟩, h _ he (Heap.get?_push_of_some _ (Heap.get?_push_size _ B.free)) (by rw [Heap.size_push, hz]) fun b o x => Heap.get?_push_of_some _ (Heap.get?_push_of_some _ x)⟩
/-- the tuple at a, each item in a new plain pair -/
def Itp (K : PySem.W.Frag) (a : Addr) : It :=
  ⟨fun i H => ∃ (xs : List V) (x : V), SqT K H a xs ∧ xs[i]? = some x, fun i H v H' => ∃ T x its, v = .ref T ∧ H T = none ∧ H' = upd H T (.frz (tupObj its) (.tup [.int (i : Nat), x])) ∧ ∀ xs, SqT K H a xs → xs[i]? = some x, fun i H => ∃ xs : List V, SqT K H a xs ∧ xs.length = i⟩
theorem turn_enumT {P : Program} {w : World} {K : PySem.W.Frag} {elts : List Expr} {kk : Nat} {tpos : Pos} (a e it : Addr) (ae : a ≠ e) (ai : a ≠ it) (ei : e ≠ it) :
    Turn P w K (.Tuple elts kk tpos) (Itp K a) [e, it] e (fun i h => (∃ old, IsEnum h e it ((i : Nat) : Int) old) ∧ h.IsTupleIter it a i) where
  mem := by simp
  obj := fun i h st b hb => by
    obtain ⟨⟨old, he⟩, ⟨o, ho, hc, hd⟩⟩ := st
    have e' : b = e ∨ b = it := by simpa using hb
    rcases e' with z | z
    · rw [z]; exact ⟨_, he, fun v q => nomatch q⟩
    · rw [z]; exact ⟨o, ho, fun v q => by rw [hd] at q; cases q⟩
  keep := fun i h h' st k => let ⟨⟨old, he⟩, hi⟩ := st; ⟨⟨old, k e (by simp) _ he⟩, hi.at fun o q => k it (by simp) o q⟩
  item := by
    intro X hP hw hK hc i pins s σ H E I hf st hg
    subst hP hw hK
    obtain ⟨⟨old, he⟩, hit⟩ := st
    obtain ⟨xs, x, hq, hx⟩ := hg
    obtain ⟨its, rv, p, hz⟩ := I.tuple hq
    obtain ⟨u, hu, ru⟩ := rv.get hx
    have hel : e < s.heap.objs.size := Heap.lt_size he
    have hil : it < s.heap.objs.size := by obtain ⟨_, q, _⟩ := hit; exact Heap.lt_size q
    have hlt : i < its.toArray.size := by
      have := (List.getElem?_eq_some_iff.mp hu).1
      simpa using this
    refine wpAny_pyNext_enum_itemD (Draws.tuple (A := X.A.in1) (I.ok.hd hc) it a ai its.toArray) he ⟨hit, p⟩ hlt ei (by simp [ei, Ne.symm ae]) fun y h' tk hy ho hs' hT hsz hk => ?_
    have ey : y = u := by
      have hy : its.toArray[i]? = some y := hy
      rw [List.getElem?_toArray, hu] at hy
      exact (Option.some.inj hy).symm
    subst ey
    refine ⟨_, rfl, wpAny_letOwnedTupleGo_enum (s := { s with heap := h', toks := tk + 1 }) ho fun h'' he' sb => ?_⟩
    have hT2 : h''.get? s.heap.objs.size = some (tupObj [.int i tk, y]) := (sb.2 _ (Nat.ne_of_gt hel)).trans hT
    have new : ObjOk X.prog X.w (upd H s.heap.objs.size (.frz (tupObj [.int i tk, y]) (.tup [.int (i : Nat), x]))) h'' s.heap.objs.size (.frz (tupObj [.int i tk, y]) (.tup [.int (i : Nat), x])) :=
      ⟨hT2, by show 2 ≤ sizeLine; decide, [.int i tk, y], .cons ⟨_, rfl⟩ (.cons ru .nil), ⟨_, hT2, rfl, _, rfl⟩⟩
    have I1 : Inv X pins σ (upd H s.heap.objs.size (.frz (tupObj [.int i tk, y]) (.tup [.int (i : Nat), x]))) { s with heap := h'', toks := tk + 1 } :=
      I.turnedNew (ch := [e, it]) (fun b ob hb q => (sb.2 b (fun z => hb (by simp [z]))).trans (hk b ob (fun z => hb (by simp [z])) (fun z => hb (by simp [z])) q)) hf (Nat.le_refl _) new
    refine ⟨.ref s.heap.objs.size, _, I1, rfl, ⟨_, x, _, rfl, I.hok.fresh (Nat.le_refl _), rfl, fun ys hy => by rw [I.tuple_inj hy hq]; exact hx⟩, ⟨⟨y, ?_⟩, hs'.1.at fun o q => (sb.2 it (Ne.symm ei)).trans q⟩, fun b hb => ?_⟩
    · have e1 : ((i + 1 : Nat) : Int) = (i : Int) + 1 := by omega
      rw [e1]; exact he'
    · have hb' : b < s.heap.objs.size := by
        have e' : b = e ∨ b = it := by simpa using hb
        rcases e' with z | z
        · rw [z]; exact hel
        · rw [z]; exact hil
      rw [upd_ne (Nat.ne_of_lt hb')]
      exact (hf b hb).1
  done := by
    intro X hP hw hK hc i pins s σ H E I hf st hg
    subst hP hw hK
    obtain ⟨⟨old, he⟩, hit⟩ := st
    obtain ⟨xs, hq, hx⟩ := hg
    obtain ⟨its, rv, p, hz⟩ := I.tuple hq
    obtain ⟨f0, f1, f2, f3, f4, f5⟩ := hf it (by simp)
    have hl := rv.length
    have hi : i = its.toArray.size := by rw [List.size_toArray]; omega
    subst hi
    exact wpAny_pyNext_enum_endD (Draws.tuple (A := X.A.in1) (I.ok.hd hc) it a ai its.toArray) he ⟨hit, p⟩ fun h' eb => ⟨rfl, I.turned (t' := s.toks) (fun b o hb q => eb b o hb q) f0 f1 f3 f4 f5⟩
  self := fun A i s Q E st h => let ⟨⟨_, he⟩, _⟩ := st; wpAny_pyIter_enum he h
def iEnumT (K : PySem.W.Frag) (ta : TA) : TI := fun σ H R => ta σ H fun vs H1 => ∃ a xs, vs = [.ref a] ∧ SqT K H1 a xs ∧ R (Itp K a) H1
theorem pi_enumT {X : Cx} {e : Expr} {ta : TA} {p pos tpos : Pos} {elts : List Expr} {kk : Nat} (hg : Gl X "enumerate") (hm : X.mg "enumerate" = none) (ha : PA X [e] ta) (hs : starEach [e] X.env = [(false, eval e X.env)] := by rfl) :
    PI X (.Tuple elts kk tpos) (.Call (.Name "enumerate" p) [e] [] pos) (iEnumT X.K ta) := by
  refine ⟨fun pins s σ H R I h => ?_⟩
  refine PyProof.Rows.Call_ (ld_blt I hg hm PyProof.Rows.boot_enumerate (PyProof.Rows.callWith_type1 (thn (ha.run pos pins s σ H _ I h) fun us s1 ⟨vs, H1, I1, r1, q1⟩ => ?_) hs rfl))
  obtain ⟨a, xs, ex, hq, q⟩ := q1
  subst ex
  cases r1 with
  | cons r rr =>
    cases rr
    cases r
    obtain ⟨its, rv, p', hz⟩ := I1.tuple hq
    have hal : a < s1.heap.objs.size := by obtain ⟨o, z, _⟩ := id p'; exact Heap.lt_size z
    refine call_enum1 (begins_tuple a its.toArray) p' fun h' he hit hsz hk => wpAny_pyIter_enum he ?_
    have I2 : Inv X pins σ H1 { s1 with heap := h' } := I1.kept (t' := s1.toks) hk
    refine ⟨s1.heap.objs.size + 1, [s1.heap.objs.size + 1, s1.heap.objs.size], _, _, H1, rfl, I2, turn_enumT a (s1.heap.objs.size + 1) s1.heap.objs.size (Nat.ne_of_lt (Nat.lt_succ_of_lt hal)) (Nat.ne_of_lt hal) (Nat.succ_ne_self _), ⟨⟨.none, he⟩, ⟨_, hit, rfl, rfl⟩⟩, fun b hb => ?_, q⟩
    have e' : b = s1.heap.objs.size + 1 ∨ b = s1.heap.objs.size := by simpa using hb
    have hle : s1.heap.objs.size ≤ b := by
      rcases e' with z | z
      · rw [z]; exact Nat.le_add_right _ _
      · rw [z]; exact Nat.le_refl _
    exact I1.fpOk hle (I1.hok.fresh hle)
def enumD : Nat → List D → List D
  | _, [] => []
  | n, d :: ds => .tup [.int (n : Int), d] :: enumD (n + 1) ds
theorem enumD_len : ∀ (n : Nat) (ds : List D), (enumD n ds).length = ds.length
  | _, [] => rfl
  | n, d :: ds => by simp only [enumD, List.length_cons]; rw [enumD_len]
theorem enumD_get : ∀ {n : Nat} {ds : List D} {i : Nat} {d : D}, (enumD n ds)[i]? = some d → ∃ d', ds[i]? = some d' ∧ d = .tup [.int ((n + i : Nat) : Int), d']
  | _, [], i, d, h => by simp [enumD] at h
  | n, x :: ds, 0, d, h => by
    simp [enumD] at h
    exact ⟨x, rfl, by simpa using h.symm⟩
  | n, x :: ds, i + 1, d, h => by
    obtain ⟨d', h1, h2⟩ := enumD_get (n := n + 1) (ds := ds) (i := i) (d := d) (by simpa [enumD] using h)
    refine ⟨d', by simpa using h1, ?_⟩
    rw [h2, show n + 1 + i = n + (i + 1) by omega]
section
variable {X : Cx} {K : PySem.W.Frag} {L : Lk} {a b e : Expr} {da : DA} {pos p tpos : Pos}
theorem jok_enum {C : Ct} {G : Hp} {a : Addr} {vs : List V} {ds : List D} (h : SqT K G a vs) (e : Dens K G vs ds) : JOk K C G (Itp K a) (enumD 0 ds) where
  go := fun i σ H G' W δ hi x I => by
    have hv : i < vs.length := by rw [e.1]; rwa [enumD_len] at hi
    exact ⟨vs, vs[i], ex_t I.gh (ex_t x h), by simp [hv]⟩
  stop := fun σ H G' W δ x I => ⟨vs, ex_t I.gh (ex_t x h), by rw [e.1, enumD_len]⟩
  yld := fun i d σ H G' W δ v H' hd x I y => by
    obtain ⟨T, u, its, rfl, hT, rfl, y⟩ := y
    obtain ⟨d', h1, rfl⟩ := enumD_get hd
    have hv := y vs (ex_t I.gh (ex_t x h))
    rw [Nat.zero_add]
    obtain ⟨I', dn⟩ := I.newTup (its := its) (vs := [.int (i : Nat), u]) (ds := [.int ((i : Nat) : Int), d']) hT (.cons (.int _) (.cons ((e.2 i u d' hv h1).mono x) .nil))
    exact ⟨_, _, Ex.new (I.fresh hT).1, I', dn⟩
def diEnum (da : DA) : DI := fun δ P => da δ fun rs δ1 => ∃ ds δ2, useAll rs δ1 = some ([.val (.tup ds)], δ2) ∧ P (enumD 0 ds) δ2
theorem di_enum {elts : List Expr} {kk : Nat} (hg : Gl X "enumerate") (hm : X.mg "enumerate" = none) (ha : PA X [e] (liftA X.K L da)) (hs : starEach [e] X.env = [(false, eval e X.env)] := by rfl) : PI X (.Tuple elts kk tpos) (.Call (.Name "enumerate" p) [e] [] pos) (liftI X.K L (diEnum da)) :=
  PI.weak (pi_enumT hg hm ha hs) <| liftI_of fun C σ H G W δ P Q I lk h k => ⟨C, G, W, δ, _, I, lk, h, fun rs δ1 vs H1 G1 W1 h1 x1 I1 o1 => by
    obtain ⟨ds, δ2, e1, hp⟩ := h1
    obtain ⟨G2, x2, I2, o2⟩ := I1.useAllOk o1 e1
    obtain ⟨v, r, rfl, z1, z2⟩ := o2.cons_right
    rw [z2.nil_right]
    obtain ⟨a, us, rfl, hs, hd⟩ := Den.of_tup (show Den X.K G2 v (.tup ds) from z1.1)
    exact ⟨a, us, rfl, ex_t I2.gh hs, k _ δ2 _ H1 G2 W1 hp (x1.trans x2) I2 fun C' _ => jok_enum hs hd⟩⟩
end
end DL

set_option maxHeartbeats 1000000
namespace DL
open PySem PySem.Spec L2
/-! ### try .. except C as n: .. , then clauses that are never asked -/
/-- an exception of the body is of the class c (or one beneath it), and the suite does for it -/
def w1st (K : PySem.W.Frag) (c : Value) (i : Nat) (ts : Addr → Value → Option Addr → TS) (D : Ends) : WX := fun cls d σ H => PySem.W.exmOne K cls c = some true ∧
  ∀ a, H a = none → ts a cls d ⟨fun σ1 H1 => D.nx (σ1.set i none) H1, D.rt, fun σ1 H1 => D.bk (σ1.set i none) H1, fun σ1 H1 => D.ct (σ1.set i none) H1⟩ (σ.set i (some (.ref a))) H
section
variable {X : Cx} {x n : Str} {c : Value} {i : Nat} {body sf : List Stmt} {b1 : Stmt} {np pos pos' : Pos} {hds : List ExceptHandler} {tb : WX → TS} {ts : Addr → Value → Option Addr → TS}
theorem off_frames {B h : Heap} {l : List Env} {a : Addr} {o : Obj} {vs : Array Value} (ff : h.FunFrames B l) (e : h.get? a = some o) (dd : o.data = .fields vs) : a ∉ frs l := by
  intro m
  obtain ⟨_, u, e1, nf⟩ := ff.mem m
  rw [e] at e1
  cases e1
  exact nf _ dd
theorem ps_try1 (hs : X.stack = X.env :: X.outer) (hf : X.env.frame = some X.env.locals) (nd : X.N.Nodup) (hi : X.N[i]? = some n) (hl : X.env.kindOf n = some .local) (hc : Names X x c)
    (hb : ∀ (W : WX) (pn : List (Addr × Obj)) (xe : Value → Shared → Prop), Takes (X.tr pn xe) W → PassesOwn (model X.prog X.w) X.A X.env xe → PSs (X.tr pn xe) body (tb W))
    (hu : ∀ (a : Addr) (oe : Obj) (cls : Value) (d : Option Addr) (pn : List (Addr × Obj)), Zc cls d oe → (∃ vs, oe.data = .fields vs) → PSs (X.suite a ((a, oe) :: pn)) (b1 :: sf) (ts a cls d)) :
    PS X (.Try body (.ExceptHandler (some (.Name x np)) (some n) (b1 :: sf) pos' :: hds) [] [] pos) (fun D σ H => tb (w1st X.K c i ts D) D σ H) := by
  constructor
  intro pins s σ H D I h
  have fr : X.A.frames = some (X.env :: X.outer) := by rw [I.ok.frames, hs]
  refine wpAny_Try_except (wpAny_mono ((hb (w1st X.K c i ts D) (X.pn ++ pins) _ ?caught PassesOwn.looking).run [] s σ H D (I.toTry _) h) (fun f s1 z => ?done) fun _ _ z => z)
  case done =>
    cases f with
    | next => obtain ⟨σ1, H1, J, q⟩ := z; exact wpAny_execs_nil ⟨σ1, H1, J.ofTry I.ok, q⟩
    | brk => obtain ⟨σ1, H1, J, q⟩ := z; exact ⟨σ1, H1, J.ofTry I.ok, q⟩
    | cont => obtain ⟨σ1, H1, J, q⟩ := z; exact ⟨σ1, H1, J.ofTry I.ok, q⟩
    | ret u => obtain ⟨v, σ1, H1, J, r, q⟩ := z; exact ⟨v, σ1, H1, J.ofTry I.ok, r, q⟩
  case caught =>
    rintro u s1 ⟨a, B, sI, pins1, σ1, H1, cls, d, rfl, J0, nb, up, sky, na, os, ag, hx, hy⟩
    have J := J0.ofTry I.ok
    rw [show (X.tr (X.pn ++ pins) _).stack = X.env :: X.outer from hs] at sky
    refine Sky.land Zc.steady fr hf sky fun h3 fl up3 => ?_
    obtain ⟨oe, vs, he, hz, hd⟩ := fl.there
    have off := off_frames fl.2.2.1 he hd
    have aL : a ≠ X.env.locals := fun z => off (List.mem_filterMap.mpr ⟨X.env, List.mem_cons_self, by rw [hf, z]⟩)
    have aF : a ∉ X.fs := fun m => by
      obtain ⟨e, e1, e2⟩ := List.mem_filterMap.mp m
      exact off (List.mem_filterMap.mpr ⟨e, List.mem_cons_of_mem _ e1, e2⟩)
    have J3 : Inv X pins σ1 H1 ⟨h3, s1.gens, s1.drawn, s1.toks, s1.os⟩ := J.landed nb fl.1 (up.trans up3) os ag
    have S3 := J3.suite he hd na aL aF
    refine wpAny_handleBy_cons (codeAny_handlers_test ?_) (by intro q; cases q)
    have asked : ∀ {Q : Value → Shared → Prop} {E : Value → Shared → Prop}, Q c { s1 with heap := h3 } → wpAny (model X.prog X.w) (X.A.mark (some (.ref a))) (eval (.Name x np) X.env) Q E { s1 with heap := h3 } := fun {Q E} q => by
      obtain ⟨hg, hn, hm | ⟨hm, hv, hw⟩⟩ := hc
      · exact ld_glob (X := X.suite a ((a, oe) :: (X.pn ++ pins))) S3 hg hm q hn
      · exact ld_blt (X := X.suite a ((a, oe) :: (X.pn ++ pins))) S3 hg hm hv q hw hn
    have look : PySem.W.Looks (model X.prog X.w) h3 (typeOf (.ref a)) cls := fun A Q E s k q => wpAny_typeOf_ref (k _ _ he) (by rw [hz.1]; exact q)
    refine asked ((PySem.W.exm_one (M := model X.prog X.w) J3.kIn look hx).here ?_)
    refine codeAny_handlers_suite_as (HandSPX.lands_againZ fl fun h4 fl4 up4 => ?_)
    obtain ⟨oe4, vs4, he4, hz4, hd4⟩ := fl4.there
    have J4 : Inv X pins σ1 H1 ⟨h4, s1.gens, s1.drawn, s1.toks, s1.os⟩ := J.landed nb fl4.1 ((up.trans up3).trans up4) os ag
    have S4 := J4.suite he4 hd4 na aL aF
    refine store_ok (X := X.suite a ((a, oe4) :: (X.pn ++ pins))) (v := .ref a) S4 nd hi (.inl hl) rfl (fun s5 S5 => ?_) (.inr hl)
    refine wpAny_mono ((hu a oe4 cls d (X.pn ++ pins) hz4 ⟨_, hd4⟩).run [] s5 _ H1 _ S5 (hy a na)) (fun f s6 z => ?_) fun _ _ z => z.elim
    have clean : ∀ {σ6 : St} {H6 : Hp} {Q : Shared → Prop}, Inv (X.suite a ((a, oe4) :: (X.pn ++ pins))) [] σ6 H6 s6 → (∀ s7, Inv X pins (σ6.set i none) H6 s7 → Q s7) → wpAny (model X.prog X.w) X.A (do bindName X.env n .none; unbindBehindTheSuite X.env n pos') (fun _ s7 => Q s7) X.xe s6 :=
      fun S6 q => gone_ok (S6.unsuite I.ok) nd hi hl q
    cases f with
    | next => obtain ⟨σ6, H6, S6, q⟩ := z; exact clean S6 fun s7 J7 => ⟨_, _, J7, q⟩
    | brk => obtain ⟨σ6, H6, S6, q⟩ := z; exact clean S6 fun s7 J7 => ⟨_, _, J7, q⟩
    | cont => obtain ⟨σ6, H6, S6, q⟩ := z; exact clean S6 fun s7 J7 => ⟨_, _, J7, q⟩
    | ret u => obtain ⟨v6, σ6, H6, S6, r6, q⟩ := z; exact clean S6 fun s7 J7 => ⟨_, _, _, J7, r6, q⟩
end
end DL

set_option maxHeartbeats 1000000
namespace DL
open PySem PySem.Spec L2
section
variable {K : PySem.W.Frag} {C : Ct} {σ : St} {H G : Hp} {W : Ow} {δ : List R}
/-- a slot is emptied -/
theorem SI.clear (I : SI K C σ H G W δ) (i : Nat) : SI K C (σ.set i none) H G W (st δ i .no) := by
  refine ⟨I.gh, I.g0, I.hh, I.gz, I.b0, I.bag, I.tm, by rw [st_len, List.length_set]; exact I.ln, fun j hj => ?_⟩
  by_cases e : i = j
  · subst e
    rcases gt_st_same δ i .no with z | z <;> exact absurd z hj
  · rw [gt_st_ne δ i j .no e] at hj ⊢
    obtain ⟨w, h1, h2⟩ := I.sl j hj
    refine ⟨w, by rw [List.getElem?_set_ne e]; exact h1, ?_⟩
    cases q : gt δ j with
    | no => exact trivial
    | val d => rw [q] at h2; exact h2
    | bag => rw [q] at h2; exact h2
    | own d => rw [q] at h2; exact h2
    | pk k => rw [q] at h2; exact absurd h2.1 (by simp)
end
abbrev Lx := Addr → List (Str × D) → List R → Prop
/-- what the suite is to do for an exception -/
def xTry (C : Addr) (i : Nat) (su : Addr → Value → Option Addr → DS) (DD : DEnds) : Lx := fun c fs δ => c = C ∧ ∀ a d, su a (.ref c) (some d) ⟨fun δ1 => DD.nx (st δ1 i .no), DD.rt, fun δ1 => DD.bk (st δ1 i .no), fun δ1 => DD.ct (st δ1 i .no)⟩ (st δ i (.val (.exc a d fs)))
def dTry (C : Addr) (i : Nat) (bd : Lx → DS) (su : Addr → Value → Option Addr → DS) : DS := fun DD δ => bd (xTry C i su DD) DD δ
section
variable {X : Cx} {L : Lk} {x n f : Str} {Cl : Addr} {i : Nat} {body sf : List Stmt} {b1 : Stmt} {np pos pos' p : Pos} {hds : List ExceptHandler} {bd : Lx → DS} {su : Addr → Value → Option Addr → DS} {e : Expr} {de : DE} {da : DA}
theorem ds_try (hs : X.stack = X.env :: X.outer) (hf : X.env.frame = some X.env.locals) (nd : X.N.Nodup) (hi : X.N[i]? = some n) (hl : X.env.kindOf n = some .local) (hc : Names X x (.ref Cl)) (hx : PySem.W.exmOne X.K (.ref Cl) (.ref Cl) = some true)
    (hb : ∀ (L' : Lk) (pn : List (Addr × Obj)) (xe : Value → Shared → Prop), Takes (X.tr pn xe) L'.E → PassesOwn (model X.prog X.w) X.A X.env xe → PSs (X.tr pn xe) body (liftS X.K L' (bd L'.x)))
    (hu : ∀ (a : Addr) (oe : Obj) (cls : Value) (d : Option Addr) (pn : List (Addr × Obj)), Zc cls d oe → (∃ vs, oe.data = .fields vs) → PSs (X.suite a ((a, oe) :: pn)) (b1 :: sf) (liftS X.K L0 (su a cls d))) :
    PS X (.Try body (.ExceptHandler (some (.Name x np)) (some n) (b1 :: sf) pos' :: hds) [] [] pos) (liftS X.K L (dTry Cl i bd su)) := by
  refine PS.weak (ps_try1 (tb := fun W D σ H => ∃ xx, liftS X.K ⟨W, xx⟩ (bd xx) D σ H) (ts := fun a cls d => liftS X.K L0 (su a cls d)) hs hf nd hi hl hc (fun W pn xe tk ps => ⟨fun pins s σ H D I q => ?_⟩) hu) ?_
  · obtain ⟨xx, q⟩ := q
    exact (hb ⟨W, xx⟩ pn xe tk ps).run pins s σ H D I q
  · refine liftS_of fun C D σ H G W δ DD I lk h k => ⟨xTry Cl i su DD, C, G, W, δ, DD, I, ?_, h, k⟩
    rintro c fs δ1 d σ1 H1 G1 W1 fvs ⟨rfl, hsu⟩ x1 I1 gd dn
    refine ⟨hx, fun a na => ?_⟩
    have de : Den X.K G1 (.ref a) (.exc a d fs) := .exc gd dn.1 (fun i p q a b => (dn.2 i p q a b).1) fun i p q a b => (dn.2 i p q a b).2
    obtain ⟨W2, I2⟩ := I1.store (i := i) (v := .ref a) (r := .val (.exc a d fs)) de (fun j z => by cases z)
    refine ⟨C, G1, W2, _, _, I2, Lnk.zero, hsu a d, ?_⟩
    have k1 := k.mono x1
    exact ⟨fun σ' H' G' W' δ' z I' h' => k1.nx _ H' G' W' _ z (I'.clear i) h', k1.rt, fun σ' H' G' W' δ' z I' h' => k1.bk _ H' G' W' _ z (I'.clear i) h', fun σ' H' G' W' δ' z I' h' => k1.ct _ H' G' W' _ z (I'.clear i) h'⟩
/-- e.f, e the exception that the suite holds -/
def dXf (a : Addr) (cls : Value) (d : Option Addr) (Cl : Addr) (f : Str) (de : DE) : DE := fun δ P => de δ fun r δ1 => ∃ dd fs y, peek r δ1 = some (.exc a dd fs) ∧ cls = .ref Cl ∧ d = some dd ∧ fs.lookup f = some y ∧ P (.val y) δ1
theorem lookup_dens {K : PySem.W.Frag} {G : Hp} {f : Str} : ∀ {fs : List (Str × V)} {fds : List (Str × D)} {y : D}, DensP K G fs fds → fds.lookup f = some y → ∃ v, fs.lookup f = some v ∧ Den K G v y
  | fs, [], y, _, e => by simp [List.lookup] at e
  | fs, q :: r, y, h, e => by
    obtain ⟨p, vr, rfl, ⟨h1, h2⟩, h3⟩ := All2.cons_right h
    obtain ⟨pk, pv⟩ := p
    obtain ⟨qk, qv⟩ := q
    have h1 : pk = qk := h1
    subst h1
    by_cases z : f == pk
    · simp only [List.lookup, z] at e ⊢
      cases e
      exact ⟨pv, rfl, h2⟩
    · have z : (f == pk) = false := by simpa using z
      simp only [List.lookup, z] at e ⊢
      exact lookup_dens h3 e
theorem de_xf {a : Addr} {oe : Obj} {cls : Value} {d : Option Addr} {pn : List (Addr × Obj)} (T : XfC X.K Cl) (hno : PySem.W.findIn X.K (.ref Cl) f = some none) (hz : Zc cls d oe) (hf : ∃ vs, oe.data = .fields vs) (he : PE (X.suite a ((a, oe) :: pn)) e (lift X.K L de)) (hb : attributeBase e f X.env (eval e X.env) = eval e X.env := by rfl) :
    PE (X.suite a ((a, oe) :: pn)) (.Attribute e f pos) (lift X.K L (dXf a cls d Cl f de)) :=
  PE.weak (pe_xf T hno hz hf he hb) <| lift_of fun C σ H G W δ P Q I lk h k => ⟨C, G, W, δ, _, I, lk, h, fun r δ1 v H1 G1 W1 h1 x1 I1 o1 => by
    obtain ⟨dd, fs, y, e1, rfl, rfl, e4, hp⟩ := h1
    have dn : Den X.K G1 v (.exc a dd fs) := by
      rcases I1.peekOk o1 e1 with z | ⟨p, _, z⟩
      · exact z
      · exact z.elim
    obtain ⟨vs, rfl, gd, ds⟩ := dn.of_exc
    obtain ⟨u, y1, y2⟩ := lookup_dens ds e4
    exact ⟨rfl, rfl, dd, vs, u, rfl, I1.gh _ _ gd, y1, k _ δ1 u H1 G1 W1 hp x1 I1 y2⟩⟩
/-! ### own errors: class C(AskError) with def __init__(self, g): self.f = g -/
def spInit (K : PySem.W.Frag) (f : Str) : Sp := fun vs H Q _ => ∃ (a Cl : Addr) (v : V), vs = [.ref a, v] ∧ OexC K Cl ∧ PySem.W.findIn K (.ref Cl) f = some none ∧ H a = some (exo a Cl none) ∧ ∀ dx, H dx = none → dx ≠ a → Q .non (upd (upd H dx (exd dx [(f, v)])) a (exo a Cl (some dx)))
structure ErrC (P : Program) (w : World) (K : PySem.W.Frag) (mg : Str → Option Value) (base : Heap) (x : Str) (Cl : Addr) (f : Str) : Prop where
  oex : OexC K Cl
  xf : XfC K Cl
  no : PySem.W.findIn K (.ref Cl) f = some none
  gl : mg x = some (.ref Cl)
  self : PySem.W.exmOne K (.ref Cl) (.ref Cl) = some true
  ini : ∃ (fI : Addr) (fd : FuncData) (ps : List Str), PySem.W.findIn K (.ref Cl) "__init__" = some (some (.ref fI)) ∧ PySem.W.typeIn K (.ref fI) = some (.type "function") ∧ FnOk P w K mg base CX0 1 fI fd ps (spInit K f) ∧ Binds K fd ps []
theorem fn_init {P : Program} {w : World} {K : PySem.W.Frag} {mg : Str → Option Value} {base : Heap} {qual : Str} {sm : Stmt} {fI : Addr} {fd : FuncData} {g : Str} {ps : List Str} (F : Fun K "__init__" qual sm fI fd) (Sc : FnScope ["self", g] ps (defScope sm)) (hl : ps.length = 2)
    (hb : ∀ (cdv : Value) (A : Around) (outer : List Env) (s : Shared) (H : Hp) (E : XK), PSs (cxOf CX0 P w K mg base ["self", g] qual (defScope sm) fI cdv A outer s H E).nox (defBody sm) (tOst K f (tVar 0) (tVar 1))) : FnOk P w K mg base CX0 1 fI fd ps (spInit K f) := by
  refine F.ok Sc (fun vs H Q E h => ?_) (fun cdv A outer s H vs Q E hr h => ⟨_, hb cdv A outer s H E, ?_⟩)
  · obtain ⟨a, Cl, v, rfl, _⟩ := h
    rw [hl]; rfl
  · obtain ⟨a, Cl, v, rfl, T, hno, ha, q⟩ := h
    exact ⟨v, rfl, .ref a, rfl, a, Cl, rfl, T, hno, .inl ⟨ha, q⟩⟩
def dRaise (xx : Lx) (Cl : Addr) (f : Str) (da : DA) : DS := fun _ δ => da δ fun rs δ1 => ∃ d δ2, useAll rs δ1 = some ([.val d], δ2) ∧ xx Cl [(f, d)] δ2
theorem ds_raise {pos2 : Pos} (T : ErrC X.prog X.w X.K X.mg X.base x Cl f) (hc : X.calm = true) (hr : Room 2 X.A) (tk : Takes X L.E) (hg : Gl X x) (ha : PA X [e] (liftA X.K L da))
    (hdb : (x == ("__debug__" : Str)) = false := by decide) (he : starEach (e :: []) X.env = (false, eval e X.env) :: starEach [] X.env := by rfl) (hpl : (backTo pos (starEach [] X.env)).any (·.1) = false := by rfl) :
    PS X (.Raise (some (.Call (.Name x p) [e] [] pos)) none pos2) (liftS X.K L (dRaise L.x Cl f da)) := by
  obtain ⟨fI, fd, ps, i1, i2, F, hb⟩ := T.ini
  refine PS.weak (ps_raise hc tk (pmk_oex T.oex i1 i2 F hr hb .nil pass0 hg T.gl ha hdb he hpl)) <| liftS_of fun C D σ H G W δ DD I lk h k => ⟨C, G, W, δ, _, I, lk, h, fun rs δ1 vs H1 G1 W1 h1 x1 I1 o1 => ?_⟩
  obtain ⟨d, δ2, e1, hx⟩ := h1
  obtain ⟨G2, x2, I2, o2⟩ := I1.useAllOk o1 e1
  obtain ⟨v, r, rfl, z1, z2⟩ := o2.cons_right
  rw [z2.nil_right]
  have dn : Den X.K G2 v d := z1.1
  refine ⟨by simp, fun a na => ⟨a, Cl, v, rfl, T.oex, T.no, upd_same, fun dx n ne => ⟨rfl, dx, [(f, v)], upd_same, ?_, ?_, ?_⟩⟩⟩
  · rw [upd_ne ne, upd_same]
  · rw [upd_ne ne] at n; exact n
  · have n1 : H1 dx = none := by rw [upd_ne ne] at n; exact n
    have eq : upd (del (upd (upd (upd H1 a (exo a Cl none)) dx (exd dx [(f, v)])) a (exo a Cl (some dx))) a) dx (.xd [(f, v)]) = upd H1 dx (.xd [(f, v)]) := by
      funext b
      by_cases hb1 : b = dx
      · subst hb1; rw [upd_same, upd_same]
      · rw [upd_ne hb1, upd_ne hb1]
        by_cases hb2 : b = a
        · subst hb2; rw [del_same, na]
        · rw [del_ne hb2, upd_ne hb2, upd_ne hb1, upd_ne hb2]
    rw [eq]
    have m := I2.fresh n1
    have I3 : SI X.K C σ (upd H1 dx (.xd [(f, v)])) (upd G2 dx (.xd [(f, v)])) _ δ2 := (I2.lay n1).publish upd_same m (fun i d _ => by simp)
    exact lk Cl [(f, d)] δ2 dx σ _ _ _ [(f, v)] hx ((x1.trans x2).trans (Ex.new m.1)) I3 upd_same (.cons ⟨rfl, dn.mono (Ex.new m.1)⟩ .nil)
/-! ### defs that may raise -/
def dCallX (S : DSp) (xx : Lx) (da : DA) : DE := fun δ P => da δ fun rs δ1 => ∃ rs' δ2, useAll rs δ1 = some (rs', δ2) ∧ S rs' (fun r => P r δ2) (fun c fs => xx c fs δ2)
def FcX (P : Program) (w : World) (K : PySem.W.Frag) (mg : Str → Option Value) (base : Heap) (k : Nat) (x : Str) (ps : List Str) (S : DSp) : Prop :=
  ∃ (f : Addr) (fd : FuncData), FnOk P w K mg base (L2.CX P w) k f fd ps (spOf K S) ∧ mg x = some (.ref f) ∧ PySem.W.keepIn K (.ref f) = true ∧ Binds K fd ps []
variable {k : Nat} {ps : List Str} {S : DSp} {es : List Expr}
theorem lift_callX {K : PySem.W.Frag} : ∀ σ H Q, lift K L (dCallX S L.x da) σ H Q → tCallSD (spOf K S) [] (WE L.E) (liftA K L da) σ H Q :=
  lift_of fun C σ H G W δ P Q I lk h k => ⟨C, G, W, δ, _, I, lk, h, fun rs δ1 vs H1 G1 W1 h1 x1 I1 o1 => by
    obtain ⟨rs', δ2, e, hs⟩ := h1
    obtain ⟨G2, x2, I2, o2⟩ := I1.useAllOk o1 e
    rw [List.append_nil]
    refine ⟨C.bo, G2, rs', _, _, I2.gh, I2.bag, aok_of (rs := rs) (δ := δ1) (δ' := δ2) o2 (useAll_on e), hs, fun r v G' H' hp hf ho => ?_, fun c fs d fvs G' H' hx hf gd dn => ?_⟩
    · obtain ⟨W', I3, o3⟩ := I2.called hf ho
      exact k r δ2 v H' G' W' hp ((x1.trans x2).trans hf.ex) I3 o3
    · obtain ⟨W', I3, _⟩ := I2.called hf (v := .non) (r := .val .non) Den.non
      exact lk c fs δ2 d σ H' G' W' fvs hx ((x1.trans x2).trans hf.ex) I3 gd dn⟩
theorem de_fcx (F : FcX X.prog X.w X.K X.mg X.base k x ps S) (hr : Room k X.A) (tk : Takes X L.E) (hg : Gl X x) (ha : PA X (e :: es) (liftA X.K L da)) (hdb : (x == ("__debug__" : Str)) = false := by decide)
    (he : starEach (e :: es) X.env = (false, eval e X.env) :: starEach es X.env := by rfl) (hpl : (backTo pos (starEach es X.env)).any (·.1) = false := by rfl) : PE X (.Call (.Name x p) (e :: es) [] pos) (lift X.K L (dCallX S L.x da)) :=
  let ⟨_, _, h1, h2, h3, h4⟩ := F
  PE.weak (pe_callSD h1 hr hg h2 h3 h4 .nil (fun σ => passAt tk σ) ha hdb he hpl) lift_callX
/-- a def that may raise; its reading ds by what is wished of an exception -/
theorem fn_dx {P : Program} {w : World} {K : PySem.W.Frag} {mg : Str → Option Value} {base : Heap} {x qual : Str} {sm : Stmt} {f : Addr} {fd : FuncData} {N ps : List Str} {k : Nat} {S : DSp} (F : Fun K x qual sm f fd) (Sc : FnScope N ps (defScope sm)) (hl : ∀ rs P Xc, S rs P Xc → rs.length = ps.length) (hN : ps.length ≤ N.length)
    (ds : Lx → DS) (hbody : ∀ (cdv : Value) (A : Around) (outer : List Env) (s : Shared) (H : Hp) (E : XK) (L : Lk), Room k (A.deeper (PyProof.Rows.envOfC qual (defScope sm) s.heap.objs.size f cdv)) → Takes (cxOf (L2.CX P w) P w K mg base N qual (defScope sm) f cdv A outer s H E) L.E →
      PassesOwn (model P w) (cxOf (L2.CX P w) P w K mg base N qual (defScope sm) f cdv A outer s H E).A (cxOf (L2.CX P w) P w K mg base N qual (defScope sm) f cdv A outer s H E).env (cxOf (L2.CX P w) P w K mg base N qual (defScope sm) f cdv A outer s H E).xe →
      PSs (cxOf (L2.CX P w) P w K mg base N qual (defScope sm) f cdv A outer s H E) (defBody sm) (liftS K L (ds L.x)))
    (hd : ∀ rs P Xc, S rs P Xc → ds (fun c fs _ => Xc c fs) { nx := fun _ => P (.val .non), rt := fun r _ => P r } (startD N rs)) : FnOk P w K mg base (L2.CX P w) (k + 1) f fd ps (spOf K S) := by
  refine F.okX Sc (fun vs H Q E h => ?_) (fun cdv A outer s H vs Q E hr h => ?_)
  · obtain ⟨bo, G, rs, P, Xc, _, _, ha, hs, _⟩ := h
    rw [ha.1]; exact hl rs P Xc hs
  · obtain ⟨bo, G, rs, P, Xc, hg, hb, ha, hs, hq, hx⟩ := h
    refine ⟨_, hbody cdv A outer s H E ⟨fun cls d _ H => E cls d H, fun c fs _ => Xc c fs⟩ hr (takes_of rfl rfl rfl rfl) (passes_of rfl), ⟨bo, H, G, fun _ => none⟩, G, fun _ => none, startD N rs, _, SI.start (by rw [ha.1, hl rs P Xc hs]; exact hN) hg hb ha, ?_, hd rs P Xc hs, ?_⟩
    · intro c fs δ' d σ' H' G' W' fvs h1 h2 I gd dn
      exact hx c fs d fvs G' H' h1 (I.fin I.b0) gd dn
    · refine ⟨fun σ' H' G' W' δ' x I hp => ?_, fun v σ' H' G' W' δ' r x I o fi hp => ?_, fun _ _ _ _ _ _ _ hp => hp, fun _ _ _ _ _ _ _ hp => hp⟩
      · exact hq _ _ G' H' hp (I.fin I.b0) Den.non
      · exact hq _ v G' H' hp (I.fin I.b0) (ROk.fin o fi)
end
end DL

namespace DL
open PySem PySem.Spec L2
section
variable {X : Cx} {K : PySem.W.Frag} {L : Lk} {a b e : Expr} {da db de : DE} {pos p q : Pos}
/-- two texts -/
def cEqS : D → D → Bool → Prop := fun d1 d2 r => ∃ x y, d1 = .str x ∧ d2 = .str y ∧ r = decide (x = y)
theorem cs_eqS : CmpSem K rEq cEqS := fun H x y d1 d2 r Q h1 h2 hc k => by
  obtain ⟨x', y', rfl, rfl, rfl⟩ := hc
  have e1 := h1.of_str
  have e2 := h2.of_str
  subst e1; subst e2
  refine ⟨rfl, ?_⟩
  rw [show decide (V.str x' = V.str y') = decide (x' = y') by simp]
  exact k
theorem de_eqS (ha : PE X a (lift X.K L da)) (hb : PE X b (lift X.K L db)) : PE X (.Compare a [.Eq] [b] pos) (lift X.K L (dCmp cEqS da db)) := de_cmp op_eq cs_eqS ha hb (nomark _)
theorem dt_eqS (ha : PE X a (lift X.K L da)) (hb : PE X b (lift X.K L db)) : PT X (.Compare a [.Eq] [b] pos) (liftT X.K L (dTst (dCmp cEqS da db))) := dt_cmp op_eq cs_eqS ha hb (nomark _)
theorem i_cmpS {δ2 : List R} {r1 r2 : R} {x y : Str} {B : Bool → Prop} (h : B (decide (x = y))) (e1 : peek r1 δ2 = some (.str x) := by rfl) (e2 : peek r2 δ2 = some (.str y) := by rfl) : ∃ d1 d2 b, peek r1 δ2 = some d1 ∧ peek r2 δ2 = some d2 ∧ cEqS d1 d2 b ∧ B b := ⟨_, _, _, e1, e2, ⟨_, _, rfl, rfl, rfl⟩, h⟩
/-- list(range(a, b)) -/
def dLrng2 (da db : DE) : DE := fun δ P => da δ fun r1 δ1 => db δ1 fun r2 δ2 => ∃ i j, peek r1 δ2 = some (.int i) ∧ peek r2 δ2 = some (.int j) ∧ RgOk i j ∧ P (.own (.lst (rngD i (j - i).toNat))) δ2
theorem dens_rng {G : Hp} (i : Int) (n : Nat) : Dens K G ((List.range n).map fun k => V.int (i + (k : Nat))) (rngD i n) := by
  refine ⟨by simp [rngD], fun j x y hx hy => ?_⟩
  unfold rngD at hy
  rw [List.getElem?_map] at hx hy
  cases e : (List.range n)[j]? with
  | none => rw [e] at hx; cases hx
  | some k => rw [e] at hx hy; cases hx; cases hy; exact .int _
theorem de_lrng2 (hc : X.calm = true) (hg : Gl X "list") (hm : X.mg "list" = none) (hg2 : Gl X "range") (hm2 : X.mg "range" = none) (ha : PE X a (lift X.K L da)) (hb : PE X b (lift X.K L db))
    (na : starEach [.Call (.Name "range" q) [a, b] [] pos'] X.env = (false, eval (.Call (.Name "range" q) [a, b] [] pos') X.env) :: starEach [] X.env := by rfl)
    (na2 : starEach [a, b] X.env = (false, eval a X.env) :: starEach [b] X.env := by rfl) (nb : starEach [b] X.env = (false, eval b X.env) :: starEach [] X.env := by rfl) (hp : (backTo pos' (starEach [b] X.env)).any (·.1) = false := by rfl) :
    PE X (.Call (.Name "list" p) [.Call (.Name "range" q) [a, b] [] pos'] [] pos) (lift X.K L (dLrng2 da db)) :=
  PE.weak (pe_listRg hc hg hm (prg_2 hg2 hm2 ha hb na2 nb hp) na) <| lift_of fun C σ H G W δ P Q I lk h k => lift_two I lk h fun r1 r2 δ2 x y H2 G2 W2 h2 x2 I2 o1 o2 => by
    obtain ⟨i, j, e1, e2, ok, hp⟩ := h2
    rw [← peek_pub] at e1 e2
    have ex := ((I2.peekOk o1 e1).den I2.gh).of_int
    have ey := ((I2.peekOk o2 e2).den I2.gh).of_int
    subst ex; subst ey
    refine ⟨i, j, rfl, rfl, ok, fun t ht => ?_⟩
    obtain ⟨I', o⟩ := I2.newLst ht (dens_rng i (j - i).toNat)
    exact k _ _ _ _ _ _ hp x2 I' o
theorem i_lrng2 {δ : List R} {P : R → List R → Prop} (h : da δ fun r1 δ1 => db δ1 fun r2 δ2 => ∃ i j, peek r1 δ2 = some (.int i) ∧ peek r2 δ2 = some (.int j) ∧ RgOk i j ∧ P (.own (.lst (rngD i (j - i).toNat))) δ2) : dLrng2 da db δ P := h
theorem i_lrng22 {δ2 : List R} {r1 r2 : R} {x y : Int} {B : Int → Int → Prop} (h : B x y) (ok : RgOk x y) (e1 : peek r1 δ2 = some (.int x) := by rfl) (e2 : peek r2 δ2 = some (.int y) := by rfl) : ∃ i j, peek r1 δ2 = some (.int i) ∧ peek r2 δ2 = some (.int j) ∧ RgOk i j ∧ B i j := ⟨_, _, e1, e2, ok, h⟩
end
/-! ### going through: dicts, enumerate, exceptions -/
section
variable {δ δ1 δ2 δ3 : List R} {P : R → List R → Prop} {da db de : DE} {DD : DEnds} {i : Nat} {d d1 d2 : D} {r r1 r2 r' : R} {Q : R → Prop}
theorem i_dict {ps : List D} {kvs : List (Key × D)} (h : Q (.own (.dic (mergeD [] kvs)))) (e : pairsD ps = some kvs) : bDict [.tup ps] Q := ⟨_, e, h⟩
theorem i_cmpDin {n : Bool} {k : Key} {kvs : List (Key × D)} {B : Bool → Prop} (h : B (if n then !(valD kvs k).isSome else (valD kvs k).isSome)) (e1 : peek r1 δ2 = some d1 := by rfl) (e2 : peek r2 δ2 = some (.dic kvs) := by rfl) (f1 : keyD d1 = some k := by rfl) :
    ∃ d1 d2 b, peek r1 δ2 = some d1 ∧ peek r2 δ2 = some d2 ∧ cDin n d1 d2 b ∧ B b := ⟨_, _, _, e1, e2, ⟨_, _, f1, rfl, rfl⟩, h⟩
theorem i_dix (h : da δ fun r1 δ1 => db δ1 fun r2 δ2 => ∃ kvs dk k d, peek r1 δ2 = some (.dic kvs) ∧ peek r2 δ2 = some dk ∧ keyD dk = some k ∧ valD kvs k = some d ∧ P (.val d) δ2) : dDix da db δ P := h
theorem i_dix2 {kvs : List (Key × D)} {dk : D} {k : Key} {B : D → Prop} (h : B d) (v : valD kvs k = some d) (e1 : peek r1 δ2 = some (.dic kvs) := by rfl) (e2 : peek r2 δ2 = some dk := by rfl) (f1 : keyD dk = some k := by rfl) :
    ∃ kvs dk k d, peek r1 δ2 = some (.dic kvs) ∧ peek r2 δ2 = some dk ∧ keyD dk = some k ∧ valD kvs k = some d ∧ B d := ⟨_, _, _, _, e1, e2, f1, v, h⟩
theorem i_enum {da : DA} {PI : List D → List R → Prop} (h : da δ fun rs δ1 => ∃ ds δ2, useAll rs δ1 = some ([.val (.tup ds)], δ2) ∧ PI (enumD 0 ds) δ2) : diEnum da δ PI := h
theorem i_enum2 {rs : List R} {ds : List D} {B : List D → List R → Prop} (h : B ds δ2) (e : useAll rs δ1 = some ([.val (.tup ds)], δ2) := by rfl) : ∃ ds δ2, useAll rs δ1 = some ([.val (.tup ds)], δ2) ∧ B ds δ2 := ⟨_, _, e, h⟩
theorem i_callX {S : DSp} {xx : Lx} {da : DA} (h : da δ fun rs δ1 => ∃ rs' δ2, useAll rs δ1 = some (rs', δ2) ∧ S rs' (fun r => P r δ2) (fun c fs => xx c fs δ2)) : dCallX S xx da δ P := h
theorem i_callX2 {rs rs' : List R} {B : List R → List R → Prop} (h : B rs' δ2) (e : useAll rs δ1 = some (rs', δ2) := by rfl) : ∃ rs' δ2, useAll rs δ1 = some (rs', δ2) ∧ B rs' δ2 := ⟨_, _, e, h⟩
theorem i_raise {xx : Lx} {Cl : Addr} {f : Str} {da : DA} (h : da δ fun rs δ1 => ∃ d δ2, useAll rs δ1 = some ([.val d], δ2) ∧ xx Cl [(f, d)] δ2) : dRaise xx Cl f da DD δ := h
theorem i_raise2 {rs : List R} {B : D → List R → Prop} (h : B d δ2) (e : useAll rs δ1 = some ([.val d], δ2) := by rfl) : ∃ d δ2, useAll rs δ1 = some ([.val d], δ2) ∧ B d δ2 := ⟨_, _, e, h⟩
theorem i_try {C : Addr} {bd : Lx → DS} {su : Addr → Value → Option Addr → DS} (h : bd (xTry C i su DD) DD δ) : dTry C i bd su DD δ := h
theorem i_xf {a : Addr} {cls : Value} {dd : Option Addr} {Cl : Addr} {f : Str} (h : de δ fun r δ1 => ∃ d' fs y, peek r δ1 = some (.exc a d' fs) ∧ cls = .ref Cl ∧ dd = some d' ∧ fs.lookup f = some y ∧ P (.val y) δ1) : dXf a cls dd Cl f de δ P := h
theorem i_xf2 {a dd : Addr} {fs : List (Str × D)} {Cl : Addr} {f : Str} {y : D} {B : D → Prop} (h : B y) (e : peek r δ1 = some (.exc a dd fs) := by rfl) (l : fs.lookup f = some y := by rfl) : ∃ d' fs y, peek r δ1 = some (.exc a d' fs) ∧ Value.ref Cl = .ref Cl ∧ some dd = some d' ∧ fs.lookup f = some y ∧ B y := ⟨_, _, _, e, rfl, rfl, l, h⟩
end
end DL

namespace DL
open PySem PySem.Spec L2
/-! ### what is drawn, what comes -/
inductive T (α : Type) where
  | ret (a : α)
  | take (n : Int) (k : Int → T α)
  | any (k : Addr → Addr → T α)
  | fail
namespace T
variable {α β γ : Type}
def bind : T α → (α → T β) → T β
  | .ret a, f => f a
  | .take n k, f => .take n fun r => bind (k r) f
  | .any k, f => .any fun a d => bind (k a d) f
  | .fail, _ => .fail
def all : T α → (α → Prop) → Prop
  | .ret a, P => P a
  | .take n k, P => 0 < n ∧ n < 1073741824 ∧ ∀ r : Int, 0 ≤ r → r < n → all (k r) P
  | .any k, P => ∀ a d, all (k a d) P
  | .fail, _ => False
theorem bind_congr {t t' : T α} {f : α → T β} (h : t = t') : bind t f = bind t' f := by rw [h]
theorem all_congr {t t' : T α} {P : α → Prop} (h : t = t') : all t P = all t' P := by rw [h]
theorem all_retE {a : α} {P : α → Prop} : all (.ret a) P = P a := (rfl)
theorem all_failE {P : α → Prop} : all (.fail : T α) P = False := (rfl)
theorem all_anyE {k : Addr → Addr → T α} {P : α → Prop} : all (.any k) P = ∀ a d, all (k a d) P := (rfl)
theorem all_iteE {c : Prop} [Decidable c] {t u : T α} {P : α → Prop} : all (if c then t else u) P = ((c → all t P) ∧ (¬ c → all u P)) := by
  by_cases h : c <;> simp [h]
theorem bind_ret {a : α} {f : α → T β} : bind (.ret a) f = f a := (rfl)
theorem bind_fail {f : α → T β} : bind (.fail : T α) f = .fail := (rfl)
theorem bind_take {n : Int} {k : Int → T α} {f : α → T β} : bind (.take n k) f = .take n fun r => bind (k r) f := (rfl)
theorem bind_any {k : Addr → Addr → T α} {f : α → T β} : bind (.any k) f = .any fun a d => bind (k a d) f := (rfl)
theorem bind_ite {c : Prop} [Decidable c] {t u : T α} {f : α → T β} : bind (if c then t else u) f = if c then bind t f else bind u f := by split <;> rfl
theorem bind_assoc (t : T α) (f : α → T β) (g : β → T γ) : bind (bind t f) g = bind t fun a => bind (f a) g := by
  induction t with
  | ret a => rfl
  | fail => rfl
  | take n k ih => simp only [bind]; congr; funext r; exact ih r
  | any k ih => simp only [bind]; congr; funext a d; exact ih a d
theorem all_mono {t : T α} {P Q : α → Prop} (h : all t P) (k : ∀ a, P a → Q a) : all t Q := by
  induction t with
  | ret a => exact k a h
  | fail => exact h
  | take n f ih => exact ⟨h.1, h.2.1, fun r h0 h1 => ih r (h.2.2 r h0 h1)⟩
  | any f ih => exact fun a d => ih a d (h a d)
theorem all_bind {t : T α} {f : α → T β} {P : β → Prop} : all (bind t f) P ↔ all t fun a => all (f a) P := by
  induction t with
  | ret a => exact Iff.rfl
  | fail => exact Iff.rfl
  | take n k ih => exact ⟨fun h => ⟨h.1, h.2.1, fun r h0 h1 => (ih r).mp (h.2.2 r h0 h1)⟩, fun h => ⟨h.1, h.2.1, fun r h0 h1 => (ih r).mpr (h.2.2 r h0 h1)⟩⟩
  | any k ih => exact ⟨fun h a d => (ih a d).mp (h a d), fun h a d => (ih a d).mpr (h a d)⟩
theorem all_of {t : T α} {f : α → T β} {Q : α → Prop} {P : β → Prop} (h : all t Q) (k : ∀ a, Q a → all (f a) P) : all (bind t f) P := all_bind.mpr (all_mono h k)
@[irreducible] def All (t : T α) (P : α → Prop) : Prop := all t P
theorem All_eq {t : T α} {P : α → Prop} : All t P = all t P := by unfold All; rfl
theorem All_congr {t t' : T α} {P : α → Prop} (h : t = t') : All t P = All t' P := by rw [h]
theorem All_retE {a : α} {P : α → Prop} : All (.ret a) P = P a := by rw [All_eq, all_retE]
theorem All_failE {P : α → Prop} : All (.fail : T α) P = False := by rw [All_eq, all_failE]
theorem All_anyE {k : Addr → Addr → T α} {P : α → Prop} : All (.any k) P = ∀ a d, All (k a d) P := by simp only [All_eq, all_anyE]
theorem All_iteE {c : Prop} [Decidable c] {t u : T α} {P : α → Prop} : All (if c then t else u) P = ((c → All t P) ∧ (¬ c → All u P)) := by simp only [All_eq, all_iteE]
theorem All_mono {t : T α} {P Q : α → Prop} (h : All t P) (k : ∀ a, P a → Q a) : All t Q := by rw [All_eq] at h ⊢; exact all_mono h k
theorem All_bind {t : T α} {f : α → T β} {P : β → Prop} : All (bind t f) P ↔ All t fun a => All (f a) P := by simp only [All_eq]; exact all_bind
theorem All_of {t : T α} {f : α → T β} {Q : α → Prop} {P : β → Prop} (h : All t Q) (k : ∀ a, Q a → All (f a) P) : All (bind t f) P := All_bind.mpr (All_mono h k)
end T
inductive EO (α : Type) where
  | ok (a : α) (δ : List R)
  | err (c : Addr) (fs : List (Str × D)) (δ : List R)
abbrev F (α : Type) := List R → T (EO α)
section
variable {α β : Type}
def F.ret (a : α) : F α := fun δ => .ret (.ok a δ)
def F.fail : F α := fun _ => .fail
def EO.on (o : EO α) (k : α → F β) : T (EO β) := match o with
  | .ok a δ => k a δ
  | .err c fs δ => .ret (.err c fs δ)
def F.bind (f : F α) (k : α → F β) : F β := fun δ => (f δ).bind fun o => o.on k
def F.of : Option α → F α
  | some a => F.ret a
  | none => F.fail
def EO.holds (x : Lx) (P : α → List R → Prop) : EO α → Prop
  | .ok a δ => P a δ
  | .err c fs δ => x c fs δ
/-- as a reading over data -/
def pP (x : Lx) (f : F α) : List R → (α → List R → Prop) → Prop := fun δ P => (f δ).all (EO.holds x P)
theorem pP_bind {x : Lx} {f : F α} {k : α → F β} {δ : List R} {P : β → List R → Prop} : pP x (f.bind k) δ P ↔ pP x f δ fun a δ' => pP x (k a) δ' P := by
  unfold pP F.bind
  rw [T.all_bind]
  constructor <;> intro h <;> refine T.all_mono h fun o ho => ?_ <;> cases o <;> exact ho
theorem pP_mono {x : Lx} {f : F α} {δ : List R} {P Q : α → List R → Prop} (h : pP x f δ P) (k : ∀ a δ', P a δ' → Q a δ') : pP x f δ Q := T.all_mono h fun o ho => by
  cases o with
  | ok a δ' => exact k a δ' ho
  | err c fs δ' => exact ho
theorem pP_then {x : Lx} {f : F α} {k : α → F β} {δ : List R} {P : β → List R → Prop} {Q : α → List R → Prop} (h : pP x (f.bind k) δ P) (w : ∀ a δ', pP x (k a) δ' P → Q a δ') : pP x f δ Q := pP_mono (pP_bind.mp h) w
theorem pP_of {x : Lx} {o : Option α} {δ : List R} {P : α → List R → Prop} (h : pP x (F.of o) δ P) : ∃ a, o = some a ∧ P a δ := by
  cases o with
  | none => exact h.elim
  | some a => exact ⟨a, rfl, h⟩
end
/-- handed on -/
def valOf : R → Option D
  | .val d => some d
  | _ => none
def useF (r : R) : F D := fun δ => match use r δ with
  | some (.val d, δ') => .ret (.ok d δ')
  | _ => .fail
def peekF (r : R) : F D := fun δ => match peek r δ with
  | some d => .ret (.ok d δ)
  | none => .fail
def useAllF (rs : List R) : F (List R) := fun δ => match useAll rs δ with
  | some (rs', δ') => .ret (.ok rs' δ')
  | none => .fail
def peekAllF (rs : List R) : F (List D) := fun δ => match peekAll rs δ with
  | some ds => .ret (.ok ds δ)
  | none => .fail
section
variable {x : Lx} {δ : List R}
theorem pP_use {r : R} {P : D → List R → Prop} (h : pP x (useF r) δ P) : ∃ d δ', use r δ = some (.val d, δ') ∧ P d δ' := by
  unfold pP useF at h
  split at h
  · exact ⟨_, _, by assumption, h⟩
  · exact h.elim
theorem pP_peek {r : R} {P : D → List R → Prop} (h : pP x (peekF r) δ P) : ∃ d, peek r δ = some d ∧ P d δ := by
  unfold pP peekF at h
  split at h
  · exact ⟨_, by assumption, h⟩
  · exact h.elim
theorem pP_useAll {rs : List R} {P : List R → List R → Prop} (h : pP x (useAllF rs) δ P) : ∃ rs' δ', useAll rs δ = some (rs', δ') ∧ P rs' δ' := by
  unfold pP useAllF at h
  split at h
  · exact ⟨_, _, by assumption, h⟩
  · exact h.elim
theorem pP_peekAll {rs : List R} {P : List D → List R → Prop} (h : pP x (peekAllF rs) δ P) : ∃ ds, peekAll rs δ = some ds ∧ P ds δ := by
  unfold pP peekAllF at h
  split at h
  · exact ⟨_, by assumption, h⟩
  · exact h.elim
end
section
variable {K : PySem.W.Frag} {L : Lk}
theorem lift_imp {de de' : DE} (h : ∀ δ P, de' δ P → de δ P) : ∀ σ H Q, lift K L de' σ H Q → lift K L de σ H Q := fun σ H Q ⟨C, G, W, δ, P, I, lk, hd, k⟩ => ⟨C, G, W, δ, P, I, lk, h δ P hd, k⟩
theorem liftT_imp {de de' : DT} (h : ∀ δ P, de' δ P → de δ P) : ∀ σ H Q, liftT K L de' σ H Q → liftT K L de σ H Q := fun σ H Q ⟨C, G, W, δ, P, I, lk, hd, k⟩ => ⟨C, G, W, δ, P, I, lk, h δ P hd, k⟩
theorem liftA_imp {de de' : DA} (h : ∀ δ P, de' δ P → de δ P) : ∀ σ H Q, liftA K L de' σ H Q → liftA K L de σ H Q := fun σ H Q ⟨C, G, W, δ, P, I, lk, hd, k⟩ => ⟨C, G, W, δ, P, I, lk, h δ P hd, k⟩
theorem liftI_imp {de de' : DI} (h : ∀ δ P, de' δ P → de δ P) : ∀ σ H Q, liftI K L de' σ H Q → liftI K L de σ H Q := fun σ H Q ⟨C, G, W, δ, P, I, lk, hd, k⟩ => ⟨C, G, W, δ, P, I, lk, h δ P hd, k⟩
theorem liftO_imp {de de' : DO} (h : ∀ δ P, de' δ P → de δ P) : ∀ σ H Q, liftO K L de' σ H Q → liftO K L de σ H Q := fun σ H Q ⟨C, G, W, δ, P, I, lk, hd, k⟩ => ⟨C, G, W, δ, P, I, lk, h δ P hd, k⟩
theorem liftS_imp {de de' : DS} (h : ∀ DD δ, de' DD δ → de DD δ) : ∀ D σ H, liftS K L de' D σ H → liftS K L de D σ H := fun D σ H ⟨C, G, W, δ, DD, I, lk, hd, k⟩ => ⟨C, G, W, δ, DD, I, lk, h DD δ hd, k⟩
theorem liftG_imp {de de' : DG} (h : ∀ d δ P, de' d δ P → de d δ P) : ∀ v σ H Q, liftG K de' v σ H Q → liftG K de v σ H Q := fun v σ H Q ⟨C, G, W, δ, d, P, I, dn, hd, k⟩ => ⟨C, G, W, δ, d, P, I, dn, h d δ P hd, k⟩
theorem liftGs_imp {de de' : DGs} (h : ∀ d δ P, de' d δ P → de d δ P) : ∀ v σ H Q, liftGs K de' v σ H Q → liftGs K de v σ H Q := fun v σ H Q ⟨C, G, W, δ, d, P, I, dn, hd, k⟩ => ⟨C, G, W, δ, d, P, I, dn, h d δ P hd, k⟩
end
abbrev FE := F R
abbrev FT := F Bool
abbrev FA := F (List R)
abbrev FI := F (List D)
abbrev FO := F (Option Int)
/-! ### expressions -/
def fVar (i : Nat) : FE := fun δ => match (gt δ i).on with
  | true => .ret (.ok (.pk i) δ)
  | false => .fail
def fC (d : D) : FE := F.ret (.val d)
def fBin (g : D → D → Option R) (fa fb : FE) : FE := fa.bind fun r1 => fb.bind fun r2 => (useF r1).bind fun d1 => (useF r2).bind fun d2 => F.of (g d1 d2)
def GS (gf : D → D → Option R) (g : D → D → (R → Prop) → Prop) : Prop := ∀ d1 d2 r P, gf d1 d2 = some r → P r → g d1 d2 P
def fCmp (c : D → D → Option Bool) (fa fb : FE) : FE := fa.bind fun r1 => fb.bind fun r2 => (peekF r1).bind fun d1 => (peekF r2).bind fun d2 => (F.of (c d1 d2)).bind fun b => F.ret (.val (.bl b))
def CS (cf : D → D → Option Bool) (c : D → D → Bool → Prop) : Prop := ∀ d1 d2 b, cf d1 d2 = some b → c d1 d2 b
def blOf : D → Option Bool
  | .bl b => some b
  | _ => none
def fTst (fe : FE) : FT := fe.bind fun r => (peekF r).bind fun d => F.of (blOf d)
def fAnd (t u : FT) : FT := t.bind fun c => if c = true then u else F.ret false
def fOr (t u : FT) : FT := t.bind fun c => if c = true then F.ret true else u
def fNot (t : FT) : FT := t.bind fun c => F.ret (!c)
def fAndV (fa fb : FE) : FE := fa.bind fun r => (peekF r).bind fun d => (F.of (blOf d)).bind fun c => if c = true then fb else F.ret (.val (.bl false))
def fOrV (fa fb : FE) : FE := fa.bind fun r => (peekF r).bind fun d => (F.of (blOf d)).bind fun c => if c = true then F.ret (.val (.bl true)) else fb
def fNotV (fa : FE) : FE := fa.bind fun r => (peekF r).bind fun d => (F.of (blOf d)).bind fun c => F.ret (.val (.bl (!c)))
def fIf (t : FT) (fa fb : FE) : FE := t.bind fun c => if c = true then fa else fb
def fNil : FA := F.ret []
def fCons (fa : FE) (fr : FA) : FA := fa.bind fun r => fr.bind fun rs => F.ret (r.pub :: rs)
def valsF (rs : List R) : F (List D) := (useAllF rs).bind fun rs' => (F.of (vals? rs')).bind fun ds => if ds.length ≤ sizeLine then F.ret ds else F.fail
def fTup (fa : FA) : FE := fa.bind fun rs => (valsF rs).bind fun ds => F.ret (.val (.tup ds))
def fLst (fa : FA) : FE := fa.bind fun rs => (valsF rs).bind fun ds => F.ret (.own (.lst ds))
def intOf : D → Option Int
  | .int i => some i
  | _ => none
def fNeg (fa : FE) : FE := fa.bind fun r => (peekF r).bind fun d => (F.of (intOf d)).bind fun i => F.ret (.val (.int (-i)))
def ixF : D → Int → Option D
  | .lst xs, i => atI xs i
  | .tup xs, i => atI xs i
  | .str z, i => if z.length ≤ sizeLine then (atI z.cps.toList i).map fun c => .str ⟨#[c]⟩ else none
  | _, _ => none
def fIx (fa fb : FE) : FE := fa.bind fun r1 => fb.bind fun r2 => (peekF r1).bind fun d => (peekF r2).bind fun e => (F.of (intOf e)).bind fun i => (F.of (ixF d i)).bind fun d' => F.ret (.val d')
def foNone : FO := F.ret none
def foSome (fe : FE) : FO := fe.bind fun r => (peekF r).bind fun d => (F.of (intOf d)).bind fun i => F.ret (some i)
def slF : D → Option Int → Option Int → Option R
  | .lst xs, lo, hi => some (.own (.lst (cut xs lo hi)))
  | .tup xs, lo, hi => some (.val (.tup (cut xs lo hi)))
  | .str z, lo, hi => if z.length ≤ sizeLine then some (.val (.str (cutS z lo hi))) else none
  | _, _, _ => none
def fSl (fa : FE) (fl fh : FO) : FE := fa.bind fun r1 => fl.bind fun lo => fh.bind fun hi => (peekF r1).bind fun d => F.of (slF d lo hi)
def fCB (b : List D → Option R) (fa : FA) : FE := fa.bind fun rs => (peekAllF rs).bind fun ds => F.of (b ds)
def BS (bf : List D → Option R) (b : List D → (R → Prop) → Prop) : Prop := ∀ ds r P, bf ds = some r → P r → b ds P
def fDix (fa fb : FE) : FE := fa.bind fun r1 => fb.bind fun r2 => (peekF r1).bind fun d => (peekF r2).bind fun k => match d, keyD k with
  | .dic kvs, some k => (F.of (valD kvs k)).bind fun d => F.ret (.val d)
  | _, _ => F.fail
def fLrng2 (fa fb : FE) : FE := fa.bind fun r1 => fb.bind fun r2 => (peekF r1).bind fun d => (peekF r2).bind fun e => (F.of (intOf d)).bind fun i => (F.of (intOf e)).bind fun j =>
  if -(2 ^ 62) ≤ i ∧ i < 2 ^ 62 ∧ -(2 ^ 62) ≤ j ∧ j < 2 ^ 62 ∧ (j - i).toNat ≤ 2 ^ 24 then F.ret (.own (.lst (rngD i (j - i).toNat))) else F.fail
section
variable {X : Cx} {K : PySem.W.Frag} {L : Lk} {pos : Pos} {a b e : Expr} {es : List Expr} {fa fb fe : FE} {ta tb : FT} {x : Lx} {δ : List R} {P : R → List R → Prop}
abbrev HE (X : Cx) (L : Lk) (e : Expr) (f : FE) : Prop := PE X e (lift X.K L (pP L.x f))
abbrev HT' (X : Cx) (L : Lk) (e : Expr) (f : FT) : Prop := PT X e (liftT X.K L (pP L.x f))
abbrev HW (X : Cx) (L : Lk) (e : Expr) (f : FT) : Prop := PW X e (liftT X.K L (pP L.x f))
abbrev HA (X : Cx) (L : Lk) (es : List Expr) (f : FA) : Prop := PA X es (liftA X.K L (pP L.x f))
theorem fe_var (i : Nat) {x : Str} (hN : X.N[i]? = some x := by rfl) (hv : Vis X.env.scope x := by first | exact Or.inl rfl | exact Or.inr (Or.inl rfl) | exact Or.inr (Or.inr rfl)) (hd : (x == ("__debug__" : Str)) = false := by decide)
    (hcd : (x == ("__classdict__" : Str)) = false := by decide) : HE X L (.Name x pos) (fVar i) :=
  PE.weak (dv i hN hv hd hcd) <| lift_imp fun δ P h => by
    unfold pP fVar at h
    split at h
    · exact ⟨by assumption, h⟩
    · exact h.elim
theorem fe_int {i j} : HE X L (.Constant (.int i) j pos) (fC (.int i)) := dk_int
theorem fe_bl {b j} : HE X L (.Constant (.bool b) j pos) (fC (.bl b)) := dk_bl
theorem fe_non {j} : HE X L (.Constant .none j pos) (fC .non) := dk_non
theorem fe_str {s j} : HE X L (.Constant (.str s) j pos) (fC (.str s)) := dk_str
theorem bin_imp {gf : D → D → Option R} {g : D → D → (R → Prop) → Prop} (s : GS gf g) (δ : List R) (P : R → List R → Prop) (h : pP x (fBin gf fa fb) δ P) : dBin g (pP x fa) (pP x fb) δ P :=
  pP_then h fun r1 δ1 h => pP_then h fun r2 δ2 h => by
    obtain ⟨d1, δ3, e1, h⟩ := pP_use (pP_bind.mp h)
    obtain ⟨d2, δ4, e2, h⟩ := pP_use (pP_bind.mp h)
    obtain ⟨r, e3, h⟩ := pP_of h
    exact ⟨d1, δ3, d2, δ4, e1, e2, s d1 d2 r _ e3 h⟩
theorem fe_op {op : Operator} {r : R2} {gf : D → D → Option R} {g : D → D → (R → Prop) → Prop} (s : GS gf g) (ho : OpR X (binaryOp op) r) (hs : OpSem X.K r g) (ha : HE X L a fa) (hb : HE X L b fb) : HE X L (.BinOp a op b pos) (fBin gf fa fb) :=
  PE.weak (de_op ho hs ha hb) (lift_imp (bin_imp s))
theorem cmp_imp {cf : D → D → Option Bool} {c : D → D → Bool → Prop} (s : CS cf c) (δ : List R) (P : R → List R → Prop) (h : pP x (fCmp cf fa fb) δ P) : dCmp c (pP x fa) (pP x fb) δ P :=
  pP_then h fun r1 δ1 h => pP_then h fun r2 δ2 h => by
    obtain ⟨d1, e1, h⟩ := pP_peek (pP_bind.mp h)
    obtain ⟨d2, e2, h⟩ := pP_peek (pP_bind.mp h)
    obtain ⟨b, e3, h⟩ := pP_of (pP_bind.mp h)
    exact ⟨d1, d2, b, e1, e2, s d1 d2 b e3, h⟩
theorem tst_imp {de : DE} (w : ∀ δ P, pP x fe δ P → de δ P) (δ : List R) (P : Bool → List R → Prop) (h : pP x (fTst fe) δ P) : dTst de δ P :=
  w _ _ (pP_then h fun r δ1 h => by
    obtain ⟨d, e1, h⟩ := pP_peek (pP_bind.mp h)
    obtain ⟨b, e2, h⟩ := pP_of h
    cases d <;> cases e2
    exact ⟨_, e1, h⟩)
theorem fe_cmp {op : CmpOp} {r : R2} {cf : D → D → Option Bool} {c : D → D → Bool → Prop} (s : CS cf c) (ho : OpR X (compareOp op) r) (hs : CmpSem X.K r c) (ha : HE X L a fa) (hb : HE X L b fb) (hm : behindInMarks op b = false) : HE X L (.Compare a [op] [b] pos) (fCmp cf fa fb) :=
  PE.weak (de_cmp ho hs ha hb hm) (lift_imp (cmp_imp s))
theorem ft_cmp {op : CmpOp} {r : R2} {cf : D → D → Option Bool} {c : D → D → Bool → Prop} (s : CS cf c) (ho : OpR X (compareOp op) r) (hs : CmpSem X.K r c) (ha : HE X L a fa) (hb : HE X L b fb) (hm : behindInMarks op b = false) : HT' X L (.Compare a [op] [b] pos) (fTst (fCmp cf fa fb)) :=
  PT.weak (dt_cmp ho hs ha hb hm) (liftT_imp (tst_imp (cmp_imp s)))
theorem ft_val (h : HE X L e fe) (he : ∀ whole, isTrue e X.env whole = (do let v ← whole; standAt e.pos; holding [v] (truthy v)) := by intro _; rfl) : HT' X L e (fTst fe) := PT.weak (dt_val h he) (liftT_imp (tst_imp fun _ _ h => h))
theorem bl_imp {P : R → List R → Prop} {k : Bool → FE} {Q : Bool → List R → Prop} {r : R} {δ1 : List R} (h : pP x ((peekF r).bind fun d => (F.of (blOf d)).bind k) δ1 P) : ∃ c, peek r δ1 = some (.bl c) ∧ pP x (k c) δ1 P := by
  obtain ⟨d, e1, h⟩ := pP_peek (pP_bind.mp h)
  obtain ⟨b, e2, h⟩ := pP_of (pP_bind.mp h)
  cases d <;> cases e2
  exact ⟨_, e1, h⟩
theorem ite_two {α : Type} {c : Bool} {f g : F α} {P : α → List R → Prop} (h : pP x (if c = true then f else g) δ P) : (c = true → pP x f δ P) ∧ (c = false → pP x g δ P) := by
  cases c
  · exact ⟨fun z => (by cases z), fun _ => h⟩
  · exact ⟨fun _ => h, fun z => (by cases z)⟩
variable {rest : List Expr}
theorem ft_and1 (ha : HT' X L a ta) : HW X L (.BoolOp .And [a] pos) ta := dt_and1 ha
theorem ft_or1 (ha : HT' X L a ta) : HW X L (.BoolOp .Or [a] pos) ta := dt_or1 ha
theorem ft_and (ha : HT' X L a ta) (hb : HW X L (.BoolOp .And (b :: rest) pos) tb) : HW X L (.BoolOp .And (a :: b :: rest) pos) (fAnd ta tb) :=
  PW.weak (dt_and ha hb) (liftT_imp fun δ P h => pP_then h fun c δ1 h => ite_two h)
theorem ft_or (ha : HT' X L a ta) (hb : HW X L (.BoolOp .Or (b :: rest) pos) tb) : HW X L (.BoolOp .Or (a :: b :: rest) pos) (fOr ta tb) :=
  PW.weak (dt_or ha hb) (liftT_imp fun δ P h => pP_then h fun c δ1 h => ite_two h)
theorem ft_not (ha : HT' X L a ta) : HT' X L (.UnaryOp .Not a pos) (fNot ta) := PT.weak (dt_not ha) (liftT_imp fun δ P h => pP_then h fun c δ1 h => h)
theorem fe_one {op} (h : HE X L a fa) : HE X L (.BoolOp op [a] pos) fa := de_one h
theorem fe_and (ha : HE X L a fa) (hb : HE X L (.BoolOp .And (b :: rest) pos) fb) : HE X L (.BoolOp .And (a :: b :: rest) pos) (fAndV fa fb) :=
  PE.weak (de_and ha hb) (lift_imp fun δ P h => pP_then h fun r δ1 h => let ⟨c, e, h⟩ := bl_imp (Q := fun _ _ => True) h; ⟨c, e, ite_two h⟩)
theorem fe_or (ha : HE X L a fa) (hb : HE X L (.BoolOp .Or (b :: rest) pos) fb) : HE X L (.BoolOp .Or (a :: b :: rest) pos) (fOrV fa fb) :=
  PE.weak (de_or ha hb) (lift_imp fun δ P h => pP_then h fun r δ1 h => let ⟨c, e, h⟩ := bl_imp (Q := fun _ _ => True) h; ⟨c, e, ite_two h⟩)
theorem fe_not (ha : HE X L a fa) : HE X L (.UnaryOp .Not a pos) (fNotV fa) :=
  PE.weak (de_not ha) (lift_imp fun δ P h => pP_then h fun r δ1 h => let ⟨c, e, h⟩ := bl_imp (Q := fun _ _ => True) h; ⟨c, e, h⟩)
theorem fe_if {c : Expr} (hc : HT' X L c ta) (ha : HE X L a fa) (hb : HE X L b fb) : HE X L (.IfExp c a b pos) (fIf ta fa fb) :=
  PE.weak (de_if hc ha hb) (lift_imp fun δ P h => pP_then h fun c δ1 h => ite_two h)
theorem fa_nil : HA X L [] fNil := PA.weak da_nil (liftA_imp fun δ P h => h)
theorem fa_cons {fr : FA} (ha : HE X L e fe) (hr : HA X L es fr) (hs : starEach (e :: es) X.env = (false, eval e X.env) :: starEach es X.env := by rfl) : HA X L (e :: es) (fCons fe fr) :=
  PA.weak (da_cons ha hr hs) (liftA_imp fun δ P h => pP_then h fun r δ1 h => pP_then h fun rs δ2 h => h)
theorem vals_imp {rs : List R} {k : List D → FE} {P : R → List R → Prop} {δ1 : List R} (h : pP x ((valsF rs).bind k) δ1 P) : ∃ rs' δ2 ds, useAll rs δ1 = some (rs', δ2) ∧ vals? rs' = some ds ∧ ds.length ≤ sizeLine ∧ pP x (k ds) δ2 P := by
  obtain ⟨rs', δ2, e1, h⟩ := pP_useAll (pP_bind.mp (pP_bind.mp h))
  obtain ⟨ds, e2, h⟩ := pP_of (pP_bind.mp h)
  by_cases hl : ds.length ≤ sizeLine
  · rw [if_pos hl] at h
    exact ⟨rs', δ2, ds, e1, e2, hl, h⟩
  · rw [if_neg hl] at h; exact h.elim
theorem fe_tup {x1} {fa : FA} (h : HA X L es fa) : HE X L (.Tuple es x1 pos) (fTup fa) := PE.weak (de_tup h) (lift_imp fun δ P h => pP_then h fun rs δ1 h => vals_imp h)
theorem fe_lst {fa : FA} (h : HA X L es fa) : HE X L (.List es pos) (fLst fa) := PE.weak (de_lst h) (lift_imp fun δ P h => pP_then h fun rs δ1 h => vals_imp h)
theorem int_imp {α : Type} {P : α → List R → Prop} {k : Int → F α} {r : R} {δ1 : List R} (h : pP x ((peekF r).bind fun d => (F.of (intOf d)).bind k) δ1 P) : ∃ c, peek r δ1 = some (.int c) ∧ pP x (k c) δ1 P := by
  obtain ⟨d, e1, h⟩ := pP_peek (pP_bind.mp h)
  obtain ⟨b, e2, h⟩ := pP_of (pP_bind.mp h)
  cases d <;> cases e2
  exact ⟨_, e1, h⟩
theorem fe_neg (ha : HE X L a fa) : HE X L (.UnaryOp .USub a pos) (fNeg fa) := PE.weak (de_neg ha) (lift_imp fun δ P h => pP_then h fun r δ1 h => int_imp h)
theorem ixF_ok {d d' : D} {i : Int} (h : ixF d i = some d') : ixD d i d' := by
  unfold ixF at h
  split at h
  · exact h
  · exact h
  · split at h
    · rename_i hl
      obtain ⟨c, h1, h2⟩ := Option.map_eq_some_iff.mp h
      exact ⟨hl, c, h1, h2.symm⟩
    · cases h
  · cases h
theorem fe_ix (ha : HE X L a fa) (hb : HE X L b fb) (hs : PlainIx b := by exact fun _ _ => rfl) : HE X L (.Subscript a b pos) (fIx fa fb) :=
  PE.weak (de_ix ha hb hs) (lift_imp fun δ P h => pP_then h fun r1 δ1 h => pP_then h fun r2 δ2 h => by
    obtain ⟨d, e1, h⟩ := pP_peek (pP_bind.mp h)
    obtain ⟨i, e2, h⟩ := int_imp h
    obtain ⟨d', e3, h⟩ := pP_of (pP_bind.mp h)
    exact ⟨d, i, d', e1, e2, ixF_ok e3, h⟩)
abbrev HO' (X : Cx) (L : Lk) (o : Option Expr) (f : FO) : Prop := PO X o (liftO X.K L (pP L.x f))
theorem fo_none : HO' X L none foNone := PO.weak do_none (liftO_imp fun δ P h => h)
theorem fo_some (h : HE X L e fe) : HO' X L (some e) (foSome fe) := PO.weak (do_some h) (liftO_imp fun δ P h => pP_then h fun r δ1 h => int_imp h)
theorem fe_sl {lo hi : Option Expr} {p2 : Pos} {fl fh : FO} (ha : HE X L a fa) (hl : HO' X L lo fl) (hh : HO' X L hi fh) : HE X L (.Subscript a (.Slice lo hi none p2) pos) (fSl fa fl fh) :=
  PE.weak (de_sl ha hl hh) (lift_imp fun δ P h => pP_then h fun r1 δ1 h => pP_then h fun l δ2 h => pP_then h fun u δ3 h => by
    obtain ⟨d, e1, h⟩ := pP_peek (pP_bind.mp h)
    obtain ⟨r, e2, h⟩ := pP_of h
    refine ⟨d, r, e1, ?_, h⟩
    unfold slF at e2
    split at e2
    · cases e2; exact rfl
    · cases e2; exact rfl
    · split at e2
      · cases e2; exact ⟨by assumption, rfl⟩
      · cases e2
    · cases e2)
theorem cb_imp {bf : List D → Option R} {bp : List D → (R → Prop) → Prop} (s : BS bf bp) {fa : FA} (δ : List R) (P : R → List R → Prop) (h : pP x (fCB bf fa) δ P) : dCB bp (pP x fa) δ P := pP_then h fun rs δ1 h => by
    obtain ⟨ds, e1, h⟩ := pP_peekAll (pP_bind.mp h)
    obtain ⟨r, e2, h⟩ := pP_of h
    exact ⟨ds, e1, s ds r _ e2 h⟩
variable {y : Str} {p : Pos} {id Ty : String} {rr : List V → Hp → VK → Prop} {bp : List D → (R → Prop) → Prop} {bf : List D → Option R} {fA : FA}
theorem fe_cb (s : BS bf bp) (hc : CallR X (.builtin id) rr) (hs : CallLook X.K rr bp) (hg : Gl X y) (hm : X.mg y = none) (hv : bootBuiltins y = some (.builtin id)) (ha : HA X L (e :: es) fA) (hn : y ≠ "__name__" := by decide) (hdb : (y == ("__debug__" : Str)) = false := by decide)
    (he : starEach (e :: es) X.env = (false, eval e X.env) :: starEach es X.env := by rfl) (hpl : (backTo pos (starEach es X.env)).any (·.1) = false := by rfl) : HE X L (.Call (.Name y p) (e :: es) [] pos) (fCB bf fA) := PE.weak (de_cb hc hs hg hm hv ha hn hdb he hpl) (lift_imp (cb_imp s))
theorem fe_ct (s : BS bf bp) (hc : CallR X (.type Ty) rr) (hs : CallLook X.K rr bp) (hg : Gl X y) (hm : X.mg y = none) (hv : bootBuiltins y = some (.type Ty)) (ha : HA X L (e :: es) fA) (hn : y ≠ "__name__" := by decide) (hdb : (y == ("__debug__" : Str)) = false := by decide)
    (he : starEach (e :: es) X.env = (false, eval e X.env) :: starEach es X.env := by rfl) (hpl : (backTo pos (starEach es X.env)).any (·.1) = false := by rfl) : HE X L (.Call (.Name y p) (e :: es) [] pos) (fCB bf fA) := PE.weak (de_ct hc hs hg hm hv ha hn hdb he hpl) (lift_imp (cb_imp s))
theorem fe_dix (hu : X.A.units + 1 < cLine) (ha : HE X L a fa) (hb : HE X L b fb) (hs : NoSl b := by exact fun _ _ => rfl) : HE X L (.Subscript a b pos) (fDix fa fb) :=
  PE.weak (de_dix hu ha hb hs) (lift_imp fun δ P h => pP_then h fun r1 δ1 h => pP_then h fun r2 δ2 h => by
    obtain ⟨d, e1, h⟩ := pP_peek (pP_bind.mp h)
    obtain ⟨k, e2, h⟩ := pP_peek (pP_bind.mp h)
    split at h
    · obtain ⟨d', e3, h⟩ := pP_of (pP_bind.mp h)
      exact ⟨_, _, _, _, e1, e2, by assumption, e3, h⟩
    · exact h.elim)
theorem fe_lrng2 {q : Pos} {pos' : Pos} (hc : X.calm = true) (hg : Gl X "list") (hm : X.mg "list" = none) (hg2 : Gl X "range") (hm2 : X.mg "range" = none) (ha : HE X L a fa) (hb : HE X L b fb)
    (na : starEach [.Call (.Name "range" q) [a, b] [] pos'] X.env = (false, eval (.Call (.Name "range" q) [a, b] [] pos') X.env) :: starEach [] X.env := by rfl)
    (na2 : starEach [a, b] X.env = (false, eval a X.env) :: starEach [b] X.env := by rfl) (nb : starEach [b] X.env = (false, eval b X.env) :: starEach [] X.env := by rfl) (hp : (backTo pos' (starEach [b] X.env)).any (·.1) = false := by rfl) :
    HE X L (.Call (.Name "list" p) [.Call (.Name "range" q) [a, b] [] pos'] [] pos) (fLrng2 fa fb) :=
  PE.weak (de_lrng2 hc hg hm hg2 hm2 ha hb na na2 nb hp) (lift_imp fun δ P h => pP_then h fun r1 δ1 h => pP_then h fun r2 δ2 h => by
    obtain ⟨d, e1, h1⟩ := pP_peek (pP_bind.mp h)
    obtain ⟨d2, e2, h2⟩ := pP_peek (pP_bind.mp h1)
    obtain ⟨i, e3, h3⟩ := pP_of (pP_bind.mp h2)
    obtain ⟨j, e4, h4⟩ := pP_of (pP_bind.mp h3)
    clear h h1 h2 h3
    by_cases hh : -(2 ^ 62) ≤ i ∧ i < 2 ^ 62 ∧ -(2 ^ 62) ≤ j ∧ j < 2 ^ 62 ∧ (j - i).toNat ≤ 2 ^ 24
    · rw [if_pos hh] at h4
      cases d <;> cases e3
      cases d2 <;> cases e4
      exact ⟨_, _, e1, e2, hh, h4⟩
    · rw [if_neg hh] at h4; exact h4.elim)
end
end DL

namespace DL
open PySem PySem.Spec L2
/-! ### operators -/
def gAddF : D → D → Option R
  | .int i, .int j => some (.val (.int (i + j)))
  | .str x, .str y => if x.length + y.length ≤ sizeLine then some (.val (.str (x ++ y))) else none
  | .lst x, .lst y => if x.length + y.length ≤ sizeLine then some (.own (.lst (x ++ y))) else none
  | .tup x, .tup y => if x.length + y.length ≤ sizeLine then some (.val (.tup (x ++ y))) else none
  | _, _ => none
def gIF (c : Int → Int → Bool) (f : Int → Int → Int) : D → D → Option R
  | .int i, .int j => if c i j = true then some (.val (.int (f i j))) else none
  | _, _ => none
def gSubF : D → D → Option R := gIF (fun _ _ => true) fun i j => i - j
def gModF : D → D → Option R := gIF (fun _ j => decide (j ≠ 0)) fun i j => i.fmod j
def gPowF : D → D → Option R := gIF (fun i j => decide (0 ≤ j) && decide (j ≤ 1000000) && decide (i.natAbs < 18446744073709551616)) fun i j => i ^ j.toNat
def gShrF : D → D → Option R := gIF (fun _ j => decide (0 ≤ j)) fun i j => i / 2 ^ j.toNat
def gFdivF : D → D → Option R := gIF (fun _ j => decide (j ≠ 0) && decide (j.natAbs.log2 < 9000)) fun i j => i.fdiv j
def mulB (i j : Int) : Bool := decide (i.natAbs.log2 + j.natAbs.log2 < 1000000)
def gMulF : D → D → Option R
  | .int i, .int j => if mulB i j = true then some (.val (.int (i * j))) else none
  | .lst x, .int k => if -(2 ^ 63) ≤ k ∧ k < 2 ^ 63 ∧ x.length * k.toNat ≤ sizeLine then some (.own (.lst (List.replicate k.toNat x).flatten)) else none
  | _, _ => none
theorem gs_add : GS gAddF gAdd := fun d1 d2 r P h hp => by
  unfold gAddF at h
  split at h
  · cases h; exact hp
  · split at h
    · cases h; exact ⟨by assumption, hp⟩
    · cases h
  · split at h
    · cases h; exact ⟨by assumption, hp⟩
    · cases h
  · split at h
    · cases h; exact ⟨by assumption, hp⟩
    · cases h
  · cases h
theorem gs_I {c : Int → Int → Bool} {cp : Int → Int → Prop} {f : Int → Int → Int} (w : ∀ i j, c i j = true → cp i j) : GS (gIF c f) (gI cp fun i j => .int (f i j)) := fun d1 d2 r P h hp => by
  unfold gIF at h
  split at h
  · split at h
    · cases h; exact ⟨w _ _ (by assumption), hp⟩
    · cases h
  · cases h
theorem gs_sub : GS gSubF gMinus := gs_I fun _ _ _ => trivial
theorem gs_mod : GS gModF gMod := gs_I fun _ _ h => of_decide_eq_true h
theorem gs_pow : GS gPowF gPow := gs_I fun i j h => by
  simp only [Bool.and_eq_true, decide_eq_true_eq] at h
  exact ⟨h.1.1, h.1.2, h.2⟩
theorem gs_shr : GS gShrF gShr := gs_I fun _ _ h => of_decide_eq_true h
theorem gs_fdiv : GS gFdivF gFdivA := gs_I fun i j h => by
  simp only [Bool.and_eq_true, decide_eq_true_eq] at h
  exact ⟨h.1, h.2⟩
theorem gs_mul : GS gMulF gMul := fun d1 d2 r P h hp => by
  unfold gMulF at h
  split at h
  · split at h
    · rename_i z; cases h; exact ⟨.inr (by unfold CMulW; unfold mulB at z; exact of_decide_eq_true z), hp⟩
    · cases h
  · split at h
    · rename_i z
      cases h; exact ⟨⟨z.1, z.2.1⟩, z.2.2, hp⟩
    · cases h
  · cases h
/-! ### comparisons -/
def cIF (f : Int → Int → Bool) : D → D → Option Bool
  | .int i, .int j => some (f i j)
  | _, _ => none
def cIsF (n : Bool) : D → D → Option Bool
  | d, .non => some (if n = true then !d.isN else d.isN)
  | _, _ => none
def okk : Nat → D → Bool
  | _, .non => true
  | _, .bl _ => true
  | _, .int _ => true
  | _, .str x => PyData.strOk x
  | n + 1, .lst xs => xs.all (okk n)
  | n + 1, .tup xs => xs.all (okk n)
  | _, _ => false
theorem okk_ok : ∀ {n : Nat} {d : D}, okk n d = true → d.Ok n := by
  intro n
  induction n with
  | zero => intro d h; cases d <;> first | exact trivial | exact h | cases h
  | succ n ih =>
    intro d h
    cases d with
    | lst xs => exact fun d hd => ih (List.all_eq_true.mp h d hd)
    | tup xs => exact fun d hd => ih (List.all_eq_true.mp h d hd)
    | non => exact trivial
    | bl => exact trivial
    | int => exact trivial
    | str => exact h
    | _ => cases h
theorem ok_okk : ∀ {n : Nat} {d : D}, d.Ok n → okk n d = true := by
  intro n
  induction n with
  | zero => intro d h; cases d <;> first | rfl | exact h | exact h.elim
  | succ n ih =>
    intro d h
    cases d with
    | lst xs => exact List.all_eq_true.mpr fun d hd => ih (h d hd)
    | tup xs => exact List.all_eq_true.mpr fun d hd => ih (h d hd)
    | non => rfl
    | bl => rfl
    | int => rfl
    | str => exact h
    | _ => exact h.elim
def cEqF (ne : Bool) (d e : D) : Option Bool := if okk 60 d = true ∧ okk 60 e = true then some (if ne = true then !eqD 60 d e else eqD 60 d e) else none
def cEqSF : D → D → Option Bool
  | .str x, .str y => some (decide (x = y))
  | _, _ => none
def cDinF (neg : Bool) : D → D → Option Bool
  | d, .dic kvs => match keyD d with
    | some k => some (if neg = true then !(valD kvs k).isSome else (valD kvs k).isSome)
    | none => none
  | _, _ => none
theorem cs_I' {f : Int → Int → Bool} : CS (cIF f) (cI f) := fun d1 d2 b h => by
  unfold cIF at h
  split at h
  · cases h; exact rfl
  · cases h
theorem cs_is' {n : Bool} : CS (cIsF n) (cIsN n) := fun d1 d2 b h => by
  unfold cIsF at h
  split at h
  · cases h; exact ⟨rfl, rfl⟩
  · cases h
theorem cs_eq' {n : Bool} : CS (cEqF n) (cEq n) := fun d1 d2 b h => by
  unfold cEqF at h
  split at h
  · rename_i z
    cases h; exact ⟨okk_ok z.1, okk_ok z.2, rfl⟩
  · cases h
theorem cs_eqS' : CS cEqSF cEqS := fun d1 d2 b h => by
  unfold cEqSF at h
  split at h
  · cases h; exact ⟨_, _, rfl, rfl, rfl⟩
  · cases h
theorem cs_din' {n : Bool} : CS (cDinF n) (cDin n) := fun d1 d2 b h => by
  unfold cDinF at h
  split at h
  · split at h
    · cases h; exact ⟨_, _, by assumption, rfl, rfl⟩
    · cases h
  · cases h
section
variable {X : Cx} {K : PySem.W.Frag} {L : Lk} {pos : Pos} {a b e : Expr} {es : List Expr} {fa fb fe : FE} {ta tb : FT}
theorem fe_add (ha : HE X L a fa) (hb : HE X L b fb) : HE X L (.BinOp a .Add b pos) (fBin gAddF fa fb) := fe_op gs_add op_addA os_add ha hb
theorem fe_sub (ha : HE X L a fa) (hb : HE X L b fb) : HE X L (.BinOp a .Sub b pos) (fBin gSubF fa fb) := fe_op gs_sub op_sub os_I0 ha hb
theorem fe_mul (ha : HE X L a fa) (hb : HE X L b fb) : HE X L (.BinOp a .Mult b pos) (fBin gMulF fa fb) := fe_op gs_mul op_mulA os_mul ha hb
theorem fe_fdiv (ha : HE X L a fa) (hb : HE X L b fb) : HE X L (.BinOp a .FloorDiv b pos) (fBin gFdivF fa fb) := fe_op gs_fdiv op_fdivA os_I ha hb
theorem fe_mod (ha : HE X L a fa) (hb : HE X L b fb) : HE X L (.BinOp a .Mod b pos) (fBin gModF fa fb) := fe_op gs_mod op_modN os_I ha hb
theorem fe_pow (ha : HE X L a fa) (hb : HE X L b fb) : HE X L (.BinOp a .Pow b pos) (fBin gPowF fa fb) := fe_op gs_pow op_pow os_I ha hb
theorem fe_shr (ha : HE X L a fa) (hb : HE X L b fb) : HE X L (.BinOp a .RShift b pos) (fBin gShrF fa fb) := fe_op gs_shr op_shr os_I ha hb
abbrev cLt := cIF fun i j => decide (i < j)
abbrev cLe := cIF fun i j => decide (i ≤ j)
abbrev cGt := cIF fun i j => decide (j < i)
abbrev cGe := cIF fun i j => decide (j ≤ i)
theorem fe_lt (ha : HE X L a fa) (hb : HE X L b fb) : HE X L (.Compare a [.Lt] [b] pos) (fCmp cLt fa fb) := fe_cmp cs_I' op_lt cs_I ha hb (nomark _)
theorem fe_le (ha : HE X L a fa) (hb : HE X L b fb) : HE X L (.Compare a [.LtE] [b] pos) (fCmp cLe fa fb) := fe_cmp cs_I' op_le cs_I ha hb (nomark _)
theorem fe_gt (ha : HE X L a fa) (hb : HE X L b fb) : HE X L (.Compare a [.Gt] [b] pos) (fCmp cGt fa fb) := fe_cmp cs_I' op_gt cs_I ha hb (nomark _)
theorem fe_ge (ha : HE X L a fa) (hb : HE X L b fb) : HE X L (.Compare a [.GtE] [b] pos) (fCmp cGe fa fb) := fe_cmp cs_I' op_ge cs_I ha hb (nomark _)
theorem ft_lt (ha : HE X L a fa) (hb : HE X L b fb) : HT' X L (.Compare a [.Lt] [b] pos) (fTst (fCmp cLt fa fb)) := ft_cmp cs_I' op_lt cs_I ha hb (nomark _)
theorem ft_le (ha : HE X L a fa) (hb : HE X L b fb) : HT' X L (.Compare a [.LtE] [b] pos) (fTst (fCmp cLe fa fb)) := ft_cmp cs_I' op_le cs_I ha hb (nomark _)
theorem ft_gt (ha : HE X L a fa) (hb : HE X L b fb) : HT' X L (.Compare a [.Gt] [b] pos) (fTst (fCmp cGt fa fb)) := ft_cmp cs_I' op_gt cs_I ha hb (nomark _)
theorem ft_ge (ha : HE X L a fa) (hb : HE X L b fb) : HT' X L (.Compare a [.GtE] [b] pos) (fTst (fCmp cGe fa fb)) := ft_cmp cs_I' op_ge cs_I ha hb (nomark _)
theorem fe_is (ha : HE X L a fa) (hb : HE X L b fb) : HE X L (.Compare a [.Is] [b] pos) (fCmp (cIsF false) fa fb) := fe_cmp cs_is' op_isN cs_isN ha hb (nomark _)
theorem fe_isnot (ha : HE X L a fa) (hb : HE X L b fb) : HE X L (.Compare a [.IsNot] [b] pos) (fCmp (cIsF true) fa fb) := fe_cmp cs_is' op_notN cs_notN ha hb (nomark _)
theorem ft_is (ha : HE X L a fa) (hb : HE X L b fb) : HT' X L (.Compare a [.Is] [b] pos) (fTst (fCmp (cIsF false) fa fb)) := ft_cmp cs_is' op_isN cs_isN ha hb (nomark _)
theorem ft_isnot (ha : HE X L a fa) (hb : HE X L b fb) : HT' X L (.Compare a [.IsNot] [b] pos) (fTst (fCmp (cIsF true) fa fb)) := ft_cmp cs_is' op_notN cs_notN ha hb (nomark _)
theorem fe_eq (hu : X.A.units + 64 < cLine) (ha : HE X L a fa) (hb : HE X L b fb) : HE X L (.Compare a [.Eq] [b] pos) (fCmp (cEqF false) fa fb) := fe_cmp cs_eq' (op_eqD hu) cs_eq ha hb (nomark _)
theorem fe_ne (hu : X.A.units + 64 < cLine) (ha : HE X L a fa) (hb : HE X L b fb) : HE X L (.Compare a [.NotEq] [b] pos) (fCmp (cEqF true) fa fb) := fe_cmp cs_eq' (op_neD hu) cs_ne ha hb (nomark _)
theorem ft_eq (hu : X.A.units + 64 < cLine) (ha : HE X L a fa) (hb : HE X L b fb) : HT' X L (.Compare a [.Eq] [b] pos) (fTst (fCmp (cEqF false) fa fb)) := ft_cmp cs_eq' (op_eqD hu) cs_eq ha hb (nomark _)
theorem ft_ne (hu : X.A.units + 64 < cLine) (ha : HE X L a fa) (hb : HE X L b fb) : HT' X L (.Compare a [.NotEq] [b] pos) (fTst (fCmp (cEqF true) fa fb)) := ft_cmp cs_eq' (op_neD hu) cs_ne ha hb (nomark _)
theorem fe_eqS (ha : HE X L a fa) (hb : HE X L b fb) : HE X L (.Compare a [.Eq] [b] pos) (fCmp cEqSF fa fb) := fe_cmp cs_eqS' op_eq cs_eqS ha hb (nomark _)
theorem ft_eqS (ha : HE X L a fa) (hb : HE X L b fb) : HT' X L (.Compare a [.Eq] [b] pos) (fTst (fCmp cEqSF fa fb)) := ft_cmp cs_eqS' op_eq cs_eqS ha hb (nomark _)
theorem fe_din (hu : X.A.units + 1 < cLine) (ha : HE X L a fa) (hb : HE X L b fb) (hm : behindInMarks .In b = false := by rfl) : HE X L (.Compare a [.In] [b] pos) (fCmp (cDinF false) fa fb) := PE.weak (de_din hu ha hb hm) (lift_imp (cmp_imp cs_din'))
theorem fe_dnotin (hu : X.A.units + 1 < cLine) (ha : HE X L a fa) (hb : HE X L b fb) (hm : behindInMarks .NotIn b = false := by rfl) : HE X L (.Compare a [.NotIn] [b] pos) (fCmp (cDinF true) fa fb) := PE.weak (de_dnotin hu ha hb hm) (lift_imp (cmp_imp cs_din'))
theorem ft_din (hu : X.A.units + 1 < cLine) (ha : HE X L a fa) (hb : HE X L b fb) (hm : behindInMarks .In b = false := by rfl) : HT' X L (.Compare a [.In] [b] pos) (fTst (fCmp (cDinF false) fa fb)) := PT.weak (dt_din hu ha hb hm) (liftT_imp (tst_imp (cmp_imp cs_din')))
theorem ft_dnotin (hu : X.A.units + 1 < cLine) (ha : HE X L a fa) (hb : HE X L b fb) (hm : behindInMarks .NotIn b = false := by rfl) : HT' X L (.Compare a [.NotIn] [b] pos) (fTst (fCmp (cDinF true) fa fb)) := PT.weak (dt_dnotin hu ha hb hm) (liftT_imp (tst_imp (cmp_imp cs_din')))
end
/-! ### built-ins -/
def bLenF : List D → Option R
  | [.lst xs] => some (.val (.int xs.length))
  | [.tup xs] => some (.val (.int xs.length))
  | [.str z] => if z.length ≤ sizeLine then some (.val (.int z.length)) else none
  | _ => none
def bIntF : List D → Option R
  | [.int i] => some (.val (.int i))
  | [.bl k] => some (.val (.int (if k = true then 1 else 0)))
  | _ => none
def bAbsF : List D → Option R
  | [.int i] => some (.val (.int (if i < 0 then -i else i)))
  | _ => none
def bMax2F : List D → Option R
  | [.int i, .int j] => some (.val (.int (if j > i then j else i)))
  | _ => none
def bMin2F : List D → Option R
  | [.int i, .int j] => some (.val (.int (if j < i then j else i)))
  | _ => none
def bListF : List D → Option R
  | [.lst xs] => some (.own (.lst xs))
  | [.tup xs] => some (.own (.lst xs))
  | _ => none
def bTupleF : List D → Option R
  | [.lst xs] => some (.val (.tup xs))
  | [.tup xs] => some (.val (.tup xs))
  | _ => none
open Classical in
noncomputable def bReprF : List D → Option R
  | [d] => if d.Fits 60 16000000 then some (.val (.str d.py.shown)) else none
  | _ => none
def bDictF : List D → Option R
  | [.tup ps] => match pairsD ps with
    | some kvs => some (.own (.dic (mergeD [] kvs)))
    | none => none
  | _ => none
theorem bs_len : BS bLenF bLen := fun ds r P h hp => by
  unfold bLenF at h
  split at h
  · cases h; exact hp
  · cases h; exact hp
  · split at h
    · cases h; exact ⟨by assumption, hp⟩
    · cases h
  · cases h
theorem bs_int : BS bIntF bInt := fun ds r P h hp => by
  unfold bIntF at h
  split at h
  · cases h; exact hp
  · cases h; exact hp
  · cases h
theorem bs_abs : BS bAbsF bAbs := fun ds r P h hp => by
  unfold bAbsF at h
  split at h
  · cases h; exact hp
  · cases h
theorem bs_max2 : BS bMax2F bMax2 := fun ds r P h hp => by
  unfold bMax2F at h
  split at h
  · cases h; exact hp
  · cases h
theorem bs_min2 : BS bMin2F bMin2 := fun ds r P h hp => by
  unfold bMin2F at h
  split at h
  · cases h; exact hp
  · cases h
theorem bs_list : BS bListF bList := fun ds r P h hp => by
  unfold bListF at h
  split at h
  · cases h; exact hp
  · cases h; exact hp
  · cases h
theorem bs_tuple : BS bTupleF bTuple := fun ds r P h hp => by
  unfold bTupleF at h
  split at h
  · cases h; exact hp
  · cases h; exact hp
  · cases h
theorem bs_repr : BS bReprF bRepr := fun ds r P h hp => by
  unfold bReprF at h
  split at h
  · split at h
    · cases h; exact ⟨60, 16000000, by assumption, by decide, by decide, hp⟩
    · cases h
  · cases h
theorem bs_dict : BS bDictF bDict := fun ds r P h hp => by
  unfold bDictF at h
  split at h
  · split at h
    · cases h; exact ⟨_, by assumption, hp⟩
    · cases h
  · cases h
end DL

namespace DL
open PySem PySem.Spec L2
/-! ### statements -/
inductive SO where
  | nx (δ : List R) | rt (r : R) (δ : List R) | bk (δ : List R) | ct (δ : List R) | err (c : Addr) (fs : List (Str × D)) (δ : List R)
abbrev FS := List R → T SO
def SO.holds (x : Lx) (DD : DEnds) : SO → Prop
  | .nx δ => DD.nx δ
  | .rt r δ => DD.rt r δ
  | .bk δ => DD.bk δ
  | .ct δ => DD.ct δ
  | .err c fs δ => x c fs δ
def pS (x : Lx) (f : FS) : DS := fun DD δ => (f δ).all (SO.holds x DD)
/-- an expression ahead of a statement's rest -/
def EO.go {α : Type} (o : EO α) (k : α → FS) : T SO := match o with
  | .ok a δ => k a δ
  | .err c fs δ => .ret (.err c fs δ)
def eS {α : Type} (f : F α) (k : α → FS) : FS := fun δ => (f δ).bind fun o => o.go k
def fNext : FS := fun δ => .ret (.nx δ)
def fBreak : FS := fun δ => .ret (.bk δ)
def fCont : FS := fun δ => .ret (.ct δ)
def SO.andThen (o : SO) (b : FS) : T SO := match o with
  | .nx δ => b δ
  | .rt r δ => .ret (.rt r δ)
  | .bk δ => .ret (.bk δ)
  | .ct δ => .ret (.ct δ)
  | .err c fs δ => .ret (.err c fs δ)
def fSq (a b : FS) : FS := fun δ => (a δ).bind fun o => o.andThen b
def fExpr (fe : FE) : FS := eS fe fun _ δ => .ret (.nx δ)
def fRet (fe : FE) : FS := eS fe fun r δ => match retR r δ with
  | some (r', _) => .ret (.rt r' [])
  | none => .fail
def fRetN : FS := fun _ => .ret (.rt (.val .non) [])
def fIfS (t : FT) (a b : FS) : FS := eS t fun c => if c = true then a else b
def fSet (i : Nat) (fe : FE) : FS := eS fe fun r δ => match asR r δ with
  | some (r', δ') => .ret (.nx (st δ' i r'))
  | none => .fail
/-! ### targets -/
abbrev FG := D → List R → Option (List R)
abbrev FGs := List D → List R → Option (List R)
def pG (g : FG) : DG := fun d δ P => ∃ δ', g d δ = some δ' ∧ P δ'
def pGs (g : FGs) : DGs := fun d δ P => ∃ δ', g d δ = some δ' ∧ P δ'
def fgN (i : Nat) : FG := fun d δ => some (st δ i (.val d))
def fgNil : FGs
  | [], δ => some δ
  | _ :: _, _ => none
def fgCons (g : FG) (u : FGs) : FGs
  | d :: r, δ => (g d δ).bind fun δ' => u r δ'
  | [], _ => none
def fgT (n : Nat) (u : FGs) : FG
  | .tup ds, δ => if ds.length = n then u ds δ else none
  | _, _ => none
def fAsg (fe : FE) (g : FG) : FS := eS fe fun r => eS (useF r) fun d δ => match g d δ with
  | some δ' => .ret (.nx δ')
  | none => .fail
/-! ### loops -/
def SO.turn (o : SO) (k : FS) : T SO := match o with
  | .nx δ => k δ
  | .ct δ => k δ
  | .bk δ => .ret (.nx δ)
  | .rt r δ => .ret (.rt r δ)
  | .err c fs δ => .ret (.err c fs δ)
def fLoop (g : FG) (b : FS) : List D → FS
  | [], δ => .ret (.nx δ)
  | d :: ds, δ => match g d δ with
    | some δ1 => (b δ1).bind fun o => o.turn (fLoop g b ds)
    | none => .fail
def fFor (fi : FI) (g : FG) (b : FS) : FS := eS fi fun ds => fLoop g b ds
def listOf : D → Option (List D) := D.items
def fiSeq (fe : FE) : FI := fe.bind fun r => (useF r).bind fun d => F.of d.items
def fiRng1 (fa : FA) : FI := fa.bind fun rs => (peekAllF rs).bind fun ds => match ds with
  | [.int j] => if -(2 ^ 62) ≤ j ∧ j < 2 ^ 62 then F.ret (rngD 0 j.toNat) else F.fail
  | _ => F.fail
def fiRng2 (fa : FA) : FI := fa.bind fun rs => (peekAllF rs).bind fun ds => match ds with
  | [.int i, .int j] => if -(2 ^ 62) ≤ i ∧ i < 2 ^ 62 ∧ -(2 ^ 62) ≤ j ∧ j < 2 ^ 62 then F.ret (rngD i (j - i).toNat) else F.fail
  | _ => F.fail
def fiEnum (fa : FA) : FI := fa.bind fun rs => (useAllF rs).bind fun rs' => match rs' with
  | [.val (.tup ds)] => F.ret (enumD 0 ds)
  | _ => F.fail
/-! ### comprehensions -/
def fLc (g : FG) (t : FT) (e : FE) (vs : List Nat) : List D → List D → List R → T (List D × List R)
  | [], acc, δ => .ret (acc, δ)
  | d :: ds, acc, δ => match g d δ with
    | none => .fail
    | some δ1 => (t δ1).bind fun o => match o with
      | .err _ _ _ => .fail
      | .ok b δ2 => if b = true then (e.bind useF δ2).bind fun o => match o with
          | .err _ _ _ => .fail
          | .ok d' δ4 => if acc.length < sizeLine then fLc g t e vs ds (acc ++ [d']) (wipeD δ4 vs) else .fail
        else fLc g t e vs ds acc (wipeD δ2 vs)
def fComp (fi : FI) (g : FG) (t : FT) (e : FE) (vs : List Nat) : FE := fi.bind fun ds δ1 => (fLc g t e vs ds [] (wipeD δ1 vs)).bind fun p => .ret (.ok (.own (.lst p.1)) (backD p.2 δ1 vs))
def fYes : FT := F.ret true
/-! ### what is one's own is changed -/
def fApp (i : Nat) (fe : FE) : FE := fun δ => match gt δ i with
  | .own (.lst _) => (fe.bind fun r => (useF r).bind fun d => fun δ2 => match gt δ2 i with
    | .own (.lst ds) => if ds.length < sizeLine then .ret (.ok (.val .non) (st δ2 i (.own (.lst (ds ++ [d]))))) else .fail
    | _ => .fail) δ
  | _ => .fail
section
variable {X : Cx} {K : PySem.W.Frag} {L : Lk} {pos : Pos} {e : Expr} {fe : FE} {sm : Stmt} {rest body orelse : List Stmt} {a b : FS} {ta : FT} {x : Lx} {DD : DEnds} {δ : List R}
abbrev HS (X : Cx) (L : Lk) (s : Stmt) (f : FS) : Prop := PS X s (liftS X.K L (pS L.x f))
abbrev HSs (X : Cx) (L : Lk) (s : List Stmt) (f : FS) : Prop := PSs X s (liftS X.K L (pS L.x f))
theorem eS_imp {α : Type} {f : F α} {k : α → FS} (h : pS x (eS f k) DD δ) {Q : α → List R → Prop} (w : ∀ a δ', pS x (k a) DD δ' → Q a δ') : pP x f δ Q := by
  unfold pS eS at h
  rw [T.all_bind] at h
  refine T.all_mono h fun o ho => ?_
  cases o with
  | ok a δ' => exact w a δ' ho
  | err c fs δ' => exact ho
theorem fss_nil : HSs X L [] fNext := PSs.weak dss_nil (liftS_imp fun DD δ h => h)
theorem sq_imp (DD : DEnds) (δ : List R) (h : pS x (fSq a b) DD δ) : dSq (pS x a) (pS x b) DD δ := by
  unfold pS fSq at h
  rw [T.all_bind] at h
  refine T.all_mono h fun o ho => ?_
  cases o <;> exact ho
theorem fss_cons (h1 : HS X L sm a) (h2 : HSs X L rest b) : HSs X L (sm :: rest) (fSq a b) := PSs.weak (dss_cons h1 h2) (liftS_imp sq_imp)
theorem fss_one (h1 : HS X L sm a) : HSs X L [sm] a := dss_one h1
theorem fs_pass : HS X L (.Pass pos) fNext := PS.weak ds_pass (liftS_imp fun DD δ h => h)
theorem fs_break : HS X L (.Break pos) fBreak := PS.weak ds_break (liftS_imp fun DD δ h => h)
theorem fs_continue : HS X L (.Continue pos) fCont := PS.weak ds_continue (liftS_imp fun DD δ h => h)
theorem fs_expr (he : HE X L e fe) (hs : swapsWith e none pos.line X.env = pure false := by rfl) : HS X L (.Expr e pos) (fExpr fe) := PS.weak (ds_expr he hs) (liftS_imp fun DD δ h => eS_imp h fun r δ' h => h)
theorem SI.nil {C : Ct} {σ : St} {H G : Hp} {W : Ow} (I : SI K C σ H G W δ) : SI K C σ H G W [] := ⟨I.gh, I.g0, I.hh, I.gz, I.b0, I.bag, I.tm, Nat.zero_le _, fun i h => absurd rfl h⟩
theorem ret_links {C : Ct} {G : Hp} {D : Ends} (k : Links K C G D DD) : Links K C G D { DD with rt := fun r _ => DD.rt r [] } :=
  ⟨k.nx, fun v σ' H' G' W' δ' r x I o fi h => k.rt v σ' H' G' W' [] r x I.nil o fi h, k.bk, k.ct⟩
theorem fs_ret (he : HE X L e fe) : HS X L (.Return (some e) pos) (fRet fe) := PS.weak (ds_ret he) fun D σ H ⟨C, G, W, δ, DD, I, lk, hd, k⟩ =>
  ⟨C, G, W, δ, _, I, lk, eS_imp hd fun r δ' h => (by
    unfold pS at h; dsimp only at h
    split at h
    · exact ⟨_, _, by assumption, h⟩
    · exact h.elim), ret_links k⟩
theorem fs_retN : HS X L (.Return none pos) fRetN := PS.weak ds_retN fun D σ H ⟨C, G, W, δ, DD, I, lk, hd, k⟩ => ⟨C, G, W, δ, { DD with rt := fun r _ => DD.rt r [] }, I, lk, hd, ret_links k⟩
theorem iteS {c : Bool} (h : pS x (if c = true then a else b) DD δ) : (c = true → pS x a DD δ) ∧ (c = false → pS x b DD δ) := by
  cases c
  · exact ⟨fun z => (by cases z), fun _ => h⟩
  · exact ⟨fun _ => h, fun z => (by cases z)⟩
theorem fs_if {c : Expr} (hc : HT' X L c ta) (ha : HSs X L body a) (hb : HSs X L orelse b) : HS X L (.If c body orelse pos) (fIfS ta a b) := PS.weak (ds_if hc ha hb) (liftS_imp fun DD δ h => eS_imp h fun c δ' h => iteS h)
theorem set_imp {de : DE} {i : Nat} (w : ∀ δ P, pP x fe δ P → de δ P) (DD : DEnds) (δ : List R) (h : pS x (fSet i fe) DD δ) : dSet i de DD δ := w _ _ (eS_imp h fun r δ' h => by
  unfold pS at h; dsimp only at h
  split at h
  · exact ⟨_, _, by assumption, h⟩
  · exact h.elim)
theorem fs_set {i : Nat} {y : Str} {pos' : Pos} (hN : X.N.Nodup) (he : HE X L e fe) (hi : X.N[i]? = some y := by rfl) (hx : Loc X.env.scope y := by first | exact Or.inl rfl | exact Or.inr rfl) (hs : swapsWith e (some (.Name y pos')) pos.line X.env = pure false := by rfl) (hf : X.fn y = true ∨ X.env.scope.names.lookup y = some .local := by first | exact .inl rfl | exact .inr rfl | assumption) :
    HS X L (.Assign [.Name y pos'] e pos) (fSet i fe) := PS.weak (ds_set hN he hi hx hs hf) (liftS_imp (set_imp fun _ _ h => h))
/-! targets -/
variable {tg : Expr} {es : List Expr} {g : FG} {gs : FGs}
abbrev HG (X : Cx) (t : Expr) (g : FG) : Prop := PG X t (liftG X.K (pG g))
abbrev HGs (X : Cx) (ts : List Expr) (g : FGs) : Prop := PGs X ts (liftGs X.K (pGs g))
theorem gN_imp {i : Nat} (d : D) (δ : List R) (P : List R → Prop) (h : pG (fgN i) d δ P) : gN i d δ P := by
  obtain ⟨δ', e, hp⟩ := h
  cases e; exact hp
theorem gNil_imp (d : List D) (δ : List R) (P : List R → Prop) (h : pGs fgNil d δ P) : gsNil d δ P := by
  obtain ⟨δ', e, hp⟩ := h
  cases d with
  | nil => cases e; exact ⟨rfl, hp⟩
  | cons => cases e
theorem gCons_imp {g' : DG} {gs' : DGs} (w1 : ∀ d δ P, pG g d δ P → g' d δ P) (w2 : ∀ d δ P, pGs gs d δ P → gs' d δ P) (d : List D) (δ : List R) (P : List R → Prop) (h : pGs (fgCons g gs) d δ P) : gsCons g' gs' d δ P := by
  obtain ⟨δ', e, hp⟩ := h
  cases d with
  | nil => cases e
  | cons d r =>
    obtain ⟨δ1, e1, e2⟩ := Option.bind_eq_some_iff.mp e
    exact ⟨d, r, rfl, w1 _ _ _ ⟨δ1, e1, w2 _ _ _ ⟨δ', e2, hp⟩⟩⟩
theorem gT_imp {n : Nat} {gs' : DGs} (w : ∀ d δ P, pGs gs d δ P → gs' d δ P) (d : D) (δ : List R) (P : List R → Prop) (h : pG (fgT n gs) d δ P) : gT n gs' d δ P := by
  obtain ⟨δ', e, hp⟩ := h
  unfold fgT at e
  split at e
  · split at e
    · exact ⟨_, rfl, by assumption, w _ _ _ ⟨δ', e, hp⟩⟩
    · cases e
  · cases e
theorem fg_name {i : Nat} {y : Str} (hN : X.N.Nodup) (hi : X.N[i]? = some y := by rfl) (hx : Loc X.env.scope y := by first | exact Or.inl rfl | exact Or.inr rfl) (hf : X.fn y = true ∨ X.env.scope.names.lookup y = some .local := by first | exact .inl rfl | exact .inr rfl | assumption) : HG X (.Name y pos) (fgN i) :=
  PG.weak (dg_name hN hi hx hf) (liftG_imp gN_imp)
theorem fgs_nil : HGs X [] fgNil := PGs.weak dgs_nil (liftGs_imp gNil_imp)
theorem fgs_cons (h1 : HG X tg g) (h2 : HGs X es gs) (hs : (assignEach (tg :: es) X.env).map (·.2) = assign tg X.env :: (assignEach es X.env).map (·.2) := by rfl) : HGs X (tg :: es) (fgCons g gs) :=
  PGs.weak (dgs_cons h1 h2 hs) (liftGs_imp (gCons_imp (fun _ _ _ h => h) fun _ _ _ h => h))
theorem fg_tup {kk n : Nat} (hc : X.calm = true) (h : HGs X es gs) (hn : (assignEach es X.env).length = n := by rfl) (hst : (assignEach es X.env).findIdx? (·.1) = none := by rfl) : HG X (.Tuple es kk pos) (fgT n gs) :=
  PG.weak (dg_tup hc h hn hst) (liftG_imp (gT_imp fun _ _ _ h => h))
theorem fs_asg (he : HE X L e fe) (hg : HG X tg g) (hs : swapsWithSole [tg] e pos.line X.env = pure false := by rfl) (hw : swappedStores [tg] e X.env = pure none := by rfl) (h1 : (assignEach [tg] X.env).map (·.2) = [assign tg X.env] := by rfl) : HS X L (.Assign [tg] e pos) (fAsg fe g) :=
  PS.weak (ds_asg he hg hs hw h1) (liftS_imp fun DD δ h => eS_imp h fun r δ' h => by
    obtain ⟨d, δ2, e1, h⟩ := pP_use (eS_imp h (Q := fun d δ2 => pG g d δ2 DD.nx) fun d δ2 h => by
      unfold pS at h; dsimp only at h
      split at h
      · exact ⟨_, by assumption, h⟩
      · exact h.elim)
    exact ⟨d, δ2, e1, h⟩)
/-! loops -/
abbrev HI (X : Cx) (L : Lk) (t i : Expr) (f : FI) : Prop := PI X t i (liftI X.K L (pP L.x f))
theorem loop_imp {g' : DG} (w : ∀ d δ P, pG g d δ P → g' d δ P) : ∀ (ds : List D) (δ : List R), pS x (fLoop g b ds) DD δ → dLoop g' (pS x b) DD ds δ
  | [], δ, h => h
  | d :: ds, δ, h => by
    unfold pS fLoop at h
    cases q : g d δ with
    | none => rw [q] at h; exact h.elim
    | some δ1 =>
      rw [q] at h
      refine w _ _ _ ⟨δ1, q, ?_⟩
      have h := T.all_bind.mp h
      refine T.all_mono h fun o ho => ?_
      cases o with
      | nx δ => exact loop_imp w ds _ ho
      | ct δ => exact loop_imp w ds _ ho
      | rt r δ => exact ho
      | bk δ => exact ho
      | err c fs δ => exact ho
theorem fs_for {iter : Expr} {fi : FI} (hp : PassesOwn (model X.prog X.w) X.A X.env X.xe) (hc : X.calm = true) (hi : HI X L tg iter fi) (hg : HG X tg g) (hb : HSs X L body b)
    (hs : ∀ x, foldedSetIterable iter X.env x = pure x := by intro _; rfl) : HS X L (.For tg iter body [] pos) (fFor fi g b) :=
  PS.weak (ds_for hp hc hi hg hb hs) (liftS_imp fun DD δ h => eS_imp h fun ds δ' h => loop_imp (fun _ _ _ h => h) ds δ' h)
theorem fi_seq {l : Expr} (hl : HE X L l fe) : HI X L tg l (fiSeq fe) := PI.weak (di_seq hl) (liftI_imp fun δ P h => pP_then h fun r δ1 h => by
  obtain ⟨d, δ2, e1, h⟩ := pP_use (pP_bind.mp h)
  obtain ⟨ds, e2, h⟩ := pP_of h
  exact ⟨d, δ2, ds, e1, e2, h⟩)
theorem fi_rng1 {a : Expr} {fa : FA} {p pos : Pos} (hg : Gl X "range") (hm : X.mg "range" = none) (ha : HA X L [a] fa) (hs : starEach [a] X.env = [(false, eval a X.env)] := by rfl) : HI X L tg (.Call (.Name "range" p) [a] [] pos) (fiRng1 fa) :=
  PI.weak (di_rng1 hg hm ha hs) (liftI_imp fun δ P h => pP_then h fun rs δ1 h => by
    obtain ⟨ds, e1, h⟩ := pP_peekAll (pP_bind.mp h)
    split at h
    · split at h
      · exact ⟨_, e1, by assumption, h⟩
      · exact h.elim
    · exact h.elim)
theorem fi_rng2 {a b : Expr} {fa : FA} {p pos : Pos} (hg : Gl X "range") (hm : X.mg "range" = none) (ha : HA X L [a, b] fa) (hs : starEach [a, b] X.env = [(false, eval a X.env), (false, eval b X.env)] := by rfl) (hs2 : starEach [b] X.env = [(false, eval b X.env)] := by rfl) :
    HI X L tg (.Call (.Name "range" p) [a, b] [] pos) (fiRng2 fa) :=
  PI.weak (di_rng2 hg hm ha hs hs2) (liftI_imp fun δ P h => pP_then h fun rs δ1 h => by
    obtain ⟨ds, e1, h⟩ := pP_peekAll (pP_bind.mp h)
    split at h
    · split at h
      · exact ⟨_, _, e1, by assumption, h⟩
      · exact h.elim
    · exact h.elim)
theorem fi_enum {elts : List Expr} {kk : Nat} {fa : FA} {p pos tpos : Pos} (hg : Gl X "enumerate") (hm : X.mg "enumerate" = none) (ha : HA X L [e] fa) (hs : starEach [e] X.env = [(false, eval e X.env)] := by rfl) : HI X L (.Tuple elts kk tpos) (.Call (.Name "enumerate" p) [e] [] pos) (fiEnum fa) :=
  PI.weak (di_enum hg hm ha hs) (liftI_imp fun δ P h => pP_then h fun rs δ1 h => by
    obtain ⟨rs', δ2, e1, h⟩ := pP_useAll (pP_bind.mp h)
    split at h
    · exact ⟨_, δ2, e1, h⟩
    · exact h.elim)
/-! comprehensions -/
theorem lc_imp {g' : DG} {t : FT} {vs : List Nat} {P : List D → List R → Prop} (w : ∀ d δ P, pG g d δ P → g' d δ P) : ∀ (ds acc : List D) (δ : List R), (fLc g t fe vs ds acc δ).all (fun p => P p.1 p.2) → dLc g' (pP L0.x t) (pP L0.x fe) vs ds acc δ P
  | [], acc, δ, h => h
  | d :: ds, acc, δ, h => by
    unfold fLc at h
    cases q : g d δ with
    | none => rw [q] at h; exact h.elim
    | some δ1 =>
      rw [q] at h
      refine w _ _ _ ⟨δ1, q, ?_⟩
      have h := T.all_bind.mp h
      refine T.all_mono h fun o ho => ?_
      cases o with
      | err c fs δ => exact ho.elim
      | ok b δ2 =>
        cases b with
        | false => exact ⟨fun z => (by cases z), fun _ => lc_imp w ds acc _ ho⟩
        | true =>
          refine ⟨fun _ => ?_, fun z => (by cases z)⟩
          have ho := T.all_bind.mp ho
          have h2 : pP L0.x (fe.bind useF) δ2 fun d' δ4 => acc.length < sizeLine ∧ dLc g' (pP L0.x t) (pP L0.x fe) vs ds (acc ++ [d']) (wipeD δ4 vs) P := T.all_mono ho fun o ho => by
            cases o with
            | err c fs δ => exact ho.elim
            | ok d' δ4 =>
              by_cases hl : acc.length < sizeLine
              · have ho : (if acc.length < sizeLine then fLc g t fe vs ds (acc ++ [d']) (wipeD δ4 vs) else T.fail).all _ := ho
                rw [if_pos hl] at ho
                exact ⟨hl, lc_imp w ds _ _ ho⟩
              · have ho : (if acc.length < sizeLine then fLc g t fe vs ds (acc ++ [d']) (wipeD δ4 vs) else T.fail).all _ := ho
                rw [if_neg hl] at ho
                exact ho.elim
          refine pP_mono (pP_bind.mp h2) fun r δ3 h3 => ?_
          obtain ⟨d', δ4, e, h4⟩ := pP_use h3
          exact ⟨d', δ4, e, h4.1, h4.2⟩
theorem comp_imp {g' : DG} {fi : FI} {t : FT} {vs : List Nat} (w : ∀ d δ P, pG g d δ P → g' d δ P) (δ : List R) (P : R → List R → Prop) (h : pP x (fComp fi g t fe vs) δ P) : dComp (pP x fi) g' (pP L0.x t) (pP L0.x fe) vs δ P :=
  pP_then h fun ds δ1 h => lc_imp w ds [] _ (T.all_mono (T.all_bind.mp h) fun p hp => hp)
theorem fe_lc {elt tg iter : Expr} {ifs : List Expr} {scope : Scope} {own : List (Str × Nat)} {fi : FI} {g : FG} {g' : DG} {tgt : TG} {t : FT} {fe : FE} {vs : List Nat} (w : ∀ d δ P, pG g d δ P → g' d δ P) (hc : X.calm = true) (hN : X.N.Nodup) (hi : HI X L tg iter fi) (ok : BlkOk X.N X.env.scope scope own)
    (gok : GOk g' tgt X.K vs) (hv : own.map (·.2) = vs)
    (hg : ∀ (s : Shared) (H : Hp) (C : Addr) (cl : List (Str × Addr)) (fp : List Addr), PG (X.blk s H scope (compEnvC scope cl C X.env) fp) tg tgt) (ht : ∀ (s : Shared) (H : Hp) (C : Addr) (cl : List (Str × Addr)) (fp : List Addr), PTs (X.blk s H scope (compEnvC scope cl C X.env) fp) ifs (liftT X.K L0 (pP L0.x t)))
    (he : ∀ (s : Shared) (H : Hp) (C : Addr) (cl : List (Str × Addr)) (fp : List Addr), PE (X.blk s H scope (compEnvC scope cl C X.env) fp) elt (lift X.K L0 (pP L0.x fe))) (hs : ∀ x, foldedSetIterable iter X.env x = pure x := by intro _; rfl) :
    HE X L (.ListComp elt [⟨tg, iter, ifs, 0⟩] scope pos) (fComp fi g t fe vs) := PE.weak (de_lc hc hN hi ok gok hv hg ht he hs) (lift_imp (comp_imp w))
theorem fs_setLc {i : Nat} {y : Str} {py spos : Pos} {elt tg iter : Expr} {ifs : List Expr} {scope : Scope} {own : List (Str × Nat)} {fi : FI} {g : FG} {g' : DG} {tgt : TG} {t : FT} {fe : FE} {vs : List Nat} (w : ∀ d δ P, pG g d δ P → g' d δ P) (hc : X.calm = true) (hN : X.N.Nodup)
    (hsw : swapsWith (.ListComp elt [⟨tg, iter, ifs, 0⟩] scope pos) (some (.Name y py)) spos.line X.env = pure true) (hi : HI X L tg iter fi) (ok : BlkOk X.N X.env.scope scope own)
    (gok : GOk g' tgt X.K vs) (hv : own.map (·.2) = vs)
    (hg : ∀ (s : Shared) (H : Hp) (C : Addr) (cl : List (Str × Addr)) (fp : List Addr), PG (X.blk s H scope (compEnvC scope cl C X.env) fp) tg tgt) (ht : ∀ (s : Shared) (H : Hp) (C : Addr) (cl : List (Str × Addr)) (fp : List Addr), PTs (X.blk s H scope (compEnvC scope cl C X.env) fp) ifs (liftT X.K L0 (pP L0.x t)))
    (he : ∀ (s : Shared) (H : Hp) (C : Addr) (cl : List (Str × Addr)) (fp : List Addr), PE (X.blk s H scope (compEnvC scope cl C X.env) fp) elt (lift X.K L0 (pP L0.x fe))) (hy : X.N[i]? = some y := by rfl) (hyl : X.env.scope.names.lookup y = some .local := by rfl) (hs : ∀ x, foldedSetIterable iter X.env x = pure x := by intro _; rfl) :
    HS X L (.Assign [.Name y py] (.ListComp elt [⟨tg, iter, ifs, 0⟩] scope pos) spos) (fSet i (fComp fi g t fe vs)) := PS.weak (ds_setLc hc hN hsw hi ok gok hv hg ht he hy hyl hs) (liftS_imp (set_imp (comp_imp w)))
theorem fts_nil : PTs X [] (liftT X.K L (pP L.x fYes)) := ⟨fun pins s σ H Q I h => dts_nil.run pins s σ H Q I (liftT_imp (fun δ P h => h) σ H Q h)⟩
theorem fts_one {c : Expr} {t : FT} (h : HT' X L c t) : PTs X [c] (liftT X.K L (pP L.x t)) := dts_one h
theorem fe_append {i : Nat} {y : Str} {px apos cpos : Pos} (ho : PE X (.Name y px) (tVar i)) (ha : HE X L e fe)
    (hbase : attributeBase (.Name y px) "append" X.env (eval (.Name y px) X.env) = eval (.Name y px) X.env := by rfl)
    (hfew : ((backTo cpos (starEach [e] X.env)).all (fun x => !x.1) && (backToKw cpos (keywordEach [] X.env)).all (fun x => x.1.isSome) && decide (([e] : List Expr).length + ([] : List Keyword).length + (if ([] : List Keyword).isEmpty then 0 else 1) < 30)) = true := by rfl)
    (hline : (apos.endLine == cpos.line) = true := by rfl) (hs : starEach [e] X.env = (false, eval e X.env) :: starEach [] X.env := by rfl) (hplain : (backTo cpos (starEach [] X.env)).any (·.1) = false := by rfl) :
    HE X L (.Call (.Attribute (.Name y px) "append" apos) [e] [] cpos) (fApp i fe) :=
  PE.weak (de_append ho ha hbase hfew hline hs hplain) (lift_imp fun δ P h => by
    unfold pP fApp at h
    split at h
    · rename_i ds0 e0
      refine ⟨⟨ds0, e0⟩, pP_then (show pP L.x _ δ P from h) fun r δ1 h => ?_⟩
      obtain ⟨d, δ2, e1, h⟩ := pP_use (pP_bind.mp h)
      unfold pP at h; dsimp only at h
      split at h
      · split at h
        · exact ⟨d, δ2, _, e1, by assumption, by assumption, h⟩
        · exact h.elim
      · exact h.elim
    · exact h.elim)
end
end DL

namespace DL
open PySem PySem.Spec L2
/-! ### defs -/
inductive FR where
  | val (r : R) | exc (c : Addr) (fs : List (Str × D))
abbrev FM := List R → T FR
def SO.out (o : SO) : T FR := match o with
  | .nx _ => .ret (.val (.val .non))
  | .rt r _ => .ret (.val r)
  | .err c fs _ => .ret (.exc c fs)
  | .bk _ => .fail
  | .ct _ => .fail
def startK : Nat → List R → List R
  | 0, _ => []
  | n + 1, [] => .no :: startK n []
  | n + 1, r :: rs => r :: startK n rs
theorem startK_nil : ∀ n : Nat, startK n [] = List.replicate n .no
  | 0 => rfl
  | n + 1 => by simp only [startK, List.replicate_succ]; rw [startK_nil n]
theorem startK_eq : ∀ (n : Nat) (rs : List R), rs.length ≤ n → startK n rs = rs ++ List.replicate (n - rs.length) .no
  | 0, [], _ => rfl
  | 0, _ :: _, h => by simp at h
  | n + 1, [], _ => by rw [startK_nil]; simp
  | n + 1, r :: rs, h => by
    simp only [startK, List.cons_append, List.length_cons]
    rw [startK_eq n rs (by simpa using h), Nat.add_sub_add_right]
def mk (n : Nat) (fs : FS) : FM := fun rs => (fs (startK n rs)).bind SO.out
def FR.holds (P : R → Prop) (Xc : Addr → List (Str × D) → Prop) : FR → Prop
  | .val r => P r
  | .exc c fs => Xc c fs
def spM (n : Nat) (m : FM) : DSp := fun rs P Xc => rs.length = n ∧ (m rs).all (FR.holds P Xc)
def spM0 (n : Nat) (m : FM) : DSp := fun rs P _ => rs.length = n ∧ (m rs).all (FR.holds P fun _ _ => False)
/-- a call, nothing is raised -/
def fCall (m : FM) (fa : FA) : FE := fa.bind fun rs => (useAllF rs).bind fun rs' => fun δ => (m rs').bind fun o => match o with
  | .val r => .ret (.ok r δ)
  | .exc _ _ => .fail
def fCallX (m : FM) (fa : FA) : FE := fa.bind fun rs => (useAllF rs).bind fun rs' => fun δ => (m rs').bind fun o => match o with
  | .val r => .ret (.ok r δ)
  | .exc c fs => .ret (.err c fs δ)
/-! ### forgetting -/
def SO.wipe (vs : List Nat) (o : SO) : SO := match o with
  | .nx δ => .nx (wipeD δ vs)
  | .rt r δ => .rt r δ
  | .bk δ => .bk (wipeD δ vs)
  | .ct δ => .ct (wipeD δ vs)
  | .err c fs δ => .err c fs δ
def fWipe (vs : List Nat) (f : FS) : FS := fun δ => (f δ).bind fun o => .ret (o.wipe vs)
def fiWipe (vs : List Nat) (fi : FI) : FI := fi.bind fun ds => fun δ => .ret (.ok ds (wipeD δ vs))
/-! ### raise, try -/
def fRaise (C : Addr) (f : Str) (fa : FA) : FS := eS fa fun rs => eS (useAllF rs) fun rs' => match rs' with
  | [.val d] => fun δ => .ret (.err C [(f, d)] δ)
  | _ => fun _ => .fail
def SO.suite (i : Nat) (o : SO) : T SO := match o with
  | .nx δ => .ret (.nx (st δ i .no))
  | .rt r δ => .ret (.rt r δ)
  | .bk δ => .ret (.bk (st δ i .no))
  | .ct δ => .ret (.ct (st δ i .no))
  | .err _ _ _ => .fail
def fTry (C : Addr) (i : Nat) (fb : FS) (fu : Addr → Value → Option Addr → FS) : FS := fun δ => (fb δ).bind fun o => match o with
  | .err c fs δ1 => if c = C then .any fun a d => (fu a (.ref c) (some d) (st δ1 i (.val (.exc a d fs)))).bind (SO.suite i) else .fail
  | .nx δ => .ret (.nx δ)
  | .rt r δ => .ret (.rt r δ)
  | .bk δ => .ret (.bk δ)
  | .ct δ => .ret (.ct δ)
def refOf : Value → Option Addr
  | .ref c => some c
  | _ => none
def fXf (a : Addr) (cls : Value) (d : Option Addr) (Cl : Addr) (f : Str) (fe : FE) : FE := fe.bind fun r => (peekF r).bind fun x => match x with
  | .exc a' dd fs => if a' = a ∧ refOf cls = some Cl ∧ d = some dd then (F.of (fs.lookup f)).bind fun y => F.ret (.val y) else F.fail
  | _ => F.fail
section
variable {P : Program} {w : World} {K : PySem.W.Frag} {mg : Str → Option Value} {base : Heap} {f : Addr} {fd : FuncData} {k : Nat} {x qual : Str} {sm : Stmt} {N ps : List Str} {fs : FS}
theorem mk_imp {rs : List R} {P : R → Prop} {Xc : Addr → List (Str × D) → Prop} {xx : Lx} (hl : rs.length ≤ N.length) (hx : ∀ c fs δ, Xc c fs → xx c fs δ) (h : (mk N.length fs rs).all (FR.holds P Xc)) : pS xx fs { nx := fun _ => P (.val .non), rt := fun r _ => P r } (startD N rs) := by
  unfold mk at h
  rw [startK_eq _ _ hl] at h
  refine T.all_mono (T.all_bind.mp h) fun o ho => ?_
  cases o with
  | nx => exact ho
  | rt => exact ho
  | bk => exact ho
  | ct => exact ho
  | err c fs δ => exact hx _ _ _ ho
theorem fn_f (F : Fun K x qual sm f fd) (Sc : FnScope N ps (defScope sm)) (hN : ps.length ≤ N.length)
    (hb : ∀ (cdv : Value) (A : Around) (outer : List Env) (s : Shared) (H : Hp) (E : XK), Room k (A.deeper (PyProof.Rows.envOfC qual (defScope sm) s.heap.objs.size f cdv)) → HSs (cxOf CX0 P w K mg base N qual (defScope sm) f cdv A outer s H E).nox L0 (defBody sm) fs) :
    FnOk P w K mg base CX0 (k + 1) f fd ps (spOf K (spM0 ps.length (mk N.length fs))) :=
  fn_d F Sc (fun rs P Xc h => h.1) hN fun cdv A outer s H E hr => ⟨_, hb cdv A outer s H E hr, fun rs P Xc h => mk_imp (by rw [h.1]; exact hN) (fun _ _ _ z => z.elim) h.2⟩
theorem fn_fg (F : Fun K x qual sm f fd) (Sc : FnScope N ps (defScope sm)) (hN : ps.length ≤ N.length)
    (hb : ∀ (cdv : Value) (A : Around) (outer : List Env) (s : Shared) (H : Hp) (E : XK), Quiet A → Room k (A.deeper (PyProof.Rows.envOfC qual (defScope sm) s.heap.objs.size f cdv)) → HSs (cxOf CX0 P w K mg base N qual (defScope sm) f cdv A outer s H E).nox L0 (defBody sm) fs) :
    FnG P w K mg base CX0 (k + 1) f fd ps (spOf K (spM0 ps.length (mk N.length fs))) :=
  fn_dg F Sc (fun rs P Xc h => h.1) hN fun cdv A outer s H E hq hr => ⟨_, hb cdv A outer s H E hq hr, fun rs P Xc h => mk_imp (by rw [h.1]; exact hN) (fun _ _ _ z => z.elim) h.2⟩
theorem fn_fx (F : Fun K x qual sm f fd) (Sc : FnScope N ps (defScope sm)) (hN : ps.length ≤ N.length)
    (hb : ∀ (cdv : Value) (A : Around) (outer : List Env) (s : Shared) (H : Hp) (E : XK) (L : Lk), Room k (A.deeper (PyProof.Rows.envOfC qual (defScope sm) s.heap.objs.size f cdv)) → Takes (cxOf (L2.CX P w) P w K mg base N qual (defScope sm) f cdv A outer s H E) L.E →
      PassesOwn (model P w) (cxOf (L2.CX P w) P w K mg base N qual (defScope sm) f cdv A outer s H E).A (cxOf (L2.CX P w) P w K mg base N qual (defScope sm) f cdv A outer s H E).env (cxOf (L2.CX P w) P w K mg base N qual (defScope sm) f cdv A outer s H E).xe →
      HSs (cxOf (L2.CX P w) P w K mg base N qual (defScope sm) f cdv A outer s H E) L (defBody sm) fs) : FnOk P w K mg base (L2.CX P w) (k + 1) f fd ps (spOf K (spM ps.length (mk N.length fs))) :=
  fn_dx F Sc (fun rs P Xc h => h.1) hN (fun xx => pS xx fs) (fun cdv A outer s H E L hr tk ps => hb cdv A outer s H E L hr tk ps) fun rs P Xc h => mk_imp (by rw [h.1]; exact hN) (fun _ _ _ z => z) h.2
theorem fn_flaw {sm st0 : Stmt} {rest : List Stmt} (F : Fun K "law" "law" sm f fd) (Sc : FnScope N ["_law_script"] (defScope sm)) (hN : 2 ≤ N.length) (hb : defBody sm = st0 :: rest)
    (h : ∀ (cdv : Value) (A : Around) (outer : List Env) (s : Shared) (H : Hp) (E : XK), Quiet A → Room k (A.deeper (PyProof.Rows.envOfC "law" (defScope sm) s.heap.objs.size f cdv)) →
      PS (cxOf CX0 P w K mg base N "law" (defScope sm) f cdv A outer s H E).nox st0 (tAsg (tCall (spBag K) [] E0 (tCons (tVar 0) tNil)) (gName 1)) ∧ HSs (cxOf CX0 P w K mg base N "law" (defScope sm) f cdv A outer s H E).nox L0 rest fs)
    (hd : (mk N.length fs [.no, .bag]).all fun o => o = .val (.val (.bl true))) : FnG P w K mg base CX0 (k + 1) f fd ["_law_script"] (spLaw K) :=
  fn_law F Sc hN hb h (by
    unfold mk at hd
    have e : startK N.length [.no, .bag] = bagStart N := by
      rw [startK_eq _ _ (by simpa using hN)]; rfl
    rw [e] at hd
    refine T.all_mono (T.all_bind.mp hd) fun o ho => ?_
    cases o with
    | nx => cases ho
    | rt r δ => cases ho; exact rfl
    | bk => exact ho
    | ct => exact ho
    | err => cases ho)
/-- drawing -/
def m_take : FM := fun rs => match rs with
  | [.bag, .val (.int n)] => .take n fun r => .ret (.val (.val (.int r)))
  | _ => .fail
theorem take_imp (rs : List R) (P : R → Prop) (Xc : Addr → List (Str × D) → Prop) (h : spM0 2 m_take rs P Xc) : takeS rs P Xc := by
  obtain ⟨_, h⟩ := h
  unfold m_take at h
  split at h
  · exact ⟨_, rfl, h.1, h.2.1, h.2.2⟩
  · exact h.elim
theorem spOf_imp {S S' : DSp} (h : ∀ rs P Xc, S' rs P Xc → S rs P Xc) (vs : List V) (H : Hp) (Q : VK) (E : XK) (q : spOf K S' vs H Q E) : spOf K S vs H Q E := by
  obtain ⟨bo, G, rs, P, Xc, h1, h2, h3, h4, h5⟩ := q
  exact ⟨bo, G, rs, P, Xc, h1, h2, h3, h _ _ _ h4, h5⟩
end
section
variable {X : Cx} {L : Lk} {k : Nat} {ps : List Str} {m : FM} {y : Str} {p pos : Pos} {e : Expr} {es : List Expr} {fa : FA} {x : Lx} {n : Nat}
theorem call_imp (δ : List R) (P : R → List R → Prop) (h : pP x (fCall m fa) δ P) (hn : ∀ rs δ1 rs' δ2, useAll rs δ1 = some (rs', δ2) → rs'.length = rs.length) (hl : ∀ Q, pP x fa δ Q → pP x fa δ fun rs δ' => rs.length = n ∧ Q rs δ') : dCall (spM0 n m) (pP x fa) δ P :=
  pP_mono (hl _ (pP_bind.mp h)) fun rs δ1 ⟨e0, h⟩ => by
    obtain ⟨rs', δ2, e1, h⟩ := pP_useAll (pP_bind.mp h)
    refine ⟨rs', δ2, e1, (hn _ _ _ _ e1).trans e0, T.all_mono (T.all_bind.mp h) fun o ho => ?_⟩
    cases o with
    | val r => exact ho
    | exc c fs => exact ho
theorem callX_imp (δ : List R) (P : R → List R → Prop) (h : pP x (fCallX m fa) δ P) (hn : ∀ rs δ1 rs' δ2, useAll rs δ1 = some (rs', δ2) → rs'.length = rs.length) (hl : ∀ Q, pP x fa δ Q → pP x fa δ fun rs δ' => rs.length = n ∧ Q rs δ') : dCallX (spM n m) x (pP x fa) δ P :=
  pP_mono (hl _ (pP_bind.mp h)) fun rs δ1 ⟨e0, h⟩ => by
    obtain ⟨rs', δ2, e1, h⟩ := pP_useAll (pP_bind.mp h)
    refine ⟨rs', δ2, e1, (hn _ _ _ _ e1).trans e0, T.all_mono (T.all_bind.mp h) fun o ho => ?_⟩
    cases o with
    | val r => exact ho
    | exc c fs => exact ho
theorem useAll_len : ∀ (rs δ1 rs' δ2 : List R), useAll rs δ1 = some (rs', δ2) → rs'.length = rs.length
  | [], _, _, _, e => by cases e; rfl
  | r :: rs, δ1, rs', δ2, e => by
    unfold useAll at e
    split at e
    · split at e
      · cases e
        simp only [List.length_cons]
        rw [useAll_len _ _ _ _ (by assumption)]
      · cases e
    · cases e
/-- so many arguments -/
def ArgN (fa : FA) (n : Nat) : Prop := ∀ (x : Lx) (δ : List R) Q, pP x fa δ Q → pP x fa δ fun rs δ' => rs.length = n ∧ Q rs δ'
theorem argN_nil : ArgN fNil 0 := fun x δ Q h => ⟨rfl, h⟩
theorem argN_cons {fe : FE} (h : ArgN fa n) : ArgN (fCons fe fa) (n + 1) := fun x δ Q hq => by
  refine pP_bind.mpr (pP_then hq fun r δ1 h1 => pP_bind.mpr (pP_mono (h x δ1 _ (pP_bind.mp h1)) fun rs δ2 h2 => ?_))
  exact ⟨by simp [h2.1], h2.2⟩
theorem fe_fc (F : Fc X.prog X.w X.K X.mg X.base k y ps (spM0 n m)) (hr : Room k X.A) (hg : Gl X y) (ha : HA X L (e :: es) fa) (hl : ArgN fa n) (hdb : (y == ("__debug__" : Str)) = false := by decide)
    (he : starEach (e :: es) X.env = (false, eval e X.env) :: starEach es X.env := by rfl) (hpl : (backTo pos (starEach es X.env)).any (·.1) = false := by rfl) : HE X L (.Call (.Name y p) (e :: es) [] pos) (fCall m fa) :=
  PE.weak (de_fc F hr hg ha hdb he hpl) (lift_imp fun δ P h => call_imp δ P h useAll_len (hl _ δ))
theorem fe_fc0 (F : Fc X.prog X.w X.K X.mg X.base k y ps (spM0 0 m)) (hr : Room k X.A) (hg : Gl X y) (hdb : (y == ("__debug__" : Str)) = false := by decide) : HE X L (.Call (.Name y p) [] [] pos) (fCall m fNil) :=
  PE.weak (de_fc0 F hr hg hdb) (lift_imp fun δ P h => call_imp δ P h useAll_len (argN_nil _ δ))
theorem fe_fcG (F : FcG X.prog X.w X.K X.mg X.base k y ps (spM0 n m)) (hq : Quiet X.A) (hr : Room k X.A) (hg : Gl X y) (ha : HA X L (e :: es) fa) (hl : ArgN fa n) (hdb : (y == ("__debug__" : Str)) = false := by decide)
    (he : starEach (e :: es) X.env = (false, eval e X.env) :: starEach es X.env := by rfl) (hpl : (backTo pos (starEach es X.env)).any (·.1) = false := by rfl) : HE X L (.Call (.Name y p) (e :: es) [] pos) (fCall m fa) :=
  PE.weak (de_fcG F hq hr hg ha hdb he hpl) (lift_imp fun δ P h => call_imp δ P h useAll_len (hl _ δ))
theorem fe_fcx (F : FcX X.prog X.w X.K X.mg X.base k y ps (spM n m)) (hr : Room k X.A) (tk : Takes X L.E) (hg : Gl X y) (ha : HA X L (e :: es) fa) (hl : ArgN fa n) (hdb : (y == ("__debug__" : Str)) = false := by decide)
    (he : starEach (e :: es) X.env = (false, eval e X.env) :: starEach es X.env := by rfl) (hpl : (backTo pos (starEach es X.env)).any (·.1) = false := by rfl) : HE X L (.Call (.Name y p) (e :: es) [] pos) (fCallX m fa) :=
  PE.weak (de_fcx F hr tk hg ha hdb he hpl) (lift_imp fun δ P h => callX_imp δ P h useAll_len (hl _ δ))
/-! forgetting -/
theorem SI.wiped {K : PySem.W.Frag} {C : Ct} {σ : St} {H G : Hp} {W : Ow} {δ : List R} (I : SI K C σ H G W δ) : ∀ vs : List Nat, SI K C σ H G W (wipeD δ vs)
  | [] => I
  | v :: vs => (I.wiped vs).drop v
theorem wipe_links {K : PySem.W.Frag} {C : Ct} {G : Hp} {D : Ends} {DD : DEnds} (vs : List Nat) (k : Links K C G D DD) : Links K C G D ⟨fun δ => DD.nx (wipeD δ vs), DD.rt, fun δ => DD.bk (wipeD δ vs), fun δ => DD.ct (wipeD δ vs)⟩ :=
  ⟨fun σ' H' G' W' δ' x I h => k.nx σ' H' G' W' _ x (I.wiped vs) h, k.rt, fun σ' H' G' W' δ' x I h => k.bk σ' H' G' W' _ x (I.wiped vs) h, fun σ' H' G' W' δ' x I h => k.ct σ' H' G' W' _ x (I.wiped vs) h⟩
variable {sm : Stmt} {sms : List Stmt} {f : FS}
theorem lift_wipe {K : PySem.W.Frag} (vs : List Nat) : ∀ D σ H, liftS K L (pS L.x (fWipe vs f)) D σ H → liftS K L (pS L.x f) D σ H := fun D σ H ⟨C, G, W, δ, DD, I, lk, hd, k⟩ =>
  ⟨C, G, W, δ, _, I, lk, T.all_mono (T.all_bind.mp hd) fun o ho => by cases o <;> exact ho, wipe_links vs k⟩
theorem fs_wipe (vs : List Nat) (h : HS X L sm f) : HS X L sm (fWipe vs f) := PS.weak h (lift_wipe vs)
theorem fss_wipe (vs : List Nat) (h : HSs X L sms f) : HSs X L sms (fWipe vs f) := PSs.weak h (lift_wipe vs)
theorem fi_wipe {t i : Expr} {fi : FI} (vs : List Nat) (h : HI X L t i fi) : HI X L t i (fiWipe vs fi) := PI.weak h fun σ H Q ⟨C, G, W, δ, P, I, lk, hd, k⟩ =>
  ⟨C, G, W, δ, fun ds δ' => P ds (wipeD δ' vs), I, lk, pP_then hd fun ds δ' h => h, fun ds δ' J H' G' W' hp x I' jo => k ds _ J H' G' W' hp x (I'.wiped vs) jo⟩
/-! raise, try -/
variable {Cl : Addr} {g : Str}
theorem fs_raise {pos2 : Pos} (T : ErrC X.prog X.w X.K X.mg X.base y Cl g) (hc : X.calm = true) (hr : Room 2 X.A) (tk : Takes X L.E) (hg : Gl X y) (ha : HA X L [e] fa)
    (hdb : (y == ("__debug__" : Str)) = false := by decide) (he : starEach (e :: []) X.env = (false, eval e X.env) :: starEach [] X.env := by rfl) (hpl : (backTo pos (starEach [] X.env)).any (·.1) = false := by rfl) :
    HS X L (.Raise (some (.Call (.Name y p) [e] [] pos)) none pos2) (fRaise Cl g fa) :=
  PS.weak (ds_raise T hc hr tk hg ha hdb he hpl) (liftS_imp fun DD δ h => eS_imp h fun rs δ1 h => by
    obtain ⟨rs', δ2, e1, h⟩ := pP_useAll (eS_imp h (Q := fun rs' δ2 => ∃ d, rs' = [.val d] ∧ L.x Cl [(g, d)] δ2) fun rs' δ2 h => by
      unfold pS at h
      split at h
      · exact ⟨_, rfl, h⟩
      · exact h.elim)
    obtain ⟨d, rfl, h⟩ := h
    exact ⟨d, δ2, e1, h⟩)
theorem fs_try {i : Nat} {n : Str} {body sf : List Stmt} {b1 : Stmt} {np pos' : Pos} {hds : List ExceptHandler} {fb : FS} {fu : Addr → Value → Option Addr → FS} (hs : X.stack = X.env :: X.outer) (hf : X.env.frame = some X.env.locals) (nd : X.N.Nodup) (hi : X.N[i]? = some n) (hl : X.env.kindOf n = some .local) (hc : Names X y (.ref Cl)) (hx : PySem.W.exmOne X.K (.ref Cl) (.ref Cl) = some true)
    (hb : ∀ (L' : Lk) (pn : List (Addr × Obj)) (xe : Value → Shared → Prop), Takes (X.tr pn xe) L'.E → PassesOwn (model X.prog X.w) X.A X.env xe → HSs (X.tr pn xe) L' body fb)
    (hu : ∀ (a : Addr) (oe : Obj) (cls : Value) (d : Option Addr) (pn : List (Addr × Obj)), Zc cls d oe → (∃ vs, oe.data = .fields vs) → HSs (X.suite a ((a, oe) :: pn)) L0 (b1 :: sf) (fu a cls d)) :
    HS X L (.Try body (.ExceptHandler (some (.Name y np)) (some n) (b1 :: sf) pos' :: hds) [] [] pos) (fTry Cl i fb fu) :=
  PS.weak (ds_try (bd := fun xx => pS xx fb) (su := fun a cls d => pS L0.x (fu a cls d)) hs hf nd hi hl hc hx hb hu) (liftS_imp fun DD δ h => by
    refine T.all_mono (T.all_bind.mp h) fun o ho => ?_
    cases o with
    | nx => exact ho
    | rt => exact ho
    | bk => exact ho
    | ct => exact ho
    | err c fs δ1 =>
      by_cases hcl : c = Cl
      · have ho : (if c = Cl then T.any fun a d => (fu a (.ref c) (some d) (st δ1 i (.val (.exc a d fs)))).bind (SO.suite i) else T.fail).all _ := ho
        rw [if_pos hcl] at ho
        refine ⟨hcl, fun a d => T.all_mono (T.all_bind.mp (ho a d)) fun o ho => ?_⟩
        cases o <;> exact ho
      · have ho : (if c = Cl then T.any fun a d => (fu a (.ref c) (some d) (st δ1 i (.val (.exc a d fs)))).bind (SO.suite i) else T.fail).all _ := ho
        rw [if_neg hcl] at ho
        exact ho.elim)
theorem fe_xf {a : Addr} {oe : Obj} {cls : Value} {d : Option Addr} {pn : List (Addr × Obj)} {fe : FE} (T : XfC X.K Cl) (hno : PySem.W.findIn X.K (.ref Cl) g = some none) (hz : Zc cls d oe) (hf : ∃ vs, oe.data = .fields vs) (he : HE (X.suite a ((a, oe) :: pn)) L e fe) (hb : attributeBase e g X.env (eval e X.env) = eval e X.env := by rfl) :
    HE (X.suite a ((a, oe) :: pn)) L (.Attribute e g pos) (fXf a cls d Cl g fe) :=
  PE.weak (de_xf T hno hz hf he hb) (lift_imp fun δ P h => pP_then h fun r δ1 h => by
    obtain ⟨z, e1, h'⟩ := pP_peek (pP_bind.mp h)
    clear h
    split at h'
    · split at h'
      · rename_i hh
        obtain ⟨w, e2, h9⟩ := pP_of (pP_bind.mp h')
        obtain ⟨rfl, h2, rfl⟩ := hh
        cases cls <;> cases h2
        exact ⟨_, _, w, e1, rfl, rfl, e2, h9⟩
      · exact h'.elim
    · exact h'.elim)
end
end DL

namespace DL
open PySem PySem.Spec L2
/-! ### reckoning with readings -/
theorem ofS_inj {a b : String} : (Str.ofString a = Str.ofString b) = (a = b) := by
  apply propext
  constructor
  · intro h
    rw [Str.ofString_eq_toList, Str.ofString_eq_toList] at h
    have h := congrArg (fun s : Str => s.cps.toList) h
    simp only at h
    have inj : ∀ (xs ys : List Char), xs.map Char.toNat = ys.map Char.toNat → xs = ys := by
      intro xs
      induction xs with
      | nil => intro ys h; cases ys with
        | nil => rfl
        | cons => cases h
      | cons x xs ih => intro ys h; cases ys with
        | nil => cases h
        | cons y ys =>
          simp only [List.map_cons, List.cons.injEq] at h
          have : x = y := by
            have h1 := h.1
            have : x.val = y.val := by
              apply UInt32.toNat_inj.mp
              exact h1
            exact Char.ext this
          rw [this, ih ys h.2]
    have := inj _ _ h
    exact String.toList_inj.mp this
  · intro h; rw [h]
theorem ofS_beq {a b : String} : (Str.ofString a == Str.ofString b) = decide (a = b) := by
  by_cases h : a = b
  · subst h; simp
  · have : Str.ofString a ≠ Str.ofString b := fun e => h (ofS_inj ▸ e)
    simp [this, h]
theorem strOk_ofS (s : String) : PyData.strOk (Str.ofString s) = true := by
  unfold PyData.strOk
  rw [Str.ofString_eq_toList]
  simp only [List.all_toArray, List.all_map, List.all_eq_true]
  intro c hc
  have := c.valid
  simp only [Function.comp, decide_eq_true_eq]
  have h : c.toNat < 0x110000 := by
    rcases this with h | ⟨_, h⟩
    · have : c.val.toNat < 0xd800 := h
      show c.val.toNat < _
      omega
    · exact h
  exact h

/-! ### the rules of reckoning: each with the state it is at -/
section
variable {α β : Type} {a : α} {c : Addr} {fs : List (Str × D)} {δ : List R} {f : F α} {k : α → F β} {kS : α → FS} {d : D} {i : Nat} {fa fb fe : FE} {t u : FT} {fA : FA} {A B : FS} {r : R} {rs : List R}
theorem v_ret : F.ret a δ = .ret (.ok a δ) := (rfl)
theorem v_fail : (F.fail : F α) δ = .fail := (rfl)
theorem v_bind : F.bind f k δ = (f δ).bind fun o => o.on k := (rfl)
theorem v_on : (EO.ok a δ).on k = k a δ := (rfl)
theorem v_onE : (EO.err c fs δ : EO α).on k = .ret (.err c fs δ) := (rfl)
theorem v_go : (EO.ok a δ).go kS = kS a δ := (rfl)
theorem v_goE : (EO.err c fs δ : EO α).go kS = .ret (.err c fs δ) := (rfl)
theorem v_of : F.of (some a) δ = .ret (.ok a δ) := (rfl)
theorem v_ofN : F.of (none : Option α) δ = .fail := (rfl)
theorem v_ofI {p : Prop} [Decidable p] {x y : Option α} : F.of (if p then x else y) δ = if p then F.of x δ else F.of y δ := by split <;> rfl
/-- a slot's value, handed on; looked at -/
def useK (r : R) (i : Nat) (δ : List R) : T (EO D) := match r with
  | .val d => .ret (.ok d δ)
  | .own d => .ret (.ok d (st δ i (.val d)))
  | _ => .fail
def lookK (r : R) (δ : List R) : T (EO D) := match r with
  | .val d => .ret (.ok d δ)
  | .own d => .ret (.ok d δ)
  | _ => .fail
def handK (r : R) (i : Nat) (δ : List R) : T (EO R) := match r with
  | .val d => .ret (.ok (.val d) δ)
  | .own d => .ret (.ok (.val d) (st δ i (.val d)))
  | .bag => .ret (.ok .bag δ)
  | _ => .fail
def handF (r : R) : F R := fun δ => match r with
  | .val d => .ret (.ok (.val d) δ)
  | .own d => .ret (.ok (.val d) δ)
  | .bag => .ret (.ok .bag δ)
  | .pk i => handK (gt δ i) i δ
  | .no => .fail
theorem v_useV : useF (.val d) δ = .ret (.ok d δ) := (rfl)
theorem v_useO : useF (.own d) δ = .ret (.ok d δ) := (rfl)
theorem v_useP : useF (.pk i) δ = useK (gt δ i) i δ := by
  show (match usePk (gt δ i) i δ with
    | some (.val d, δ') => T.ret (EO.ok d δ')
    | _ => .fail) = _
  cases gt δ i <;> rfl
theorem v_useKV : useK (.val d) i δ = .ret (.ok d δ) := (rfl)
theorem v_useKO : useK (.own d) i δ = .ret (.ok d (st δ i (.val d))) := (rfl)
theorem v_peekV : peekF (.val d) δ = .ret (.ok d δ) := (rfl)
theorem v_peekO : peekF (.own d) δ = .ret (.ok d δ) := (rfl)
theorem v_peekP : peekF (.pk i) δ = lookK (gt δ i) δ := by
  show (match (gt δ i).dat with
    | some d => T.ret (EO.ok d δ)
    | none => .fail) = _
  cases gt δ i <;> rfl
theorem v_lookV : lookK (.val d) δ = .ret (.ok d δ) := (rfl)
theorem v_lookO : lookK (.own d) δ = .ret (.ok d δ) := (rfl)
theorem v_handV : handF (.val d) δ = .ret (.ok (.val d) δ) := (rfl)
theorem v_handO : handF (.own d) δ = .ret (.ok (.val d) δ) := (rfl)
theorem v_handB : handF .bag δ = .ret (.ok .bag δ) := (rfl)
theorem v_handP : handF (.pk i) δ = handK (gt δ i) i δ := (rfl)
theorem v_handKV : handK (.val d) i δ = .ret (.ok (.val d) δ) := (rfl)
theorem v_handKO : handK (.own d) i δ = .ret (.ok (.val d) (st δ i (.val d))) := (rfl)
theorem v_handKB : handK .bag i δ = .ret (.ok .bag δ) := (rfl)
theorem v_allN : useAllF [] δ = .ret (.ok [] δ) := (rfl)
theorem v_allC : useAllF (r :: rs) δ = (handF r δ).bind fun o => o.on fun r' => (useAllF rs).bind fun rs' => F.ret (r' :: rs') := by
  have key : ∀ (r' : R) (δ' : List R), use r δ = some (r', δ') → useAllF (r :: rs) δ = ((useAllF rs).bind fun rs' => F.ret (r' :: rs')) δ' := fun r' δ' e => by
    unfold useAllF F.bind
    simp only [useAll, e]
    cases useAll rs δ' with
    | none => rfl
    | some p => rfl
  have keyN : use r δ = none → useAllF (r :: rs) δ = .fail := fun e => by
    unfold useAllF
    simp only [useAll, e]
  cases r with
  | no => exact keyN rfl
  | val d => exact key _ _ rfl
  | own d => exact key _ _ rfl
  | bag => exact key _ _ rfl
  | pk i =>
    show _ = (handK (gt δ i) i δ).bind _
    cases q : gt δ i with
    | no => exact keyN (by show usePk (gt δ i) i δ = _; rw [q]; rfl)
    | pk j => exact keyN (by show usePk (gt δ i) i δ = _; rw [q]; rfl)
    | val d => exact key _ _ (by show usePk (gt δ i) i δ = _; rw [q]; rfl)
    | own d => exact key _ _ (by show usePk (gt δ i) i δ = _; rw [q]; rfl)
    | bag => exact key _ _ (by show usePk (gt δ i) i δ = _; rw [q]; rfl)
theorem v_lkN : peekAllF [] δ = .ret (.ok [] δ) := (rfl)
theorem v_lkC : peekAllF (r :: rs) δ = (peekF r δ).bind fun o => o.on fun d => (peekAllF rs).bind fun ds => F.ret (d :: ds) := by
  unfold peekAllF peekF F.bind
  simp only [peekAll]
  cases peek r δ with
  | none => rfl
  | some d =>
    simp only [T.bind, EO.on]
    cases peekAll rs δ <;> rfl
/-- a name -/
def varK (r : R) (i : Nat) (δ : List R) : T (EO R) := match r with
  | .no => .fail
  | _ => .ret (.ok (.pk i) δ)
theorem v_var : fVar i δ = varK (gt δ i) i δ := by
  unfold fVar varK
  cases gt δ i <;> rfl
theorem v_varV : varK (.val d) i δ = .ret (.ok (.pk i) δ) := (rfl)
theorem v_varO : varK (.own d) i δ = .ret (.ok (.pk i) δ) := (rfl)
theorem v_varB : varK .bag i δ = .ret (.ok (.pk i) δ) := (rfl)
theorem v_c : fC d δ = .ret (.ok (.val d) δ) := (rfl)
theorem v_bin {g : D → D → Option R} : fBin g fa fb δ = (fa δ).bind fun o => o.on fun r1 => fb.bind fun r2 => (useF r1).bind fun d1 => (useF r2).bind fun d2 => F.of (g d1 d2) := (rfl)
theorem v_cmp {g : D → D → Option Bool} : fCmp g fa fb δ = (fa δ).bind fun o => o.on fun r1 => fb.bind fun r2 => (peekF r1).bind fun d1 => (peekF r2).bind fun d2 => (F.of (g d1 d2)).bind fun b => F.ret (.val (.bl b)) := (rfl)
theorem v_tst : fTst fe δ = (fe δ).bind fun o => o.on fun r => (peekF r).bind fun d => F.of (blOf d) := (rfl)
theorem v_bl {b : Bool} : blOf (.bl b) = some b := (rfl)
theorem v_int {n : Int} : intOf (.int n) = some n := (rfl)
theorem v_and : fAnd t u δ = (t δ).bind fun o => o.on fun c => if c = true then u else F.ret false := (rfl)
theorem v_or : fOr t u δ = (t δ).bind fun o => o.on fun c => if c = true then F.ret true else u := (rfl)
theorem v_not : fNot t δ = (t δ).bind fun o => o.on fun c => F.ret (!c) := (rfl)
theorem v_andV : fAndV fa fb δ = (fa δ).bind fun o => o.on fun r => (peekF r).bind fun d => (F.of (blOf d)).bind fun c => if c = true then fb else F.ret (.val (.bl false)) := (rfl)
theorem v_orV : fOrV fa fb δ = (fa δ).bind fun o => o.on fun r => (peekF r).bind fun d => (F.of (blOf d)).bind fun c => if c = true then F.ret (.val (.bl true)) else fb := (rfl)
theorem v_notV : fNotV fa δ = (fa δ).bind fun o => o.on fun r => (peekF r).bind fun d => (F.of (blOf d)).bind fun c => F.ret (.val (.bl (!c))) := (rfl)
theorem v_if : fIf t fa fb δ = (t δ).bind fun o => o.on fun c => if c = true then fa else fb := (rfl)
theorem v_nil : fNil δ = .ret (.ok [] δ) := (rfl)
theorem v_cons {fr : FA} : fCons fa fr δ = (fa δ).bind fun o => o.on fun r => fr.bind fun rs => F.ret (r.pub :: rs) := (rfl)
theorem v_vals : valsF rs δ = (useAllF rs δ).bind fun o => o.on fun rs' => (F.of (vals? rs')).bind fun ds => if ds.length ≤ sizeLine then F.ret ds else F.fail := (rfl)
theorem v_tup : fTup fA δ = (fA δ).bind fun o => o.on fun rs => (valsF rs).bind fun ds => F.ret (.val (.tup ds)) := (rfl)
theorem v_lst : fLst fA δ = (fA δ).bind fun o => o.on fun rs => (valsF rs).bind fun ds => F.ret (.own (.lst ds)) := (rfl)
theorem v_neg : fNeg fa δ = (fa δ).bind fun o => o.on fun r => (peekF r).bind fun d => (F.of (intOf d)).bind fun i => F.ret (.val (.int (-i))) := (rfl)
theorem v_ix : fIx fa fb δ = (fa δ).bind fun o => o.on fun r1 => fb.bind fun r2 => (peekF r1).bind fun d => (peekF r2).bind fun e => (F.of (intOf e)).bind fun i => (F.of (ixF d i)).bind fun d' => F.ret (.val d') := (rfl)
theorem v_oN : foNone δ = .ret (.ok none δ) := (rfl)
theorem v_oS : foSome fe δ = (fe δ).bind fun o => o.on fun r => (peekF r).bind fun d => (F.of (intOf d)).bind fun i => F.ret (some i) := (rfl)
theorem v_sl {fl fh : FO} : fSl fa fl fh δ = (fa δ).bind fun o => o.on fun r1 => fl.bind fun lo => fh.bind fun hi => (peekF r1).bind fun d => F.of (slF d lo hi) := (rfl)
theorem v_cb {b : List D → Option R} : fCB b fA δ = (fA δ).bind fun o => o.on fun rs => (peekAllF rs).bind fun ds => F.of (b ds) := (rfl)
theorem v_lrng : fLrng2 fa fb δ = (fa δ).bind fun o => o.on fun r1 => fb.bind fun r2 => (peekF r1).bind fun d => (peekF r2).bind fun e => (F.of (intOf d)).bind fun i => (F.of (intOf e)).bind fun j =>
  if -(2 ^ 62) ≤ i ∧ i < 2 ^ 62 ∧ -(2 ^ 62) ≤ j ∧ j < 2 ^ 62 ∧ (j - i).toNat ≤ 2 ^ 24 then F.ret (.own (.lst (rngD i (j - i).toNat))) else F.fail := rfl
def dixK (d k : D) : FE := match d, keyD k with
  | .dic kvs, some k => (F.of (valD kvs k)).bind fun d => F.ret (.val d)
  | _, _ => F.fail
theorem v_dix : fDix fa fb δ = (fa δ).bind fun o => o.on fun r1 => fb.bind fun r2 => (peekF r1).bind fun d => (peekF r2).bind fun k => dixK d k := (rfl)
theorem v_dixI {kvs : List (Key × D)} {n : Int} : dixK (.dic kvs) (.int n) δ = (F.of (valD kvs (.inl n)) δ).bind fun o => o.on fun d => F.ret (.val d) := (rfl)
theorem v_dixS {kvs : List (Key × D)} {n : Str} : dixK (.dic kvs) (.str n) δ = (F.of (valD kvs (.inr n)) δ).bind fun o => o.on fun d => F.ret (.val d) := (rfl)
/-! statements -/
theorem v_eS {f : F α} : eS f kS δ = (f δ).bind fun o => o.go kS := (rfl)
theorem v_next : fNext δ = .ret (.nx δ) := (rfl)
theorem v_break : fBreak δ = .ret (.bk δ) := (rfl)
theorem v_cont : fCont δ = .ret (.ct δ) := (rfl)
theorem v_sq : fSq A B δ = (A δ).bind fun o => o.andThen B := (rfl)
theorem v_thN : (SO.nx δ).andThen B = B δ := (rfl)
theorem v_thR : (SO.rt r δ).andThen B = .ret (.rt r δ) := (rfl)
theorem v_thB : (SO.bk δ).andThen B = .ret (.bk δ) := (rfl)
theorem v_thC : (SO.ct δ).andThen B = .ret (.ct δ) := (rfl)
theorem v_thE : (SO.err c fs δ).andThen B = .ret (.err c fs δ) := (rfl)
theorem v_expr : fExpr fe δ = (fe δ).bind fun o => o.go fun _ δ => .ret (.nx δ) := (rfl)
def retK (r : R) : T SO := match r with
  | .val d => .ret (.rt (.val d) [])
  | .own d => .ret (.rt (.own d) [])
  | .bag => .ret (.rt .bag [])
  | _ => .fail
def retF (r : R) : FS := fun δ => match r with
  | .val d => .ret (.rt (.val d) [])
  | .own d => .ret (.rt (.own d) [])
  | .bag => .ret (.rt .bag [])
  | .pk i => retK (gt δ i)
  | .no => .fail
theorem v_retS : fRet fe δ = (fe δ).bind fun o => o.go retF := by
  unfold fRet eS
  congr 1
  funext o
  cases o with
  | err => rfl
  | ok r δ =>
    cases r with
    | pk i =>
      simp only [EO.go, retR, retF]
      cases gt δ i <;> rfl
    | _ => rfl
theorem v_rV : retF (.val d) δ = .ret (.rt (.val d) []) := (rfl)
theorem v_rO : retF (.own d) δ = .ret (.rt (.own d) []) := (rfl)
theorem v_rB : retF .bag δ = .ret (.rt .bag []) := (rfl)
theorem v_rP : retF (.pk i) δ = retK (gt δ i) := (rfl)
theorem v_rKV : retK (.val d) = .ret (.rt (.val d) []) := (rfl)
theorem v_rKO : retK (.own d) = .ret (.rt (.own d) []) := (rfl)
theorem v_rKB : retK .bag = .ret (.rt .bag []) := (rfl)
theorem v_retN : fRetN δ = .ret (.rt (.val .non) []) := (rfl)
theorem v_ifS : fIfS t A B δ = (t δ).bind fun o => o.go fun c => if c = true then A else B := (rfl)
def setK (r : R) (i j : Nat) (δ : List R) : T SO := match r with
  | .val d => .ret (.nx (st δ i (.val d)))
  | .own d => .ret (.nx (st (st δ j (.val d)) i (.val d)))
  | .bag => .ret (.nx (st δ i .bag))
  | _ => .fail
def setF (i : Nat) (r : R) : FS := fun δ => match r with
  | .val d => .ret (.nx (st δ i (.val d)))
  | .own d => .ret (.nx (st δ i (.own d)))
  | .bag => .ret (.nx (st δ i .bag))
  | .pk j => setK (gt δ j) i j δ
  | .no => .fail
theorem v_set : fSet i fe δ = (fe δ).bind fun o => o.go (setF i) := by
  unfold fSet eS
  congr 1
  funext o
  cases o with
  | err => rfl
  | ok r δ =>
    cases r with
    | pk j =>
      simp only [EO.go, asR, use, setF]
      cases gt δ j <;> rfl
    | _ => rfl
theorem v_sV : setF i (.val d) δ = .ret (.nx (st δ i (.val d))) := (rfl)
theorem v_sO : setF i (.own d) δ = .ret (.nx (st δ i (.own d))) := (rfl)
theorem v_sB : setF i .bag δ = .ret (.nx (st δ i .bag)) := (rfl)
theorem v_sP {j : Nat} : setF i (.pk j) δ = setK (gt δ j) i j δ := (rfl)
theorem v_sKV {j : Nat} : setK (.val d) i j δ = .ret (.nx (st δ i (.val d))) := (rfl)
theorem v_sKO {j : Nat} : setK (.own d) i j δ = .ret (.nx (st (st δ j (.val d)) i (.val d))) := (rfl)
theorem v_sKB {j : Nat} : setK .bag i j δ = .ret (.nx (st δ i .bag)) := (rfl)
def optS (o : Option (List R)) : T SO := match o with
  | some δ => .ret (.nx δ)
  | none => .fail
theorem v_asg {g : FG} : fAsg fe g δ = (fe δ).bind fun o => o.go fun r => eS (useF r) fun d δ => optS (g d δ) := (rfl)
theorem v_optS : optS (some δ) = .ret (.nx δ) := (rfl)
theorem v_gN : fgN i d δ = some (st δ i (.val d)) := (rfl)
theorem v_gT {n : Nat} {u : FGs} {ds : List D} : fgT n u (.tup ds) δ = if ds.length = n then u ds δ else none := (rfl)
theorem v_gC {g : FG} {u : FGs} {ds : List D} : fgCons g u (d :: ds) δ = (g d δ).bind fun δ' => u ds δ' := (rfl)
theorem v_gNil : fgNil [] δ = some δ := (rfl)
/-! loops -/
def turnK (o : Option (List R)) (b : FS) (k : FS) : T SO := match o with
  | some δ => (b δ).bind fun o => o.turn k
  | none => .fail
theorem v_loopN {g : FG} {b : FS} : fLoop g b [] δ = .ret (.nx δ) := (rfl)
theorem v_loopC {g : FG} {b : FS} {ds : List D} : fLoop g b (d :: ds) δ = turnK (g d δ) b (fLoop g b ds) := (rfl)
theorem v_turnK {b k : FS} : turnK (some δ) b k = (b δ).bind fun o => o.turn k := (rfl)
theorem v_tuN {k : FS} : (SO.nx δ).turn k = k δ := (rfl)
theorem v_tuC {k : FS} : (SO.ct δ).turn k = k δ := (rfl)
theorem v_tuB {k : FS} : (SO.bk δ).turn k = .ret (.nx δ) := (rfl)
theorem v_tuR {k : FS} : (SO.rt r δ).turn k = .ret (.rt r δ) := (rfl)
theorem v_tuE {k : FS} : (SO.err c fs δ).turn k = .ret (.err c fs δ) := (rfl)
theorem v_for {fi : FI} {g : FG} {b : FS} : fFor fi g b δ = (fi δ).bind fun o => o.go fun ds => fLoop g b ds := (rfl)
theorem v_iW {vs : List Nat} {fi : FI} : fiWipe vs fi δ = (fi δ).bind fun o => o.on fun ds δ => .ret (.ok ds (wipeD δ vs)) := (rfl)
theorem v_wipe {vs : List Nat} {f : FS} : fWipe vs f δ = (f δ).bind fun o => .ret (o.wipe vs) := (rfl)
theorem v_wN {vs : List Nat} : (SO.nx δ).wipe vs = .nx (wipeD δ vs) := (rfl)
theorem v_wR {vs : List Nat} : (SO.rt r δ).wipe vs = .rt r δ := (rfl)
theorem v_wB {vs : List Nat} : (SO.bk δ).wipe vs = .bk (wipeD δ vs) := (rfl)
theorem v_wC {vs : List Nat} : (SO.ct δ).wipe vs = .ct (wipeD δ vs) := (rfl)
theorem v_wE {vs : List Nat} : (SO.err c fs δ).wipe vs = .err c fs δ := (rfl)
theorem v_iS : fiSeq fe δ = (fe δ).bind fun o => o.on fun r => (useF r).bind fun d => F.of d.items := (rfl)
def rng1K (ds : List D) : FI := match ds with
  | [.int j] => if -(2 ^ 62) ≤ j ∧ j < 2 ^ 62 then F.ret (rngD 0 j.toNat) else F.fail
  | _ => F.fail
def rng2K (ds : List D) : FI := match ds with
  | [.int i, .int j] => if -(2 ^ 62) ≤ i ∧ i < 2 ^ 62 ∧ -(2 ^ 62) ≤ j ∧ j < 2 ^ 62 then F.ret (rngD i (j - i).toNat) else F.fail
  | _ => F.fail
theorem v_r1 : fiRng1 fA δ = (fA δ).bind fun o => o.on fun rs => (peekAllF rs).bind rng1K := (rfl)
theorem v_r2 : fiRng2 fA δ = (fA δ).bind fun o => o.on fun rs => (peekAllF rs).bind rng2K := (rfl)
theorem v_r1K {j : Int} : rng1K [.int j] δ = (if -(2 ^ 62) ≤ j ∧ j < 2 ^ 62 then F.ret (rngD 0 j.toNat) else F.fail) δ := (rfl)
theorem v_r2K {i j : Int} : rng2K [.int i, .int j] δ = (if -(2 ^ 62) ≤ i ∧ i < 2 ^ 62 ∧ -(2 ^ 62) ≤ j ∧ j < 2 ^ 62 then F.ret (rngD i (j - i).toNat) else F.fail) δ := (rfl)
def enumK (rs : List R) : FI := match rs with
  | [.val (.tup ds)] => F.ret (enumD 0 ds)
  | _ => F.fail
theorem v_en : fiEnum fA δ = (fA δ).bind fun o => o.on fun rs => (useAllF rs).bind enumK := (rfl)
theorem v_enK {ds : List D} : enumK [.val (.tup ds)] δ = .ret (.ok (enumD 0 ds) δ) := (rfl)
/-! comprehensions -/
def lcE (acc : List D) (vs : List Nat) (k : List D → List R → T (List D × List R)) (o : EO D) : T (List D × List R) := match o with
  | .err _ _ _ => .fail
  | .ok d' δ4 => if acc.length < sizeLine then k (acc ++ [d']) (wipeD δ4 vs) else .fail
def lcT (e : FE) (acc : List D) (vs : List Nat) (k : List D → List R → T (List D × List R)) (o : EO Bool) : T (List D × List R) := match o with
  | .err _ _ _ => .fail
  | .ok b δ2 => if b = true then (e.bind useF δ2).bind (lcE acc vs k) else k acc (wipeD δ2 vs)
def lcG (t : FT) (e : FE) (acc : List D) (vs : List Nat) (k : List D → List R → T (List D × List R)) (o : Option (List R)) : T (List D × List R) := match o with
  | none => .fail
  | some δ1 => (t δ1).bind (lcT e acc vs k)
theorem v_lcN {g : FG} {e : FE} {vs : List Nat} {acc : List D} : fLc g t e vs [] acc δ = .ret (acc, δ) := (rfl)
theorem v_lcC {g : FG} {e : FE} {vs : List Nat} {ds acc : List D} : fLc g t e vs (d :: ds) acc δ = lcG t e acc vs (fLc g t e vs ds) (g d δ) := by
  rw [fLc.eq_2]
  unfold lcG lcT lcE
  cases g d δ <;> rfl
theorem v_lcG {e : FE} {vs : List Nat} {acc : List D} {k : List D → List R → T (List D × List R)} : lcG t e acc vs k (some δ) = (t δ).bind (lcT e acc vs k) := (rfl)
theorem v_lcT {e : FE} {vs : List Nat} {acc : List D} {k : List D → List R → T (List D × List R)} {b : Bool} : lcT e acc vs k (.ok b δ) = if b = true then (e.bind useF δ).bind (lcE acc vs k) else k acc (wipeD δ vs) := (rfl)
theorem v_lcE {vs : List Nat} {acc : List D} {k : List D → List R → T (List D × List R)} : lcE acc vs k (.ok d δ) = if acc.length < sizeLine then k (acc ++ [d]) (wipeD δ vs) else .fail := (rfl)
theorem v_yes : fYes δ = .ret (.ok true δ) := (rfl)
theorem v_comp {fi : FI} {g : FG} {e : FE} {vs : List Nat} : fComp fi g t e vs δ = (fi δ).bind fun o => o.on fun ds δ1 => (fLc g t e vs ds [] (wipeD δ1 vs)).bind fun p => .ret (.ok (.own (.lst p.1)) (backD p.2 δ1 vs)) := (rfl)
def appK (i : Nat) (d : D) (r : R) (δ : List R) : T (EO R) := match r with
  | .own (.lst ds) => if ds.length < sizeLine then .ret (.ok (.val .non) (st δ i (.own (.lst (ds ++ [d]))))) else .fail
  | _ => .fail
def appF (i : Nat) (d : D) : FE := fun δ => appK i d (gt δ i) δ
def appG (i : Nat) (fe : FE) (r : R) (δ : List R) : T (EO R) := match r with
  | .own (.lst _) => (fe δ).bind fun o => o.on fun r => (useF r).bind fun d => appF i d
  | _ => .fail
theorem v_app : fApp i fe δ = appG i fe (gt δ i) δ := by
  unfold fApp
  cases h : gt δ i with
  | own d => cases d <;> rfl
  | _ => rfl
theorem v_appG {ds : List D} : appG i fe (.own (.lst ds)) δ = (fe δ).bind fun o => o.on fun r => (useF r).bind fun d => appF i d := (rfl)
theorem v_appF : appF i d δ = appK i d (gt δ i) δ := (rfl)
theorem v_appK {ds : List D} : appK i d (.own (.lst ds)) δ = if ds.length < sizeLine then .ret (.ok (.val .non) (st δ i (.own (.lst (ds ++ [d]))))) else .fail := (rfl)
/-! defs -/
def callK (δ : List R) (o : FR) : T (EO R) := match o with
  | .val r => .ret (.ok r δ)
  | .exc _ _ => .fail
def callXK (δ : List R) (o : FR) : T (EO R) := match o with
  | .val r => .ret (.ok r δ)
  | .exc c fs => .ret (.err c fs δ)
def callF (m : FM) (rs : List R) : FE := fun δ => (m rs).bind (callK δ)
def callXF (m : FM) (rs : List R) : FE := fun δ => (m rs).bind (callXK δ)
theorem v_call {m : FM} : fCall m fA δ = (fA δ).bind fun o => o.on fun rs => (useAllF rs).bind (callF m) := (rfl)
theorem v_callX {m : FM} : fCallX m fA δ = (fA δ).bind fun o => o.on fun rs => (useAllF rs).bind (callXF m) := (rfl)
theorem v_callF {m : FM} : callF m rs δ = (m rs).bind (callK δ) := (rfl)
theorem v_callXF {m : FM} : callXF m rs δ = (m rs).bind (callXK δ) := (rfl)
theorem v_callK : callK δ (.val r) = .ret (.ok r δ) := (rfl)
theorem v_callXK : callXK δ (.val r) = .ret (.ok r δ) := (rfl)
theorem v_callXE : callXK δ (.exc c fs) = .ret (.err c fs δ) := (rfl)
theorem v_mk {n : Nat} {f : FS} : mk n f rs = (f (startK n rs)).bind SO.out := (rfl)
theorem v_outN : SO.out (.nx δ) = .ret (.val (.val .non)) := (rfl)
theorem v_outR : SO.out (.rt r δ) = .ret (.val r) := (rfl)
theorem v_outE : SO.out (.err c fs δ) = .ret (.exc c fs) := (rfl)
theorem v_take {n : Int} : m_take [.bag, .val (.int n)] = .take n fun r => .ret (.val (.val (.int r))) := (rfl)
/-! raise, try -/
def raiK (C : Addr) (f : Str) (rs : List R) : FS := match rs with
  | [.val d] => fun δ => .ret (.err C [(f, d)] δ)
  | _ => fun _ => .fail
theorem v_rai {C : Addr} {f : Str} : fRaise C f fA δ = (fA δ).bind fun o => o.go fun rs => eS (useAllF rs) (raiK C f) := (rfl)
theorem v_raiK {C : Addr} {f : Str} : raiK C f [.val d] δ = .ret (.err C [(f, d)] δ) := (rfl)
def tryK (C : Addr) (i : Nat) (fu : Addr → Value → Option Addr → FS) (o : SO) : T SO := match o with
  | .err c fs δ1 => if c = C then .any fun a d => (fu a (.ref c) (some d) (st δ1 i (.val (.exc a d fs)))).bind (SO.suite i) else .fail
  | .nx δ => .ret (.nx δ)
  | .rt r δ => .ret (.rt r δ)
  | .bk δ => .ret (.bk δ)
  | .ct δ => .ret (.ct δ)
variable {C : Addr} {fu : Addr → Value → Option Addr → FS}
theorem v_try : fTry C i A fu δ = (A δ).bind (tryK C i fu) := (rfl)
theorem v_tryN : tryK C i fu (.nx δ) = .ret (.nx δ) := (rfl)
theorem v_tryR : tryK C i fu (.rt r δ) = .ret (.rt r δ) := (rfl)
theorem v_tryB : tryK C i fu (.bk δ) = .ret (.bk δ) := (rfl)
theorem v_tryC : tryK C i fu (.ct δ) = .ret (.ct δ) := (rfl)
theorem v_tryE : tryK C i fu (.err c fs δ) = if c = C then .any fun a d => (fu a (.ref c) (some d) (st δ i (.val (.exc a d fs)))).bind (SO.suite i) else .fail := (rfl)
theorem v_suN : SO.suite i (.nx δ) = .ret (.nx (st δ i .no)) := (rfl)
theorem v_suR : SO.suite i (.rt r δ) = .ret (.rt r δ) := (rfl)
theorem v_suB : SO.suite i (.bk δ) = .ret (.bk (st δ i .no)) := (rfl)
theorem v_suC : SO.suite i (.ct δ) = .ret (.ct (st δ i .no)) := (rfl)
def xfK (a : Addr) (cls : Value) (d : Option Addr) (Cl : Addr) (f : Str) (x : D) : FE := match x with
  | .exc a' dd fs => if a' = a ∧ refOf cls = some Cl ∧ d = some dd then (F.of (fs.lookup f)).bind fun y => F.ret (.val y) else F.fail
  | _ => F.fail
theorem v_xf {a : Addr} {cls : Value} {dd : Option Addr} {Cl : Addr} {f : Str} : fXf a cls dd Cl f fe δ = (fe δ).bind fun o => o.on fun r => (peekF r).bind (xfK a cls dd Cl f) := (rfl)
theorem v_xfK {a dd : Addr} {Cl : Addr} {f : Str} : xfK a (.ref Cl) (some dd) Cl f (.exc a dd fs) δ = (F.of (fs.lookup f) δ).bind fun o => o.on fun y => F.ret (.val y) := by
  show (if a = a ∧ refOf (Value.ref Cl) = some Cl ∧ some dd = some dd then _ else _ : FE) δ = _
  rw [if_pos ⟨rfl, rfl, rfl⟩]; rfl
theorem ite_ap {p : Prop} [Decidable p] {x y : α → β} {z : α} : (if p then x else y) z = if p then x z else y z := by split <;> rfl

variable {n m : Int} {xs ys : List D} {x y : Str} {lo hi : Option Int} {kvs : List (Key × D)} {k' : Bool}
theorem v_pubO : (R.own d).pub = .val d := (rfl)
theorem v_pubV : (R.val d).pub = .val d := (rfl)
theorem v_pubB : R.bag.pub = .bag := (rfl)
theorem v_pubP : (R.pk i).pub = .pk i := (rfl)
theorem v_ixL : ixF (.lst xs) n = atI xs n := (rfl)
theorem v_ixT : ixF (.tup xs) n = atI xs n := (rfl)
theorem v_ixS : ixF (.str x) n = if x.length ≤ sizeLine then (atI x.cps.toList n).map fun c => .str ⟨#[c]⟩ else none := (rfl)
theorem v_slL : slF (.lst xs) lo hi = some (.own (.lst (cut xs lo hi))) := (rfl)
theorem v_slT : slF (.tup xs) lo hi = some (.val (.tup (cut xs lo hi))) := (rfl)
theorem v_slS : slF (.str x) lo hi = if x.length ≤ sizeLine then some (.val (.str (cutS x lo hi))) else none := (rfl)
theorem v_addI : gAddF (.int n) (.int m) = some (.val (.int (n + m))) := (rfl)
theorem v_addS : gAddF (.str x) (.str y) = if x.length + y.length ≤ sizeLine then some (.val (.str (x ++ y))) else none := (rfl)
theorem v_addL : gAddF (.lst xs) (.lst ys) = if xs.length + ys.length ≤ sizeLine then some (.own (.lst (xs ++ ys))) else none := (rfl)
theorem v_addT : gAddF (.tup xs) (.tup ys) = if xs.length + ys.length ≤ sizeLine then some (.val (.tup (xs ++ ys))) else none := (rfl)
theorem v_sub : gSubF (.int n) (.int m) = some (.val (.int (n - m))) := (rfl)
theorem v_mod : gModF (.int n) (.int m) = if decide (m ≠ 0) = true then some (.val (.int (n.fmod m))) else none := (rfl)
theorem v_pow : gPowF (.int n) (.int m) = if (decide (0 ≤ m) && decide (m ≤ 1000000) && decide (n.natAbs < 18446744073709551616)) = true then some (.val (.int (n ^ m.toNat))) else none := (rfl)
theorem v_shr : gShrF (.int n) (.int m) = if decide (0 ≤ m) = true then some (.val (.int (n / 2 ^ m.toNat))) else none := (rfl)
theorem v_fdiv : gFdivF (.int n) (.int m) = if (decide (m ≠ 0) && decide (m.natAbs.log2 < 9000)) = true then some (.val (.int (n.fdiv m))) else none := (rfl)
theorem v_mulI : gMulF (.int n) (.int m) = if mulB n m = true then some (.val (.int (n * m))) else none := (rfl)
theorem v_mulL : gMulF (.lst xs) (.int m) = if -(2 ^ 63) ≤ m ∧ m < 2 ^ 63 ∧ xs.length * m.toNat ≤ sizeLine then some (.own (.lst (List.replicate m.toNat xs).flatten)) else none := (rfl)
theorem v_cI {f : Int → Int → Bool} : cIF f (.int n) (.int m) = some (f n m) := (rfl)
theorem v_cIs : cIsF k' d .non = some (if k' = true then !d.isN else d.isN) := by cases d <;> rfl
theorem v_cES : cEqSF (.str x) (.str y) = some (decide (x = y)) := (rfl)
theorem v_dinI : cDinF k' (.int n) (.dic kvs) = some (if k' = true then !(valD kvs (.inl n)).isSome else (valD kvs (.inl n)).isSome) := (rfl)
theorem v_dinS : cDinF k' (.str x) (.dic kvs) = some (if k' = true then !(valD kvs (.inr x)).isSome else (valD kvs (.inr x)).isSome) := (rfl)
theorem v_lenL : bLenF [.lst xs] = some (.val (.int xs.length)) := (rfl)
theorem v_lenT : bLenF [.tup xs] = some (.val (.int xs.length)) := (rfl)
theorem v_lenS : bLenF [.str x] = if x.length ≤ sizeLine then some (.val (.int x.length)) else none := (rfl)
theorem v_intI : bIntF [.int n] = some (.val (.int n)) := (rfl)
theorem v_intB : bIntF [.bl k'] = some (.val (.int (if k' = true then 1 else 0))) := (rfl)
theorem v_abs : bAbsF [.int n] = some (.val (.int (if n < 0 then -n else n))) := (rfl)
theorem v_max2 : bMax2F [.int n, .int m] = some (.val (.int (if m > n then m else n))) := (rfl)
theorem v_min2 : bMin2F [.int n, .int m] = some (.val (.int (if m < n then m else n))) := (rfl)
theorem v_listL : bListF [.lst xs] = some (.own (.lst xs)) := (rfl)
theorem v_listT : bListF [.tup xs] = some (.own (.lst xs)) := (rfl)
theorem v_tupleL : bTupleF [.lst xs] = some (.val (.tup xs)) := (rfl)
theorem v_tupleT : bTupleF [.tup xs] = some (.val (.tup xs)) := (rfl)
theorem v_dictT {kvs : List (Key × D)} (h : pairsD xs = some kvs) : bDictF [.tup xs] = some (.own (.dic (mergeD [] kvs))) := by unfold bDictF; simp only [h]
theorem v_itN : D.isN .non = true := (rfl)
theorem v_itI : D.isN (.int n) = false := (rfl)
theorem v_itS : D.isN (.str x) = false := (rfl)
theorem v_itB : D.isN (.bl k') = false := (rfl)
theorem v_itL : D.isN (.lst xs) = false := (rfl)
theorem v_itT : D.isN (.tup xs) = false := (rfl)
theorem v_itD : D.isN (.dic kvs) = false := (rfl)
theorem v_itemsL : D.items (.lst xs) = some xs := (rfl)
theorem v_itemsT : D.items (.tup xs) = some xs := (rfl)
end
end DL

namespace DL
open PySem PySem.Spec L2
/-! ### loops -/
def SO.next (o : SO) (Iv : List R → Prop) (P : SO → Prop) : Prop := match o with
  | .nx δ => Iv δ
  | .ct δ => Iv δ
  | .bk δ => P (.nx δ)
  | .rt r δ => P (.rt r δ)
  | .err c fs δ => P (.err c fs δ)
theorem loop_inv {g : FG} {b : FS} {P : SO → Prop} (Iv : List D → List R → Prop) (step : ∀ d ds δ, Iv (d :: ds) δ → ∃ δ1, g d δ = some δ1 ∧ (b δ1).All fun o => o.next (Iv ds) P) (fin : ∀ δ, Iv [] δ → P (.nx δ)) : ∀ ds δ, Iv ds δ → (fLoop g b ds δ).All P
  | [], δ, h => by rw [v_loopN, T.All_retE]; exact fin δ h
  | d :: ds, δ, h => by
    obtain ⟨δ1, e, hb⟩ := step d ds δ h
    rw [v_loopC, e, v_turnK]
    refine T.All_of hb fun o ho => ?_
    cases o with
    | nx δ' => exact loop_inv Iv step fin ds δ' ho
    | ct δ' => exact loop_inv Iv step fin ds δ' ho
    | bk δ' => rw [v_tuB, T.All_retE]; exact ho
    | rt r δ' => rw [v_tuR, T.All_retE]; exact ho
    | err c fs δ' => rw [v_tuE, T.All_retE]; exact ho
/-- each turn leaves all as it was -/
theorem loop_same {g : FG} {b : FS} {δ0 : List R} {ds : List D} (step : ∀ d ∈ ds, ∃ δ1, g d δ0 = some δ1 ∧ (b δ1).All fun o => o = .nx δ0) : (fLoop g b ds δ0).All fun o => o = .nx δ0 :=
  loop_inv (P := fun o => o = .nx δ0) (fun r δ => δ = δ0 ∧ ∀ d ∈ r, d ∈ ds) (fun d r δ ⟨e, h⟩ => by
    subst e
    obtain ⟨δ1, e1, hb⟩ := step d (h d (List.mem_cons_self ..))
    exact ⟨δ1, e1, T.All_mono hb fun o ho => by subst ho; exact ⟨rfl, fun x hx => h x (List.mem_cons_of_mem _ hx)⟩⟩) (fun δ ⟨e, _⟩ => by rw [e]) ds δ0 ⟨rfl, fun _ h => h⟩
/-! ### comprehensions -/
theorem lc_all {g : FG} {t : FT} {e : FE} {vs : List Nat} {δ0 : List R} {P : List D × List R → Prop} (Iv : List D → List D → Prop)
    (step : ∀ d ds acc, Iv (d :: ds) acc → ∃ δ1, g d δ0 = some δ1 ∧ (t δ1).All fun o => ∃ b δ2, o = .ok b δ2 ∧ (b = true → acc.length < sizeLine ∧ (e.bind useF δ2).All fun o => ∃ d' δ4, o = .ok d' δ4 ∧ wipeD δ4 vs = δ0 ∧ Iv ds (acc ++ [d'])) ∧ (b = false → wipeD δ2 vs = δ0 ∧ Iv ds acc))
    (fin : ∀ acc, Iv [] acc → P (acc, δ0)) : ∀ ds acc, Iv ds acc → (fLc g t e vs ds acc δ0).All P
  | [], acc, h => by rw [v_lcN, T.All_retE]; exact fin acc h
  | d :: ds, acc, h => by
    obtain ⟨δ1, e1, ht⟩ := step d ds acc h
    rw [v_lcC, e1, v_lcG]
    refine T.All_of ht fun o ho => ?_
    obtain ⟨b, δ2, rfl, h1, h2⟩ := ho
    rw [v_lcT]
    cases b with
    | false =>
      obtain ⟨ew, hi⟩ := h2 rfl
      rw [if_neg (by decide), ew]
      exact lc_all Iv step fin ds acc hi
    | true =>
      obtain ⟨hl, he⟩ := h1 rfl
      rw [if_pos rfl]
      refine T.All_of he fun o ho => ?_
      obtain ⟨d', δ4, rfl, ew, hi⟩ := ho
      rw [v_lcE, if_pos hl, ew]
      exact lc_all Iv step fin ds _ hi
theorem lc_eq {g : FG} {t : FT} {e : FE} {vs : List Nat} {δ0 : List R} (f : D → Option D) : ∀ (ds acc : List D), (∀ d ∈ ds, ∀ (acc : List D) k, acc.length < sizeLine → lcG t e acc vs k (g d δ0) = match f d with
      | some d' => k (acc ++ [d']) δ0
      | none => k acc δ0) → acc.length + ds.length ≤ sizeLine → fLc g t e vs ds acc δ0 = .ret (acc ++ ds.filterMap f, δ0)
  | [], acc, h, hl => by rw [v_lcN]; simp
  | d :: ds, acc, h, hl => by
    simp only [List.length_cons] at hl
    rw [v_lcC, h d (List.mem_cons_self ..) acc _ (by omega)]
    cases q : f d with
    | none =>
      simp only [List.filterMap_cons, q]
      exact lc_eq f ds acc (fun x hx => h x (List.mem_cons_of_mem _ hx)) (by omega)
    | some d' =>
      simp only [List.filterMap_cons, q]
      rw [lc_eq f ds (acc ++ [d']) (fun x hx => h x (List.mem_cons_of_mem _ hx)) (by simp; omega)]
      simp
theorem all_take {α : Type} {n : Int} {k : Int → T α} {P : α → Prop} (h : ∀ r : Int, 0 ≤ r → r < n → (k r).All P) (n0 : 0 < n := by decide) (n1 : n < 1073741824 := by decide) : (T.take n k).All P := by
  simp only [T.All_eq] at h ⊢
  exact ⟨n0, n1, h⟩
theorem all_ret {α : Type} {a : α} {P : α → Prop} (h : P a) : (T.ret a).All P := by rw [T.All_retE]; exact h
theorem eq_ret {α : Type} {t : T α} {a : α} (h : t = .ret a) : t.All fun x => x = a := by rw [h, T.All_retE]
theorem atI_ok {α : Type} {xs : List α} {r : Int} (h0 : 0 ≤ r) (h1 : r < xs.length) : atI xs r = some (xs[r.toNat]'(by omega)) := by
  have hr : r.toNat < xs.length := by omega
  have := atI_nat (List.getElem?_eq_getElem hr)
  rwa [Int.toNat_of_nonneg h0] at this
section
variable {α : Type} {l : List α} {a0 a1 a2 a3 a4 a5 a6 a7 : α}
theorem v_at0 : atI (a0 :: l) 0 = some a0 := by
  have := atI_ok (xs := a0 :: l) (r := 0) (by decide) (by simp only [List.length_cons]; omega)
  simpa using this
theorem v_at1 : atI (a0 :: a1 :: l) 1 = some a1 := by
  have := atI_ok (xs := a0 :: a1 :: l) (r := 1) (by decide) (by simp only [List.length_cons]; omega)
  simpa using this
theorem v_at2 : atI (a0 :: a1 :: a2 :: l) 2 = some a2 := by
  have := atI_ok (xs := a0 :: a1 :: a2 :: l) (r := 2) (by decide) (by simp only [List.length_cons]; omega)
  simpa using this
theorem v_at3 : atI (a0 :: a1 :: a2 :: a3 :: l) 3 = some a3 := by
  have := atI_ok (xs := a0 :: a1 :: a2 :: a3 :: l) (r := 3) (by decide) (by simp only [List.length_cons]; omega)
  simpa using this
theorem v_at4 : atI (a0 :: a1 :: a2 :: a3 :: a4 :: l) 4 = some a4 := by
  have := atI_ok (xs := a0 :: a1 :: a2 :: a3 :: a4 :: l) (r := 4) (by decide) (by simp only [List.length_cons]; omega)
  simpa using this
theorem v_at5 : atI (a0 :: a1 :: a2 :: a3 :: a4 :: a5 :: l) 5 = some a5 := by
  have := atI_ok (xs := a0 :: a1 :: a2 :: a3 :: a4 :: a5 :: l) (r := 5) (by decide) (by simp only [List.length_cons]; omega)
  simpa using this
theorem v_at6 : atI (a0 :: a1 :: a2 :: a3 :: a4 :: a5 :: a6 :: l) 6 = some a6 := by
  have := atI_ok (xs := a0 :: a1 :: a2 :: a3 :: a4 :: a5 :: a6 :: l) (r := 6) (by decide) (by simp only [List.length_cons]; omega)
  simpa using this
theorem v_at7 : atI (a0 :: a1 :: a2 :: a3 :: a4 :: a5 :: a6 :: a7 :: l) 7 = some a7 := by
  have := atI_ok (xs := a0 :: a1 :: a2 :: a3 :: a4 :: a5 :: a6 :: a7 :: l) (r := 7) (by decide) (by simp only [List.length_cons]; omega)
  simpa using this
theorem v_atL : atI (l ++ [a0]) (-1) = some a0 := by
  unfold atI ixN
  rw [if_neg (by decide), if_pos (by simp; omega)]
  have e : (-1 + (((l ++ [a0]).length : Nat) : Int)).toNat = l.length := by simp; omega
  simp only [Option.bind_some, e]
  simp
theorem v_atM1 : atI [a0] (-1) = some a0 := v_atL (l := [])
theorem v_atM2 : atI [a0, a1] (-1) = some a1 := v_atL (l := [a0])
theorem v_atM3 : atI [a0, a1, a2] (-1) = some a2 := v_atL (l := [a0, a1])
end
theorem yes {p A B : Prop} (h : p) (k : A) : (p → A) ∧ (¬ p → B) := ⟨fun _ => k, fun z => absurd h z⟩
theorem nope {p A B : Prop} (h : ¬ p) (k : B) : (p → A) ∧ (¬ p → B) := ⟨fun z => absurd z h, fun _ => k⟩
theorem rngD_map (a : Int) (n : Nat) : rngD a n = ((List.range n).map fun (i : Nat) => a + (i : Int)).map D.int := by unfold rngD; rw [List.map_map]; rfl
theorem rngD_len (a : Int) (n : Nat) : (rngD a n).length = n := by simp [rngD]
theorem cutTo (xs : List D) (k : Nat) : cut xs none (some (k : Int)) = xs.take k := by
  unfold cut
  rw [HT.sIx_none, List.drop_zero, Nat.sub_zero, HT.sIx_nat, List.take_eq_take_iff]; omega
end DL

set_option maxHeartbeats 1000000
namespace DL
open PySem PySem.Spec L2
/-! ### the facts that the top leaves -/
section
variable {K : PySem.W.Frag} {h : Heap} {mg : Str → Option Value} {C : Addr}
def excB (K : PySem.W.Frag) (C : Addr) : Bool := match K.lookup C with
  | some ⟨.type "type", _, .cls cd, sl⟩ => (match cd.mro, sl.toList with
    | .ref C' :: bm, [_, _, _, _, some (.builtin n), _] => C' == C && n == "ValueError.__new__" && !cd.hasDel && cd.hasDict && PySem.HandSPX.refsVE bm
    | _, _ => false)
  | _ => false
theorem excB_ok (q : excB K C = true) : ∃ nm qn N bs bm sn sub ab col dd k0 k1 k2 k3 k5, K.lookup C = some (excClassObj nm qn C N bs bm true sn sub ab col dd k0 k1 k2 k3 k5 "ValueError.__new__") ∧ PySem.HandSPX.refsVE bm = true := by
  unfold excB at q
  split at q
  · rename_i dd cd sl ho
    split at q
    · rename_i C' bm k0 k1 k2 k3 n k5 hm hs
      simp only [Bool.and_eq_true, beq_iff_eq, Bool.not_eq_true'] at q
      obtain ⟨⟨⟨⟨rfl, rfl⟩, hdel⟩, hdc⟩, ht⟩ := q
      obtain ⟨nm, bs, mro, ns, qn, hd, sn, sub, ab, col, del⟩ := cd
      dsimp only at hm hdel hdc
      subst hm hdel hdc
      have hsl : sl = #[k0, k1, k2, k3, some (.builtin "ValueError.__new__"), k5] := by
        obtain ⟨l⟩ := sl
        simp only at hs
        rw [hs]
      subst hsl
      exact ⟨nm, qn, ns, bs, bm, sn, sub, ab, col, dd, k0, k1, k2, k3, k5, ho, ht⟩
    · cases q
  · cases q
/-- an own error class x with the field f -/
def errB (K : PySem.W.Frag) (x f : Str) : Bool := He.eqO (PySem.W.nsIn K mainGlobals x) (some (some (.ref (He.ga K x)))) && (excB K (He.ga K x) && (He.eqO (PySem.W.findIn K (.ref (He.ga K x)) "__setattr__") (some (some (.builtin "object.__setattr__"))) &&
  (decide (PySem.W.subIn K (.ref (He.ga K x)) (.type "BaseException") = some true) && (decide (PySem.W.typeIn K (.ref (He.ga K x)) = some (.type "type")) && (PySem.W.keepIn K (.ref (He.ga K x)) && (xfB K (He.ga K x) &&
  (He.eqO (PySem.W.findIn K (.ref (He.ga K x)) f) (some none) && (decide (PySem.W.exmOne K (.ref (He.ga K x)) (.ref (He.ga K x)) = some true) && (He.eqO (PySem.W.findIn K (.ref (He.ga K x)) "__init__") (some (some (.ref (He.ma K (He.ga K x) "__init__")))) &&
  decide (PySem.W.typeIn K (.ref (He.ma K (He.ga K x) "__init__")) = some (.type "function")))))))))))
theorem errC_of {P : Program} {w : World} {base : Heap} {x f g qual : Str} {sm : Stmt} {fd : FuncData} {ps : List Str} (X : K.In h) (G : h.Ns mainGlobals mg) (q : errB K x f = true) (F : Fun K "__init__" qual sm (He.ma K (He.ga K x) "__init__") fd) (Sc : FnScope ["self", g] ps (defScope sm)) (hl : ps.length = 2) (hbd : Binds K fd ps [])
    (hb : ∀ (cdv : Value) (A : Around) (outer : List Env) (s : Shared) (H : Hp) (E : XK), PSs (cxOf CX0 P w K mg base ["self", g] qual (defScope sm) (He.ma K (He.ga K x) "__init__") cdv A outer s H E).nox (defBody sm) (tOst K f (tVar 0) (tVar 1))) : ErrC P w K mg base x (He.ga K x) f := by
  unfold errB at q
  simp only [Bool.and_eq_true, decide_eq_true_eq] at q
  obtain ⟨q1, q2, q3, q4, q5, q6, q7, q8, q9, q10, q11⟩ := q
  exact ⟨⟨excB_ok q2, He.eqO_ok q3, q4, q5, q6⟩, xfB_ok q7, He.eqO_ok q8, PySem.W.mg_of X G (He.eqO_ok q1), q9, _, fd, ps, He.eqO_ok q10, q11, fn_init F Sc hl hb, hbd⟩
theorem fun_of {x qual : Str} {sm : Stmt} {f : Addr} {fd : FuncData} (F : FunD K x qual (defArgs sm) (defBody sm) (defScope sm) [] [] f fd) : Fun K x qual sm f fd := by
  obtain ⟨⟨oc, od, dV, kV, doc, pm, an, cdv, ct, osl, rfl, lk, hcd, hd, _⟩, kp⟩ := F
  rcases hd with ⟨_, rfl⟩ | ⟨e, _⟩
  · exact ⟨⟨oc, od, kV, doc, pm, an, cdv, ct, osl, rfl, lk, hcd⟩, kp⟩
  · exact absurd rfl e
def gloB (K : PySem.W.Frag) (x : Str) : Bool := He.eqO (PySem.W.nsIn K mainGlobals x) (some (some (.ref (He.ga K x))))
def freeB (K : PySem.W.Frag) (x : Str) : Bool := He.eqO (PySem.W.nsIn K mainGlobals x) (some none)
theorem glo_of (X : K.In h) (G : h.Ns mainGlobals mg) {x : Str} (q : gloB K x = true) : mg x = some (.ref (He.ga K x)) := PySem.W.mg_of X G (He.eqO_ok q)
theorem free_of (X : K.In h) (G : h.Ns mainGlobals mg) {x : Str} (q : freeB K x = true) : mg x = none := PySem.W.mg_none_of X G (He.eqO_ok q)
end
/-! ### the Hook -/
structure SaysE (fn : List He.DefD) (ex : List (PySem.W.Frag → Bool)) (K : PySem.W.Frag) : Prop where
  d : He.SaysD [] fn K
  x : ∀ e ∈ ex, e K = true
def obsE (n : Nat) (fn : List He.DefD) (ex : List (PySem.W.Frag → Bool)) (g : Addr → Option Obj) : He.AlD × Bool := (He.obsD [] fn (He.frG g (He.asD g n)), ex.all fun e => e (He.frG g (He.asD g n)))
def hookE (n : Nat) (fn : List He.DefD) (ex : List (PySem.W.Frag → Bool)) : PySem.W.Hook where
  α := He.AlD × Bool
  obs := fun s => obsE n fn ex s.heap.get?
  val := fun _ => (He.valD fn, true)
  says := fun _ h => ∃ K : PySem.W.Frag, K.In h ∧ SaysE fn ex K
  of := fun _ _ e => ⟨_, He.frG_in, congrArg (fun z : He.AlD × Bool => z.1) e, fun x hx => List.all_eq_true.mp (congrArg (fun z : He.AlD × Bool => z.2) e) x hx⟩
  keeps := fun _ _ _ ⟨K, hK, c⟩ k => ⟨K, PySem.W.Frag.In.keeps hK k, c⟩
theorem obsE_eq {n : Nat} {fn : List He.DefD} {ex : List (PySem.W.Frag → Bool)} {g : Addr → Option Obj} {s : Shared} (h : ∀ a, g a = s.heap.get? a) : obsE n fn ex g = (hookE n fn ex).obs s := by
  have e : g = s.heap.get? := funext h
  rw [e] <;> rfl
section
variable {fn : List He.DefD} {ex : List (PySem.W.Frag → Bool)} {K : PySem.W.Frag}
theorem SaysE.at (c : SaysE fn ex K) (i : Nat) {e : PySem.W.Frag → Bool} (h : ex[i]? = some e := by rfl) : e K = true := c.x e (List.mem_of_getElem? h)
end
/-! ### drawing, the bag: as in every law's text -/
section
variable {P : Program} {w : World} {K : PySem.W.Frag} {mg : Str → Option Value} {base : Heap}
theorem take_fc {x : Str} {f : Addr} {fd : FuncData} (F : FnOk P w K mg base CX0 1 f fd ["_law_bag_here", "_law_many"] (spOf K takeS)) (hm : mg x = some (.ref f)) (hk : PySem.W.keepIn K (.ref f) = true) (hb : Binds K fd ["_law_bag_here", "_law_many"] []) : Fc P w K mg base 1 x ["_law_bag_here", "_law_many"] (spM0 2 m_take) :=
  ⟨f, fd, F.imp (spOf_imp take_imp), hm, hk, hb⟩
end
end DL

namespace K17
open PySem PySem.Spec L2 DL
noncomputable section
def b_step_on_1 (c_Errs : Addr) : FS := (fWipe [2, 3, 4, 5] (fIfS (fTst (fCmp (cEqF false) (fVar 4) (fVar 1))) (fRet (fVar 5)) fNext))
def fs_step_on (c_Errs : Addr) : FS := (fSq (fAsg (fVar 0) (fgT 2 (fgCons (fgN 2) (fgCons (fgN 3) fgNil))))
  (fSq (fIfS (fTst (fCmp (cEqF false) (fVar 2) (fC (.str "plus")))) (fRet (fBin gAddF (fVar 1) (fVar 3))) fNext)
  (fSq (fIfS (fTst (fCmp (cEqF false) (fVar 2) (fC (.str "times")))) (fRet (fBin gMulF (fVar 1) (fVar 3))) fNext)
  (fSq (fIfS (fTst (fCmp (cEqF false) (fVar 2) (fC (.str "into")))) (fRet (fBin gFdivF (fVar 1) (fVar 3))) fNext)
  (fSq (fIfS (fTst (fCmp (cEqF false) (fVar 2) (fC (.str "over")))) (fSq (fIfS (fTst (fCmp (cEqF false) (fVar 1) (fC (.int 0)))) (fRaise c_Errs "number" (fCons (fVar 1) fNil)) fNext)
  (fRet (fBin gFdivF (fVar 3) (fVar 1)))) fNext)
  (fSq (fWipe [2, 3, 4, 5] (fFor (fiWipe [2, 3, 4, 5] (fiSeq (fVar 3))) (fgT 2 (fgCons (fgN 4) (fgCons (fgN 5) fgNil))) (b_step_on_1 c_Errs)))
  (fRaise c_Errs "number" (fCons (fVar 1) fNil))))))))
def m_step_on (c_Errs : Addr) : FM := mk 6 (fs_step_on c_Errs)
def b_steps_on_1 (c_Errs : Addr) : FS := (fWipe [2] (fSet 1 (fCallX (m_step_on c_Errs) (fCons (fVar 2) (fCons (fVar 1) fNil)))))
def fs_steps_on (c_Errs : Addr) : FS := (fSq (fWipe [2] (fFor (fiWipe [2] (fiSeq (fVar 0))) (fgN 2) (b_steps_on_1 c_Errs)))
  (fRet (fVar 1)))
def m_steps_on (c_Errs : Addr) : FM := mk 3 (fs_steps_on c_Errs)
abbrev m__law_take : FM := m_take
def fs__law_alike : FS := (fRet (fAndV (fCmp (cEqF false) (fVar 0) (fVar 1)) (fCmp cEqSF (fCB bReprF (fCons (fVar 0) fNil)) (fCB bReprF (fCons (fVar 1) fNil)))))
def m__law_alike : FM := mk 2 (fs__law_alike)
def fs__law_one : FS := (fRet (fIx (fVar 1) (fCall m__law_take (fCons (fVar 0) (fCons (fCB bLenF (fCons (fVar 1) fNil)) fNil)))))
def m__law_one : FM := mk 2 (fs__law_one)
def fs__law_number : FS := (fSq (fSet 1 (fCall m__law_take (fCons (fVar 0) (fCons (fC (.int 12)) fNil))))
  (fSq (fIfS (fTst (fCmp cGt (fVar 1) (fC (.int 1)))) (fRet (fBin gSubF (fCall m__law_take (fCons (fVar 0) (fCons (fC (.int 13)) fNil))) (fC (.int 6)))) fNext)
  (fRet (fBin gMulF (fIx (fLst (fCons (fBin gSubF (fBin gPowF (fC (.int 10)) (fC (.int 12))) (fCall m__law_take (fCons (fVar 0) (fCons (fC (.int 3)) fNil)))) (fCons (fCall m__law_take (fCons (fVar 0) (fCons (fC (.int 2000)) fNil))) fNil))) (fVar 1)) (fIx (fLst (fCons (fC (.int 1)) (fCons (fNeg (fC (.int 1))) fNil))) (fCall m__law_take (fCons (fVar 0) (fCons (fC (.int 2)) fNil))))))))
def m__law_number : FM := mk 2 (fs__law_number)
def e__law_step_c1 : FE := (fBin gMulF (fVar 5) (fVar 2))
def t__law_step_c1 : FT := (fTst (fCmp (cEqF false) (fCall m__law_take (fCons (fVar 0) (fCons (fC (.int 2)) fNil))) (fC (.int 0))))
def e__law_step_c2 : FE := (fTup (fCons (fVar 5) (fCons (fCall m__law_number (fCons (fVar 0) fNil)) fNil)))
def fs__law_step : FS := (fSq (fSet 1 (fCall m__law_one (fCons (fVar 0) (fCons (fLst (fCons (fC (.str "plus")) (fCons (fC (.str "times")) (fCons (fC (.str "into")) (fCons (fC (.str "over")) (fCons (fC (.str "found")) fNil)))))) fNil))))
  (fSq (fWipe [2, 3] (fIfS (fTst (fCmp (cEqF false) (fVar 1) (fC (.str "found")))) (fSq (fSet 2 (fIx (fLst (fCons (fC (.int 1)) (fCons (fC (.int 1)) (fCons (fC (.int 1)) (fCons (fBin gAddF (fBin gPowF (fC (.int 10)) (fC (.int 11))) (fC (.int 7))) fNil))))) (fCall m__law_take (fCons (fVar 0) (fCons (fC (.int 4)) fNil)))))
  (fSq (fSet 3 (fSl (fComp (fiRng2 (fCons (fNeg (fC (.int 3))) (fCons (fC (.int 4)) fNil))) (fgN 5) t__law_step_c1 e__law_step_c1 [5]) foNone (foSome (fC (.int 6)))))
  (fRet (fTup (fCons (fC (.str "found")) (fCons (fCB bTupleF (fCons (fComp (fiSeq (fVar 3)) (fgN 5) fYes e__law_step_c2 [5]) fNil)) fNil)))))) fNext))
  (fSq (fSet 4 (fCall m__law_number (fCons (fVar 0) fNil)))
  (fSq (fIfS (fTst (fCmp (cEqF false) (fVar 1) (fC (.str "into")))) (fRet (fTup (fCons (fC (.str "into")) (fCons (fCB bMax2F (fCons (fC (.int 1)) (fCons (fCB bAbsF (fCons (fVar 4) fNil)) fNil))) fNil)))) fNext)
  (fRet (fTup (fCons (fVar 1) (fCons (fIf (fOr (fTst (fCmp (cEqF true) (fVar 4) (fC (.int 0)))) (fTst (fCmp (cEqF true) (fVar 1) (fC (.str "times"))))) (fVar 4) (fC (.int 2))) fNil))))))))
def m__law_step : FM := mk 6 (fs__law_step)
def b__law_led_1 : FS := (fWipe [2, 3, 4] (fWipe [4] (fIfS (fTst (fCmp (cEqF false) (fVar 2) (fC (.str "plus")))) (fSet 1 (fBin gAddF (fVar 1) (fVar 3))) (fWipe [4] (fIfS (fTst (fCmp (cEqF false) (fVar 2) (fC (.str "times")))) (fSet 1 (fBin gMulF (fVar 1) (fVar 3))) (fWipe [4] (fIfS (fTst (fCmp (cEqF false) (fVar 2) (fC (.str "into")))) (fSet 1 (fBin gFdivF (fVar 1) (fVar 3))) (fWipe [4] (fIfS (fTst (fCmp (cEqF false) (fVar 2) (fC (.str "over")))) (fSq (fIfS (fTst (fCmp (cEqF false) (fVar 1) (fC (.int 0)))) (fRet (fC .non)) fNext)
  (fSet 1 (fBin gFdivF (fVar 3) (fVar 1)))) (fSq (fSet 4 (fCB bDictF (fCons (fVar 3) fNil)))
  (fSq (fIfS (fTst (fCmp (cDinF true) (fVar 1) (fVar 4))) (fRet (fC .non)) fNext)
  (fSet 1 (fDix (fVar 4) (fVar 1))))))))))))))
def fs__law_led : FS := (fSq (fWipe [2, 3, 4] (fFor (fiWipe [2, 3, 4] (fiSeq (fVar 0))) (fgT 2 (fgCons (fgN 2) (fgCons (fgN 3) fgNil))) b__law_led_1))
  (fRet (fVar 1)))
def m__law_led : FM := mk 5 (fs__law_led)
def b__law_steps_drawn_1 : FS := (fWipe [3, 4] (fWipe [4] (fIfS (fTst (fCmp (cEqF false) (fCall m__law_take (fCons (fVar 0) (fCons (fC (.int 3)) fNil))) (fC (.int 0)))) (fExpr (fApp 2 (fCall m__law_step (fCons (fVar 0) fNil)))) (fSq (fSet 4 (fLst (fCons (fTup (fCons (fC (.str "plus")) (fCons (fBin gSubF (fCall m__law_take (fCons (fVar 0) (fCons (fC (.int 9)) fNil))) (fC (.int 4))) fNil))) (fCons (fTup (fCons (fC (.str "times")) (fCons (fIx (fLst (fCons (fNeg (fC (.int 2))) (fCons (fNeg (fC (.int 1))) (fCons (fC (.int 2)) (fCons (fC (.int 3)) fNil))))) (fCall m__law_take (fCons (fVar 0) (fCons (fC (.int 4)) fNil)))) fNil))) fNil))))
  (fSq (fSet 4 (fBin gAddF (fVar 4) (fLst (fCons (fTup (fCons (fC (.str "into")) (fCons (fBin gAddF (fC (.int 1)) (fCall m__law_take (fCons (fVar 0) (fCons (fC (.int 4)) fNil)))) fNil))) (fCons (fTup (fCons (fC (.str "over")) (fCons (fBin gSubF (fCall m__law_take (fCons (fVar 0) (fCons (fC (.int 41)) fNil))) (fC (.int 20))) fNil))) fNil)))))
  (fExpr (fApp 2 (fIx (fVar 4) (fCall m__law_take (fCons (fVar 0) (fCons (fC (.int 4)) fNil)))))))))))
def fs__law_steps_drawn : FS := (fSq (fSet 2 (fLst fNil))
  (fSq (fWipe [3, 4] (fFor (fiWipe [3, 4] (fiRng1 (fCons (fCall m__law_take (fCons (fVar 0) (fCons (fBin gAddF (fVar 1) (fC (.int 1))) fNil))) fNil))) (fgN 3) b__law_steps_drawn_1))
  (fRet (fCB bTupleF (fCons (fVar 2) fNil)))))
def m__law_steps_drawn : FM := mk 5 (fs__law_steps_drawn)
def b__law_erred_1 : FS := (fWipe [2, 3] (fSq (fIfS (fTst (fCmp (cIsF false) (fCall m__law_led (fCons (fTup (fCons (fVar 3) fNil)) (fCons (fVar 1) fNil))) (fC .non))) (fRet (fVar 1)) fNext)
  (fSet 1 (fCall m__law_led (fCons (fTup (fCons (fVar 3) fNil)) (fCons (fVar 1) fNil))))))
def fs__law_erred : FS := (fSq (fWipe [1, 2, 3] (fFor (fiWipe [2, 3] (fiEnum (fCons (fVar 0) fNil))) (fgT 2 (fgCons (fgN 2) (fgCons (fgN 3) fgNil))) b__law_erred_1))
  (fRet (fC .non)))
def m__law_erred : FM := mk 4 (fs__law_erred)
def fs__law_heard (c_Errs : Addr) : FS := (fTry c_Errs 3 (fRet (fTup (fCons (fC (.str "told")) (fCons (fIf (fTst (fCmp (cEqF false) (fVar 0) (fC (.int 0)))) (fCallX (m_step_on c_Errs) (fCons (fIx (fVar 1) (fC (.int 0))) (fCons (fVar 2) fNil))) (fCallX (m_steps_on c_Errs) (fCons (fVar 1) (fCons (fVar 2) fNil)))) fNil)))) (fun a cls d => (fRet (fTup (fCons (fC (.str "errs")) (fCons (fXf a cls d c_Errs "number" (fVar 3)) fNil))))))
def m__law_heard (c_Errs : Addr) : FM := mk 4 (fs__law_heard c_Errs)
def e_law_c1 (c_Errs : Addr) : FE := (fVar 12)
def e_law_c2 (c_Errs : Addr) : FE := (fBin gAddF (fVar 12) (fC (.int 1)))
def b_law_3 (c_Errs : Addr) : FS := (fWipe [3, 6, 7, 8, 9, 10, 11] (fIfS (fTst (fCmp (cEqF false) (fVar 6) (fC (.str "found")))) (fSet 5 (fBin gAddF (fBin gAddF (fVar 5) (fComp (fiSeq (fVar 7)) (fgT 2 (fgCons (fgN 12) (fgCons (fgN 8) fgNil))) fYes (e_law_c1 c_Errs) [12, 8])) (fComp (fiSeq (fVar 7)) (fgT 2 (fgCons (fgN 12) (fgCons (fgN 8) fgNil))) fYes (e_law_c2 c_Errs) [12, 8]))) fNext))
def e_law_c4 (c_Errs : Addr) : FE := (fCall (m__law_heard c_Errs) (fCons (fVar 9) (fCons (fVar 10) (fCons (fVar 8) fNil))))
def b_law_5 (c_Errs : Addr) : FS := (fWipe [3, 5, 6, 7, 9, 10, 11] (fSq (fSet 10 (fIx (fLst (fCons (fSl (fVar 4) foNone (foSome (fC (.int 1)))) (fCons (fVar 4) fNil))) (fVar 9)))
  (fWipe [11] (fIfS (fOr (fTst (fCmp (cEqF false) (fVar 9) (fC (.int 1)))) (fTst (fCmp (cEqF true) (fVar 10) (fTup fNil)))) (fSq (fSet 11 (fTup (fCons (fC (.str "told")) (fCons (fCall m__law_led (fCons (fVar 10) (fCons (fVar 8) fNil))) fNil))))
  (fSq (fIfS (fTst (fCmp (cIsF false) (fIx (fVar 11) (fC (.int 1))) (fC .non))) (fSet 11 (fTup (fCons (fC (.str "errs")) (fCons (fCall m__law_erred (fCons (fVar 10) (fCons (fVar 8) fNil))) fNil)))) fNext)
  (fIfS (fNot (fTst (fCall m__law_alike (fCons (fComp (fiRng1 (fCons (fC (.int 2)) fNil)) (fgN 13) fYes (e_law_c4 c_Errs) [13]) (fCons (fLst (fCons (fVar 11) (fCons (fVar 11) fNil))) fNil))))) (fRet (fC (.bl false))) fNext))) fNext))))
def b_law_6 (c_Errs : Addr) : FS := (fWipe [3, 5, 6, 7, 8, 9, 10, 11] (fWipe [3, 5, 6, 7, 8, 9, 10, 11] (fFor (fiWipe [3, 5, 6, 7, 9, 10, 11] (fiSeq (fTup (fCons (fC (.int 0)) (fCons (fC (.int 1)) fNil))))) (fgN 9) (b_law_5 c_Errs))))
def b_law_7 (c_Errs : Addr) : FS := (fWipe [3, 4, 5, 6, 7, 8, 9, 10, 11] (fSq (fSet 4 (fCall m__law_steps_drawn (fCons (fVar 1) (fCons (fC (.int 4)) fNil))))
  (fSq (fSet 5 (fBin gAddF (fLrng2 (fNeg (fC (.int 4))) (fC (.int 5))) (fLst (fCons (fVar 2) (fCons (fNeg (fVar 2)) (fCons (fBin gSubF (fVar 2) (fC (.int 1))) (fCons (fBin gAddF (fBin gPowF (fC (.int 10)) (fC (.int 30))) (fCall m__law_take (fCons (fVar 1) (fCons (fC (.int 9)) fNil)))) (fCons (fCall m__law_number (fCons (fVar 1) fNil)) fNil))))))))
  (fSq (fWipe [3, 6, 7, 8, 9, 10, 11] (fFor (fiWipe [3, 6, 7, 8, 9, 10, 11] (fiSeq (fVar 4))) (fgT 2 (fgCons (fgN 6) (fgCons (fgN 7) fgNil))) (b_law_3 c_Errs)))
  (fWipe [3, 4, 5, 6, 7, 8, 9, 10, 11] (fFor (fiWipe [3, 5, 6, 7, 8, 9, 10, 11] (fiSeq (fVar 5))) (fgN 8) (b_law_6 c_Errs)))))))
def fs_law (c_Errs : Addr) : FS := (fSq (fSet 2 (fBin gPowF (fC (.int 10)) (fC (.int 12))))
  (fSq (fWipe [1, 2, 3, 4, 5, 6, 7, 8, 9, 10, 11] (fFor (fiWipe [3, 4, 5, 6, 7, 8, 9, 10, 11] (fiRng1 (fCons (fC (.int 12)) fNil))) (fgN 3) (b_law_7 c_Errs)))
  (fRet (fAndV (fCall m__law_alike (fCons (fCallX (m_steps_on c_Errs) (fCons (fTup fNil) (fCons (fC (.int 7)) fNil))) (fCons (fC (.int 7)) fNil))) (fCmp (cEqF false) (fCall (m__law_heard c_Errs) (fCons (fC (.int 1)) (fCons (fTup (fCons (fTup (fCons (fC (.str "over")) (fCons (fC (.int 5)) fNil))) (fCons (fTup (fCons (fC (.str "over")) (fCons (fC (.int 5)) fNil))) fNil))) (fCons (fC (.int 9)) fNil)))) (fTup (fCons (fC (.str "errs")) (fCons (fC (.int 0)) fNil))))))))
def m_law (c_Errs : Addr) : FM := mk 14 (fs_law c_Errs)
end
end K17

set_option maxHeartbeats 1000000
namespace K17
open PySem PySem.Spec L2 DL
local macro_rules | `(tactic| walk_at "ev") => `(tactic| simp only [v_ret, v_fail, v_bind, v_on, v_onE, v_go, v_goE, v_of, v_ofN, v_ofI, v_useV, v_useO, v_useP, v_useKV, v_useKO, v_peekV, v_peekO, v_peekP, v_lookV, v_lookO, v_handV, v_handO, v_handB, v_handP, v_handKV, v_handKO, v_handKB, v_allN, v_allC, v_lkN, v_lkC, v_var, v_varV, v_varO, v_varB, v_c, v_bin, v_cmp, v_tst, v_bl, v_int, v_and, v_or, v_not, v_andV, v_orV, v_notV, v_if, v_nil, v_cons, v_vals, v_tup, v_lst, v_neg, v_ix, v_oN, v_oS, v_sl, v_cb, v_lrng, v_dix, v_dixI, v_dixS, v_eS, v_next, v_break, v_cont, v_sq, v_thN, v_thR, v_thB, v_thC, v_thE, v_expr, v_retS, v_rV, v_rO, v_rB, v_rP, v_rKV, v_rKO, v_rKB, v_retN, v_ifS, v_set, v_sV, v_sO, v_sB, v_sP, v_sKV, v_sKO, v_sKB, v_asg, v_optS, v_gN, v_gT, v_gC, v_gNil, v_loopN, v_loopC, v_turnK, v_tuN, v_tuC, v_tuB, v_tuR, v_tuE, v_for, v_iW, v_wipe, v_wN, v_wR, v_wB, v_wC, v_wE, v_iS, v_r1, v_r2, v_r1K, v_r2K, v_en, v_enK, v_lcN, v_lcC, v_lcG, v_lcT, v_lcE, v_yes, v_comp, v_app, v_appG, v_appF, v_appK, v_call, v_callX, v_callF, v_callXF, v_callK, v_callXK, v_callXE, v_mk, v_outN, v_outR, v_outE, v_take, v_rai, v_raiK, v_try, v_tryN, v_tryR, v_tryB, v_tryC, v_tryE, v_suN, v_suR, v_suB, v_suC, v_xf, v_xfK, v_pubO, v_pubV, v_pubB, v_pubP, v_ixL, v_ixT, v_ixS, v_slL, v_slT, v_slS, v_addI, v_addS, v_addL, v_addT, v_sub, v_mod, v_pow, v_shr, v_fdiv, v_mulI, v_mulL, v_cI, v_cIs, v_cES, v_dinI, v_dinS, v_lenL, v_lenT, v_lenS, v_intI, v_intB, v_abs, v_max2, v_min2, v_listL, v_listT, v_tupleL, v_tupleT, v_itN, v_itI, v_itS, v_itB, v_itL, v_itT, v_itD, v_itemsL, v_itemsT, gt, st, wipeD, backD, R.stay, vals?, startK, v_at0, v_at1, v_at2, v_at3, v_at4, v_at5, v_at6, v_at7, v_atL, v_atM1, v_atM2, v_atM3, T.bind_ret, T.bind_fail, T.bind_ite, T.bind_any, T.All_retE, T.All_anyE, T.All_failE, T.All_iteE, ite_ap, cEqF, okk, eqD, eqAll, ofS_inj, ofS_beq, strOk_ofS, Option.bind_some, Option.map_some, List.length_cons, List.length_nil, if_true, if_false, ite_true, ite_false, Bool.not_true, Bool.not_false, beq_self_eq_true, beq_iff_eq, decide_true, decide_false, decide_eq_true_eq, and_self, and_true, true_and, and_false, false_and, Bool.false_eq_true, Bool.true_eq_false, reduceIte, reduceCtorEq, Nat.reduceAdd, Nat.reduceEqDiff, Nat.reduceLeDiff, Nat.reduceLT, String.reduceEq, Int.reduceNeg, Int.reduceLE, Int.reduceLT, Int.reduceEq, Int.reduceToNat, Int.reducePow, Int.reduceAdd, Int.reduceSub, Int.reduceMul, Int.reduceAbs, Int.natAbs_neg, Nat.reducePow, Bool.and_true, Bool.true_and, Bool.and_false, Bool.false_and, List.lookup, sizeLine_eq, Option.some.injEq, List.all_cons, List.all_nil, List.nil_append, List.cons_append, Bool.not_eq_true', Bool.and_eq_true, not_true_eq_false, not_false_eq_true, List.map_cons, List.map_nil, decide_not, true_implies, false_implies, implies_true, not_true, ne_eq, Bool.not_eq_eq_eq_not])
local macro_rules | `(tactic| walk_at "pl") => `(tactic| repeat (with_reducible refine T.All_bind.mpr ?_))

/-! ### steps as they are -/
inductive Stp where
  | plus (k : Int) | times (k : Int) | into (k : Int) | over (k : Int) | found (ps : List (Int × Int))
def prD (p : Int × Int) : D := .tup [.int p.1, .int p.2]
def Stp.d : Stp → D
  | .plus k => .tup [.str "plus", .int k]
  | .times k => .tup [.str "times", .int k]
  | .into k => .tup [.str "into", .int k]
  | .over k => .tup [.str "over", .int k]
  | .found ps => .tup [.str "found", .tup (ps.map prD)]
abbrev Sm (k : Int) : Prop := -1000000000000 ≤ k ∧ k ≤ 1000000000000
def Stp.Ok : Stp → Prop
  | .plus k => Sm k
  | .times k => Sm k
  | .into k => Sm k ∧ 1 ≤ k
  | .over k => Sm k
  | .found ps => ps.length ≤ 6 ∧ (∀ p ∈ ps, Sm p.1 ∧ Sm p.2) ∧ (ps.map (·.1)).Nodup
def look : List (Int × Int) → Int → Option Int
  | [], _ => none
  | p :: ps, n => if p.1 = n then some p.2 else look ps n
def led1 : Stp → Int → Option Int
  | .plus k, n => some (n + k)
  | .times k, n => some (n * k)
  | .into k, n => some (n.fdiv k)
  | .over k, n => if n = 0 then none else some (k.fdiv n)
  | .found ps, n => look ps n
def led : List Stp → Int → Option Int
  | [], n => some n
  | s :: ss, n => match led1 s n with
    | none => none
    | some m => led ss m
/-- where it errs -/
def errAt : List Stp → Int → Option Int
  | [], _ => none
  | s :: ss, n => match led1 s n with
    | none => some n
    | some m => errAt ss m
def oD : Option Int → D
  | none => .non
  | some i => .int i
def due (ss : List Stp) (n : Int) : D := match led ss n with
  | some m => .tup [.str "told", .int m]
  | none => .tup [.str "errs", oD (errAt ss n)]
def Bg (e : Nat) (n : Int) : Prop := n.natAbs < 2 ^ e
theorem led_none {ss : List Stp} {n : Int} (h : led ss n = none) : ∃ m, errAt ss n = some m := by
  induction ss generalizing n with
  | nil => cases h
  | cons s ss ih =>
    unfold led at h
    unfold errAt
    cases q : led1 s n with
    | none => exact ⟨n, rfl⟩
    | some m => rw [q] at h; exact ih h
theorem led_some {ss : List Stp} {n m : Int} (h : led ss n = some m) : errAt ss n = none := by
  induction ss generalizing n with
  | nil => rfl
  | cons s ss ih =>
    unfold led at h
    unfold errAt
    cases q : led1 s n with
    | none => rw [q] at h; cases h
    | some k => rw [q] at h; exact ih h
theorem look_mem {ps : List (Int × Int)} {n m : Int} (h : look ps n = some m) : (n, m) ∈ ps := by
  induction ps with
  | nil => cases h
  | cons p ps ih =>
    unfold look at h
    split at h
    · rename_i e
      cases h
      subst e
      exact List.mem_cons_self ..
    · exact List.mem_cons_of_mem _ (ih h)
theorem pow_mono {a b : Nat} (h : a ≤ b) : 2 ^ a ≤ 2 ^ b := Nat.pow_le_pow_right (by decide) h
theorem sm_bg {k : Int} (h : Sm k) : k.natAbs < 2 ^ 40 := by
  have : k.natAbs ≤ 1000000000000 := by unfold Sm at h; omega
  exact Nat.lt_of_le_of_lt this (by decide)
theorem bg_step {e : Nat} {s : Stp} {n m : Int} (he : 40 ≤ e) (hn : Bg e n) (hs : s.Ok) (h : led1 s n = some m) : Bg (e + 41) m := by
  unfold Bg at hn ⊢
  have p1 : (2 : Nat) ^ 40 ≤ 2 ^ e := pow_mono he
  have p2 : (2 : Nat) ^ (e + 1) ≤ 2 ^ (e + 41) := pow_mono (by omega)
  have p3 : (2 : Nat) ^ (e + 1) = 2 * 2 ^ e := by rw [Nat.pow_succ]; omega
  cases s with
  | plus k =>
    have hk := sm_bg (k := k) hs
    cases h
    have := Int.natAbs_add_le n k
    omega
  | times k =>
    have hk := sm_bg (k := k) hs
    cases h
    rw [Int.natAbs_mul]
    have p4 : (2 : Nat) ^ (e + 40) = 2 ^ e * 2 ^ 40 := Nat.pow_add 2 e 40
    have p5 : (2 : Nat) ^ (e + 40) ≤ 2 ^ (e + 41) := pow_mono (by omega)
    have p6 : n.natAbs * k.natAbs ≤ 2 ^ e * k.natAbs := Nat.mul_le_mul_right _ (Nat.le_of_lt hn)
    have p7 : 2 ^ e * k.natAbs < 2 ^ e * 2 ^ 40 := Nat.mul_lt_mul_of_pos_left hk (Nat.pow_pos (by decide))
    omega
  | into k =>
    cases h
    have := Int.natAbs_fdiv_le_natAbs n k
    omega
  | over k =>
    have hk := sm_bg (k := k) hs
    have h : (if n = 0 then none else some (k.fdiv n)) = some m := h
    split at h
    · cases h
    · cases h
      have := Int.natAbs_fdiv_le_natAbs k n
      omega
  | found ps =>
    obtain ⟨_, hp, _⟩ := hs
    have := sm_bg (hp _ (look_mem h)).2
    simp only at this
    omega
/-- steps and a number, not too great -/
def Fair (ss : List Stp) (n : Int) : Prop := (∀ s ∈ ss, s.Ok) ∧ ∃ e, 40 ≤ e ∧ Bg e n ∧ e + 41 * ss.length ≤ 400
theorem Fair.head {s : Stp} {ss : List Stp} {n : Int} (h : Fair (s :: ss) n) : Fair [s] n := by
  obtain ⟨h1, e, h2, h3, h4⟩ := h
  exact ⟨fun t ht => h1 t (by simp at ht; simp [ht]), e, h2, h3, by simp at h4 ⊢; omega⟩
theorem Fair.tail {s : Stp} {ss : List Stp} {n m : Int} (h : Fair (s :: ss) n) (hm : led1 s n = some m) : Fair ss m := by
  obtain ⟨h1, e, h2, h3, h4⟩ := h
  exact ⟨fun t ht => h1 t (List.mem_cons_of_mem _ ht), e + 41, by omega, bg_step h2 h3 (h1 s (List.mem_cons_self ..)) hm, by simp at h4; omega⟩
theorem Fair.ok {s : Stp} {ss : List Stp} {n : Int} (h : Fair (s :: ss) n) : s.Ok := h.1 s (List.mem_cons_self ..)
theorem log_lt {n e : Nat} (h : n < 2 ^ e) (he : 0 < e) : n.log2 < e := by
  by_cases h0 : n = 0
  · subst h0; simpa using he
  · exact (Nat.log2_lt h0).mpr h
theorem mul_ok {n k : Int} {e : Nat} (h : Bg e n) (hk : Sm k) (he : e ≤ 400) (e0 : 40 ≤ e) : mulB n k = true := by
  unfold mulB
  have h1 := log_lt h (by omega)
  have h2 := log_lt (sm_bg hk) (by decide)
  simp only [decide_eq_true_eq]
  omega
def keyed (ps : List (Int × Int)) : List (Key × D) := ps.map fun p => (Sum.inl p.1, D.int p.2)
theorem pairs_found : ∀ (ps : List (Int × Int)), pairsD (ps.map prD) = some (keyed ps)
  | [] => rfl
  | p :: ps => by
    show pairsD (.tup [.int p.1, .int p.2] :: ps.map prD) = _
    unfold pairsD
    rw [pairs_found ps]
    rfl
theorem merge_new : ∀ (more kvs : List (Key × D)), ((kvs ++ more).map (·.1)).Nodup → mergeD kvs more = kvs ++ more
  | [], kvs, _ => by simp [mergeD]
  | p :: more, kvs, h => by
    have e : putD kvs p.1 p.2 = kvs ++ [p] := by
      unfold putD
      rw [if_neg]
      intro z
      obtain ⟨q, hq, e⟩ := List.any_eq_true.mp z
      have e := of_decide_eq_true e
      rw [List.map_append, List.nodup_append] at h
      exact h.2.2 q.1 (List.mem_map_of_mem hq) p.1 (by simp) e
    unfold mergeD
    rw [List.foldl_cons]
    show mergeD (putD kvs p.1 p.2) more = _
    rw [e, merge_new more (kvs ++ [p]) (by rw [List.append_assoc]; exact h), List.append_assoc]; rfl
theorem keyed_nodup {ps : List (Int × Int)} (h : (ps.map (·.1)).Nodup) : ((keyed ps).map (·.1)).Nodup := by
  unfold keyed
  rw [List.map_map]
  have : (ps.map ((fun x => x.1) ∘ fun p : Int × Int => ((Sum.inl p.1 : Key), D.int p.2))) = (ps.map (·.1)).map Sum.inl := by rw [List.map_map]; rfl
  rw [this]
  exact List.Pairwise.map _ (fun a b h e => h (Sum.inl.inj e)) h
theorem val_keyed : ∀ (ps : List (Int × Int)) (n : Int), valD (keyed ps) (.inl n) = (look ps n).map D.int
  | [], n => rfl
  | p :: ps, n => by
    unfold look
    have := val_keyed ps n
    unfold keyed at this ⊢
    rw [List.map_cons]
    unfold valD at this ⊢
    rw [List.find?_cons]
    by_cases h : p.1 = n
    · subst h; simp
    · rw [if_neg h]
      have : decide ((Sum.inl p.1 : Key) = .inl n) = false := by simp [h]
      simp only [this]
      assumption


theorem led_turn (s : Stp) (n : Int) (r0 : R) (k : FS) (h : Fair [s] n) : turnK (fgT 2 (fgCons (fgN 2) (fgCons (fgN 3) fgNil)) s.d [r0, .val (.int n), .no, .no, .no]) b__law_led_1 k = match led1 s n with
    | some m => k [r0, .val (.int m), .no, .no, .no]
    | none => .ret (.rt (.val .non) []) := by
  have ok := h.ok
  obtain ⟨_, e, e40, bg, ee⟩ := h
  have el : e ≤ 400 := by omega
  have lg := log_lt bg (by omega)
  cases s with
  | plus k =>
    simp only [Stp.d, b__law_led_1]
    walk_at "ev"
    rfl
  | times k =>
    simp only [Stp.d, b__law_led_1]
    walk_at "ev"
    simp only [led1, mul_ok bg ok el e40, if_true]
  | into k =>
    simp only [Stp.d, b__law_led_1]
    walk_at "ev"
    have : k ≠ 0 := by have := ok.2; omega
    have l2 := log_lt (sm_bg ok.1) (by decide)
    rw [if_pos ⟨by simp [this], by omega⟩]
    rfl
  | over k =>
    simp only [Stp.d, b__law_led_1]
    walk_at "ev"
    by_cases h0 : n = 0
    · simp only [h0, led1, if_true]
    · simp only [h0, led1, if_false]
      rw [if_pos ⟨by simp, by omega⟩]
  | found ps =>
    simp only [Stp.d, b__law_led_1]
    have em : mergeD [] (keyed ps) = keyed ps := merge_new (keyed ps) [] (by simpa using keyed_nodup ok.2.2)
    walk_at "ev"
    rw [v_dictT (pairs_found ps), em]
    walk_at "ev"
    rw [val_keyed]
    simp only [led1]
    cases look ps n with
    | none => rfl
    | some m =>
      simp only [Option.map_some, Option.isSome_some]
      walk_at "ev"
theorem led_loop (ss : List Stp) (n : Int) (r0 : R) (h : Fair ss n) : fLoop (fgT 2 (fgCons (fgN 2) (fgCons (fgN 3) fgNil))) b__law_led_1 (ss.map Stp.d) [r0, .val (.int n), .no, .no, .no] = match led ss n with
    | some m => .ret (.nx [r0, .val (.int m), .no, .no, .no])
    | none => .ret (.rt (.val .non) []) := by
  induction ss generalizing n with
  | nil => rfl
  | cons s ss ih =>
    rw [List.map_cons, v_loopC, led_turn s n r0 _ h.head]
    simp only [led]
    cases q : led1 s n with
    | none => rfl
    | some m => exact ih m (h.tail q)

theorem led_eq (ss : List Stp) (n : Int) (h : Fair ss n) : m__law_led [.val (.tup (ss.map Stp.d)), .val (.int n)] = .ret (.val (.val (oD (led ss n)))) := by
  unfold m__law_led fs__law_led
  walk_at "ev"
  rw [led_loop ss n _ h]
  cases led ss n with
  | none => walk_at "ev"; rfl
  | some m => walk_at "ev"; rfl
theorem found_loop (C : Addr) (ps : List (Int × Int)) (n : Int) (r0 : R) : fLoop (fgT 2 (fgCons (fgN 4) (fgCons (fgN 5) fgNil))) (b_step_on_1 C) (ps.map prD) [r0, .val (.int n), R.no, .no, .no, .no] = match look ps n with
    | some m => .ret (.rt (.val (.int m)) [])
    | none => .ret (.nx [r0, .val (.int n), R.no, .no, .no, .no]) := by
  induction ps with
  | nil => rfl
  | cons p ps ih =>
    rw [List.map_cons, v_loopC]
    simp only [prD, look]
    have : ∀ k : FS, turnK (fgT 2 (fgCons (fgN 4) (fgCons (fgN 5) fgNil)) (.tup [.int p.1, .int p.2]) [r0, .val (.int n), R.no, .no, .no, .no]) (b_step_on_1 C) k = if p.1 = n then .ret (.rt (.val (.int p.2)) []) else k [r0, .val (.int n), R.no, .no, .no, .no] := by
      intro k
      unfold b_step_on_1
      walk_at "ev"
    rw [this]
    by_cases h : p.1 = n
    · simp only [h, if_true]
    · simp only [h, if_false]
      exact ih
theorem step_on_eq (C : Addr) (s : Stp) (n : Int) (h : Fair [s] n) : m_step_on C [.val s.d, .val (.int n)] = match led1 s n with
    | some m => .ret (.val (.val (.int m)))
    | none => .ret (.exc C [("number", .int n)]) := by
  have ok := h.ok
  obtain ⟨_, e, e40, bg, ee⟩ := h
  have el : e ≤ 400 := by omega
  have lg := log_lt bg (by omega)
  unfold m_step_on fs_step_on
  cases s with
  | plus k =>
    simp only [Stp.d]
    walk_at "ev"
    rfl
  | times k =>
    simp only [Stp.d]
    walk_at "ev"
    simp only [led1, mul_ok bg ok el e40, if_true]
  | into k =>
    simp only [Stp.d]
    walk_at "ev"
    have : k ≠ 0 := by have := ok.2; omega
    have l2 := log_lt (sm_bg ok.1) (by decide)
    rw [if_pos ⟨by simp [this], by omega⟩]
    rfl
  | over k =>
    simp only [Stp.d]
    walk_at "ev"
    by_cases h0 : n = 0
    · simp only [h0, led1, if_true]
    · simp only [h0, led1, if_false]
      rw [if_pos ⟨by simp, by omega⟩]
  | found ps =>
    simp only [Stp.d]
    walk_at "ev"
    rw [found_loop]
    simp only [led1]
    cases look ps n with
    | none => walk_at "ev"
    | some m => walk_at "ev"
theorem steps_loop (C : Addr) (ss : List Stp) (n : Int) (r0 : R) (h : Fair ss n) : ∃ δ, fLoop (fgN 2) (b_steps_on_1 C) (ss.map Stp.d) [r0, .val (.int n), .no] = match led ss n with
    | some m => .ret (.nx [r0, .val (.int m), .no])
    | none => .ret (.err C [("number", oD (errAt ss n))] δ) := by
  induction ss generalizing n with
  | nil => exact ⟨[], rfl⟩
  | cons s ss ih =>
    rw [List.map_cons, v_loopC]
    have : ∀ k : FS, ∃ δ, turnK (fgN 2 s.d [r0, .val (.int n), .no]) (b_steps_on_1 C) k = match led1 s n with
        | some m => k [r0, .val (.int m), .no]
        | none => .ret (.err C [("number", .int n)] δ) := by
      intro k
      refine ⟨[r0, .val (.int n), .val s.d], ?_⟩
      unfold b_steps_on_1
      walk_at "ev"
      rw [step_on_eq C s n h.head]
      cases led1 s n with
      | none => walk_at "ev"
      | some m => walk_at "ev"
    obtain ⟨δ, e⟩ := this (fLoop (fgN 2) (b_steps_on_1 C) (ss.map Stp.d))
    rw [e]
    simp only [led, errAt]
    cases q : led1 s n with
    | none => exact ⟨δ, rfl⟩
    | some m => exact ih m (h.tail q)
theorem steps_on_eq (C : Addr) (ss : List Stp) (n : Int) (h : Fair ss n) : m_steps_on C [.val (.tup (ss.map Stp.d)), .val (.int n)] = match led ss n with
    | some m => .ret (.val (.val (.int m)))
    | none => .ret (.exc C [("number", oD (errAt ss n))]) := by
  unfold m_steps_on fs_steps_on
  walk_at "ev"
  obtain ⟨δ, e⟩ := steps_loop C ss n (.val (.tup (ss.map Stp.d))) h
  rw [e]
  cases led ss n with
  | none => walk_at "ev"
  | some m => walk_at "ev"
theorem enum_loop (ss : List Stp) (n : Int) (r0 : R) (i : Nat) (h : Fair ss n) : ∃ δ, fLoop (fgT 2 (fgCons (fgN 2) (fgCons (fgN 3) fgNil))) b__law_erred_1 (enumD i (ss.map Stp.d)) [r0, .val (.int n), .no, .no] = match errAt ss n with
    | none => .ret (.nx δ)
    | some m => .ret (.rt (.val (.int m)) []) := by
  induction ss generalizing n i with
  | nil => exact ⟨_, rfl⟩
  | cons s ss ih =>
    rw [List.map_cons]
    simp only [enumD]
    rw [v_loopC]
    have : ∀ k : FS, turnK (fgT 2 (fgCons (fgN 2) (fgCons (fgN 3) fgNil)) (.tup [.int i, s.d]) [r0, .val (.int n), .no, .no]) b__law_erred_1 k = match led1 s n with
        | some m => k [r0, .val (.int m), .no, .no]
        | none => .ret (.rt (.val (.int n)) []) := by
      intro k
      have e1 := led_eq [s] n h.head
      simp only [List.map_cons, List.map_nil, led] at e1
      unfold b__law_erred_1
      walk_at "ev"
      rw [e1]
      revert e1
      cases led1 s n with
      | none =>
        intro e1
        simp only [oD]
        walk_at "ev"
      | some m =>
        intro e1
        simp only [oD]
        walk_at "ev"
        rw [e1]
        simp only [oD]
        walk_at "ev"
    rw [this]
    simp only [errAt]
    cases q : led1 s n with
    | none => exact ⟨[], rfl⟩
    | some m => exact ih m (i + 1) (h.tail q)
theorem erred_eq (ss : List Stp) (n : Int) (h : Fair ss n) : m__law_erred [.val (.tup (ss.map Stp.d)), .val (.int n)] = .ret (.val (.val (oD (errAt ss n)))) := by
  unfold m__law_erred fs__law_erred
  walk_at "ev"
  obtain ⟨δ, e⟩ := enum_loop ss n (.val (.tup (ss.map Stp.d))) 0 h
  rw [e]
  cases errAt ss n with
  | none => walk_at "ev"; rfl
  | some m => walk_at "ev"; rfl

theorem heard_all (C : Addr) (way : Int) (ss : List Stp) (n : Int) (h : Fair ss n) (hw : way = 0 ∧ ss.length = 1 ∨ way = 1) : (m__law_heard C [.val (.int way), .val (.tup (ss.map Stp.d)), .val (.int n)]).All fun o => o = .val (.val (due ss n)) := by
  unfold m__law_heard fs__law_heard
  rcases hw with ⟨rfl, hl⟩ | rfl
  · match ss, hl with
    | [s], _ =>
      have e1 := step_on_eq C s n h
      simp only [List.map_cons, List.map_nil]
      walk_at "ev"
      rw [e1]
      unfold due
      simp only [led, errAt]
      cases led1 s n with
      | none =>
        walk_at "ev"
        intro a d
        rfl
      | some m =>
        walk_at "ev"
  · walk_at "ev"
    rw [steps_on_eq C ss n h]
    unfold due
    cases led ss n with
    | none =>
      walk_at "ev"
    | some m => walk_at "ev"
theorem alike_eq (d : D) (h : d.Fits 60 16000000) : m__law_alike [.val d, .val d] = .ret (.val (.val (.bl true))) := by
  have ok := ok_okk (Fits.ok h)
  have er : eqD 60 d d = true := eqD_refl (Fits.ok h)
  unfold m__law_alike fs__law_alike
  simp only [v_mk, startK, v_retS, v_andV, v_cmp, v_var, gt, v_varV, T.bind_ret, v_on, v_bind, v_peekP, v_lookV, cEqF, ok, and_self, if_true, er, v_of, v_ret, Bool.false_eq_true, if_false, v_peekV, v_bl, v_cb, v_cons, v_nil, v_lkC, v_lkN, R.pub, bReprF, h, cEqSF, decide_true, v_go, v_rV, v_outR]
theorem one_all (ds : List D) (h0 : 0 < ds.length) (h1 : ds.length < 1000000) : (m__law_one [.bag, .val (.lst ds)]).All fun o => ∃ d ∈ ds, o = .val (.val d) := by
  unfold m__law_one fs__law_one
  walk_at "ev"
  walk_at "pl"
  refine all_take (fun r r0 r1 => ?_) (by omega) (by omega)
  walk_at "ev"
  rw [atI_ok r0 r1]
  walk_at "ev"
  exact ⟨_, List.getElem_mem _, rfl⟩
theorem number_all : (m__law_number [.bag]).All fun o => ∃ n : Int, Sm n ∧ o = .val (.val (.int n)) := by
  unfold m__law_number fs__law_number
  walk_at "ev"
  walk_at "pl"
  refine all_take fun way w0 w1 => ?_
  walk_at "ev"
  refine ⟨fun h => ?_, fun h => ?_⟩
  · walk_at "pl"
    refine all_take fun r r0 r1 => ?_
    walk_at "ev"
    exact ⟨_, ⟨by omega, by omega⟩, rfl⟩
  · have hw : way = 0 ∨ way = 1 := by omega
    have fin : ∀ (x y : Int), -1000000000000 ≤ x → x ≤ 1000000000000 → (y = 1 ∨ y = -1) → mulB x y = true ∧ Sm (x * y) := fun x y x0 x1 hy => by
      have hx : Sm x := ⟨x0, x1⟩
      have hy' : Sm y := by rcases hy with rfl | rfl <;> exact ⟨by decide, by decide⟩
      refine ⟨mul_ok (e := 40) (sm_bg hx) hy' (by decide) (by decide), ?_⟩
      rcases hy with rfl | rfl
      · rw [Int.mul_one]; exact hx
      · exact ⟨by omega, by omega⟩
    walk_at "pl"
    refine all_take fun a a0 a1 => ?_
    walk_at "ev"
    walk_at "pl"
    refine all_take fun b b0 b1 => ?_
    rcases hw with rfl | rfl
    · walk_at "ev"
      walk_at "pl"
      refine all_take fun c c0 c1 => ?_
      have hc : c = 0 ∨ c = 1 := by omega
      rcases hc with rfl | rfl
      · walk_at "ev"
        obtain ⟨f1, f2⟩ := fin (1000000000000 - a) 1 (by omega) (by omega) (.inl rfl)
        exact ⟨fun _ => ⟨_, f2, rfl⟩, fun z => absurd f1 z⟩
      · walk_at "ev"
        obtain ⟨f1, f2⟩ := fin (1000000000000 - a) (-1) (by omega) (by omega) (.inr rfl)
        exact ⟨fun _ => ⟨_, f2, rfl⟩, fun z => absurd f1 z⟩
    · walk_at "ev"
      walk_at "pl"
      refine all_take fun c c0 c1 => ?_
      have hc : c = 0 ∨ c = 1 := by omega
      rcases hc with rfl | rfl
      · walk_at "ev"
        obtain ⟨f1, f2⟩ := fin b 1 (by omega) (by omega) (.inl rfl)
        exact ⟨fun _ => ⟨_, f2, rfl⟩, fun z => absurd f1 z⟩
      · walk_at "ev"
        obtain ⟨f1, f2⟩ := fin b (-1) (by omega) (by omega) (.inr rfl)
        exact ⟨fun _ => ⟨_, f2, rfl⟩, fun z => absurd f1 z⟩

theorem cut6 (xs : List D) : cut xs none (some 6) = xs.take 6 := by
  unfold cut
  rw [HT.sIx_none, List.drop_zero, Nat.sub_zero, show HT.sIx xs.length xs.length (some 6) = min 6 xs.length from HT.sIx_nat _ _ 6]
  rw [List.take_eq_take_iff]; omega
theorem keys_all (by_ : Int) (w : R) (hb : by_ = 1 ∨ by_ = 100000000007) : (fLc (fgN 5) t__law_step_c1 e__law_step_c1 [5] (rngD (-3) 7) [] [.bag, w, .val (.int by_), .no, .no, .no]).All fun p => p.2 = [.bag, w, .val (.int by_), .no, .no, .no] ∧ ∃ ks : List Int, p.1 = ks.map D.int ∧ (∀ k ∈ ks, Sm k) ∧ ks.Nodup := by
  have pos : 0 < by_ := by rcases hb with rfl | rfl <;> decide
  refine lc_all (Iv := fun ds acc => ∃ ks rest : List Int, ds = rest.map D.int ∧ acc = (ks.map (· * by_)).map D.int ∧ (ks ++ rest).Pairwise (· < ·) ∧ (∀ k ∈ ks ++ rest, -3 ≤ k ∧ k ≤ 3) ∧ ks.length + rest.length ≤ 7) ?_ ?_ _ _ ?_
  · rintro d ds acc ⟨ks, rest, e1, e2, h1, h2, h3⟩
    cases rest with
    | nil => cases e1
    | cons k rest =>
      simp only [List.map_cons, List.cons.injEq] at e1
      obtain ⟨rfl, rfl⟩ := e1
      refine ⟨_, rfl, ?_⟩
      unfold t__law_step_c1
      walk_at "ev"
      walk_at "pl"
      refine all_take fun r r0 r1 => ?_
      walk_at "ev"
      refine ⟨_, _, rfl, fun _ => ⟨?_, ?_⟩, fun _ => ⟨rfl, ks, rest, rfl, e2, ?_, ?_, ?_⟩⟩
      · subst e2; simp only [List.length_map, List.length_cons] at h3 ⊢; omega
      · have hk := h2 k (by simp)
        have hm : mulB k by_ = true := mul_ok (e := 40) (sm_bg ⟨by omega, by omega⟩) (by rcases hb with rfl | rfl <;> exact ⟨by decide, by decide⟩) (by decide) (by decide)
        unfold e__law_step_c1
        walk_at "ev"
        refine ⟨fun _ => ?_, fun z => absurd hm z⟩
        refine ⟨_, _, rfl, rfl, ks ++ [k], rest, rfl, ?_, ?_, ?_, ?_⟩
        · subst e2; simp
        · simpa using h1
        · simpa using h2
        · simp only [List.length_append, List.length_cons, List.length_nil] at h3 ⊢; omega
      · exact h1.sublist (by simp)
      · intro x hx; exact h2 x (by simp at hx ⊢; rcases hx with z | z <;> simp [z])
      · simp only [List.length_cons] at h3; omega
  · rintro acc ⟨ks, rest, e1, e2, h1, h2, h3⟩
    refine ⟨rfl, ks.map (· * by_), e2, fun k hk => ?_, ?_⟩
    · obtain ⟨x, hx, rfl⟩ := List.mem_map.mp hk
      have := h2 x (by simp [hx])
      have h9 : by_ ≤ 100000000007 := by rcases hb with rfl | rfl <;> decide
      have a1 : x * by_ ≤ 3 * by_ := Int.mul_le_mul_of_nonneg_right (by omega) (by omega)
      have a2 : (-3) * by_ ≤ x * by_ := Int.mul_le_mul_of_nonneg_right (by omega) (by omega)
      exact ⟨by omega, by omega⟩
    · have := (List.pairwise_append.mp h1).1
      refine List.Pairwise.map _ (fun a b h => ?_) this
      intro e
      have := Int.eq_of_mul_eq_mul_right (by omega) e
      omega
  · exact ⟨[], [-3, -2, -1, 0, 1, 2, 3], rfl, rfl, by decide, by decide, by decide⟩
theorem pairs_all (ks : List Int) (r1 r2 r3 : R) (hk : ∀ k ∈ ks, Sm k) (hl : ks.length ≤ 6) : (fLc (fgN 5) fYes e__law_step_c2 [5] (ks.map D.int) [] [.bag, r1, r2, r3, .no, .no]).All fun p => p.2 = [.bag, r1, r2, r3, .no, .no] ∧ ∃ ps : List (Int × Int), p.1 = ps.map prD ∧ ps.map (·.1) = ks ∧ ∀ p ∈ ps, Sm p.1 ∧ Sm p.2 := by
  refine lc_all (Iv := fun ds acc => ∃ (ps : List (Int × Int)) (rest : List Int), ds = rest.map D.int ∧ acc = ps.map prD ∧ ps.map (·.1) ++ rest = ks ∧ ∀ p ∈ ps, Sm p.1 ∧ Sm p.2) ?_ ?_ _ _ ?_
  · rintro d ds acc ⟨ps, rest, e1, e2, h1, h2⟩
    cases rest with
    | nil => cases e1
    | cons k rest =>
      simp only [List.map_cons, List.cons.injEq] at e1
      obtain ⟨rfl, rfl⟩ := e1
      refine ⟨_, rfl, ?_⟩
      walk_at "ev"
      refine ⟨_, _, rfl, fun _ => ⟨?_, ?_⟩, fun z => by cases z⟩
      · subst e2; subst h1
        simp only [List.length_append, List.length_map, List.length_cons] at hl ⊢
        omega
      · unfold e__law_step_c2
        walk_at "ev"
        walk_at "pl"
        refine T.All_mono number_all fun o ho => ?_
        obtain ⟨n, hn, rfl⟩ := ho
        walk_at "ev"
        refine ⟨_, _, rfl, rfl, ps ++ [(k, n)], rest, rfl, ?_, ?_, ?_⟩
        · subst e2; simp [prD]
        · simpa using h1
        · intro p hp
          rcases List.mem_append.mp hp with z | z
          · exact h2 p z
          · simp at z; subst z; exact ⟨hk _ (by rw [← h1]; simp), hn⟩
  · rintro acc ⟨ps, rest, e1, e2, h1, h2⟩
    cases rest with
    | cons => cases e1
    | nil => exact ⟨rfl, ps, e2, by simpa using h1, h2⟩
  · exact ⟨[], ks, rfl, rfl, rfl, by simp⟩
theorem step_all : (m__law_step [.bag]).All fun o => ∃ s : Stp, s.Ok ∧ o = .val (.val s.d) := by
  unfold m__law_step fs__law_step
  walk_at "ev"
  walk_at "pl"
  refine T.All_mono (one_all _ (by decide) (by decide)) fun o ho => ?_
  obtain ⟨d, hd, rfl⟩ := ho
  simp only [List.mem_cons, List.not_mem_nil, or_false] at hd
  rcases hd with rfl | rfl | rfl | rfl | rfl
  · walk_at "ev"
    walk_at "pl"
    refine T.All_mono number_all fun o ho => ?_
    obtain ⟨n, hn, rfl⟩ := ho
    walk_at "ev"
    exact ⟨fun _ => ⟨.plus n, hn, rfl⟩, fun _ => ⟨.plus n, hn, rfl⟩⟩
  · walk_at "ev"
    walk_at "pl"
    refine T.All_mono number_all fun o ho => ?_
    obtain ⟨n, hn, rfl⟩ := ho
    walk_at "ev"
    exact ⟨fun _ => ⟨.times n, hn, rfl⟩, fun _ => ⟨.times 2, ⟨by decide, by decide⟩, rfl⟩⟩
  · walk_at "ev"
    walk_at "pl"
    refine T.All_mono number_all fun o ho => ?_
    obtain ⟨n, hn, rfl⟩ := ho
    walk_at "ev"
    refine ⟨.into (if (if n < 0 then -n else n) > 1 then (if n < 0 then -n else n) else 1), ?_, rfl⟩
    unfold Sm at hn
    show Sm _ ∧ 1 ≤ _
    unfold Sm
    split <;> split <;> omega
  · walk_at "ev"
    walk_at "pl"
    refine T.All_mono number_all fun o ho => ?_
    obtain ⟨n, hn, rfl⟩ := ho
    walk_at "ev"
    exact ⟨fun _ => ⟨.over n, hn, rfl⟩, fun _ => ⟨.over n, hn, rfl⟩⟩
  · walk_at "ev"
    walk_at "pl"
    refine all_take fun r r0 r1 => ?_
    walk_at "ev"
    have hat : ∃ by_ : Int, (by_ = 1 ∨ by_ = 100000000007) ∧ atI [D.int 1, D.int 1, D.int 1, D.int 100000000007] r = some (.int by_) := by
      have : r = 0 ∨ r = 1 ∨ r = 2 ∨ r = 3 := by omega
      rcases this with rfl | rfl | rfl | rfl
      · exact ⟨1, .inl rfl, v_at0⟩
      · exact ⟨1, .inl rfl, v_at1⟩
      · exact ⟨1, .inl rfl, v_at2⟩
      · exact ⟨_, .inr rfl, v_at3⟩
    obtain ⟨by_, hb, hat⟩ := hat
    rw [hat]
    walk_at "ev"
    walk_at "pl"
    refine T.All_mono (keys_all by_ _ hb) fun p hp => ?_
    obtain ⟨e1, ks, e2, h1, h2⟩ := hp
    obtain ⟨p1, p2⟩ := p
    simp only at e1 e2
    subst e1; subst e2
    walk_at "ev"
    rw [cut6, ← List.map_take]
    walk_at "pl"
    refine T.All_mono (pairs_all (ks.take 6) _ _ _ (fun k hk => h1 k (List.mem_of_mem_take hk)) (by simp; omega)) fun p hp => ?_
    obtain ⟨e1, ps, e2, h3, h4⟩ := hp
    obtain ⟨p1, p2⟩ := p
    simp only at e1 e2
    subst e1; subst e2
    walk_at "ev"
    refine ⟨.found ps, ⟨?_, h4, ?_⟩, rfl⟩
    · have := congrArg List.length h3
      simp at this; omega
    · rw [h3]; exact h2.sublist (List.take_sublist _ _)
theorem drawn_all : (m__law_steps_drawn [.bag, .val (.int 4)]).All fun o => ∃ ss : List Stp, ss.length ≤ 4 ∧ (∀ s ∈ ss, s.Ok) ∧ o = .val (.val (.tup (ss.map Stp.d))) := by
  unfold m__law_steps_drawn fs__law_steps_drawn
  walk_at "ev"
  walk_at "pl"
  refine all_take fun r r0 r1 => ?_
  walk_at "ev"
  refine yes ⟨by omega, by omega⟩ ?_
  refine T.All_mono (loop_inv (P := fun o => ∃ ss : List Stp, ss.length ≤ 4 ∧ (∀ s ∈ ss, s.Ok) ∧ o = .nx [.bag, .val (.int 4), .own (.lst (ss.map Stp.d)), .no, .no]) (fun ds δ => ∃ ss : List Stp, ss.length + ds.length ≤ 4 ∧ (∀ s ∈ ss, s.Ok) ∧ δ = [.bag, .val (.int 4), .own (.lst (ss.map Stp.d)), .no, .no]) ?_ ?_ _ _ ⟨[], ?_, by simp, rfl⟩) fun o ho => ?_
  · rintro d ds δ ⟨ss, h1, h2, rfl⟩
    have ln : (ss.map Stp.d).length < 16777216 := by simp at h1 ⊢; omega
    have goal : ∀ s : Stp, s.Ok → ∃ ss' : List Stp, ss'.length + ds.length ≤ 4 ∧ (∀ s ∈ ss', s.Ok) ∧ ([.bag, .val (.int 4), .own (.lst (ss.map Stp.d ++ [s.d])), .no, .no] : List R) = [.bag, .val (.int 4), .own (.lst (ss'.map Stp.d)), .no, .no] := fun s hs =>
      ⟨ss ++ [s], by simp at h1 ⊢; omega, fun x hx => by rcases List.mem_append.mp hx with z | z; exact h2 x z; simp at z; subst z; exact hs, by simp⟩
    refine ⟨_, rfl, ?_⟩
    unfold b__law_steps_drawn_1
    walk_at "ev"
    walk_at "pl"
    refine all_take fun a a0 a1 => ?_
    walk_at "ev"
    refine ⟨fun _ => ?_, fun _ => ?_⟩
    · walk_at "pl"
      refine T.All_mono step_all fun o ho => ?_
      obtain ⟨s, hs, rfl⟩ := ho
      walk_at "ev"
      refine ⟨fun _ => ?_, fun z => absurd ln z⟩
      exact goal s hs
    · walk_at "pl"
      refine all_take fun b b0 b1 => ?_
      walk_at "ev"
      walk_at "pl"
      refine all_take fun c c0 c1 => ?_
      walk_at "ev"
      have hat : ∃ y : Int, Sm y ∧ atI [D.int (-2), D.int (-1), D.int 2, D.int 3] c = some (.int y) := by
        have : c = 0 ∨ c = 1 ∨ c = 2 ∨ c = 3 := by omega
        rcases this with rfl | rfl | rfl | rfl
        · exact ⟨_, ⟨by decide, by decide⟩, v_at0⟩
        · exact ⟨_, ⟨by decide, by decide⟩, v_at1⟩
        · exact ⟨_, ⟨by decide, by decide⟩, v_at2⟩
        · exact ⟨_, ⟨by decide, by decide⟩, v_at3⟩
      obtain ⟨y, hy, hat⟩ := hat
      rw [hat]
      walk_at "ev"
      walk_at "pl"
      refine all_take fun u u0 u1 => ?_
      walk_at "ev"
      walk_at "pl"
      refine all_take fun v v0 v1 => ?_
      walk_at "ev"
      walk_at "pl"
      refine all_take fun z z0 z1 => ?_
      walk_at "ev"
      have : z = 0 ∨ z = 1 ∨ z = 2 ∨ z = 3 := by omega
      rcases this with rfl | rfl | rfl | rfl
      · walk_at "ev"
        refine ⟨fun _ => ?_, fun z => absurd ln z⟩
        exact goal (.plus (b - 4)) ⟨by omega, by omega⟩
      · walk_at "ev"
        refine ⟨fun _ => ?_, fun z => absurd ln z⟩
        exact goal (.times y) hy
      · walk_at "ev"
        refine ⟨fun _ => ?_, fun z => absurd ln z⟩
        exact goal (.into (1 + u)) ⟨⟨by omega, by omega⟩, by omega⟩
      · walk_at "ev"
        refine ⟨fun _ => ?_, fun z => absurd ln z⟩
        exact goal (.over (v - 20)) ⟨by omega, by omega⟩
  · rintro δ ⟨ss, h1, h2, rfl⟩
    exact ⟨ss, by simpa using h1, h2, rfl⟩
  · simp [rngD]; omega
  · obtain ⟨ss, h1, h2, rfl⟩ := ho
    walk_at "ev"
    exact ⟨ss, h1, h2, rfl⟩

theorem okk_stp {s : Stp} : okk 59 s.d = true := by
  cases s with
  | found ps =>
    simp only [Stp.d, okk, List.all_cons, List.all_nil, strOk_ofS, Bool.and_true, Bool.true_and, List.all_eq_true]
    intro x hx
    obtain ⟨p, _, rfl⟩ := List.mem_map.mp hx
    simp only [prD, okk, List.all_cons, List.all_nil, Bool.and_true]
  | _ => simp only [Stp.d, okk, List.all_cons, List.all_nil, strOk_ofS, Bool.and_true]
theorem okk_ss {ss : List Stp} : okk 60 (.tup (ss.map Stp.d)) = true := by
  simp only [okk, List.all_eq_true]
  intro x hx
  obtain ⟨s, _, rfl⟩ := List.mem_map.mp hx
  exact okk_stp
theorem Fair.big {ss : List Stp} {n m : Int} (h : Fair ss n) (e : led ss n = some m ∨ errAt ss n = some m) : Bg 400 m := by
  induction ss generalizing n with
  | nil =>
    obtain ⟨_, k, h2, h3, h4⟩ := h
    rcases e with e | e
    · cases e; exact Nat.lt_of_lt_of_le h3 (pow_mono (by simp at h4; omega))
    · cases e
  | cons s ss ih =>
    simp only [led, errAt] at e
    cases q : led1 s n with
    | none =>
      rw [q] at e
      obtain ⟨_, k, h2, h3, h4⟩ := h
      rcases e with e | e
      · cases e
      · cases e; exact Nat.lt_of_lt_of_le h3 (pow_mono (by omega))
    | some p => rw [q] at e; exact ih (h.tail q) e
theorem fits_int {n : Nat} {i : Int} (h : Bg 400 i) : D.Fits n 500 (.int i) := by
  unfold D.Fits
  refine ⟨Nat.lt_of_lt_of_le h (pow_mono (by decide)), Nat.lt_of_lt_of_le h ?_, by decide⟩
  exact Nat.le_trans (Nat.pow_le_pow_left (by decide : 2 ≤ 10) 400) (Nat.pow_le_pow_right (by decide) (by decide))
theorem fits_word {n : Nat} (s : String) (h : (Str.ofString s).length ≤ 40) : D.Fits n 500 (.str s) := by
  unfold D.Fits
  exact ⟨strOk_ofS s, by omega⟩
theorem fits_due {ss : List Stp} {n : Int} (h : Fair ss n) : D.Fits 60 16000000 (.lst [due ss n, due ss n]) := by
  have key : D.Fits 59 2000 (due ss n) := by
    unfold due
    have two : ∀ (s : String) (d : D), (Str.ofString s).length ≤ 40 → D.Fits 58 500 d → D.Fits 59 2000 (.tup [.str s, d]) := fun s d h1 h2 => ⟨2, 500, by simp, fun x hx => by
      simp only [List.mem_cons, List.not_mem_nil, or_false] at hx
      rcases hx with rfl | rfl
      · exact fits_word s h1
      · exact h2, by decide⟩
    cases q : led ss n with
    | some m => exact two _ _ (by decide +kernel) (fits_int (h.big (.inl q)))
    | none =>
      refine two _ _ (by decide +kernel) ?_
      cases q2 : errAt ss n with
      | none => unfold oD D.Fits; decide
      | some m => exact fits_int (h.big (.inr q2))
  exact ⟨2, 2000, by simp, fun x hx => by simp only [List.mem_cons, List.not_mem_nil, or_false, or_self] at hx; subst hx; exact key, by decide⟩
abbrev Z (C : Addr) (d4 d5 d8 d9 : R) : List R := [.no, .bag, .val (.int 1000000000000), .no, d4, d5, .no, .no, d8, d9, .no, .no, .no, .no]
def Wy (way : Int) (sm : List Stp) : Prop := way = 0 ∧ (sm.length = 1 ∨ sm = []) ∨ way = 1
theorem way_turn (C : Addr) (ss : List Stp) (n way : Int) (h : Fair ss n) (hw : way = 0 ∨ way = 1) : (b_law_5 C (Z C (.val (.tup (ss.map Stp.d))) (.no : R) (.val (.int n)) (.val (.int way)))).All fun o => o = .nx (Z C (.val (.tup (ss.map Stp.d))) (.no : R) (.val (.int n)) .no) := by
  unfold b_law_5
  rw [v_wipe, v_sq]
  walk_at "pl"
  refine T.All_mono (P := fun o => ∃ sm : List Stp, Fair sm n ∧ Wy way sm ∧ o = .nx [.no, .bag, .val (.int 1000000000000), .no, .val (.tup (ss.map Stp.d)), (.no : R), .no, .no, .val (.int n), .val (.int way), .val (.tup (sm.map Stp.d)), .no, .no, .no]) ?_ ?_
  · rcases hw with rfl | rfl
    · walk_at "ev"
      rw [show (1 : Int) = ((1 : Nat) : Int) from rfl, cutTo, ← List.map_take]
      refine ⟨ss.take 1, ?_, .inl ⟨rfl, ?_⟩, rfl⟩
      · cases ss with
        | nil => exact h
        | cons s ss => exact h.head
      · cases ss with
        | nil => exact .inr rfl
        | cons s ss => exact .inl rfl
    · walk_at "ev"
      exact ⟨ss, h, .inr rfl, rfl⟩
  · rintro o ⟨sm, hf, hsm, rfl⟩
    walk_at "ev"
    have hnil : eqAll (eqD 59) (sm.map Stp.d) [] = sm.isEmpty := by cases sm <;> rfl
    have ok1 : (sm.map Stp.d).all (okk 59) = true := by have := okk_ss (ss := sm); simpa only [okk] using this
    rw [ok1, hnil]
    walk_at "ev"
    have hcc : (way = 1 ∨ ¬ way = 1 ∧ sm.isEmpty = false) → (way = 0 ∧ sm.length = 1 ∨ way = 1) := fun z => by
      rcases z with z | ⟨z1, z2⟩
      · exact .inr z
      · rcases hsm with ⟨y1, y2 | y2⟩ | y
        · exact .inl ⟨y1, y2⟩
        · subst y2; cases z2
        · exact absurd y z1
    refine ⟨fun e => ?_, fun e1 e2 => ?_⟩
    rotate_left
    have hc := hcc (.inr ⟨e1, e2⟩)
    rotate_left
    have hc := hcc (.inl e)
    all_goals
      have ha := alike_eq _ (fits_due hf)
      have hh := heard_all C way sm n hf hc
      rw [led_eq sm n hf]
      unfold due at ha hh
      cases q : led sm n with
      | some m =>
        rw [q] at ha hh
        simp only [oD] at ha hh ⊢
        walk_at "ev"
        rw [show rngD 0 2 = [.int 0, .int 1] from rfl]
        unfold e_law_c4
        walk_at "ev"
        walk_at "pl"
        refine T.All_mono hh fun o ho => ?_
        subst ho
        walk_at "ev"
        walk_at "pl"
        refine T.All_mono hh fun o ho => ?_
        subst ho
        walk_at "ev"
        rw [ha]
        walk_at "ev"
      | none =>
        rw [q] at ha hh
        simp only [oD]
        walk_at "ev"
        rw [erred_eq sm n hf]
        walk_at "ev"
        rw [show rngD 0 2 = [.int 0, .int 1] from rfl]
        unfold e_law_c4
        walk_at "ev"
        walk_at "pl"
        refine T.All_mono hh fun o ho => ?_
        subst ho
        walk_at "ev"
        walk_at "pl"
        refine T.All_mono hh fun o ho => ?_
        subst ho
        walk_at "ev"
        rw [ha]
        walk_at "ev"
end K17

set_option maxHeartbeats 1000000
namespace K17
open PySem PySem.Spec L2 DL
local macro_rules | `(tactic| walk_at "ev") => `(tactic| simp only [v_ret, v_fail, v_bind, v_on, v_onE, v_go, v_goE, v_of, v_ofN, v_ofI, v_useV, v_useO, v_useP, v_useKV, v_useKO, v_peekV, v_peekO, v_peekP, v_lookV, v_lookO, v_handV, v_handO, v_handB, v_handP, v_handKV, v_handKO, v_handKB, v_allN, v_allC, v_lkN, v_lkC, v_var, v_varV, v_varO, v_varB, v_c, v_bin, v_cmp, v_tst, v_bl, v_int, v_and, v_or, v_not, v_andV, v_orV, v_notV, v_if, v_nil, v_cons, v_vals, v_tup, v_lst, v_neg, v_ix, v_oN, v_oS, v_sl, v_cb, v_lrng, v_dix, v_dixI, v_dixS, v_eS, v_next, v_break, v_cont, v_sq, v_thN, v_thR, v_thB, v_thC, v_thE, v_expr, v_retS, v_rV, v_rO, v_rB, v_rP, v_rKV, v_rKO, v_rKB, v_retN, v_ifS, v_set, v_sV, v_sO, v_sB, v_sP, v_sKV, v_sKO, v_sKB, v_asg, v_optS, v_gN, v_gT, v_gC, v_gNil, v_loopN, v_loopC, v_turnK, v_tuN, v_tuC, v_tuB, v_tuR, v_tuE, v_for, v_iW, v_wipe, v_wN, v_wR, v_wB, v_wC, v_wE, v_iS, v_r1, v_r2, v_r1K, v_r2K, v_en, v_enK, v_lcN, v_lcC, v_lcG, v_lcT, v_lcE, v_yes, v_comp, v_app, v_appG, v_appF, v_appK, v_call, v_callX, v_callF, v_callXF, v_callK, v_callXK, v_callXE, v_mk, v_outN, v_outR, v_outE, v_take, v_rai, v_raiK, v_try, v_tryN, v_tryR, v_tryB, v_tryC, v_tryE, v_suN, v_suR, v_suB, v_suC, v_xf, v_xfK, v_pubO, v_pubV, v_pubB, v_pubP, v_ixL, v_ixT, v_ixS, v_slL, v_slT, v_slS, v_addI, v_addS, v_addL, v_addT, v_sub, v_mod, v_pow, v_shr, v_fdiv, v_mulI, v_mulL, v_cI, v_cIs, v_cES, v_dinI, v_dinS, v_lenL, v_lenT, v_lenS, v_intI, v_intB, v_abs, v_max2, v_min2, v_listL, v_listT, v_tupleL, v_tupleT, v_itN, v_itI, v_itS, v_itB, v_itL, v_itT, v_itD, v_itemsL, v_itemsT, gt, st, wipeD, backD, R.stay, vals?, startK, v_at0, v_at1, v_at2, v_at3, v_at4, v_at5, v_at6, v_at7, v_atL, v_atM1, v_atM2, v_atM3, T.bind_ret, T.bind_fail, T.bind_ite, T.bind_any, T.All_retE, T.All_anyE, T.All_failE, T.All_iteE, ite_ap, cEqF, okk, eqD, eqAll, ofS_inj, ofS_beq, strOk_ofS, Option.bind_some, Option.map_some, List.length_cons, List.length_nil, if_true, if_false, ite_true, ite_false, Bool.not_true, Bool.not_false, beq_self_eq_true, beq_iff_eq, decide_true, decide_false, decide_eq_true_eq, and_self, and_true, true_and, and_false, false_and, Bool.false_eq_true, Bool.true_eq_false, reduceIte, reduceCtorEq, Nat.reduceAdd, Nat.reduceEqDiff, Nat.reduceLeDiff, Nat.reduceLT, String.reduceEq, Int.reduceNeg, Int.reduceLE, Int.reduceLT, Int.reduceEq, Int.reduceToNat, Int.reducePow, Int.reduceAdd, Int.reduceSub, Int.reduceMul, Int.reduceAbs, Int.natAbs_neg, Nat.reducePow, Bool.and_true, Bool.true_and, Bool.and_false, Bool.false_and, List.lookup, sizeLine_eq, Option.some.injEq, List.all_cons, List.all_nil, List.nil_append, List.cons_append, Bool.not_eq_true', Bool.and_eq_true, not_true_eq_false, not_false_eq_true, List.map_cons, List.map_nil, decide_not, true_implies, false_implies, implies_true, not_true, ne_eq, Bool.not_eq_eq_eq_not])
local macro_rules | `(tactic| walk_at "pl") => `(tactic| repeat (with_reducible refine T.All_bind.mpr ?_))

/-! ### steps as they are -/
theorem number_turn (C : Addr) (ss : List Stp) (n : Int) (h : Fair ss n) : (b_law_6 C (Z C (.val (.tup (ss.map Stp.d))) (.no : R) (.val (.int n)) .no)).All fun o => o = .nx (Z C (.val (.tup (ss.map Stp.d))) (.no : R) .no .no) := by
  unfold b_law_6
  walk_at "ev"
  walk_at "pl"
  have h0 := way_turn C ss n 0 h (.inl rfl)
  have h1 := way_turn C ss n 1 h (.inr rfl)
  refine T.All_mono h0 fun o ho => ?_
  subst ho
  walk_at "ev"
  walk_at "pl"
  refine T.All_mono h1 fun o ho => ?_
  subst ho
  walk_at "ev"
def Ns (ns : List Int) : Prop := ∀ n ∈ ns, Bg 110 n
theorem sm_bg110 {k : Int} (h : Sm k) : Bg 110 k := Nat.lt_of_lt_of_le (sm_bg h) (pow_mono (by decide))
theorem keysLc (e : FE) (δ : List R) (f : Int → Int) (δ2 : Int × Int → List R) (hg : ∀ p, fgT 2 (fgCons (fgN 12) (fgCons (fgN 8) fgNil)) (prD p) δ = some (δ2 p)) (he : ∀ p, e.bind useF (δ2 p) = .ret (.ok (.int (f p.1)) (δ2 p))) (hw : ∀ p, wipeD (δ2 p) [12, 8] = δ) (ps : List (Int × Int)) (hl : ps.length ≤ 100) :
    fLc (fgT 2 (fgCons (fgN 12) (fgCons (fgN 8) fgNil))) fYes e [12, 8] (ps.map prD) [] δ = .ret ((ps.map fun p => f p.1).map D.int, δ) := by
  have key : ∀ (qs : List (Int × Int)) (acc : List D), acc.length + qs.length ≤ 100 → fLc (fgT 2 (fgCons (fgN 12) (fgCons (fgN 8) fgNil))) fYes e [12, 8] (qs.map prD) acc δ = .ret (acc ++ (qs.map fun p => f p.1).map D.int, δ) := by
    intro qs
    induction qs with
    | nil => intro acc _; simp [v_lcN]
    | cons p qs ih =>
      intro acc hl
      simp only [List.length_cons] at hl
      rw [List.map_cons, v_lcC, hg, v_lcG, v_yes, T.bind_ret, v_lcT, if_pos rfl, he, T.bind_ret, v_lcE, if_pos (by rw [sizeLine_eq]; omega), hw, ih _ (by simp; omega)]
      simp
  have := key ps [] (by simpa using hl)
  simpa using this
theorem found_turn (C : Addr) (ss : List Stp) (s : Stp) (ns : List Int) (hs : s.Ok) (hn : Ns ns) (hl : ns.length ≤ 100) : ∃ δ1, fgT 2 (fgCons (fgN 6) (fgCons (fgN 7) fgNil)) s.d (Z C (.val (.tup (ss.map Stp.d))) (.own (.lst (ns.map D.int))) .no .no) = some δ1 ∧
    (b_law_3 C δ1).All fun o => ∃ ms : List Int, Ns ms ∧ ms.length ≤ ns.length + 12 ∧ o = .nx (Z C (.val (.tup (ss.map Stp.d))) (.own (.lst (ms.map D.int))) .no .no) := by
  cases s with
  | found ps =>
    refine ⟨_, rfl, ?_⟩
    unfold b_law_3
    have pl6 : ps.length ≤ 6 := hs.1
    walk_at "ev"
    rw [keysLc (e_law_c1 C) _ (fun k => k) (fun p => [.no, .bag, .val (.int 1000000000000), .no, .val (.tup (ss.map Stp.d)), .own (.lst (ns.map D.int)), .val (.str "found"), .val (.tup (ps.map prD)), .val (.int p.2), .no, .no, .no, .val (.int p.1), .no]) (fun p => rfl) (fun p => by simp only [e_law_c1, e_law_c2]; walk_at "ev") (fun p => rfl) ps (by omega)]
    walk_at "ev"
    rw [← List.map_append]
    refine yes (by simp; omega) ?_
    rw [keysLc (e_law_c2 C) _ (fun k => k + 1) (fun p => [.no, .bag, .val (.int 1000000000000), .no, .val (.tup (ss.map Stp.d)), .val (.lst (ns.map D.int)), .val (.str "found"), .val (.tup (ps.map prD)), .val (.int p.2), .no, .no, .no, .val (.int p.1), .no]) (fun p => rfl) (fun p => by simp only [e_law_c1, e_law_c2]; walk_at "ev") (fun p => rfl) ps (by omega)]
    walk_at "ev"
    rw [← List.map_append]
    refine yes (by simp; omega) ?_
    refine ⟨ns ++ (ps.map fun p => p.1) ++ (ps.map fun p => p.1 + 1), ?_, by simp; omega, rfl⟩
    intro x hx
    simp only [List.mem_append, List.mem_map] at hx
    rcases hx with (hx | ⟨p, hp, rfl⟩) | ⟨p, hp, rfl⟩
    · exact hn x hx
    · exact sm_bg110 (hs.2.1 p hp).1
    · have := (hs.2.1 p hp).1
      have h3 : (p.1 + 1).natAbs ≤ 1000000000001 := by unfold Sm at this; omega
      exact Nat.lt_of_le_of_lt h3 (by decide)
  | _ =>
    refine ⟨_, rfl, ?_⟩
    unfold b_law_3
    walk_at "ev"
    exact ⟨ns, hn, by omega, rfl⟩
theorem turn_all (C : Addr) (r3 : R) : (b_law_7 C [.no, .bag, .val (.int 1000000000000), r3, .no, .no, .no, .no, .no, .no, .no, .no, .no, .no]).All fun o => o = .nx (Z C .no .no .no .no) := by
  unfold b_law_7
  walk_at "ev"
  walk_at "pl"
  refine T.All_mono drawn_all fun o ho => ?_
  obtain ⟨ss, hl, hok, rfl⟩ := ho
  walk_at "ev"
  walk_at "pl"
  refine all_take fun a a0 a1 => ?_
  walk_at "ev"
  walk_at "pl"
  refine T.All_mono number_all fun o ho => ?_
  obtain ⟨b, hb, rfl⟩ := ho
  walk_at "ev"
  refine yes (by rw [rngD_len]; decide) ?_
  rw [rngD_map, show ([D.int 1000000000000, D.int (-1000000000000), D.int 999999999999, D.int (1000000000000000000000000000000 + a), D.int b] : List D) = ([1000000000000, -1000000000000, 999999999999, 1000000000000000000000000000000 + a, b] : List Int).map D.int from rfl, ← List.map_append]
  have hns : Ns ((List.map (fun (i : Nat) => -4 + (i : Int)) (List.range 9)) ++ [1000000000000, -1000000000000, 999999999999, 1000000000000000000000000000000 + a, b]) := by
    intro x hx
    have big : ∀ y : Int, y.natAbs ≤ 1000000000000000000000000000009 → Bg 110 y := fun y hy => Nat.lt_of_le_of_lt hy (by decide)
    unfold Sm at hb
    simp only [List.mem_append, List.mem_map, List.mem_range, List.mem_cons, List.not_mem_nil, or_false] at hx
    rcases hx with ⟨i, hi, rfl⟩ | rfl | rfl | rfl | rfl | rfl <;> exact big _ (by omega)
  have hln : ((List.map (fun (i : Nat) => -4 + (i : Int)) (List.range 9)) ++ [1000000000000, -1000000000000, 999999999999, 1000000000000000000000000000000 + a, b]).length ≤ 14 := by simp
  revert hns hln
  generalize (List.map (fun (i : Nat) => -4 + (i : Int)) (List.range 9)) ++ [1000000000000, -1000000000000, 999999999999, 1000000000000000000000000000000 + a, b] = ns
  intro hns hln
  walk_at "pl"
  refine T.All_mono (loop_inv (P := fun o => ∃ ms : List Int, Ns ms ∧ o = .nx (Z C (.val (.tup (ss.map Stp.d))) (.own (.lst (ms.map D.int))) .no .no)) (fun ds δ => ∃ (tt : List Stp) (ms : List Int), ds = tt.map Stp.d ∧ (∀ s ∈ tt, s.Ok) ∧ Ns ms ∧ ms.length + 12 * tt.length ≤ 100 ∧ δ = Z C (.val (.tup (ss.map Stp.d))) (.own (.lst (ms.map D.int))) .no .no) ?_ ?_ _ _ ⟨ss, ns, rfl, hok, hns, by omega, ?_⟩) ?_
  · rintro d ds δ ⟨tt, ms, e1, h1, h2, h3, rfl⟩
    cases tt with
    | nil => cases e1
    | cons s tt =>
      simp only [List.map_cons, List.cons.injEq] at e1
      obtain ⟨rfl, rfl⟩ := e1
      simp only [List.length_cons] at h3
      obtain ⟨δ1, e, hb⟩ := found_turn C ss s ms (h1 s (List.mem_cons_self ..)) h2 (by omega)
      refine ⟨δ1, e, T.All_mono hb ?_⟩
      rintro o ⟨us, u1, u2, rfl⟩
      exact ⟨tt, us, rfl, fun x hx => h1 x (List.mem_cons_of_mem _ hx), u1, by omega, rfl⟩
  · rintro δ ⟨tt, ms, e1, h1, h2, h3, rfl⟩
    exact ⟨ms, h2, rfl⟩
  · rfl
  · rintro o ⟨ms, h1, rfl⟩
    walk_at "ev"
    walk_at "pl"
    refine T.All_mono (loop_same (δ0 := Z C (.val (.tup (ss.map Stp.d))) .no .no .no) ?_) ?_
    · intro d hd
      obtain ⟨n, hn, rfl⟩ := List.mem_map.mp hd
      exact ⟨_, rfl, number_turn C ss n ⟨hok, 110, by decide, h1 n hn, by omega⟩⟩
    · rintro o rfl
      walk_at "ev"
theorem law_all (C : Addr) : (m_law C [.no, .bag]).All fun o => o = .val (.val (.bl true)) := by
  unfold m_law fs_law
  walk_at "ev"
  walk_at "pl"
  refine T.All_mono (loop_same (δ0 := Z C .no .no .no .no) ?_) ?_
  · intro d hd
    exact ⟨_, rfl, turn_all C _⟩
  · rintro o rfl
    have f0 : Fair [] 7 := ⟨by simp, 40, by decide, by unfold Bg; decide, by decide⟩
    have e0 := steps_on_eq C [] 7 f0
    have f1 : Fair [.over 5, .over 5] 9 := ⟨fun s hs => by
      have : s = .over 5 := by rcases List.mem_cons.mp hs with z | z; exact z; exact List.mem_singleton.mp z
      subst this
      exact ⟨by decide, by decide⟩, 40, by decide, by unfold Bg; decide, by decide⟩
    have h1 := heard_all C 1 [.over 5, .over 5] 9 f1 (.inr rfl)
    have a1 := alike_eq (.int 7) (by
      unfold D.Fits
      exact ⟨Nat.lt_of_lt_of_le (by decide : (7 : Int).natAbs < 2 ^ 3) (pow_mono (by decide)), Nat.lt_of_lt_of_le (by decide : (7 : Int).natAbs < 10 ^ 1) (Nat.pow_le_pow_right (by decide) (by decide)), by decide⟩)
    simp only [List.map_nil, led] at e0
    walk_at "ev"
    rw [e0]
    walk_at "ev"
    rw [a1]
    walk_at "ev"
    walk_at "pl"
    refine T.All_mono h1 ?_
    rintro o rfl
    have : due [.over 5, .over 5] 9 = .tup [.str "errs", .int 0] := by rfl
    rw [this]
    walk_at "ev"
end K17

set_option maxHeartbeats 4000000
namespace K17
open PySem PySem.Spec L2 DL
def topS (i : Nat) : Stmt := PySem.Challenge.pw_refusedahead_k17_numbers_led_on.main.body.getD i (.Pass ⟨0, 0, 0, 0⟩)
variable {P : Program} {w : World} {K : PySem.W.Frag} {mg : Str → Option Value} {base : Heap}
abbrev s_step_on : Stmt := topS 4
abbrev n_step_on : List Str := ["step", "number", "word", "k", "key", "found"]
theorem sc_step_on : FnScope n_step_on ["step", "number"] (defScope s_step_on) := ⟨rfl, rfl, rfl, by decide +kernel, rfl, by decide +kernel, by decide +kernel⟩
theorem fc_step_on {c_Errs : Addr} (T : Df K mg "step_on" s_step_on)  (T_Errs : ErrC P w K mg base "Errs" c_Errs "number")  : FcX P w K mg base 3 "step_on" ["step", "number"] (spM 2 (m_step_on c_Errs)) := by
  obtain ⟨f, fd, F, hm⟩ := T
  have nd := sc_step_on.nd
  exact ⟨f, fd, fn_fx (k := 2) (N := n_step_on) (fs := fs_step_on c_Errs) F sc_step_on (by decide) (fun cdv A outer s H E L hr tk ps => (fss_cons (fs_asg (fe_var 0) (fg_tup rfl (fgs_cons (fg_name (i := 2) nd) (fgs_cons (fg_name (i := 3) nd) fgs_nil))))
      (fss_cons (fs_if (ft_eq hr.units (fe_var 2) fe_str) (fss_one (fs_ret (fe_add (fe_var 1) (fe_var 3)))) fss_nil)
      (fss_cons (fs_if (ft_eq hr.units (fe_var 2) fe_str) (fss_one (fs_ret (fe_mul (fe_var 1) (fe_var 3)))) fss_nil)
      (fss_cons (fs_if (ft_eq hr.units (fe_var 2) fe_str) (fss_one (fs_ret (fe_fdiv (fe_var 1) (fe_var 3)))) fss_nil)
      (fss_cons (fs_if (ft_eq hr.units (fe_var 2) fe_str) (fss_cons (fs_if (ft_eq hr.units (fe_var 1) fe_int) (fss_one (fs_raise T_Errs rfl (hr.mono (by decide)) tk (by rfl) (fa_cons (fe_var 1) fa_nil))) fss_nil)
      (fss_one (fs_ret (fe_fdiv (fe_var 3) (fe_var 1))))) fss_nil)
      (fss_cons (fs_wipe [2, 3, 4, 5] (fs_for (b := (b_step_on_1 c_Errs)) ps rfl (fi_wipe [2, 3, 4, 5] (fi_seq (fe_var 3))) (fg_tup rfl (fgs_cons (fg_name (i := 4) nd) (fgs_cons (fg_name (i := 5) nd) fgs_nil))) (fss_wipe [2, 3, 4, 5] (fss_one (fs_if (ft_eq hr.units (fe_var 4) (fe_var 1)) (fss_one (fs_ret (fe_var 5))) fss_nil)))))
      (fss_one (fs_raise T_Errs rfl (hr.mono (by decide)) tk (by rfl) (fa_cons (fe_var 1) fa_nil)))))))))), hm, F.kp, F.binds (ps := ["step", "number"]) (fun _ _ _ _ _ _ us hl => match us, hl with | [_, _], _ => rfl)⟩
abbrev s_steps_on : Stmt := topS 5
abbrev n_steps_on : List Str := ["steps", "number", "step"]
theorem sc_steps_on : FnScope n_steps_on ["steps", "number"] (defScope s_steps_on) := ⟨rfl, rfl, rfl, by decide +kernel, rfl, by decide +kernel, by decide +kernel⟩
theorem fc_steps_on {c_Errs : Addr} (T : Df K mg "steps_on" s_steps_on) (F_step_on : FcX P w K mg base 3 "step_on" ["step", "number"] (spM 2 (m_step_on c_Errs)))   : FcX P w K mg base 4 "steps_on" ["steps", "number"] (spM 2 (m_steps_on c_Errs)) := by
  obtain ⟨f, fd, F, hm⟩ := T
  have nd := sc_steps_on.nd
  exact ⟨f, fd, fn_fx (k := 3) (N := n_steps_on) (fs := fs_steps_on c_Errs) F sc_steps_on (by decide) (fun cdv A outer s H E L hr tk ps => (fss_cons (fs_wipe [2] (fs_for (b := (b_steps_on_1 c_Errs)) ps rfl (fi_wipe [2] (fi_seq (fe_var 0))) (fg_name (i := 2) nd) (fss_wipe [2] (fss_one (fs_set (i := 1) nd (fe_fcx F_step_on (hr.mono (by decide)) tk (by rfl) (fa_cons (fe_var 2) (fa_cons (fe_var 1) fa_nil)) (argN_cons (argN_cons argN_nil))))))))
      (fss_one (fs_ret (fe_var 1))))), hm, F.kp, F.binds (ps := ["steps", "number"]) (fun _ _ _ _ _ _ us hl => match us, hl with | [_, _], _ => rfl)⟩
abbrev s__law_alike : Stmt := topS 9
abbrev n__law_alike : List Str := ["_law_found", "_law_due"]
theorem sc__law_alike : FnScope n__law_alike ["_law_found", "_law_due"] (defScope s__law_alike) := ⟨rfl, rfl, rfl, by decide +kernel, rfl, by decide +kernel, by decide +kernel⟩
theorem fc__law_alike (T : Df K mg "_law_alike" s__law_alike)   (m_repr : mg "repr" = none) : FcG P w K mg base 1 "_law_alike" ["_law_found", "_law_due"] (spM0 2 m__law_alike) := by
  obtain ⟨f, fd, F, hm⟩ := T
  have nd := sc__law_alike.nd
  exact ⟨f, fd, fn_fg (k := 0) (N := n__law_alike) (fs := fs__law_alike) F sc__law_alike (by decide) (fun cdv A outer s H E hq hr => (fss_one (fs_ret (fe_and (fe_eq hr.units (fe_var 0) (fe_var 1)) (fe_one (fe_eqS (fe_cb bs_repr (call_reprD hq hr.units) cl_repr (by rfl) m_repr (by decide +kernel) (fa_cons (fe_var 0) fa_nil)) (fe_cb bs_repr (call_reprD hq hr.units) cl_repr (by rfl) m_repr (by decide +kernel) (fa_cons (fe_var 1) fa_nil)))))))), hm, F.kp, F.binds (ps := ["_law_found", "_law_due"]) (fun _ _ _ _ _ _ us hl => match us, hl with | [_, _], _ => rfl)⟩
abbrev s__law_one : Stmt := topS 10
abbrev n__law_one : List Str := ["_law_bag_here", "_law_things"]
theorem sc__law_one : FnScope n__law_one ["_law_bag_here", "_law_things"] (defScope s__law_one) := ⟨rfl, rfl, rfl, by decide +kernel, rfl, by decide +kernel, by decide +kernel⟩
theorem fc__law_one (T : Df K mg "_law_one" s__law_one) (F__law_take : Fc P w K mg base 1 "_law_take" ["_law_bag_here", "_law_many"] (spM0 2 m__law_take))  (m_len : mg "len" = none) : Fc P w K mg base 2 "_law_one" ["_law_bag_here", "_law_things"] (spM0 2 m__law_one) := by
  obtain ⟨f, fd, F, hm⟩ := T
  have nd := sc__law_one.nd
  exact ⟨f, fd, fn_f (k := 1) (N := n__law_one) (fs := fs__law_one) F sc__law_one (by decide) (fun cdv A outer s H E hr => (fss_one (fs_ret (fe_ix (fe_var 1) (fe_fc F__law_take (hr.mono (by decide)) (by rfl) (fa_cons (fe_var 0) (fa_cons (fe_cb bs_len call_len cl_len (by rfl) m_len (by decide +kernel) (fa_cons (fe_var 1) fa_nil)) fa_nil)) (argN_cons (argN_cons argN_nil))))))), hm, F.kp, F.binds (ps := ["_law_bag_here", "_law_things"]) (fun _ _ _ _ _ _ us hl => match us, hl with | [_, _], _ => rfl)⟩
abbrev s__law_number : Stmt := topS 11
abbrev n__law_number : List Str := ["_law_bag_here", "_law_way"]
theorem sc__law_number : FnScope n__law_number ["_law_bag_here"] (defScope s__law_number) := ⟨rfl, rfl, rfl, by decide +kernel, rfl, by decide +kernel, by decide +kernel⟩
theorem fc__law_number (T : Df K mg "_law_number" s__law_number) (F__law_take : Fc P w K mg base 1 "_law_take" ["_law_bag_here", "_law_many"] (spM0 2 m__law_take))   : Fc P w K mg base 2 "_law_number" ["_law_bag_here"] (spM0 1 m__law_number) := by
  obtain ⟨f, fd, F, hm⟩ := T
  have nd := sc__law_number.nd
  exact ⟨f, fd, fn_f (k := 1) (N := n__law_number) (fs := fs__law_number) F sc__law_number (by decide) (fun cdv A outer s H E hr => (fss_cons (fs_set (i := 1) nd (fe_fc F__law_take (hr.mono (by decide)) (by rfl) (fa_cons (fe_var 0) (fa_cons fe_int fa_nil)) (argN_cons (argN_cons argN_nil))))
      (fss_cons (fs_if (ft_gt (fe_var 1) fe_int) (fss_one (fs_ret (fe_sub (fe_fc F__law_take (hr.mono (by decide)) (by rfl) (fa_cons (fe_var 0) (fa_cons fe_int fa_nil)) (argN_cons (argN_cons argN_nil))) fe_int))) fss_nil)
      (fss_one (fs_ret (fe_mul (fe_ix (fe_lst (fa_cons (fe_sub (fe_pow fe_int fe_int) (fe_fc F__law_take (hr.mono (by decide)) (by rfl) (fa_cons (fe_var 0) (fa_cons fe_int fa_nil)) (argN_cons (argN_cons argN_nil)))) (fa_cons (fe_fc F__law_take (hr.mono (by decide)) (by rfl) (fa_cons (fe_var 0) (fa_cons fe_int fa_nil)) (argN_cons (argN_cons argN_nil))) fa_nil))) (fe_var 1)) (fe_ix (fe_lst (fa_cons fe_int (fa_cons (fe_neg fe_int) fa_nil))) (fe_fc F__law_take (hr.mono (by decide)) (by rfl) (fa_cons (fe_var 0) (fa_cons fe_int fa_nil)) (argN_cons (argN_cons argN_nil)))))))))), hm, F.kp, F.binds (ps := ["_law_bag_here"]) (fun _ _ _ _ _ _ us hl => match us, hl with | [_], _ => rfl)⟩
abbrev s__law_step : Stmt := topS 12
abbrev n__law_step : List Str := ["_law_bag_here", "_law_word", "_law_by", "_law_keys", "_law_number_here", "_law_key"]
theorem sc__law_step : FnScope n__law_step ["_law_bag_here"] (defScope s__law_step) := ⟨rfl, rfl, rfl, by decide +kernel, rfl, by decide +kernel, by decide +kernel⟩
theorem fc__law_step (T : Df K mg "_law_step" s__law_step) (F__law_number : Fc P w K mg base 2 "_law_number" ["_law_bag_here"] (spM0 1 m__law_number)) (F__law_one : Fc P w K mg base 2 "_law_one" ["_law_bag_here", "_law_things"] (spM0 2 m__law_one)) (F__law_take : Fc P w K mg base 1 "_law_take" ["_law_bag_here", "_law_many"] (spM0 2 m__law_take))  (m_abs : mg "abs" = none) (m_max : mg "max" = none) (m_range : mg "range" = none) (m_tuple : mg "tuple" = none) : Fc P w K mg base 3 "_law_step" ["_law_bag_here"] (spM0 1 m__law_step) := by
  obtain ⟨f, fd, F, hm⟩ := T
  have nd := sc__law_step.nd
  exact ⟨f, fd, fn_f (k := 2) (N := n__law_step) (fs := fs__law_step) F sc__law_step (by decide) (fun cdv A outer s H E hr => (fss_cons (fs_set (i := 1) nd (fe_fc F__law_one (hr.mono (by decide)) (by rfl) (fa_cons (fe_var 0) (fa_cons (fe_lst (fa_cons fe_str (fa_cons fe_str (fa_cons fe_str (fa_cons fe_str (fa_cons fe_str fa_nil)))))) fa_nil)) (argN_cons (argN_cons argN_nil))))
      (fss_cons (fs_wipe [2, 3] (fs_if (ft_eq hr.units (fe_var 1) fe_str) (fss_cons (fs_set (i := 2) nd (fe_ix (fe_lst (fa_cons fe_int (fa_cons fe_int (fa_cons fe_int (fa_cons (fe_add (fe_pow fe_int fe_int) fe_int) fa_nil))))) (fe_fc F__law_take (hr.mono (by decide)) (by rfl) (fa_cons (fe_var 0) (fa_cons fe_int fa_nil)) (argN_cons (argN_cons argN_nil)))))
      (fss_cons (fs_set (i := 3) nd (fe_sl (fe_lc (fe := e__law_step_c1) (t := t__law_step_c1) gN_imp rfl nd (fi_rng2 (by rfl) m_range (fa_cons (fe_neg fe_int) (fa_cons fe_int fa_nil))) (blkOk_by (own := [("_law_key", 5)]) (N := n__law_step) (sc := defScope s__law_step) (by decide +kernel)) (gok_name (by decide)) rfl (fun _ _ _ _ _ => pg_name (i := 5) nd rfl (.inl rfl)) (fun _ _ _ _ _ => fts_one (ft_eq hr.units (fe_fc F__law_take (hr.mono (by decide)) (by rfl) (fa_cons (fe_var 0) (fa_cons fe_int fa_nil)) (argN_cons (argN_cons argN_nil))) fe_int)) (fun _ _ _ _ _ => (fe_mul (fe_var 5) (fe_var 2)))) fo_none (fo_some fe_int)))
      (fss_one (fs_ret (fe_tup (fa_cons fe_str (fa_cons (fe_ct bs_tuple call_tupF cl_tuple (by rfl) m_tuple (by decide +kernel) (fa_cons (fe_lc (fe := e__law_step_c2) (t := fYes) gN_imp rfl nd (fi_seq (fe_var 3)) (blkOk_by (own := [("_law_key", 5)]) (N := n__law_step) (sc := defScope s__law_step) (by decide +kernel)) (gok_name (by decide)) rfl (fun _ _ _ _ _ => pg_name (i := 5) nd rfl (.inl rfl)) (fun _ _ _ _ _ => fts_nil) (fun _ _ _ _ _ => (fe_tup (fa_cons (fe_var 5) (fa_cons (fe_fc F__law_number (hr.mono (by decide)) (by rfl) (fa_cons (fe_var 0) fa_nil) (argN_cons argN_nil)) fa_nil))))) fa_nil)) fa_nil))))))) fss_nil))
      (fss_cons (fs_set (i := 4) nd (fe_fc F__law_number (hr.mono (by decide)) (by rfl) (fa_cons (fe_var 0) fa_nil) (argN_cons argN_nil)))
      (fss_cons (fs_if (ft_eq hr.units (fe_var 1) fe_str) (fss_one (fs_ret (fe_tup (fa_cons fe_str (fa_cons (fe_cb bs_max2 (call_max2 rfl) cl_max2 (by rfl) m_max (by decide +kernel) (fa_cons fe_int (fa_cons (fe_cb bs_abs call_abs cl_abs (by rfl) m_abs (by decide +kernel) (fa_cons (fe_var 4) fa_nil)) fa_nil))) fa_nil))))) fss_nil)
      (fss_one (fs_ret (fe_tup (fa_cons (fe_var 1) (fa_cons (fe_if (PW.pt (ft_or (ft_ne hr.units (fe_var 4) fe_int) (ft_or1 (ft_ne hr.units (fe_var 1) fe_str)))) (fe_var 4) fe_int) fa_nil)))))))))), hm, F.kp, F.binds (ps := ["_law_bag_here"]) (fun _ _ _ _ _ _ us hl => match us, hl with | [_], _ => rfl)⟩
abbrev s__law_led : Stmt := topS 13
abbrev n__law_led : List Str := ["_law_steps", "_law_number_here", "_law_word", "_law_k", "_law_known"]
theorem sc__law_led : FnScope n__law_led ["_law_steps", "_law_number_here"] (defScope s__law_led) := ⟨rfl, rfl, rfl, by decide +kernel, rfl, by decide +kernel, by decide +kernel⟩
theorem fc__law_led (T : Df K mg "_law_led" s__law_led)   (m_dict : mg "dict" = none) : Fc P w K mg base 1 "_law_led" ["_law_steps", "_law_number_here"] (spM0 2 m__law_led) := by
  obtain ⟨f, fd, F, hm⟩ := T
  have nd := sc__law_led.nd
  exact ⟨f, fd, fn_f (k := 0) (N := n__law_led) (fs := fs__law_led) F sc__law_led (by decide) (fun cdv A outer s H E hr => (fss_cons (fs_wipe [2, 3, 4] (fs_for (b := b__law_led_1) PassesOwn.never rfl (fi_wipe [2, 3, 4] (fi_seq (fe_var 0))) (fg_tup rfl (fgs_cons (fg_name (i := 2) nd) (fgs_cons (fg_name (i := 3) nd) fgs_nil))) (fss_wipe [2, 3, 4] (fss_one (fs_wipe [4] (fs_if (ft_eq hr.units (fe_var 2) fe_str) (fss_one (fs_set (i := 1) nd (fe_add (fe_var 1) (fe_var 3)))) (fss_one (fs_wipe [4] (fs_if (ft_eq hr.units (fe_var 2) fe_str) (fss_one (fs_set (i := 1) nd (fe_mul (fe_var 1) (fe_var 3)))) (fss_one (fs_wipe [4] (fs_if (ft_eq hr.units (fe_var 2) fe_str) (fss_one (fs_set (i := 1) nd (fe_fdiv (fe_var 1) (fe_var 3)))) (fss_one (fs_wipe [4] (fs_if (ft_eq hr.units (fe_var 2) fe_str) (fss_cons (fs_if (ft_eq hr.units (fe_var 1) fe_int) (fss_one (fs_ret fe_non)) fss_nil)
      (fss_one (fs_set (i := 1) nd (fe_fdiv (fe_var 3) (fe_var 1))))) (fss_cons (fs_set (i := 4) nd (fe_ct bs_dict (call_dictT rfl) cl_dict (by rfl) m_dict (by decide +kernel) (fa_cons (fe_var 3) fa_nil)))
      (fss_cons (fs_if (ft_dnotin (hu_of hr) (fe_var 1) (fe_var 4)) (fss_one (fs_ret fe_non)) fss_nil)
      (fss_one (fs_set (i := 1) nd (fe_dix (hu_of hr) (fe_var 4) (fe_var 1)))))))))))))))))))))
      (fss_one (fs_ret (fe_var 1))))), hm, F.kp, F.binds (ps := ["_law_steps", "_law_number_here"]) (fun _ _ _ _ _ _ us hl => match us, hl with | [_, _], _ => rfl)⟩
abbrev s__law_steps_drawn : Stmt := topS 14
abbrev n__law_steps_drawn : List Str := ["_law_bag_here", "_law_most", "_law_found", "_law_k", "_law_small"]
theorem sc__law_steps_drawn : FnScope n__law_steps_drawn ["_law_bag_here", "_law_most"] (defScope s__law_steps_drawn) := ⟨rfl, rfl, rfl, by decide +kernel, rfl, by decide +kernel, by decide +kernel⟩
theorem fc__law_steps_drawn (T : Df K mg "_law_steps_drawn" s__law_steps_drawn) (F__law_step : Fc P w K mg base 3 "_law_step" ["_law_bag_here"] (spM0 1 m__law_step)) (F__law_take : Fc P w K mg base 1 "_law_take" ["_law_bag_here", "_law_many"] (spM0 2 m__law_take))  (m_range : mg "range" = none) (m_tuple : mg "tuple" = none) : Fc P w K mg base 4 "_law_steps_drawn" ["_law_bag_here", "_law_most"] (spM0 2 m__law_steps_drawn) := by
  obtain ⟨f, fd, F, hm⟩ := T
  have nd := sc__law_steps_drawn.nd
  exact ⟨f, fd, fn_f (k := 3) (N := n__law_steps_drawn) (fs := fs__law_steps_drawn) F sc__law_steps_drawn (by decide) (fun cdv A outer s H E hr => (fss_cons (fs_set (i := 2) nd (fe_lst fa_nil))
      (fss_cons (fs_wipe [3, 4] (fs_for (b := b__law_steps_drawn_1) PassesOwn.never rfl (fi_wipe [3, 4] (fi_rng1 (by rfl) m_range (fa_cons (fe_fc F__law_take (hr.mono (by decide)) (by rfl) (fa_cons (fe_var 0) (fa_cons (fe_add (fe_var 1) fe_int) fa_nil)) (argN_cons (argN_cons argN_nil))) fa_nil))) (fg_name (i := 3) nd) (fss_wipe [3, 4] (fss_one (fs_wipe [4] (fs_if (ft_eq hr.units (fe_fc F__law_take (hr.mono (by decide)) (by rfl) (fa_cons (fe_var 0) (fa_cons fe_int fa_nil)) (argN_cons (argN_cons argN_nil))) fe_int) (fss_one (fs_expr (fe_append (pv 2) (fe_fc F__law_step (hr.mono (by decide)) (by rfl) (fa_cons (fe_var 0) fa_nil) (argN_cons argN_nil))))) (fss_cons (fs_set (i := 4) nd (fe_lst (fa_cons (fe_tup (fa_cons fe_str (fa_cons (fe_sub (fe_fc F__law_take (hr.mono (by decide)) (by rfl) (fa_cons (fe_var 0) (fa_cons fe_int fa_nil)) (argN_cons (argN_cons argN_nil))) fe_int) fa_nil))) (fa_cons (fe_tup (fa_cons fe_str (fa_cons (fe_ix (fe_lst (fa_cons (fe_neg fe_int) (fa_cons (fe_neg fe_int) (fa_cons fe_int (fa_cons fe_int fa_nil))))) (fe_fc F__law_take (hr.mono (by decide)) (by rfl) (fa_cons (fe_var 0) (fa_cons fe_int fa_nil)) (argN_cons (argN_cons argN_nil)))) fa_nil))) fa_nil))))
      (fss_cons (fs_set (i := 4) nd (fe_add (fe_var 4) (fe_lst (fa_cons (fe_tup (fa_cons fe_str (fa_cons (fe_add fe_int (fe_fc F__law_take (hr.mono (by decide)) (by rfl) (fa_cons (fe_var 0) (fa_cons fe_int fa_nil)) (argN_cons (argN_cons argN_nil)))) fa_nil))) (fa_cons (fe_tup (fa_cons fe_str (fa_cons (fe_sub (fe_fc F__law_take (hr.mono (by decide)) (by rfl) (fa_cons (fe_var 0) (fa_cons fe_int fa_nil)) (argN_cons (argN_cons argN_nil))) fe_int) fa_nil))) fa_nil)))))
      (fss_one (fs_expr (fe_append (pv 2) (fe_ix (fe_var 4) (fe_fc F__law_take (hr.mono (by decide)) (by rfl) (fa_cons (fe_var 0) (fa_cons fe_int fa_nil)) (argN_cons (argN_cons argN_nil)))))))))))))))
      (fss_one (fs_ret (fe_ct bs_tuple call_tupF cl_tuple (by rfl) m_tuple (by decide +kernel) (fa_cons (fe_var 2) fa_nil))))))), hm, F.kp, F.binds (ps := ["_law_bag_here", "_law_most"]) (fun _ _ _ _ _ _ us hl => match us, hl with | [_, _], _ => rfl)⟩
abbrev s__law_erred : Stmt := topS 15
abbrev n__law_erred : List Str := ["_law_steps", "_law_number_here", "_law_at", "_law_step_here"]
theorem sc__law_erred : FnScope n__law_erred ["_law_steps", "_law_number_here"] (defScope s__law_erred) := ⟨rfl, rfl, rfl, by decide +kernel, rfl, by decide +kernel, by decide +kernel⟩
theorem fc__law_erred (T : Df K mg "_law_erred" s__law_erred) (F__law_led : Fc P w K mg base 1 "_law_led" ["_law_steps", "_law_number_here"] (spM0 2 m__law_led))  (m_enumerate : mg "enumerate" = none) : Fc P w K mg base 2 "_law_erred" ["_law_steps", "_law_number_here"] (spM0 2 m__law_erred) := by
  obtain ⟨f, fd, F, hm⟩ := T
  have nd := sc__law_erred.nd
  exact ⟨f, fd, fn_f (k := 1) (N := n__law_erred) (fs := fs__law_erred) F sc__law_erred (by decide) (fun cdv A outer s H E hr => (fss_cons (fs_wipe [1, 2, 3] (fs_for (b := b__law_erred_1) PassesOwn.never rfl (fi_wipe [2, 3] (fi_enum (by rfl) m_enumerate (fa_cons (fe_var 0) fa_nil))) (fg_tup rfl (fgs_cons (fg_name (i := 2) nd) (fgs_cons (fg_name (i := 3) nd) fgs_nil))) (fss_wipe [2, 3] (fss_cons (fs_if (ft_is (fe_fc F__law_led (hr.mono (by decide)) (by rfl) (fa_cons (fe_tup (fa_cons (fe_var 3) fa_nil)) (fa_cons (fe_var 1) fa_nil)) (argN_cons (argN_cons argN_nil))) fe_non) (fss_one (fs_ret (fe_var 1))) fss_nil)
      (fss_one (fs_set (i := 1) nd (fe_fc F__law_led (hr.mono (by decide)) (by rfl) (fa_cons (fe_tup (fa_cons (fe_var 3) fa_nil)) (fa_cons (fe_var 1) fa_nil)) (argN_cons (argN_cons argN_nil)))))))))
      (fss_one (fs_ret fe_non)))), hm, F.kp, F.binds (ps := ["_law_steps", "_law_number_here"]) (fun _ _ _ _ _ _ us hl => match us, hl with | [_, _], _ => rfl)⟩
abbrev s__law_heard : Stmt := topS 16
abbrev n__law_heard : List Str := ["_law_way", "_law_steps", "_law_number_here", "e"]
theorem sc__law_heard : FnScope n__law_heard ["_law_way", "_law_steps", "_law_number_here"] (defScope s__law_heard) := ⟨rfl, rfl, rfl, by decide +kernel, rfl, by decide +kernel, by decide +kernel⟩
theorem fc__law_heard {c_Errs : Addr} (T : Df K mg "_law_heard" s__law_heard) (F_step_on : FcX P w K mg base 3 "step_on" ["step", "number"] (spM 2 (m_step_on c_Errs))) (F_steps_on : FcX P w K mg base 4 "steps_on" ["steps", "number"] (spM 2 (m_steps_on c_Errs))) (T_Errs : ErrC P w K mg base "Errs" c_Errs "number")  : Fc P w K mg base 5 "_law_heard" ["_law_way", "_law_steps", "_law_number_here"] (spM0 3 (m__law_heard c_Errs)) := by
  obtain ⟨f, fd, F, hm⟩ := T
  have nd := sc__law_heard.nd
  exact ⟨f, fd, fn_f (k := 4) (N := n__law_heard) (fs := fs__law_heard c_Errs) F sc__law_heard (by decide) (fun cdv A outer s H E hr => (fss_one (fs_try rfl rfl nd rfl rfl ⟨rfl, by decide, .inl T_Errs.gl⟩ T_Errs.self (fun L1 pn xe tk ps => (fss_one (fs_ret (fe_tup (fa_cons fe_str (fa_cons (fe_if (ft_eq hr.units (fe_var 0) fe_int) (fe_fcx F_step_on (hr.mono (by decide)) tk (by rfl) (fa_cons (fe_ix (fe_var 1) fe_int) (fa_cons (fe_var 2) fa_nil)) (argN_cons (argN_cons argN_nil))) (fe_fcx F_steps_on (hr.mono (by decide)) tk (by rfl) (fa_cons (fe_var 1) (fa_cons (fe_var 2) fa_nil)) (argN_cons (argN_cons argN_nil)))) fa_nil)))))) (fun a oe cls d pn hz hf => (fss_one (fs_ret (fe_tup (fa_cons fe_str (fa_cons (fe_xf T_Errs.xf T_Errs.no hz hf (fe_var 3)) fa_nil))))))))), hm, F.kp, F.binds (ps := ["_law_way", "_law_steps", "_law_number_here"]) (fun _ _ _ _ _ _ us hl => match us, hl with | [_, _, _], _ => rfl)⟩
abbrev s_law : Stmt := topS 17
abbrev n_law : List Str := ["_law_script", "_law_bag_here", "_law_far", "_law_turn", "_law_steps", "_law_numbers", "_law_word", "_law_k", "_law_number_here", "_law_way", "_law_some", "_law_due", "_law_key", "_law_again"]
theorem sc_law : FnScope n_law ["_law_script"] (defScope s_law) := ⟨rfl, rfl, rfl, by decide +kernel, rfl, by decide +kernel, by decide +kernel⟩
theorem fn_law_here {f : Addr} {fd : FuncData} {c_Errs : Addr} (F : Fun K "law" "law" s_law f fd) (B : ∃ (fb : Addr) (fdb : FuncData), FnOk P w K mg base CX0 1 fb fdb ["_law_script"] (spBag K) ∧ mg "_law_bag" = some (.ref fb) ∧ PySem.W.keepIn K (.ref fb) = true ∧ Binds K fdb ["_law_script"] []) (F__law_alike : FcG P w K mg base 1 "_law_alike" ["_law_found", "_law_due"] (spM0 2 m__law_alike)) (F__law_erred : Fc P w K mg base 2 "_law_erred" ["_law_steps", "_law_number_here"] (spM0 2 m__law_erred)) (F__law_heard : Fc P w K mg base 5 "_law_heard" ["_law_way", "_law_steps", "_law_number_here"] (spM0 3 (m__law_heard c_Errs))) (F__law_led : Fc P w K mg base 1 "_law_led" ["_law_steps", "_law_number_here"] (spM0 2 m__law_led)) (F__law_number : Fc P w K mg base 2 "_law_number" ["_law_bag_here"] (spM0 1 m__law_number)) (F__law_steps_drawn : Fc P w K mg base 4 "_law_steps_drawn" ["_law_bag_here", "_law_most"] (spM0 2 m__law_steps_drawn)) (F__law_take : Fc P w K mg base 1 "_law_take" ["_law_bag_here", "_law_many"] (spM0 2 m__law_take)) (F_steps_on : FcX P w K mg base 4 "steps_on" ["steps", "number"] (spM 2 (m_steps_on c_Errs)))  (m_list : mg "list" = none) (m_range : mg "range" = none)
    (hd : (m_law c_Errs [.no, .bag]).All fun o => o = .val (.val (.bl true))) : FnG P w K mg base CX0 7 f fd ["_law_script"] (spLaw K) := by
  have nd := sc_law.nd
  obtain ⟨fb, fdb, B1, B2, B3, B4⟩ := B
  exact fn_flaw (N := n_law) (fs := fs_law c_Errs) (k := 6) F sc_law (by decide) rfl (fun cdv A outer s H E hq hr => ⟨ps_asg (pe_call B1 (hr.mono (by decide)) (by rfl) B2 B3 B4 .nil pass0 (pa_cons (pv 0) pa_nil)) (pg_name (i := 1) nd rfl (.inl rfl)), (fss_cons (fs_set (i := 2) nd (fe_pow fe_int fe_int))
      (fss_cons (fs_wipe [1, 2, 3, 4, 5, 6, 7, 8, 9, 10, 11] (fs_for (b := (b_law_7 c_Errs)) PassesOwn.never rfl (fi_wipe [3, 4, 5, 6, 7, 8, 9, 10, 11] (fi_rng1 (by rfl) m_range (fa_cons fe_int fa_nil))) (fg_name (i := 3) nd) (fss_wipe [3, 4, 5, 6, 7, 8, 9, 10, 11] (fss_cons (fs_set (i := 4) nd (fe_fc F__law_steps_drawn (hr.mono (by decide)) (by rfl) (fa_cons (fe_var 1) (fa_cons fe_int fa_nil)) (argN_cons (argN_cons argN_nil))))
      (fss_cons (fs_set (i := 5) nd (fe_add (fe_lrng2 rfl (by rfl) m_list (by rfl) m_range (fe_neg fe_int) fe_int) (fe_lst (fa_cons (fe_var 2) (fa_cons (fe_neg (fe_var 2)) (fa_cons (fe_sub (fe_var 2) fe_int) (fa_cons (fe_add (fe_pow fe_int fe_int) (fe_fc F__law_take (hr.mono (by decide)) (by rfl) (fa_cons (fe_var 1) (fa_cons fe_int fa_nil)) (argN_cons (argN_cons argN_nil)))) (fa_cons (fe_fc F__law_number (hr.mono (by decide)) (by rfl) (fa_cons (fe_var 1) fa_nil) (argN_cons argN_nil)) fa_nil))))))))
      (fss_cons (fs_wipe [3, 6, 7, 8, 9, 10, 11] (fs_for (b := (b_law_3 c_Errs)) PassesOwn.never rfl (fi_wipe [3, 6, 7, 8, 9, 10, 11] (fi_seq (fe_var 4))) (fg_tup rfl (fgs_cons (fg_name (i := 6) nd) (fgs_cons (fg_name (i := 7) nd) fgs_nil))) (fss_wipe [3, 6, 7, 8, 9, 10, 11] (fss_one (fs_if (ft_eq hr.units (fe_var 6) fe_str) (fss_one (fs_set (i := 5) nd (fe_add (fe_add (fe_var 5) (fe_lc (fe := (e_law_c1 c_Errs)) (t := fYes) (gT_imp (gCons_imp gN_imp (gCons_imp gN_imp gNil_imp))) rfl nd (fi_seq (fe_var 7)) (blkOk_by (own := [("_law_key", 12), ("_law_number_here", 8)]) (N := n_law) (sc := defScope s_law) (by decide +kernel)) (gok_tup (gsok_name (i := 12) (by decide) (gsok_name (i := 8) (by decide) gsok_nil mono_nil) (mono_cons mono_name mono_nil))) rfl (fun _ _ _ _ _ => pg_tup rfl (pgs_cons (pg_name (i := 12) nd rfl (.inl rfl)) (pgs_cons (pg_name (i := 8) nd rfl (.inl rfl)) pgs_nil))) (fun _ _ _ _ _ => fts_nil) (fun _ _ _ _ _ => (fe_var 12)))) (fe_lc (fe := (e_law_c2 c_Errs)) (t := fYes) (gT_imp (gCons_imp gN_imp (gCons_imp gN_imp gNil_imp))) rfl nd (fi_seq (fe_var 7)) (blkOk_by (own := [("_law_key", 12), ("_law_number_here", 8)]) (N := n_law) (sc := defScope s_law) (by decide +kernel)) (gok_tup (gsok_name (i := 12) (by decide) (gsok_name (i := 8) (by decide) gsok_nil mono_nil) (mono_cons mono_name mono_nil))) rfl (fun _ _ _ _ _ => pg_tup rfl (pgs_cons (pg_name (i := 12) nd rfl (.inl rfl)) (pgs_cons (pg_name (i := 8) nd rfl (.inl rfl)) pgs_nil))) (fun _ _ _ _ _ => fts_nil) (fun _ _ _ _ _ => (fe_add (fe_var 12) fe_int)))))) fss_nil)))))
      (fss_one (fs_wipe [3, 4, 5, 6, 7, 8, 9, 10, 11] (fs_for (b := (b_law_6 c_Errs)) PassesOwn.never rfl (fi_wipe [3, 5, 6, 7, 8, 9, 10, 11] (fi_seq (fe_var 5))) (fg_name (i := 8) nd) (fss_wipe [3, 5, 6, 7, 8, 9, 10, 11] (fss_one (fs_wipe [3, 5, 6, 7, 8, 9, 10, 11] (fs_for (b := (b_law_5 c_Errs)) PassesOwn.never rfl (fi_wipe [3, 5, 6, 7, 9, 10, 11] (fi_seq (fe_tup (fa_cons fe_int (fa_cons fe_int fa_nil))))) (fg_name (i := 9) nd) (fss_wipe [3, 5, 6, 7, 9, 10, 11] (fss_cons (fs_set (i := 10) nd (fe_ix (fe_lst (fa_cons (fe_sl (fe_var 4) fo_none (fo_some fe_int)) (fa_cons (fe_var 4) fa_nil))) (fe_var 9)))
      (fss_one (fs_wipe [11] (fs_if (PW.pt (ft_or (ft_eq hr.units (fe_var 9) fe_int) (ft_or1 (ft_ne hr.units (fe_var 10) (fe_tup fa_nil))))) (fss_cons (fs_set (i := 11) nd (fe_tup (fa_cons fe_str (fa_cons (fe_fc F__law_led (hr.mono (by decide)) (by rfl) (fa_cons (fe_var 10) (fa_cons (fe_var 8) fa_nil)) (argN_cons (argN_cons argN_nil))) fa_nil))))
      (fss_cons (fs_if (ft_is (fe_ix (fe_var 11) fe_int) fe_non) (fss_one (fs_set (i := 11) nd (fe_tup (fa_cons fe_str (fa_cons (fe_fc F__law_erred (hr.mono (by decide)) (by rfl) (fa_cons (fe_var 10) (fa_cons (fe_var 8) fa_nil)) (argN_cons (argN_cons argN_nil))) fa_nil))))) fss_nil)
      (fss_one (fs_if (ft_not (ft_val (fe_fcG F__law_alike hq (hr.mono (by decide)) (by rfl) (fa_cons (fe_lc (fe := (e_law_c4 c_Errs)) (t := fYes) gN_imp rfl nd (fi_rng1 (by rfl) m_range (fa_cons fe_int fa_nil)) (blkOk_by (own := [("_law_again", 13)]) (N := n_law) (sc := defScope s_law) (by decide +kernel)) (gok_name (by decide)) rfl (fun _ _ _ _ _ => pg_name (i := 13) nd rfl (.inl rfl)) (fun _ _ _ _ _ => fts_nil) (fun _ _ _ _ _ => (fe_fc F__law_heard (hr.mono (by decide)) (by rfl) (fa_cons (fe_var 9) (fa_cons (fe_var 10) (fa_cons (fe_var 8) fa_nil))) (argN_cons (argN_cons (argN_cons argN_nil)))))) (fa_cons (fe_lst (fa_cons (fe_var 11) (fa_cons (fe_var 11) fa_nil))) fa_nil)) (argN_cons (argN_cons argN_nil))))) (fss_one (fs_ret fe_bl)) fss_nil)))) fss_nil))))))))))))))))))
      (fss_one (fs_ret (fe_and (fe_fcG F__law_alike hq (hr.mono (by decide)) (by rfl) (fa_cons (fe_fcx F_steps_on (hr.mono (by decide)) takes0 (by rfl) (fa_cons (fe_tup fa_nil) (fa_cons fe_int fa_nil)) (argN_cons (argN_cons argN_nil))) (fa_cons fe_int fa_nil)) (argN_cons (argN_cons argN_nil))) (fe_one (fe_eq hr.units (fe_fc F__law_heard (hr.mono (by decide)) (by rfl) (fa_cons fe_int (fa_cons (fe_tup (fa_cons (fe_tup (fa_cons fe_str (fa_cons fe_int fa_nil))) (fa_cons (fe_tup (fa_cons fe_str (fa_cons fe_int fa_nil))) fa_nil))) (fa_cons fe_int fa_nil))) (argN_cons (argN_cons (argN_cons argN_nil)))) (fe_tup (fa_cons fe_str (fa_cons fe_int fa_nil))))))))))⟩) (T.All_eq ▸ hd)
end K17

set_option maxHeartbeats 4000000
namespace K17
open PySem PySem.Spec L2 DL
variable {P : Program} {w : World} {K : PySem.W.Frag} {mg : Str → Option Value} {base : Heap}
abbrev sTake : Stmt := topS 8
abbrev nTake : List Str := ["_law_bag_here", "_law_many", "_law_cell", "_law_mixed", "_law_drawn", "_law_begin", "_law_second"]
theorem scTake : FnScope nTake ["_law_bag_here", "_law_many"] (defScope sTake) := ⟨rfl, rfl, rfl, by decide +kernel, rfl, by decide +kernel, by decide +kernel⟩
abbrev sBag : Stmt := topS 7
theorem scBag : FnScope ["_law_script", "_law_cell"] ["_law_script"] (defScope sBag) := ⟨rfl, rfl, rfl, by decide +kernel, rfl, by decide +kernel, by decide +kernel⟩
def BagAt (H0 H : Hp) (b c : Addr) (x y z : Int) : Prop := H = upd H0 b (.lst [.int x, .int y, .int z, .ref c])
theorem upd_self {H : Hp} {b : Addr} {o : HO} (h : H b = some o) : upd H b o = H := by
  funext a; unfold upd; split
  · rename_i e; subst e; exact h.symm
  · rfl
theorem mod_le {i j : Int} (h : 0 < j) : 0 ≤ i % j ∧ i % j < j := ⟨Int.emod_nonneg i (by omega), Int.emod_lt_of_pos i h⟩
theorem ok_take {f : Addr} {fd : FuncData} {k : Nat} (F : Fun K "_law_take" "_law_take" sTake f fd) (ml : mg "len" = none) (mi : mg "int" = none) : FnOk P w K mg base CX0 (k + 1) f fd ["_law_bag_here", "_law_many"] (spOf K takeS) := by
  refine F.ok scTake (fun vs H Q E h => ?_) (fun cdv A outer s H vs Q E hr h => ?_)
  · obtain ⟨bo, G, rs, P, Xc, _, _, ha, ⟨n, rfl, _⟩, _⟩ := h
    rw [ha.1]; rfl
  · obtain ⟨bo, G, rs, P, Xc, hg, hb, ha, ⟨n, rfl, n0, n1, hp⟩, hq, _⟩ := h
    obtain ⟨v0, r0, rfl, a0, ha⟩ := ha.cons_right
    obtain ⟨v1, r1, rfl, a1, ha⟩ := ha.cons_right
    rw [ha.nil_right]
    obtain ⟨b, rfl, rfl⟩ := a0
    have a1 : Den K G v1 (.int n) := a1
    obtain rfl := a1.of_int
    obtain ⟨gb, x, y, z, c, ns, hHb, hGc, b1, b2, b3, b4, b5⟩ := hb b rfl
    have hHc := hg _ _ hGc
    have ncb : c ≠ b := by rintro rfl; rw [gb] at hGc; cases hGc
    have nd := scTake.nd
    refine ⟨_, Evl.pss_cut (ps_if (pt_cmpR op_eq (pe_ix ix_list (pv 0) pe_int (fun _ _ => rfl)) pe_int (nomark _))
      (pss_cons (ps_set (i := 2) nd rfl (.inl rfl) pe_int)
      (Evl.pss_cut (ps_if (pt_cmpR op_lt (pe_ix ix_list (pv 0) pe_int (fun _ _ => rfl)) (pe_callB call_len_seq (by rfl) ml PySem.boot_len (pa_cons (pe_ix ix_list (pv 0) pe_int (fun _ _ => rfl)) pa_nil)) (nomark _))
        (pss_one (ps_set (i := 2) nd rfl (.inl rfl) (pe_ix ix_list (pe_ix ix_list (pv 0) pe_int (fun _ _ => rfl)) (pe_ix ix_list (pv 0) pe_int (fun _ _ => rfl)) (fun _ _ => rfl)))) pss_nil)
      (pss_cons (ps_augS (pv 0) pe_int get_listG pe_int ip_add set_list)
      (Evl.pss_cut (ps_if (pt_cmpR op_ge (pv 2) (pe_op op_pow pe_int pe_int) (nomark _)) (pss_one (ps_asg (pv 2) (pg_sub (pv 0) pe_int set_list))) pss_nil)
      (pss_cons (ps_set (i := 3) nd rfl (.inl rfl) (pe_op op_add (pe_op op_add (pe_op op_mul (pe_ix ix_list (pv 0) pe_int (fun _ _ => rfl)) pe_int) (pe_op op_mod (pe_callTy call_int1 (by rfl) mi (by decide +kernel) (pa_cons (pv 2) pa_nil)) pe_int)) (pe_op op_mul pe_int (pe_ix ix_list (pv 0) pe_int (fun _ _ => rfl)))))
      (pss_one (ps_asg (pe_op op_mod (pe_callTy call_int1 (by rfl) mi (by decide +kernel) (pa_cons (pv 3) pa_nil)) pe_int) (pg_sub (pv 0) pe_int set_list)))))))) pss_nil)
      (pss_cons (ps_if (pt_cmpR op_gt (pe_ix ix_list (pv 0) pe_int (fun _ _ => rfl)) pe_int (nomark _))
        (pss_cons (ps_set (i := 4) nd rfl (.inl rfl) (pe_op op_mod (pe_callTy call_int1 (by rfl) mi (by decide +kernel) (pa_cons (pe_ix ix_list (pv 0) pe_int (fun _ _ => rfl)) pa_nil)) (pv 1)))
        (pss_cons (ps_asg (pe_op op_fdiv (pe_ix ix_list (pv 0) pe_int (fun _ _ => rfl)) (pv 1)) (pg_sub (pv 0) pe_int set_list))
        (pss_one (ps_ret (pv 4))))) pss_nil)
      (pss_cons (ps_set (i := 5) nd rfl (.inl rfl) (pe_op op_mod (pe_callTy call_int1 (by rfl) mi (by decide +kernel) (pa_cons (pe_op op_mul (pe_op op_add (pe_ix ix_list (pv 0) pe_int (fun _ _ => rfl)) pe_int) pe_int) pa_nil)) pe_int))
      (pss_cons (ps_set (i := 6) nd rfl (.inl rfl) (pe_op op_mod (pe_callTy call_int1 (by rfl) mi (by decide +kernel) (pa_cons (pe_op op_mul (pe_op op_mod (pe_callTy call_int1 (by rfl) mi (by decide +kernel) (pa_cons (pe_op op_mul (pv 5) (pv 5)) pa_nil)) pe_int) pe_int) pa_nil)) pe_int))
      (pss_one (ps_ret (pe_op op_mod (pe_callTy call_int1 (by rfl) mi (by decide +kernel) (pa_cons (pe_op op_fdiv (pv 6) pe_int) pa_nil)) (pv 1))))))), ?_⟩
    rw [← upd_self hHb]
    have gB : ∀ (x y z : Int), (upd H b (.lst [.int x, .int y, .int z, .ref c])) c = some (.lst (ns.map V.int)) := fun x y z => by rw [upd_ne ncb]; exact hHc
    have sq : ∀ (x y z : Int), SqL K (upd H b (.lst [.int x, .int y, .int z, .ref c])) b [.int x, .int y, .int z, .ref c] := fun x y z => .of upd_same
    refine ⟨fun σ H1 => ∃ (x' y' z' : Int) (s2 s3 : Option V), σ = [some (.ref b), some (.int n), s2, s3, none, none, none] ∧ H1 = upd H b (.lst [.int x', .int y', .int z', .ref c]) ∧ 0 ≤ x' ∧ 0 ≤ y' ∧ y' < 2147483647 ∧ 0 ≤ z', ?_, ?_⟩
    · -- the first if
      refine ⟨.ref b, rfl, b, _, 0, _, rfl, rfl, sq x y z, atI_nat (j := 0) rfl, rfl, _, rfl, ite2 (fun e => ?_) (fun e => ?_)⟩
      · -- cell = 0
        refine ⟨fun σ H1 => ∃ (cell : Int), σ = [some (.ref b), some (.int n), some (.int cell), none, none, none, none] ∧ H1 = upd H b (.lst [.int x, .int y, .int z, .ref c]) ∧ 0 ≤ cell, ?_, ?_⟩
        · refine ⟨.ref b, rfl, b, _, 2, _, rfl, rfl, sq x y z, atI_nat (j := 2) rfl, .ref b, rfl, b, _, 3, _, rfl, rfl, sq x y z, atI_nat (j := 3) rfl, c, _, rfl, .inl (.of (gB x y z)), z, _, rfl, rfl, _, rfl, ite2 (fun e => ?_) (fun e => ?_)⟩
          · have hz : z.toNat < ns.length := by
              have := of_decide_eq_true e
              rw [List.length_map] at this
              omega
            have hc : (ns.map V.int)[z.toNat]? = some (.int ns[z.toNat]) := by rw [List.getElem?_map, List.getElem?_eq_getElem hz]; rfl
            refine ⟨.ref b, rfl, b, _, 3, _, rfl, rfl, sq x y z, atI_nat (j := 3) rfl, .ref b, rfl, b, _, 2, _, rfl, rfl, sq x y z, atI_nat (j := 2) rfl, c, _, z, _, rfl, rfl, .of (gB x y z), ?_, _, rfl, rfl, b5 _ (List.getElem_mem hz)⟩
            have := atI_nat hc
            rwa [Int.toNat_of_nonneg b4] at this
          · exact ⟨0, rfl, rfl, Int.le_refl 0⟩
        · rintro σ H1 ⟨cell, rfl, rfl, hcell⟩
          -- bag[2] += 1
          refine ⟨.ref b, rfl, b, _, 2, _, rfl, rfl, sq x y z, rfl, by decide, z, 1, rfl, rfl, b, _, 2, 2, rfl, rfl, upd_same, rfl, ?_⟩
          rw [upd_upd]
          refine ⟨fun σ H1 => ∃ (x' : Int), σ = [some (.ref b), some (.int n), some (.int cell), none, none, none, none] ∧ H1 = upd H b (.lst [.int x', .int y, .int (z + 1), .ref c]) ∧ 0 ≤ x', ?_, ?_⟩
          · refine ⟨_, rfl, 10, 18, rfl, rfl, ⟨by decide, by decide, by decide⟩, cell, _, rfl, rfl, _, rfl, ite2 (fun e => ?_) (fun e => ?_)⟩
            · refine ⟨_, rfl, .ref b, rfl, b, _, 0, 0, rfl, rfl, upd_same, rfl, cell, rfl, ?_, hcell⟩
              rw [upd_upd]; rfl
            · exact ⟨x, rfl, rfl, b1⟩
          · rintro σ H1 ⟨x', rfl, rfl, hx'⟩
            refine ⟨.ref b, rfl, b, _, 1, _, rfl, rfl, sq x' y (z + 1), atI_nat (j := 1) rfl, y, 48271, rfl, rfl, .inr ⟨by decide, by decide⟩, _, rfl, .inl ⟨cell, rfl, cell, 2147483647, rfl, rfl, (show (0 : Int) < 2147483647 by decide), _, _, rfl, rfl, .ref b, rfl, b, _, 2, _, rfl, rfl, sq x' y (z + 1), atI_nat (j := 2) rfl, 7919, z + 1, rfl, rfl, .inl ⟨by decide, by decide⟩, _, _, rfl, rfl, ?_⟩⟩
            refine ⟨_, rfl, .inl ⟨_, rfl, _, 2147483647, rfl, rfl, (show (0 : Int) < 2147483647 by decide), .ref b, rfl, b, _, 1, 1, rfl, rfl, upd_same, rfl, x', (y * 48271 + cell % 2147483647 + 7919 * (z + 1)) % 2147483647, z + 1, _, _, rfl, ?_, hx', (mod_le (by decide)).1, (mod_le (by decide)).2, by omega⟩⟩
            rw [upd_upd]; rfl
      · exact ⟨x, y, z, none, none, rfl, rfl, b1, b2, b3, b4⟩
    · rintro σ H1 ⟨x', y', z', s2, s3, rfl, rfl, c1, c2, c3, c4⟩
      refine ⟨.ref b, rfl, b, _, 0, _, rfl, rfl, sq x' y' z', atI_nat (j := 0) rfl, x', 0, rfl, rfl, _, rfl, ite2 (fun e => ?_) (fun e => ?_)⟩
      · refine ⟨.ref b, rfl, b, _, 0, _, rfl, rfl, sq x' y' z', atI_nat (j := 0) rfl, .inl ⟨x', rfl, _, rfl, x', n, rfl, rfl, n0, ?_⟩⟩
        refine ⟨.ref b, rfl, b, _, 0, _, rfl, rfl, sq x' y' z', atI_nat (j := 0) rfl, _, rfl, x', n, rfl, rfl, ⟨n0, n1⟩, .ref b, rfl, b, _, 0, 0, rfl, rfl, upd_same, rfl, _, rfl, ?_⟩
        rw [upd_upd]
        exact hq _ _ G _ (hp _ (mod_le n0).1 (mod_le n0).2) (take_fin (x := x' / n) (y := y') (z := z') rfl hg gb hGc (Int.ediv_nonneg c1 (by omega)) c2 c3 c4 b5) (Den.int _)
      · refine ⟨.ref b, rfl, b, _, 1, _, rfl, rfl, sq x' y' z', atI_nat (j := 1) rfl, y', 1, rfl, rfl, _, 39373, rfl, rfl, .inr ⟨by decide, by decide⟩, .inl ⟨_, rfl, _, 1000000007, rfl, rfl, (show (0 : Int) < 1000000007 by decide), ?_⟩⟩
        have hb := mod_le (i := (y' + 1) * 39373) (j := 1000000007) (by decide)
        refine ⟨_, rfl, _, rfl, (y' + 1) * 39373 % 1000000007, (y' + 1) * 39373 % 1000000007, rfl, rfl, .inl ⟨by omega, by omega⟩, .inl ⟨_, rfl, _, 998244353, rfl, rfl, (show (0 : Int) < 998244353 by decide), _, 30011, rfl, rfl, .inr ⟨by decide, by decide⟩, .inl ⟨_, rfl, _, 998244353, rfl, rfl, (show (0 : Int) < 998244353 by decide), ?_⟩⟩⟩
        refine ⟨_, rfl, _, 7, rfl, rfl, ⟨by decide, by decide⟩, .inl ⟨_, rfl, _, rfl, _, n, rfl, rfl, n0, ?_⟩⟩
        exact hq _ _ G _ (hp _ (mod_le n0).1 (mod_le n0).2) (take_fin (x := x') (y := y') (z := z') rfl hg gb hGc c1 c2 c3 c4 b5) (Den.int _)

theorem ok_bag {f : Addr} {fd : FuncData} {k : Nat} (F : Fun K "_law_bag" "_law_bag" sBag f fd) (ma : mg "abs" = none) : FnOk P w K mg base CX0 (k + 1) f fd ["_law_script"] (spBag K) := by
  refine F.ok scBag (fun vs H Q E h => ?_) (fun cdv A outer s H vs Q E hr h => ?_)
  · obtain ⟨a, ns, rfl, _⟩ := h; rfl
  · obtain ⟨a, ns, rfl, sq, l, q⟩ := h
    have nd := scBag.nd
    refine ⟨_, pss_one (ps_ret (pe_lst (pa_cons pe_int (pa_cons pe_int (pa_cons pe_int (pa_cons (pe_lc (own := [("_law_cell", 1)]) (g := gName 1) (tt := tYes) rfl nd (pi_list (pe_slice sl_list (pv 0) po_none (po_some pe_int)))
      (blkOk_by (own := [("_law_cell", 1)]) (N := ["_law_script", "_law_cell"]) (sc := defScope sBag) (by decide +kernel)) (fun _ _ _ _ _ => pg_name (i := 1) nd rfl (.inl rfl)) (fun _ _ _ _ _ => pts_nil)
      (fun _ _ _ _ _ => pe_callB call_abs (by rfl) ma (by decide +kernel) (pa_cons (pv 1) pa_nil))) pa_nil)))))), ?_⟩
    refine ⟨.ref a, rfl, 63, rfl, a, _, rfl, sq, fun b hb => ?_⟩
    have eb : (upd H b (.lst (cutV (ns.map V.int) none (some 63)))) b = some (.lst (cutV (ns.map V.int) none (some 63))) := upd_same
    have ec : cutV (ns.map V.int) none (some 63) = ((ns.take 63).map V.int) := by
      unfold cutV
      rw [HT.sIx_none, List.drop_zero, Nat.sub_zero, show HT.sIx (ns.map V.int).length (ns.map V.int).length (some 63) = min 63 (ns.map V.int).length from HT.sIx_nat _ _ 63, List.length_map, List.map_take]
      rw [Nat.min_eq_right l, List.take_of_length_le (by rw [List.length_map]; exact Nat.le_refl _), List.take_of_length_le (by rw [List.length_map]; exact l)]
    rw [ec] at eb ⊢
    have lm : (ns.take 63).length ≤ 63 := by rw [List.length_take]; exact Nat.min_le_left _ _
    generalize ns.take 63 = ms at eb lm ⊢
    refine ⟨b, rfl, ⟨_, .of eb⟩, fun c hc => ?_⟩
    have nbc : b ≠ c := ne_of_none eb hc
    let f : Int → Int := fun i => if i < 0 then -i else i
    refine lc_list (xs := ms.map V.int) (fun i H' => H' b = some (.lst (ms.map V.int)) ∧ H' c = some (.lst ((ms.take i).map fun n => V.int (f n)))) ⟨by rw [upd_ne nbc]; exact eb, by rw [upd_same]; rfl⟩ (fun i H' _ p => .of p.1) (fun i x H' hx p => ?_) (fun H' p => ?_)
    · obtain ⟨n, hn, rfl⟩ : ∃ n, ms[i]? = some n ∧ V.int n = x := by rw [List.getElem?_map] at hx; exact Option.map_eq_some_iff.mp hx
      refine ⟨rfl, _, rfl, n, rfl, _, p.2, ?_, by rw [upd_ne nbc]; exact p.1, ?_⟩
      · rw [List.length_map, List.length_take]
        exact Nat.lt_of_le_of_lt (Nat.min_le_right _ _) (Nat.lt_of_le_of_lt lm (by decide))
      · rw [upd_same, List.take_add_one, hn, List.map_append]; rfl
    · refine ⟨by show 4 ≤ sizeLine; decide, fun p' hp' => ?_⟩
      have np : c ≠ p' := ne_of_none p.2 hp'
      refine q p' c (ms.map f) _ np.symm upd_same (by rw [upd_ne np, p.2, List.length_map, List.take_length, List.map_map]; rfl) fun m hm => ?_
      obtain ⟨n, _, rfl⟩ := List.mem_map.mp hm
      show 0 ≤ (if n < 0 then -n else n)
      split <;> omega

abbrev i_Errs : Stmt := inClass (topS 2) 0
theorem sci_Errs : FnScope ["self", "number"] ["self", "number"] (defScope i_Errs) := ⟨rfl, rfl, rfl, by decide +kernel, rfl, by decide +kernel, by decide +kernel⟩
def D_fn : List He.DefD := [
  ⟨("_law_take", none), "_law_take", "_law_take", defArgs sTake, defBody sTake, defScope sTake, [], []⟩,
  ⟨("_law_bag", none), "_law_bag", "_law_bag", defArgs sBag, defBody sBag, defScope sBag, [], []⟩,
  ⟨("step_on", none), "step_on", "step_on", defArgs s_step_on, defBody s_step_on, defScope s_step_on, [], []⟩,
  ⟨("steps_on", none), "steps_on", "steps_on", defArgs s_steps_on, defBody s_steps_on, defScope s_steps_on, [], []⟩,
  ⟨("_law_alike", none), "_law_alike", "_law_alike", defArgs s__law_alike, defBody s__law_alike, defScope s__law_alike, [], []⟩,
  ⟨("_law_one", none), "_law_one", "_law_one", defArgs s__law_one, defBody s__law_one, defScope s__law_one, [], []⟩,
  ⟨("_law_number", none), "_law_number", "_law_number", defArgs s__law_number, defBody s__law_number, defScope s__law_number, [], []⟩,
  ⟨("_law_step", none), "_law_step", "_law_step", defArgs s__law_step, defBody s__law_step, defScope s__law_step, [], []⟩,
  ⟨("_law_led", none), "_law_led", "_law_led", defArgs s__law_led, defBody s__law_led, defScope s__law_led, [], []⟩,
  ⟨("_law_steps_drawn", none), "_law_steps_drawn", "_law_steps_drawn", defArgs s__law_steps_drawn, defBody s__law_steps_drawn, defScope s__law_steps_drawn, [], []⟩,
  ⟨("_law_erred", none), "_law_erred", "_law_erred", defArgs s__law_erred, defBody s__law_erred, defScope s__law_erred, [], []⟩,
  ⟨("_law_heard", none), "_law_heard", "_law_heard", defArgs s__law_heard, defBody s__law_heard, defScope s__law_heard, [], []⟩,
  ⟨("law", none), "law", "law", defArgs s_law, defBody s_law, defScope s_law, [], []⟩,
  ⟨("Errs", some "__init__"), "__init__", "Errs.__init__", defArgs i_Errs, defBody i_Errs, defScope i_Errs, [], []⟩]
def D_ex : List (PySem.W.Frag → Bool) := [
  fun K => gloB K "_law_take",
  fun K => gloB K "_law_bag",
  fun K => gloB K "step_on",
  fun K => gloB K "steps_on",
  fun K => gloB K "_law_alike",
  fun K => gloB K "_law_one",
  fun K => gloB K "_law_number",
  fun K => gloB K "_law_step",
  fun K => gloB K "_law_led",
  fun K => gloB K "_law_steps_drawn",
  fun K => gloB K "_law_erred",
  fun K => gloB K "_law_heard",
  fun K => gloB K "law",
  fun K => freeB K "abs",
  fun K => freeB K "dict",
  fun K => freeB K "enumerate",
  fun K => freeB K "int",
  fun K => freeB K "len",
  fun K => freeB K "list",
  fun K => freeB K "max",
  fun K => freeB K "range",
  fun K => freeB K "repr",
  fun K => freeB K "tuple",
  fun K => errB K "Errs" "number"]
abbrev RowX : PySem.W.OpenRow := PySem.W.OpenLaw.row PySem.Challenge.rw_refusedahead_k17_numbers_led_on
abbrev Hk : PySem.W.Hook := hookE 5 D_fn D_ex
def Ob (s : PySem.W.SharedT) : He.AlD × Bool := obsE 5 D_fn D_ex (HandSHeadRun.getT s)
theorem Ob_eq (s : PySem.W.SharedT) : Ob s = Hk.obs s.abs := obsE_eq (HandSHeadRun.getT_eq s)
def Loose : List Str := (["AskError", "Errs", "step_on", "steps_on", "_law_bag", "_law_take", "_law_alike", "_law_one", "_law_number", "_law_step", "_law_led", "_law_steps_drawn", "_law_erred", "_law_heard"] : List Str)
set_option maxHeartbeats 0 in
theorem Run (w : World) : HandSHeadRun.RunEq RowX (PySem.W.view RowX.prog [17]) Hk Ob 4000 Loose w := by
  intro os
  kernel_rfl
theorem facts {P : Program} {w : World} {K : PySem.W.Frag} {h : Heap} {mg : Str → Option Value} {f : Addr} (X : K.In h) (G : h.Ns mainGlobals mg) (hfa : mg ("law" : Str) = some (.ref f)) (c : SaysE D_fn D_ex K) :
    ∃ fd : FuncData, (∀ (s : Shared) (v : Value), BindsTo s fd ⟨[v], []⟩ [("_law_script", v)]) ∧ ∀ base : Heap, K.In base → base.Ns mainGlobals mg → FnG P w K mg base CX0 7 f fd ["_law_script"] (spLaw K) := by
  obtain ⟨d__law_take, D__law_take⟩ := c.d.def_ 0 (d := ⟨("_law_take", none), "_law_take", "_law_take", defArgs sTake, defBody sTake, defScope sTake, [], []⟩) rfl
  obtain ⟨d__law_bag, D__law_bag⟩ := c.d.def_ 1 (d := ⟨("_law_bag", none), "_law_bag", "_law_bag", defArgs sBag, defBody sBag, defScope sBag, [], []⟩) rfl
  obtain ⟨d_step_on, D_step_on⟩ := c.d.def_ 2 (d := ⟨("step_on", none), "step_on", "step_on", defArgs s_step_on, defBody s_step_on, defScope s_step_on, [], []⟩) rfl
  obtain ⟨d_steps_on, D_steps_on⟩ := c.d.def_ 3 (d := ⟨("steps_on", none), "steps_on", "steps_on", defArgs s_steps_on, defBody s_steps_on, defScope s_steps_on, [], []⟩) rfl
  obtain ⟨d__law_alike, D__law_alike⟩ := c.d.def_ 4 (d := ⟨("_law_alike", none), "_law_alike", "_law_alike", defArgs s__law_alike, defBody s__law_alike, defScope s__law_alike, [], []⟩) rfl
  obtain ⟨d__law_one, D__law_one⟩ := c.d.def_ 5 (d := ⟨("_law_one", none), "_law_one", "_law_one", defArgs s__law_one, defBody s__law_one, defScope s__law_one, [], []⟩) rfl
  obtain ⟨d__law_number, D__law_number⟩ := c.d.def_ 6 (d := ⟨("_law_number", none), "_law_number", "_law_number", defArgs s__law_number, defBody s__law_number, defScope s__law_number, [], []⟩) rfl
  obtain ⟨d__law_step, D__law_step⟩ := c.d.def_ 7 (d := ⟨("_law_step", none), "_law_step", "_law_step", defArgs s__law_step, defBody s__law_step, defScope s__law_step, [], []⟩) rfl
  obtain ⟨d__law_led, D__law_led⟩ := c.d.def_ 8 (d := ⟨("_law_led", none), "_law_led", "_law_led", defArgs s__law_led, defBody s__law_led, defScope s__law_led, [], []⟩) rfl
  obtain ⟨d__law_steps_drawn, D__law_steps_drawn⟩ := c.d.def_ 9 (d := ⟨("_law_steps_drawn", none), "_law_steps_drawn", "_law_steps_drawn", defArgs s__law_steps_drawn, defBody s__law_steps_drawn, defScope s__law_steps_drawn, [], []⟩) rfl
  obtain ⟨d__law_erred, D__law_erred⟩ := c.d.def_ 10 (d := ⟨("_law_erred", none), "_law_erred", "_law_erred", defArgs s__law_erred, defBody s__law_erred, defScope s__law_erred, [], []⟩) rfl
  obtain ⟨d__law_heard, D__law_heard⟩ := c.d.def_ 11 (d := ⟨("_law_heard", none), "_law_heard", "_law_heard", defArgs s__law_heard, defBody s__law_heard, defScope s__law_heard, [], []⟩) rfl
  obtain ⟨d_law, D_law⟩ := c.d.def_ 12 (d := ⟨("law", none), "law", "law", defArgs s_law, defBody s_law, defScope s_law, [], []⟩) rfl
  obtain ⟨d_Errs, D_Errs⟩ := c.d.def_ 13 (d := ⟨("Errs", some "__init__"), "__init__", "Errs.__init__", defArgs i_Errs, defBody i_Errs, defScope i_Errs, [], []⟩) rfl
  have U__law_take : Fun K "_law_take" "_law_take" sTake _ _ := fun_of D__law_take
  have U__law_bag : Fun K "_law_bag" "_law_bag" sBag _ _ := fun_of D__law_bag
  have U_step_on : Fun K "step_on" "step_on" s_step_on _ _ := fun_of D_step_on
  have U_steps_on : Fun K "steps_on" "steps_on" s_steps_on _ _ := fun_of D_steps_on
  have U__law_alike : Fun K "_law_alike" "_law_alike" s__law_alike _ _ := fun_of D__law_alike
  have U__law_one : Fun K "_law_one" "_law_one" s__law_one _ _ := fun_of D__law_one
  have U__law_number : Fun K "_law_number" "_law_number" s__law_number _ _ := fun_of D__law_number
  have U__law_step : Fun K "_law_step" "_law_step" s__law_step _ _ := fun_of D__law_step
  have U__law_led : Fun K "_law_led" "_law_led" s__law_led _ _ := fun_of D__law_led
  have U__law_steps_drawn : Fun K "_law_steps_drawn" "_law_steps_drawn" s__law_steps_drawn _ _ := fun_of D__law_steps_drawn
  have U__law_erred : Fun K "_law_erred" "_law_erred" s__law_erred _ _ := fun_of D__law_erred
  have U__law_heard : Fun K "_law_heard" "_law_heard" s__law_heard _ _ := fun_of D__law_heard
  have U_law : Fun K "law" "law" s_law _ _ := fun_of D_law
  have U_Errs : Fun K "__init__" "Errs.__init__" i_Errs _ _ := fun_of D_Errs
  have g__law_take := glo_of X G (x := "_law_take") (c.at 0)
  have g__law_bag := glo_of X G (x := "_law_bag") (c.at 1)
  have g_step_on := glo_of X G (x := "step_on") (c.at 2)
  have g_steps_on := glo_of X G (x := "steps_on") (c.at 3)
  have g__law_alike := glo_of X G (x := "_law_alike") (c.at 4)
  have g__law_one := glo_of X G (x := "_law_one") (c.at 5)
  have g__law_number := glo_of X G (x := "_law_number") (c.at 6)
  have g__law_step := glo_of X G (x := "_law_step") (c.at 7)
  have g__law_led := glo_of X G (x := "_law_led") (c.at 8)
  have g__law_steps_drawn := glo_of X G (x := "_law_steps_drawn") (c.at 9)
  have g__law_erred := glo_of X G (x := "_law_erred") (c.at 10)
  have g__law_heard := glo_of X G (x := "_law_heard") (c.at 11)
  have g_law := glo_of X G (x := "law") (c.at 12)
  have m_abs := free_of X G (x := "abs") (c.at 13)
  have m_dict := free_of X G (x := "dict") (c.at 14)
  have m_enumerate := free_of X G (x := "enumerate") (c.at 15)
  have m_int := free_of X G (x := "int") (c.at 16)
  have m_len := free_of X G (x := "len") (c.at 17)
  have m_list := free_of X G (x := "list") (c.at 18)
  have m_max := free_of X G (x := "max") (c.at 19)
  have m_range := free_of X G (x := "range") (c.at 20)
  have m_repr := free_of X G (x := "repr") (c.at 21)
  have m_tuple := free_of X G (x := "tuple") (c.at 22)
  have e := hfa.symm.trans g_law
  cases e
  have b := FunD.bindsA (ps := ["_law_script"]) D_law (fun _ _ _ _ _ _ us hl => match us, hl with | [_], _ => rfl)
  refine ⟨d_law, fun s v => b s [v] rfl, fun base _ _ => ?_⟩
  have F_take0 : FnOk P w K mg base CX0 1 _ _ ["_law_bag_here", "_law_many"] (spOf K takeS) := ok_take (k := 0) U__law_take m_len m_int
  have F__law_take := take_fc (x := "_law_take") F_take0 g__law_take U__law_take.kp (U__law_take.binds (ps := ["_law_bag_here", "_law_many"]) (fun _ _ _ _ _ _ us hl => match us, hl with | [_, _], _ => rfl))
  have B : ∃ (fb : Addr) (fdb : FuncData), FnOk P w K mg base CX0 1 fb fdb ["_law_script"] (spBag K) ∧ mg "_law_bag" = some (.ref fb) ∧ PySem.W.keepIn K (.ref fb) = true ∧ Binds K fdb ["_law_script"] [] := ⟨_, _, ok_bag (k := 0) U__law_bag m_abs, g__law_bag, U__law_bag.kp, U__law_bag.binds (ps := ["_law_script"]) (fun _ _ _ _ _ _ us hl => match us, hl with | [_], _ => rfl)⟩
  have T_Errs : ErrC P w K mg base "Errs" (He.ga K "Errs") "number" := errC_of (g := "number") X G (c.at 23) U_Errs sci_Errs rfl (U_Errs.binds (ps := ["self", "number"]) (fun _ _ _ _ _ _ us hl => match us, hl with | [_, _], _ => rfl)) (fun cdv A outer s H E => pss_one (ps_ost (pv 0) (pv 1)))
  have F_step_on := fc_step_on (P := P) (w := w) (base := base) ⟨_, _, U_step_on, g_step_on⟩ T_Errs
  have F_steps_on := fc_steps_on (P := P) (w := w) (base := base) ⟨_, _, U_steps_on, g_steps_on⟩ F_step_on
  have F__law_alike := fc__law_alike (P := P) (w := w) (base := base) ⟨_, _, U__law_alike, g__law_alike⟩ m_repr
  have F__law_one := fc__law_one (P := P) (w := w) (base := base) ⟨_, _, U__law_one, g__law_one⟩ F__law_take m_len
  have F__law_number := fc__law_number (P := P) (w := w) (base := base) ⟨_, _, U__law_number, g__law_number⟩ F__law_take
  have F__law_step := fc__law_step (P := P) (w := w) (base := base) ⟨_, _, U__law_step, g__law_step⟩ F__law_number F__law_one F__law_take m_abs m_max m_range m_tuple
  have F__law_led := fc__law_led (P := P) (w := w) (base := base) ⟨_, _, U__law_led, g__law_led⟩ m_dict
  have F__law_steps_drawn := fc__law_steps_drawn (P := P) (w := w) (base := base) ⟨_, _, U__law_steps_drawn, g__law_steps_drawn⟩ F__law_step F__law_take m_range m_tuple
  have F__law_erred := fc__law_erred (P := P) (w := w) (base := base) ⟨_, _, U__law_erred, g__law_erred⟩ F__law_led m_enumerate
  have F__law_heard := fc__law_heard (P := P) (w := w) (base := base) ⟨_, _, U__law_heard, g__law_heard⟩ F_step_on F_steps_on T_Errs
  exact fn_law_here U_law B F__law_alike F__law_erred F__law_heard F__law_led F__law_number F__law_steps_drawn F__law_take F_steps_on m_list m_range (law_all (He.ga K "Errs"))
end K17
open PySem PySem.W PySem.Calls PyProof.Rows
set_option maxHeartbeats 0 in
theorem PySem.Challenge.cw_refusedahead_k17_numbers_led_on_holds : PySem.Challenge.rw_refusedahead_k17_numbers_led_on.Holds := by
  w_on; o_law
  refine HandSHeadRun.head_any (r := OpenLaw.row PySem.Challenge.rw_refusedahead_k17_numbers_led_on) (q := view (OpenLaw.row PySem.Challenge.rw_refusedahead_k17_numbers_led_on).prog [17]) (H := K17.Hk) (ob := K17.Ob) (M := 4000) (loose := K17.Loose) (d := HandSHeadRun.topDef (OpenLaw.row PySem.Challenge.rw_refusedahead_k17_numbers_led_on).prog 17) (kwd := []) K17.Ob_eq
    (by kernel_rfl) (fun s => by kernel_rfl) K17.Run (by kernel_rfl) (by kernel_rfl) (by kernel_rfl) (by rfl) (by first | assumption | decide +kernel) (by decide +kernel) ⟨rfl, rfl, rfl, rfl, rfl, by decide +kernel⟩ ?hw ?hc
  case hw => w_witness2
  case hc =>
    refine DL.law_quiet (l := PySem.Challenge.rw_refusedahead_k17_numbers_led_on) (n := 63) (k := 7) (x := "_law_script") rfl (by decide) (by kernel_rfl) ⟨rfl, by decide, by decide⟩ ?F
    intro w mg fa h Y G hmg0
    obtain ⟨K, KX, c⟩ := Y
    have hmg : mg ("law" : PySem.Str) = some (.ref fa) := by
      have e : (HandSHeadRun.topDef (OpenLaw.row PySem.Challenge.rw_refusedahead_k17_numbers_led_on).prog 17).name = ("law" : PySem.Str) := by kernel_rfl
      rw [← e]
      exact hmg0
    obtain ⟨fd, hb, hF⟩ := K17.facts (P := (PySem.Challenge.rw_refusedahead_k17_numbers_led_on).prog) (w := w) KX G hmg c
    exact ⟨K, fd, DL.spLaw K, KX, hb, fun H a ns hl _ hS => ⟨a, ns, rfl, hS, hl, fun _ => rfl⟩, hF⟩
