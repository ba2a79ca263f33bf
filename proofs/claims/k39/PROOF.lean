import PyProof.Rows.All
import Wide.All
import OpenK.AllK
import Wide.FinOn
import HandS.ForMost
import HandS.IsInst
import HandS.Zip
import HandS.Property
import HandS.TupAny
import HandS.Style
import HandS.Defaults
import HandS.MakeKw
import HandS.MakeKwOnly
import KE.GoesEnum
import PySem.Challenge.RW_cornersure_k39_whole_rows_by_answers
set_option Elab.async false
set_option linter.all false
set_option maxRecDepth 100000
set_option maxHeartbeats 4000000
/-! Data judgements over the layer: values told by data, heaps out of sight. -/
namespace Cs
open PySem PySem.Spec PyProof.Rows L2

inductive Dt where
  | int (i : Int) | bl (b : Bool) | non | str (x : Str)
  | tup (ds : List Dt) | lst (ds : List Dt) | acc (ds : List Dt)
  | tab (c r : Dt) | pail | ty (n : String) | cls

/-- what stays while a def runs: the written part, the table's class, the pail, what data must not be -/
structure Wc where
  K : PySem.W.Frag
  C : Addr
  p : Addr
  av : List Addr

def tabF (c r : V) : List (Str × V) := [("heads", c), ("lines", r)]
mutual
def Is (W : Wc) (H : Hp) : Dt → V → Prop
  | .int i, v => v = .int i
  | .bl b, v => v = .bl b
  | .non, v => v = .non
  | .str x, v => v = .str x
  | .tup ds, v => ∃ a vs, v = .ref a ∧ a ∉ W.av ∧ SqT W.K H a vs ∧ IsAll W H ds vs
  | .lst ds, v => ∃ a vs, v = .ref a ∧ a ∉ W.av ∧ H a = some (.lst vs) ∧ IsAll W H ds vs
  | .acc _, _ => False
  | .tab c r, v => ∃ a dx vc vr, v = .ref a ∧ a ∉ W.av ∧ H a = some (.ins W.C dx (tabF vc vr)) ∧ Is W H c vc ∧ Is W H r vr
  | .pail, v => v = .ref W.p
  | .ty n, v => v = .ty n
  | .cls, v => v = .ref W.C
def IsAll (W : Wc) (H : Hp) : List Dt → List V → Prop
  | [], vs => vs = []
  | d :: ds, vs => ∃ v r, vs = v :: r ∧ Is W H d v ∧ IsAll W H ds r
end

/-- all but what is to be avoided is kept -/
def Ka (W : Wc) (H H' : Hp) : Prop := ∀ b o, b ∉ W.av → H b = some o → H' b = some o
/-- all but the pail is kept -/
def Kb (p : Addr) (H H' : Hp) : Prop := ∀ b o, b ≠ p → H b = some o → H' b = some o
/-- all but the pail and one more -/
def Kq (p : Addr) (q : Option Addr) (H H' : Hp) : Prop := ∀ b o, b ≠ p → some b ≠ q → H b = some o → H' b = some o
theorem Kb.refl (p : Addr) (H : Hp) : Kb p H H := fun _ _ _ h => h
theorem Kb.trans {p : Addr} {H H1 H2 : Hp} (a : Kb p H H1) (b : Kb p H1 H2) : Kb p H H2 := fun c o n h => b c o n (a c o n h)
theorem Kq.refl (p : Addr) (q : Option Addr) (H : Hp) : Kq p q H H := fun _ _ _ _ h => h
theorem Kq.trans {p : Addr} {q : Option Addr} {H H1 H2 : Hp} (a : Kq p q H H1) (b : Kq p q H1 H2) : Kq p q H H2 := fun c o n m h => b c o n m (a c o n m h)
theorem Kb.q {p : Addr} {q : Option Addr} {H H' : Hp} (a : Kb p H H') : Kq p q H H' := fun c o n _ h => a c o n h
theorem Kb.new {p a : Addr} {H : Hp} {o : HO} (h : H a = none) : Kb p H (upd H a o) := fun b u _ e => by
  rw [upd_ne (ne_of_none e h)]
  exact e
def Pl (p : Addr) (H : Hp) (n : Nat) : Prop := ∃ h m c : Int, H p = some (.lst [.int h, .int m, .int c]) ∧ 0 ≤ h ∧ 0 ≤ m ∧ 0 ≤ c ∧ c ≤ n
theorem Pl.new {p a : Addr} {H : Hp} {o : HO} {n : Nat} (h : Pl p H n) (f : H a = none) : Pl p (upd H a o) n := by
  obtain ⟨x, m, c, e, r⟩ := h
  exact ⟨x, m, c, by rw [upd_ne (ne_of_none e f)]; exact e, r⟩
/-- what is known of the world of a def -/
structure Wk (W : Wc) (H : Hp) (n : Nat) : Prop where
  mem : W.p ∈ W.av
  kav : ∀ a ∈ W.av, W.K.lookup a = none
  ht : ∀ a ∈ W.av, ∃ o, H a = some o
  pl : Pl W.p H n
theorem Wk.keep {W : Wc} {H H' : Hp} {n n' : Nat} (h : Wk W H n) (k : Kb W.p H H') (pl : Pl W.p H' n') : Wk W H' n' := by
  refine ⟨h.mem, h.kav, fun a ha => ?_, pl⟩
  by_cases e : a = W.p
  · obtain ⟨x, m, c, z, _⟩ := pl
    rw [e]
    exact ⟨_, z⟩
  · obtain ⟨o, z⟩ := h.ht a ha
    exact ⟨o, k a o e z⟩
theorem Wk.fresh {W : Wc} {H : Hp} {n : Nat} {a : Addr} (h : Wk W H n) (f : H a = none) : a ∉ W.av := fun ha => by
  obtain ⟨o, z⟩ := h.ht a ha
  rw [f] at z
  cases z
theorem Wk.a {W : Wc} {H H' : Hp} {n : Nat} (h : Wk W H n) (k : Kb W.p H H') : Ka W H H' := fun b o nb e => k b o (fun z => nb (by rw [z]; exact h.mem)) e
theorem rd_keep {W : Wc} {H H' : Hp} {a : Addr} {u : HO} (k : Ka W H H') (n : a ∉ W.av) (h : Rd H a u) : Rd H' a u := by
  rcases h with h | ⟨o, h⟩
  · exact .inl (k _ _ n h)
  · exact .inr ⟨o, k _ _ n h⟩
theorem sqt_keep {W : Wc} {H H' : Hp} {a : Addr} {vs : List V} (k : Ka W H H') (n : a ∉ W.av) (h : SqT W.K H a vs) : SqT W.K H' a vs := by
  rcases h with h | h
  · exact .inl (rd_keep k n h)
  · exact .inr h
theorem sql_keep {W : Wc} {H H' : Hp} {a : Addr} {vs : List V} (k : Ka W H H') (n : a ∉ W.av) (h : SqL W.K H a vs) : SqL W.K H' a vs := by
  rcases h with h | h
  · exact .inl (rd_keep k n h)
  · exact .inr h
mutual
theorem is_keep {W : Wc} {H H' : Hp} (k : Ka W H H') : ∀ (d : Dt) (v : V), Is W H d v → Is W H' d v
  | .int i, v, h => by unfold Is at h ⊢; exact h
  | .bl b, v, h => by unfold Is at h ⊢; exact h
  | .non, v, h => by unfold Is at h ⊢; exact h
  | .str x, v, h => by unfold Is at h ⊢; exact h
  | .pail, v, h => by unfold Is at h ⊢; exact h
  | .ty n, v, h => by unfold Is at h ⊢; exact h
  | .cls, v, h => by unfold Is at h ⊢; exact h
  | .acc ds, v, h => by unfold Is at h; exact h.elim
  | .tup ds, v, h => by
    unfold Is at h ⊢
    obtain ⟨a, vs, e, n, s, al⟩ := h
    exact ⟨a, vs, e, n, sqt_keep k n s, isAll_keep k ds vs al⟩
  | .lst ds, v, h => by
    unfold Is at h ⊢
    obtain ⟨a, vs, e, n, s, al⟩ := h
    exact ⟨a, vs, e, n, k _ _ n s, isAll_keep k ds vs al⟩
  | .tab c r, v, h => by
    unfold Is at h ⊢
    obtain ⟨a, dx, vc, vr, e, n, s, h1, h2⟩ := h
    exact ⟨a, dx, vc, vr, e, n, k _ _ n s, is_keep k c vc h1, is_keep k r vr h2⟩
theorem isAll_keep {W : Wc} {H H' : Hp} (k : Ka W H H') : ∀ (ds : List Dt) (vs : List V), IsAll W H ds vs → IsAll W H' ds vs
  | [], vs, h => by unfold IsAll at h ⊢; exact h
  | d :: ds, vs, h => by
    unfold IsAll at h ⊢
    obtain ⟨v, r, e, h1, h2⟩ := h
    exact ⟨v, r, e, is_keep k d v h1, isAll_keep k ds r h2⟩
end
mutual
theorem is_av {K : PySem.W.Frag} {C p : Addr} {av av' : List Addr} {H : Hp} (k : ∀ a, (∃ o, H a = some o) ∨ (∃ o, K.lookup a = some o) → a ∉ av → a ∉ av') : ∀ (d : Dt) (v : V), Is ⟨K, C, p, av⟩ H d v → Is ⟨K, C, p, av'⟩ H d v
  | .int i, v, h => by unfold Is at h ⊢; exact h
  | .bl b, v, h => by unfold Is at h ⊢; exact h
  | .non, v, h => by unfold Is at h ⊢; exact h
  | .str x, v, h => by unfold Is at h ⊢; exact h
  | .pail, v, h => by unfold Is at h ⊢; exact h
  | .ty n, v, h => by unfold Is at h ⊢; exact h
  | .cls, v, h => by unfold Is at h ⊢; exact h
  | .acc ds, v, h => by unfold Is at h; exact h.elim
  | .tup ds, v, h => by
    unfold Is at h ⊢
    obtain ⟨a, vs, e, n, s, al⟩ := h
    refine ⟨a, vs, e, k a ?_ n, s, isAll_av k ds vs al⟩
    rcases s with (z | ⟨o, z⟩) | ⟨o, _, _, z, _⟩
    · exact .inl ⟨_, z⟩
    · exact .inl ⟨_, z⟩
    · exact .inr ⟨o, z⟩
  | .lst ds, v, h => by
    unfold Is at h ⊢
    obtain ⟨a, vs, e, n, s, al⟩ := h
    exact ⟨a, vs, e, k a (.inl ⟨_, s⟩) n, s, isAll_av k ds vs al⟩
  | .tab c r, v, h => by
    unfold Is at h ⊢
    obtain ⟨a, dx, vc, vr, e, n, s, h1, h2⟩ := h
    exact ⟨a, dx, vc, vr, e, k a (.inl ⟨_, s⟩) n, s, is_av k c vc h1, is_av k r vr h2⟩
theorem isAll_av {K : PySem.W.Frag} {C p : Addr} {av av' : List Addr} {H : Hp} (k : ∀ a, (∃ o, H a = some o) ∨ (∃ o, K.lookup a = some o) → a ∉ av → a ∉ av') : ∀ (ds : List Dt) (vs : List V), IsAll ⟨K, C, p, av⟩ H ds vs → IsAll ⟨K, C, p, av'⟩ H ds vs
  | [], vs, h => by unfold IsAll at h ⊢; exact h
  | d :: ds, vs, h => by
    unfold IsAll at h ⊢
    obtain ⟨v, r, e, h1, h2⟩ := h
    exact ⟨v, r, e, is_av k d v h1, isAll_av k ds r h2⟩
end
theorem IsAll.len {W : Wc} {H : Hp} : ∀ {ds : List Dt} {vs : List V}, IsAll W H ds vs → vs.length = ds.length
  | [], vs, h => by unfold IsAll at h; rw [h]; rfl
  | d :: ds, vs, h => by
    unfold IsAll at h
    obtain ⟨v, r, rfl, _, h2⟩ := h
    rw [List.length_cons, List.length_cons, IsAll.len h2]
theorem IsAll.get {W : Wc} {H : Hp} : ∀ {ds : List Dt} {vs : List V} {i : Nat} {d : Dt}, IsAll W H ds vs → ds[i]? = some d → ∃ v, vs[i]? = some v ∧ Is W H d v
  | [], vs, i, d, h, e => by simp at e
  | x :: ds, vs, i, d, h, e => by
    unfold IsAll at h
    obtain ⟨v, r, rfl, h1, h2⟩ := h
    cases i with
    | zero =>
      have z : x = d := Option.some.inj e
      subst z
      exact ⟨v, rfl, h1⟩
    | succ i =>
      obtain ⟨u, hu, hd⟩ := IsAll.get (i := i) h2 (by simpa using e)
      exact ⟨u, by simpa using hu, hd⟩
theorem IsAll.back {W : Wc} {H : Hp} {ds : List Dt} {vs : List V} {i : Nat} {v : V} (h : IsAll W H ds vs) (e : vs[i]? = some v) : ∃ d, ds[i]? = some d ∧ Is W H d v := by
  have hi : i < ds.length := by
    rw [← h.len]
    exact (List.getElem?_eq_some_iff.mp e).1
  obtain ⟨u, hu, hd⟩ := h.get (List.getElem?_eq_getElem hi)
  rw [e] at hu
  cases hu
  exact ⟨_, List.getElem?_eq_getElem hi, hd⟩
theorem IsAll.app {W : Wc} {H : Hp} : ∀ {ds es : List Dt} {vs us : List V}, IsAll W H ds vs → IsAll W H es us → IsAll W H (ds ++ es) (vs ++ us)
  | [], es, vs, us, h, k => by
    unfold IsAll at h
    subst h
    exact k
  | d :: ds, es, vs, us, h, k => by
    unfold IsAll at h
    obtain ⟨v, r, rfl, h1, h2⟩ := h
    show IsAll W H (d :: (ds ++ es)) (v :: (r ++ us))
    unfold IsAll
    exact ⟨v, r ++ us, rfl, h1, IsAll.app h2 k⟩
theorem IsAll.nil {W : Wc} {H : Hp} : IsAll W H [] [] := by unfold IsAll; rfl
theorem IsAll.cons {W : Wc} {H : Hp} {d : Dt} {ds : List Dt} {v : V} {vs : List V} (h : Is W H d v) (k : IsAll W H ds vs) : IsAll W H (d :: ds) (v :: vs) := by
  unfold IsAll
  exact ⟨v, vs, rfl, h, k⟩
theorem IsAll.take {W : Wc} {H : Hp} : ∀ {ds : List Dt} {vs : List V} (n : Nat), IsAll W H ds vs → IsAll W H (ds.take n) (vs.take n)
  | [], vs, n, h => by
    unfold IsAll at h
    subst h
    simp only [List.take_nil]
    exact .nil
  | d :: ds, vs, n, h => by
    unfold IsAll at h
    obtain ⟨v, r, rfl, h1, h2⟩ := h
    cases n with
    | zero => exact .nil
    | succ n => exact .cons h1 (IsAll.take n h2)
theorem IsAll.drop {W : Wc} {H : Hp} : ∀ {ds : List Dt} {vs : List V} (n : Nat), IsAll W H ds vs → IsAll W H (ds.drop n) (vs.drop n)
  | [], vs, n, h => by
    unfold IsAll at h
    subst h
    simp only [List.drop_nil]
    exact .nil
  | d :: ds, vs, n, h => by
    unfold IsAll at h
    obtain ⟨v, r, rfl, h1, h2⟩ := h
    cases n with
    | zero => exact .cons h1 h2
    | succ n => exact IsAll.drop n h2
/-! ### what is of data, from values -/
theorem is_int {W : Wc} {H : Hp} {i : Int} : Is W H (.int i) (.int i) := by unfold Is; rfl
theorem is_bl {W : Wc} {H : Hp} {b : Bool} : Is W H (.bl b) (.bl b) := by unfold Is; rfl
theorem is_non {W : Wc} {H : Hp} : Is W H .non .non := by unfold Is; rfl
theorem is_str {W : Wc} {H : Hp} {x : Str} : Is W H (.str x) (.str x) := by unfold Is; rfl
theorem Is.int {W : Wc} {H : Hp} {i : Int} {v : V} (h : Is W H (.int i) v) : v = .int i := by unfold Is at h; exact h
theorem Is.bl {W : Wc} {H : Hp} {b : Bool} {v : V} (h : Is W H (.bl b) v) : v = .bl b := by unfold Is at h; exact h
theorem Is.str {W : Wc} {H : Hp} {x : Str} {v : V} (h : Is W H (.str x) v) : v = .str x := by unfold Is at h; exact h
theorem Is.non {W : Wc} {H : Hp} {v : V} (h : Is W H .non v) : v = .non := by unfold Is at h; exact h
theorem Is.pail {W : Wc} {H : Hp} {v : V} (h : Is W H .pail v) : v = .ref W.p := by unfold Is at h; exact h
theorem Is.tup {W : Wc} {H : Hp} {ds : List Dt} {v : V} (h : Is W H (.tup ds) v) : ∃ a vs, v = .ref a ∧ a ∉ W.av ∧ SqT W.K H a vs ∧ IsAll W H ds vs := by unfold Is at h; exact h
theorem Is.lst {W : Wc} {H : Hp} {ds : List Dt} {v : V} (h : Is W H (.lst ds) v) : ∃ a vs, v = .ref a ∧ a ∉ W.av ∧ H a = some (.lst vs) ∧ IsAll W H ds vs := by unfold Is at h; exact h
theorem Is.tab {W : Wc} {H : Hp} {c r : Dt} {v : V} (h : Is W H (.tab c r) v) : ∃ a dx vc vr, v = .ref a ∧ a ∉ W.av ∧ H a = some (.ins W.C dx (tabF vc vr)) ∧ Is W H c vc ∧ Is W H r vr := by unfold Is at h; exact h
theorem is_tup {W : Wc} {H : Hp} {ds : List Dt} {a : Addr} {vs : List V} (n : a ∉ W.av) (s : SqT W.K H a vs) (k : IsAll W H ds vs) : Is W H (.tup ds) (.ref a) := by
  unfold Is
  exact ⟨a, vs, rfl, n, s, k⟩
theorem is_lst {W : Wc} {H : Hp} {ds : List Dt} {a : Addr} {vs : List V} (n : a ∉ W.av) (s : H a = some (.lst vs)) (k : IsAll W H ds vs) : Is W H (.lst ds) (.ref a) := by
  unfold Is
  exact ⟨a, vs, rfl, n, s, k⟩
theorem is_tab {W : Wc} {H : Hp} {c r : Dt} {a dx : Addr} {vc vr : V} (n : a ∉ W.av) (s : H a = some (.ins W.C dx (tabF vc vr))) (k : Is W H c vc) (l : Is W H r vr) : Is W H (.tab c r) (.ref a) := by
  unfold Is
  exact ⟨a, dx, vc, vr, rfl, n, s, k, l⟩
theorem Is.ty {W : Wc} {H : Hp} {n : String} {v : V} (h : Is W H (.ty n) v) : v = .ty n := by unfold Is at h; exact h
theorem Is.cls {W : Wc} {H : Hp} {v : V} (h : Is W H .cls v) : v = .ref W.C := by unfold Is at h; exact h
theorem is_ty {W : Wc} {H : Hp} {n : String} : Is W H (.ty n) (.ty n) := by unfold Is; rfl
theorem is_cls {W : Wc} {H : Hp} : Is W H .cls (.ref W.C) := by unfold Is; rfl
theorem is_pail {W : Wc} {H : Hp} : Is W H .pail (.ref W.p) := by unfold Is; rfl
end Cs

namespace Cs
open PySem PySem.Spec PyProof.Rows L2

abbrev Ts := List (Option Dt)
structure Fx where
  X : Cx
  C : Addr
  p : Addr
  av : List Addr
  q : Option Addr
  H0 : Hp
abbrev Fx.W (F : Fx) : Wc := ⟨F.X.K, F.C, F.p, F.av⟩
def IsS (F : Fx) (H : Hp) : Dt → V → Prop
  | .acc ds, v => ∃ a vs, v = .ref a ∧ F.q = some a ∧ H a = some (.lst vs) ∧ IsAll F.W H ds vs
  | d, v => Is F.W H d v
def naD : Dt → Bool
  | .acc _ => false
  | _ => true
theorem isS_of {F : Fx} {H : Hp} {d : Dt} {v : V} (h : Is F.W H d v) : IsS F H d v := by
  cases d <;> first | exact h | (unfold Is at h; exact h.elim)
theorem IsS.is {F : Fx} {H : Hp} {d : Dt} {v : V} (h : IsS F H d v) (n : naD d = true) : Is F.W H d v := by
  cases d <;> first | exact h | cases n

/-- a frame: what is known of the slots, by data -/
structure En (F : Fx) (n : Nat) (ts : Ts) (σ : L2.St) (H : Hp) : Prop where
  wk : Wk F.W H n
  base : Kb F.p F.H0 H
  kq : ∀ a, F.q = some a → a ∈ F.av ∧ a ≠ F.p ∧ F.H0 a = none
  sl : ∀ (i : Nat) (d : Dt), ts[i]? = some (some d) → ∃ v, σ[i]? = some (some v) ∧ IsS F H d v
  len : σ.length = ts.length
theorem isS_keep {F : Fx} {H H' : Hp} {n : Nat} (w : Wk F.W H n) (kq : ∀ a, F.q = some a → a ∈ F.av ∧ a ≠ F.p ∧ F.H0 a = none) (k : Kb F.p H H') {d : Dt} {v : V} (h : IsS F H d v) : IsS F H' d v := by
  have ka : Ka F.W H H' := w.a k
  cases d with
  | acc ds =>
    obtain ⟨a, vs, e, hq, s, al⟩ := h
    exact ⟨a, vs, e, hq, k a _ (kq a hq).2.1 s, isAll_keep ka ds vs al⟩
  | int i => exact is_keep ka (.int i) v h
  | bl i => exact is_keep ka (.bl i) v h
  | non => exact is_keep ka .non v h
  | str i => exact is_keep ka (.str i) v h
  | tup i => exact is_keep ka (.tup i) v h
  | lst i => exact is_keep ka (.lst i) v h
  | tab i j => exact is_keep ka (.tab i j) v h
  | pail => exact is_keep ka .pail v h
  | ty i => exact is_keep ka (.ty i) v h
  | cls => exact is_keep ka .cls v h
theorem En.keep {F : Fx} {n n' : Nat} {ts : Ts} {σ : L2.St} {H H' : Hp} (e : En F n ts σ H) (k : Kb F.p H H') (pl : Pl F.p H' n') : En F n' ts σ H' :=
  ⟨e.wk.keep k pl, e.base.trans k, e.kq, fun i d h => let ⟨v, h1, h2⟩ := e.sl i d h; ⟨v, h1, isS_keep e.wk e.kq k h2⟩, e.len⟩
theorem En.set {F : Fx} {n : Nat} {ts : Ts} {σ : L2.St} {H : Hp} {j : Nat} {d : Dt} {v : V} (e : En F n ts σ H) (hj : j < ts.length) (h : IsS F H d v) : En F n (ts.set j (some d)) (σ.set j (some v)) H := by
  refine ⟨e.wk, e.base, e.kq, fun i d' h' => ?_, by rw [List.length_set, List.length_set]; exact e.len⟩
  by_cases hi : j = i
  · subst hi
    rw [List.getElem?_set_self hj] at h'
    cases h'
    exact ⟨v, List.getElem?_set_self (by rw [e.len]; exact hj), h⟩
  · rw [List.getElem?_set_ne hi] at h'
    obtain ⟨u, h1, h2⟩ := e.sl i d' h'
    exact ⟨u, by rw [List.getElem?_set_ne hi]; exact h1, h2⟩
/-- forgetting slots -/
theorem En.weak {F : Fx} {n : Nat} {ts ts' : Ts} {σ σ' : L2.St} {H : Hp} (e : En F n ts σ H) (hl : ts'.length = ts.length) (hs : σ'.length = σ.length) (h : ∀ (i : Nat) d, ts'[i]? = some (some d) → ts[i]? = some (some d) ∧ ∀ v, σ[i]? = some (some v) → σ'[i]? = some (some v)) : En F n ts' σ' H :=
  ⟨e.wk, e.base, e.kq, fun i d z => let ⟨a, b⟩ := h i d z; let ⟨v, h1, h2⟩ := e.sl i d a; ⟨v, b v h1, h2⟩, by rw [hs, hl]; exact e.len⟩

/-! ### the judgements -/
def Ge (X : Cx) (e : Expr) : TE := fun σ H Q => ∀ pins s, Inv X pins σ H s → wpAny (model X.prog X.w) X.A (eval e X.env) (EP X pins σ Q) X.xe s
theorem pe_ge {X : Cx} {e : Expr} : PE X e (Ge X e) := ⟨fun pins s _ _ _ I h => h pins s I⟩
theorem ge_of {X : Cx} {e : Expr} {t : TE} {σ : L2.St} {H : Hp} {Q : VK} (h : PE X e t) (q : t σ H Q) : Ge X e σ H Q := fun pins s I => h.run pins s σ H Q I q
def Tt (X : Cx) (e : Expr) : TT := fun σ H Q => ∀ pins s, Inv X pins σ H s → wpAny (model X.prog X.w) X.A (isTrue e X.env (eval e X.env)) (TP X pins σ Q) X.xe s
theorem pt_tt {X : Cx} {e : Expr} : PT X e (Tt X e) := ⟨fun pins s _ _ _ I h => h pins s I⟩
theorem tt_of {X : Cx} {e : Expr} {t : TT} {σ : L2.St} {H : Hp} {Q : Bool → Hp → Prop} (h : PT X e t) (q : t σ H Q) : Tt X e σ H Q := fun pins s I => h.run pins s σ H Q I q
def Tw (X : Cx) (e : Expr) : TT := fun σ H Q => ∀ whole pins s, Inv X pins σ H s → wpAny (model X.prog X.w) X.A (isTrue e X.env whole) (TP X pins σ Q) X.xe s
theorem pw_tw {X : Cx} {e : Expr} : PW X e (Tw X e) := ⟨fun wh pins s _ _ _ I h => h wh pins s I⟩
theorem tw_of {X : Cx} {e : Expr} {t : TT} {σ : L2.St} {H : Hp} {Q : Bool → Hp → Prop} (h : PW X e t) (q : t σ H Q) : Tw X e σ H Q := fun wh pins s I => h.run wh pins s σ H Q I q
def Tl (X : Cx) (es : List Expr) : TA := fun σ H Q => ∀ pos pins s, Inv X pins σ H s → wpAny (model X.prog X.w) X.A (spliced (backTo pos (starEach es X.env))) (AP X pins σ Q) X.xe s
theorem pa_tl {X : Cx} {es : List Expr} : PA X es (Tl X es) := ⟨fun pos pins s _ _ _ I h => h pos pins s I⟩
theorem tl_of {X : Cx} {es : List Expr} {t : TA} {σ : L2.St} {H : Hp} {Q : List V → Hp → Prop} (h : PA X es t) (q : t σ H Q) : Tl X es σ H Q := fun pos pins s I => h.run pos pins s σ H Q I q
def Sg (X : Cx) (st : Stmt) : TS := fun D σ H => ∀ pins s, Inv X pins σ H s → wpAny (model X.prog X.w) X.A (exec st X.env) (SP X pins D) X.xe s
theorem ps_sg {X : Cx} {st : Stmt} : PS X st (Sg X st) := ⟨fun pins s _ _ _ I h => h pins s I⟩
theorem sg_of {X : Cx} {st : Stmt} {t : TS} {σ : L2.St} {H : Hp} {D : Ends} (h : PS X st t) (q : t D σ H) : Sg X st D σ H := fun pins s I => h.run pins s σ H D I q
def Sl (X : Cx) (sts : List Stmt) : TS := fun D σ H => ∀ pins s, Inv X pins σ H s → wpAny (model X.prog X.w) X.A (execs sts X.env) (SP X pins D) X.xe s
theorem pss_sl {X : Cx} {sts : List Stmt} : PSs X sts (Sl X sts) := ⟨fun pins s _ _ _ I h => h pins s I⟩
theorem sl_of {X : Cx} {sts : List Stmt} {t : TS} {σ : L2.St} {H : Hp} {D : Ends} (h : PSs X sts t) (q : t D σ H) : Sl X sts D σ H := fun pins s I => h.run pins s σ H D I q
/-- a tracked object is none of the written part -/
theorem inv_k {X : Cx} {pins : List (Addr × Obj)} {σ : L2.St} {H : Hp} {s : Shared} {a : Addr} {o : HO} (I : Inv X pins σ H s) (h : H a = some o) : X.K.lookup a = none := by
  cases e : X.K.lookup a with
  | none => rfl
  | some ob =>
    have z := (I.bs a ob (I.mod.kin a ob e)).2
    rw [h] at z
    cases z
theorem ge_k {X : Cx} {e : Expr} {σ : L2.St} {H : Hp} {Q : VK} {a : Addr} {o : HO} (h : H a = some o) (k : X.K.lookup a = none → Ge X e σ H Q) : Ge X e σ H Q := fun pins s I => k (inv_k I h) pins s I
theorem sl_k {X : Cx} {sts : List Stmt} {σ : L2.St} {H : Hp} {D : Ends} {a : Addr} {o : HO} (h : H a = some o) (k : X.K.lookup a = none → Sl X sts D σ H) : Sl X sts D σ H := fun pins s I => k (inv_k I h) pins s I

/-- e comes to some data with P, n then bounds the pail's count -/
def Gw (F : Fx) (ts : Ts) (n : Nat) (e : Expr) (P : Dt → Nat → Prop) : Prop := ∀ (σ : L2.St) (H : Hp) (Q : VK), En F n ts σ H →
  (∀ v H' d n', Kb F.p H H' → Pl F.p H' n' → Is F.W H' d v → P d n' → Q v H') → Ge F.X e σ H Q
def Gt (F : Fx) (ts : Ts) (n : Nat) (e : Expr) (P : Bool → Nat → Prop) : Prop := ∀ (σ : L2.St) (H : Hp) (Q : Bool → Hp → Prop), En F n ts σ H →
  (∀ b H' n', Kb F.p H H' → Pl F.p H' n' → P b n' → Q b H') → Tt F.X e σ H Q
def Gb (F : Fx) (ts : Ts) (n : Nat) (e : Expr) (P : Bool → Nat → Prop) : Prop := ∀ (σ : L2.St) (H : Hp) (Q : Bool → Hp → Prop), En F n ts σ H →
  (∀ b H' n', Kb F.p H H' → Pl F.p H' n' → P b n' → Q b H') → Tw F.X e σ H Q
def Ga (F : Fx) (ts : Ts) (n : Nat) (es : List Expr) (P : List Dt → Nat → Prop) : Prop := ∀ (σ : L2.St) (H : Hp) (Q : List V → Hp → Prop), En F n ts σ H →
  (∀ vs H' ds n', Kb F.p H H' → Pl F.p H' n' → IsAll F.W H' ds vs → P ds n' → Q vs H') → Tl F.X es σ H Q
def G1 (F : Fx) (ts : Ts) (n : Nat) (st : Stmt) (N : Ts → Nat → Prop) (R : Dt → Nat → Prop) : Prop := ∀ (σ : L2.St) (H : Hp) (D : Ends), En F n ts σ H →
  (∀ σ' H' ts' n', Kq F.p F.q H H' → En F n' ts' σ' H' → N ts' n' → D.nx σ' H') → (∀ v H' d n', Kb F.p F.H0 H' → Pl F.p H' n' → Is F.W H' d v → R d n' → D.rt v H') → Sg F.X st D σ H
def Gs (F : Fx) (ts : Ts) (n : Nat) (sts : List Stmt) (N : Ts → Nat → Prop) (R : Dt → Nat → Prop) : Prop := ∀ (σ : L2.St) (H : Hp) (D : Ends), En F n ts σ H →
  (∀ σ' H' ts' n', Kq F.p F.q H H' → En F n' ts' σ' H' → N ts' n' → D.nx σ' H') → (∀ v H' d n', Kb F.p F.H0 H' → Pl F.p H' n' → Is F.W H' d v → R d n' → D.rt v H') → Sl F.X sts D σ H

section
variable {F : Fx} {ts : Ts} {n : Nat} {a b c e : Expr} {es : List Expr} {pos : Pos} {P : Dt → Nat → Prop}
theorem Gw.imp {P' : Dt → Nat → Prop} (h : Gw F ts n e P) (k : ∀ d n', P d n' → P' d n') : Gw F ts n e P' := fun σ H Q en q => h σ H Q en fun v H' d n' k1 k2 k3 k4 => q v H' d n' k1 k2 k3 (k d n' k4)

/-! ### names, constants -/
theorem gw_name (i : Nat) {d : Dt} {x : Str} (h : P d n) (hi : ts[i]? = some (some d) := by rfl) (hn : naD d = true := by rfl) (hN : F.X.N[i]? = some x := by rfl) (hv : Vis F.X.env.scope x := by first | exact Or.inl rfl | exact Or.inr (Or.inl rfl) | exact Or.inr (Or.inr rfl)) (hd : (x == ("__debug__" : Str)) = false := by decide)
    (hcd : (x == ("__classdict__" : Str)) = false := by decide) : Gw F ts n (.Name x pos) P := by
  intro σ H Q en k
  obtain ⟨v, h1, h2⟩ := en.sl i d hi
  exact ge_of (pe_var hN hv hd hcd) ⟨v, h1, k v H d n (.refl _ _) en.wk.pl (h2.is hn) h⟩
theorem gw_int {i : Int} {j : Nat} (h : P (.int i) n) : Gw F ts n (.Constant (.int i) j pos) P := fun σ H Q en k => ge_of pe_int (k _ H _ n (.refl _ _) en.wk.pl is_int h)
theorem gw_bl {i : Bool} {j : Nat} (h : P (.bl i) n) : Gw F ts n (.Constant (.bool i) j pos) P := fun σ H Q en k => ge_of pe_bl (k _ H _ n (.refl _ _) en.wk.pl is_bl h)
theorem gw_non {j : Nat} (h : P .non n) : Gw F ts n (.Constant .none j pos) P := fun σ H Q en k => ge_of pe_non (k _ H _ n (.refl _ _) en.wk.pl is_non h)
theorem gw_str {x : Str} {j : Nat} (h : P (.str x) n) : Gw F ts n (.Constant (.str x) j pos) P := fun σ H Q en k => ge_of pe_str (k _ H _ n (.refl _ _) en.wk.pl is_str h)
theorem gw_gint {x : Str} {i : Int} {t : Tok} (hm : F.X.mg x = some (.int i t)) (h : P (.int i) n) (hg : Gl F.X x := by rfl) (hd : (x == ("__debug__" : Str)) = false := by decide) : Gw F ts n (.Name x pos) P := fun σ H Q en k => ge_of (pe_glob (v := .int i) hg hm ⟨t, rfl⟩ hd) (k _ H _ n (.refl _ _) en.wk.pl is_int h)
theorem gw_gstr {x y : Str} {t : Tok} (hm : F.X.mg x = some (.str y t)) (h : P (.str y) n) (hg : Gl F.X x := by rfl) (hd : (x == ("__debug__" : Str)) = false := by decide) : Gw F ts n (.Name x pos) P := fun σ H Q en k => ge_of (pe_glob (v := .str y) hg hm ⟨t, rfl⟩ hd) (k _ H _ n (.refl _ _) en.wk.pl is_str h)
/-- a tuple of ints of the written part -/
theorem gw_gtup {x : Str} {z : Addr} {o : Obj} {its : Array Value} {m : Nat} {is : List Int} (hm : F.X.mg x = some (.ref z)) (hl : F.X.K.lookup z = some o) (hc : o.cls = .type "tuple") (hd' : o.data = .seq its m) (hs : its.size ≤ sizeLine) (hv : Vals (is.map V.int) its.toList)
    (h : P (.tup (is.map .int)) n) (hg : Gl F.X x := by rfl) (hd : (x == ("__debug__" : Str)) = false := by decide) : Gw F ts n (.Name x pos) P := fun σ H Q en k => ge_of (pe_glob (v := .ref z) hg hm rfl hd) (by
  refine k _ H _ n (.refl _ _) en.wk.pl (is_tup (vs := is.map V.int) (fun hz => ?_) (.inr ⟨o, its, m, hl, hc, hd', hs, hv⟩) ?_) h
  · have e := en.wk.kav z hz
    rw [hl] at e
    cases e
  · clear hv h
    induction is with
    | nil => exact .nil
    | cons i r ih => exact .cons is_int ih)
theorem gw_gcls {x : Str} (hm : F.X.mg x = some (.ref F.C)) (h : P .cls n) (hg : Gl F.X x := by rfl) (hd : (x == ("__debug__" : Str)) = false := by decide) : Gw F ts n (.Name x pos) P := fun σ H Q en k => ge_of (pe_glob (v := .ref F.C) hg hm rfl hd) (k _ H _ n (.refl _ _) en.wk.pl is_cls h)
theorem gw_bty {x : Str} {T : String} (hm : F.X.mg x = none) (hv : bootBuiltins x = some (.type T)) (h : P (.ty T) n) (hg : Gl F.X x := by rfl) (hn : x ≠ "__name__" := by decide) (hd : (x == ("__debug__" : Str)) = false := by decide) : Gw F ts n (.Name x pos) P :=
  fun σ H Q en k => ge_of (pe_bltn (v := .ty T) hg hm hv rfl hn hd) (k _ H _ n (.refl _ _) en.wk.pl is_ty h)

/-! ### operators -/
def RI (C : Int → Int → Prop) (g : Int → Int → Dt) : Dt → Dt → (Dt → Prop) → Prop := fun d1 d2 k => ∃ i j, d1 = .int i ∧ d2 = .int j ∧ C i j ∧ k (g i j)
theorem gw_opR {op : Operator} {r : R2} {R : Dt → Dt → (Dt → Prop) → Prop} (ho : OpR F.X (binaryOp op) r)
    (hr : ∀ H d1 d2 v1 v2 k (Q : VK), Is F.W H d1 v1 → Is F.W H d2 v2 → R d1 d2 k → (∀ v d, Is F.W H d v → k d → Q v H) → r v1 v2 H Q)
    (h : Gw F ts n a fun d1 n1 => Gw F ts n1 b fun d2 n2 => R d1 d2 fun d => P d n2) : Gw F ts n (.BinOp a op b pos) P := by
  intro σ H Q en k
  refine ge_of (pe_op ho pe_ge pe_ge) ?_
  refine h σ H _ en fun v H1 d1 n1 k1 p1 i1 h1 => ?_
  refine h1 σ H1 _ (en.keep k1 p1) fun v2 H2 d2 n2 k2 p2 i2 h2 => ?_
  refine hr H2 d1 d2 v v2 _ Q (is_keep ((en.keep k1 p1).wk.a k2) _ _ i1) i2 h2 fun u d iu kd => ?_
  exact k u H2 d n2 (k1.trans k2) p2 iu kd
theorem ri_ok {C : Int → Int → Prop} {g : Int → Int → V} {g' : Int → Int → Dt} (hg : ∀ H i j, Is F.W H (g' i j) (g i j)) : ∀ H d1 d2 v1 v2 k (Q : VK), Is F.W H d1 v1 → Is F.W H d2 v2 → RI C g' d1 d2 k → (∀ v d, Is F.W H d v → k d → Q v H) → rI C g v1 v2 H Q := by
  intro H d1 d2 v1 v2 k Q h1 h2 hr q
  obtain ⟨i, j, rfl, rfl, hc, hk⟩ := hr
  rw [h1.int, h2.int]
  exact ⟨i, j, rfl, rfl, hc, q _ _ (hg H i j) hk⟩
theorem ri_ok0 {g : Int → Int → V} {g' : Int → Int → Dt} (hg : ∀ H i j, Is F.W H (g' i j) (g i j)) : ∀ H d1 d2 v1 v2 k (Q : VK), Is F.W H d1 v1 → Is F.W H d2 v2 → RI (fun _ _ => True) g' d1 d2 k → (∀ v d, Is F.W H d v → k d → Q v H) → rI0 g v1 v2 H Q := by
  intro H d1 d2 v1 v2 k Q h1 h2 hr q
  obtain ⟨i, j, rfl, rfl, hc, hk⟩ := hr
  rw [h1.int, h2.int]
  exact ⟨i, j, rfl, rfl, q _ _ (hg H i j) hk⟩
theorem gw_add (h : Gw F ts n a fun d1 n1 => Gw F ts n1 b fun d2 n2 => RI (fun _ _ => True) (fun i j => .int (i + j)) d1 d2 fun d => P d n2) : Gw F ts n (.BinOp a .Add b pos) P := gw_opR op_add (ri_ok0 fun _ _ _ => is_int) h
theorem gw_sub (h : Gw F ts n a fun d1 n1 => Gw F ts n1 b fun d2 n2 => RI (fun _ _ => True) (fun i j => .int (i - j)) d1 d2 fun d => P d n2) : Gw F ts n (.BinOp a .Sub b pos) P := gw_opR op_sub (ri_ok0 fun _ _ _ => is_int) h
theorem gw_mul (h : Gw F ts n a fun d1 n1 => Gw F ts n1 b fun d2 n2 => RI CMul (fun i j => .int (i * j)) d1 d2 fun d => P d n2) : Gw F ts n (.BinOp a .Mult b pos) P := gw_opR op_mul (ri_ok fun _ _ _ => is_int) h
theorem gw_fdiv (h : Gw F ts n a fun d1 n1 => Gw F ts n1 b fun d2 n2 => RI CDiv (fun i j => .int (i / j)) d1 d2 fun d => P d n2) : Gw F ts n (.BinOp a .FloorDiv b pos) P := gw_opR op_fdiv (ri_ok fun _ _ _ => is_int) h
theorem gw_mod (h : Gw F ts n a fun d1 n1 => Gw F ts n1 b fun d2 n2 => RI (fun _ j => 0 < j) (fun i j => .int (i % j)) d1 d2 fun d => P d n2) : Gw F ts n (.BinOp a .Mod b pos) P := gw_opR op_mod (ri_ok fun _ _ _ => is_int) h

/-- a comparison's value, and as a test -/
theorem gw_cmpR {op : CmpOp} {r : R2} {R : Dt → Dt → (Dt → Prop) → Prop} (ho : OpR F.X (compareOp op) r)
    (hr : ∀ H d1 d2 v1 v2 k (Q : VK), Is F.W H d1 v1 → Is F.W H d2 v2 → R d1 d2 k → (∀ v d, Is F.W H d v → k d → Q v H) → r v1 v2 H Q)
    (h : Gw F ts n a fun d1 n1 => Gw F ts n1 b fun d2 n2 => R d1 d2 fun d => P d n2) (hm : behindInMarks op b = false) : Gw F ts n (.Compare a [op] [b] pos) P := by
  intro σ H Q en k
  refine ge_of (pe_cmpR ho pe_ge pe_ge hm) ?_
  refine h σ H _ en fun v H1 d1 n1 k1 p1 i1 h1 => ?_
  refine h1 σ H1 _ (en.keep k1 p1) fun v2 H2 d2 n2 k2 p2 i2 h2 => ?_
  refine hr H2 d1 d2 v v2 _ Q (is_keep ((en.keep k1 p1).wk.a k2) _ _ i1) i2 h2 fun u d iu kd => ?_
  exact k u H2 d n2 (k1.trans k2) p2 iu kd
theorem gt_cmpR {op : CmpOp} {r : R2} {R : Dt → Dt → (Dt → Prop) → Prop} {B : Bool → Nat → Prop} (ho : OpR F.X (compareOp op) r)
    (hr : ∀ H d1 d2 v1 v2 k (Q : VK), Is F.W H d1 v1 → Is F.W H d2 v2 → R d1 d2 k → (∀ v d, Is F.W H d v → k d → Q v H) → r v1 v2 H Q)
    (h : Gw F ts n a fun d1 n1 => Gw F ts n1 b fun d2 n2 => R d1 d2 fun d => ∃ t, d = .bl t ∧ B t n2) (hm : behindInMarks op b = false) : Gt F ts n (.Compare a [op] [b] pos) B := by
  intro σ H Q en k
  refine tt_of (pt_cmpR ho pe_ge pe_ge hm) ?_
  refine h σ H _ en fun v H1 d1 n1 k1 p1 i1 h1 => ?_
  refine h1 σ H1 _ (en.keep k1 p1) fun v2 H2 d2 n2 k2 p2 i2 h2 => ?_
  refine hr H2 d1 d2 v v2 _ _ (is_keep ((en.keep k1 p1).wk.a k2) _ _ i1) i2 h2 fun u d iu kd => ?_
  obtain ⟨t, rfl, ht⟩ := kd
  exact ⟨t, iu.bl, k t H2 n2 (k1.trans k2) p2 ht⟩
abbrev RC (g : Int → Int → Bool) : Dt → Dt → (Dt → Prop) → Prop := RI (fun _ _ => True) fun i j => .bl (g i j)
theorem rc_eq : ∀ H d1 d2 v1 v2 k (Q : VK), Is F.W H d1 v1 → Is F.W H d2 v2 → RC (fun i j => i == j) d1 d2 k → (∀ v d, Is F.W H d v → k d → Q v H) → rEq v1 v2 H Q := by
  intro H d1 d2 v1 v2 k Q h1 h2 hr q
  obtain ⟨i, j, rfl, rfl, hc, hk⟩ := hr
  rw [h1.int, h2.int]
  exact ⟨rfl, q _ _ (by rw [dec_int]; exact is_bl) hk⟩
def RStr (g : Str → Str → Bool) : Dt → Dt → (Dt → Prop) → Prop := fun d1 d2 k => ∃ i j, d1 = .str i ∧ d2 = .str j ∧ k (.bl (g i j))
theorem rs_eq : ∀ H d1 d2 v1 v2 k (Q : VK), Is F.W H d1 v1 → Is F.W H d2 v2 → RStr (fun i j => i == j) d1 d2 k → (∀ v d, Is F.W H d v → k d → Q v H) → rEq v1 v2 H Q := by
  intro H d1 d2 v1 v2 k Q h1 h2 hr q
  obtain ⟨i, j, rfl, rfl, hk⟩ := hr
  rw [h1.str, h2.str]
  exact ⟨rfl, q _ _ (by rw [dec_str]; exact is_bl) hk⟩
theorem rs_ne : ∀ H d1 d2 v1 v2 k (Q : VK), Is F.W H d1 v1 → Is F.W H d2 v2 → RStr (fun i j => !(i == j)) d1 d2 k → (∀ v d, Is F.W H d v → k d → Q v H) → rNe v1 v2 H Q := by
  intro H d1 d2 v1 v2 k Q h1 h2 hr q
  obtain ⟨i, j, rfl, rfl, hk⟩ := hr
  rw [h1.str, h2.str]
  exact ⟨rfl, q _ _ (by rw [dec_str]; exact is_bl) hk⟩
theorem gw_lt (h : Gw F ts n a fun d1 n1 => Gw F ts n1 b fun d2 n2 => RC (fun i j => decide (i < j)) d1 d2 fun d => P d n2) : Gw F ts n (.Compare a [.Lt] [b] pos) P := gw_cmpR op_lt (ri_ok0 fun _ _ _ => is_bl) h (nomark _)
theorem gw_gt (h : Gw F ts n a fun d1 n1 => Gw F ts n1 b fun d2 n2 => RC (fun i j => decide (j < i)) d1 d2 fun d => P d n2) : Gw F ts n (.Compare a [.Gt] [b] pos) P := gw_cmpR op_gt (ri_ok0 fun _ _ _ => is_bl) h (nomark _)
theorem gw_le (h : Gw F ts n a fun d1 n1 => Gw F ts n1 b fun d2 n2 => RC (fun i j => decide (i ≤ j)) d1 d2 fun d => P d n2) : Gw F ts n (.Compare a [.LtE] [b] pos) P := gw_cmpR op_le (ri_ok0 fun _ _ _ => is_bl) h (nomark _)
theorem gw_eq (h : Gw F ts n a fun d1 n1 => Gw F ts n1 b fun d2 n2 => RC (fun i j => i == j) d1 d2 fun d => P d n2) : Gw F ts n (.Compare a [.Eq] [b] pos) P := gw_cmpR op_eq rc_eq h (nomark _)
theorem gw_eqS (h : Gw F ts n a fun d1 n1 => Gw F ts n1 b fun d2 n2 => RStr (fun i j => i == j) d1 d2 fun d => P d n2) : Gw F ts n (.Compare a [.Eq] [b] pos) P := gw_cmpR op_eq rs_eq h (nomark _)
theorem gt_lt {B : Bool → Nat → Prop} (h : Gw F ts n a fun d1 n1 => Gw F ts n1 b fun d2 n2 => RC (fun i j => decide (i < j)) d1 d2 fun d => ∃ t, d = .bl t ∧ B t n2) : Gt F ts n (.Compare a [.Lt] [b] pos) B := gt_cmpR op_lt (ri_ok0 fun _ _ _ => is_bl) h (nomark _)
theorem gt_gt {B : Bool → Nat → Prop} (h : Gw F ts n a fun d1 n1 => Gw F ts n1 b fun d2 n2 => RC (fun i j => decide (j < i)) d1 d2 fun d => ∃ t, d = .bl t ∧ B t n2) : Gt F ts n (.Compare a [.Gt] [b] pos) B := gt_cmpR op_gt (ri_ok0 fun _ _ _ => is_bl) h (nomark _)
theorem gt_eq {B : Bool → Nat → Prop} (h : Gw F ts n a fun d1 n1 => Gw F ts n1 b fun d2 n2 => RC (fun i j => i == j) d1 d2 fun d => ∃ t, d = .bl t ∧ B t n2) : Gt F ts n (.Compare a [.Eq] [b] pos) B := gt_cmpR op_eq rc_eq h (nomark _)
theorem gt_neS {B : Bool → Nat → Prop} (h : Gw F ts n a fun d1 n1 => Gw F ts n1 b fun d2 n2 => RStr (fun i j => !(i == j)) d1 d2 fun d => ∃ t, d = .bl t ∧ B t n2) : Gt F ts n (.Compare a [.NotEq] [b] pos) B := gt_cmpR op_ne rs_ne h (nomark _)
/-- a <= b <= c, the first known to hold -/
theorem gw_chain (h : Gw F ts n a fun d1 n1 => Gw F ts n1 b fun d2 n2 => ∃ i j, d1 = .int i ∧ d2 = .int j ∧ i ≤ j ∧ Gw F ts n2 c fun d3 n3 => ∃ l, d3 = .int l ∧ P (.bl (decide (j ≤ l))) n3) (hm : lastMarks [.LtE, .LtE] [b, c] = false := by rfl) : Gw F ts n (.Compare a [.LtE, .LtE] [b, c] pos) P := by
  intro σ H Q en k
  refine ge_of (pe_chain op_le op_le pe_ge pe_ge pe_ge hm) ?_
  refine h σ H _ en fun v H1 d1 n1 k1 p1 i1 h1 => ?_
  refine h1 σ H1 _ (en.keep k1 p1) fun v2 H2 d2 n2 k2 p2 i2 h2 => ?_
  obtain ⟨i, j, rfl, rfl, hij, h3⟩ := h2
  rw [i1.int, i2.int]
  refine ⟨i, j, rfl, rfl, _, rfl, ?_⟩
  rw [decide_eq_true hij]
  refine iteT ?_
  refine h3 σ H2 _ ((en.keep k1 p1).keep k2 p2) fun v3 H3 d3 n3 k3 p3 i3 h4 => ?_
  obtain ⟨l, rfl, h4⟩ := h4
  rw [i3.int]
  exact ⟨j, l, rfl, rfl, k _ H3 _ n3 ((k1.trans k2).trans k3) p3 is_bl h4⟩

/-! ### tests, and, or, not, if -/
variable {B : Bool → Nat → Prop}
theorem gt_val (h : Gw F ts n e fun d n1 => ∃ t, d = .bl t ∧ B t n1) (he : ∀ whole, isTrue e F.X.env whole = (do let v ← whole; standAt e.pos; holding [v] (truthy v)) := by intro _; rfl) : Gt F ts n e B := by
  intro σ H Q en k
  refine tt_of (pt_val pe_ge he) ?_
  refine h σ H _ en fun v H1 d n1 k1 p1 i1 h1 => ?_
  obtain ⟨t, rfl, ht⟩ := h1
  exact ⟨t, i1.bl, k t H1 n1 k1 p1 ht⟩
theorem gt_not (h : Gt F ts n a fun t n1 => B (!t) n1) : Gt F ts n (.UnaryOp .Not a pos) B := fun σ H Q en k => tt_of (pt_not pt_tt) (h σ H _ en fun t H1 n1 k1 p1 h1 => k _ H1 n1 k1 p1 h1)
theorem gt_b (h : Gb F ts n e B) : Gt F ts n e B := fun σ H Q en k => tt_of (PW.pt pw_tw) (h σ H Q en k)
theorem gb_or {rest : List Expr} (h : Gt F ts n a fun t n1 => if t = true then B true n1 else Gb F ts n1 (.BoolOp .Or (b :: rest) pos) B) : Gb F ts n (.BoolOp .Or (a :: b :: rest) pos) B := by
  intro σ H Q en k
  refine tw_of (pw_or pt_tt pw_tw) (h σ H _ en fun t H1 n1 k1 p1 h1 => ?_)
  cases t with
  | true => exact iteT (k true H1 n1 k1 p1 h1)
  | false => exact iteF (h1 σ H1 Q (en.keep k1 p1) fun t' H2 n2 k2 p2 h2 => k t' H2 n2 (k1.trans k2) p2 h2)
theorem gb_or1 (h : Gt F ts n a B) : Gb F ts n (.BoolOp .Or [a] pos) B := fun σ H Q en k => tw_of (pw_or1 pt_tt) (h σ H Q en k)
theorem gb_and {rest : List Expr} (h : Gt F ts n a fun t n1 => if t = true then Gb F ts n1 (.BoolOp .And (b :: rest) pos) B else B false n1) : Gb F ts n (.BoolOp .And (a :: b :: rest) pos) B := by
  intro σ H Q en k
  refine tw_of (pw_and pt_tt pw_tw) (h σ H _ en fun t H1 n1 k1 p1 h1 => ?_)
  cases t with
  | true => exact iteT (h1 σ H1 Q (en.keep k1 p1) fun t' H2 n2 k2 p2 h2 => k t' H2 n2 (k1.trans k2) p2 h2)
  | false => exact iteF (k false H1 n1 k1 p1 h1)
theorem gb_and1 (h : Gt F ts n a B) : Gb F ts n (.BoolOp .And [a] pos) B := fun σ H Q en k => tw_of (pw_and1 pt_tt) (h σ H Q en k)
theorem gw_one {op : PySem.BoolOp} (h : Gw F ts n a P) : Gw F ts n (.BoolOp op [a] pos) P := fun σ H Q en k => ge_of (pe_one pe_ge) (h σ H Q en k)
theorem gw_and {rest : List Expr} (h : Gw F ts n a fun d n1 => ∃ t, d = .bl t ∧ if t = true then Gw F ts n1 (.BoolOp .And (b :: rest) pos) P else P (.bl false) n1) : Gw F ts n (.BoolOp .And (a :: b :: rest) pos) P := by
  intro σ H Q en k
  refine ge_of (pe_and pe_ge pe_ge) (h σ H _ en fun v H1 d n1 k1 p1 i1 h1 => ?_)
  obtain ⟨t, rfl, h1⟩ := h1
  refine ⟨t, i1.bl, ?_⟩
  cases t with
  | true => exact iteT (h1 σ H1 Q (en.keep k1 p1) fun t' H2 d2 n2 k2 p2 i2 h2 => k t' H2 d2 n2 (k1.trans k2) p2 i2 h2)
  | false => exact iteF (k _ H1 _ n1 k1 p1 is_bl h1)
theorem gw_not (h : Gw F ts n a fun d n1 => ∃ t, d = .bl t ∧ P (.bl (!t)) n1) : Gw F ts n (.UnaryOp .Not a pos) P := fun σ H Q en k => ge_of (pe_not pe_ge) (h σ H _ en fun v H1 d n1 k1 p1 i1 h1 => by
  obtain ⟨t, rfl, h1⟩ := h1
  exact ⟨t, i1.bl, k _ H1 _ n1 k1 p1 is_bl h1⟩)
theorem gw_if (h : Gt F ts n c fun t n1 => if t = true then Gw F ts n1 a P else Gw F ts n1 b P) : Gw F ts n (.IfExp c a b pos) P := by
  intro σ H Q en k
  refine ge_of (pe_ifExp pt_tt pe_ge pe_ge) (h σ H _ en fun t H1 n1 k1 p1 h1 => ?_)
  cases t with
  | true => exact iteT (h1 σ H1 Q (en.keep k1 p1) fun t' H2 d2 n2 k2 p2 i2 h2 => k t' H2 d2 n2 (k1.trans k2) p2 i2 h2)
  | false => exact iteF (h1 σ H1 Q (en.keep k1 p1) fun t' H2 d2 n2 k2 p2 i2 h2 => k t' H2 d2 n2 (k1.trans k2) p2 i2 h2)

/-! ### argument lists, displays, subscripts -/
theorem ga_nil {A : List Dt → Nat → Prop} (h : A [] n) : Ga F ts n [] A := fun σ H Q en k => tl_of pa_nil (k [] H [] n (.refl _ _) en.wk.pl .nil h)
theorem ga_cons {A : List Dt → Nat → Prop} (h : Gw F ts n e fun d n1 => Ga F ts n1 es fun ds n2 => A (d :: ds) n2) (hs : starEach (e :: es) F.X.env = (false, eval e F.X.env) :: starEach es F.X.env := by rfl) : Ga F ts n (e :: es) A := by
  intro σ H Q en k
  refine tl_of (pa_cons pe_ge pa_tl hs) (h σ H _ en fun v H1 d n1 k1 p1 i1 h1 => ?_)
  refine h1 σ H1 _ (en.keep k1 p1) fun vs H2 ds n2 k2 p2 i2 h2 => ?_
  exact k _ H2 _ n2 (k1.trans k2) p2 (.cons (is_keep ((en.keep k1 p1).wk.a k2) _ _ i1) i2) h2
theorem big1000 {m : Nat} (h : m ≤ 1000) : m ≤ sizeLine := Nat.le_trans h (by decide)
theorem gw_tup {x1} (h : Ga F ts n es fun ds n1 => ds.length ≤ 1000 ∧ P (.tup ds) n1) : Gw F ts n (.Tuple es x1 pos) P := by
  intro σ H Q en k
  refine ge_of (pe_tup pa_tl) (h σ H _ en fun vs H1 ds n1 k1 p1 i1 h1 => ?_)
  refine ⟨by rw [i1.len]; exact big1000 h1.1, fun a ha => ?_⟩
  have w := (en.keep k1 p1).wk
  exact k _ _ _ n1 (k1.trans (.new ha)) (p1.new ha) (is_tup (w.fresh ha) (.of upd_same) (isAll_keep (w.a (.new ha)) _ _ i1)) h1.2
theorem gw_lst (h : Ga F ts n es fun ds n1 => ds.length ≤ 1000 ∧ P (.lst ds) n1) : Gw F ts n (.List es pos) P := by
  intro σ H Q en k
  refine ge_of (pe_lst pa_tl) (h σ H _ en fun vs H1 ds n1 k1 p1 i1 h1 => ?_)
  refine ⟨by rw [i1.len]; exact big1000 h1.1, fun a ha => ?_⟩
  have w := (en.keep k1 p1).wk
  exact k _ _ _ n1 (k1.trans (.new ha)) (p1.new ha) (is_lst (w.fresh ha) upd_same (isAll_keep (w.a (.new ha)) _ _ i1)) h1.2
/-- t[j], xs[j], j from 0 on -/
theorem gw_ixT (h : Gw F ts n a fun d1 n1 => Gw F ts n1 b fun d2 n2 => ∃ ds j d, d1 = .tup ds ∧ d2 = .int ((j : Nat) : Int) ∧ ds[j]? = some d ∧ P d n2) (hs : PlainIx b := by exact fun _ _ => rfl) : Gw F ts n (.Subscript a b pos) P := by
  intro σ H Q en k
  refine ge_of (pe_ix ix_tup pe_ge pe_ge hs) ?_
  refine h σ H _ en fun v H1 d1 n1 k1 p1 i1 h1 => ?_
  refine h1 σ H1 _ (en.keep k1 p1) fun v2 H2 d2 n2 k2 p2 i2 h2 => ?_
  obtain ⟨ds, j, d, rfl, rfl, hj, hp⟩ := h2
  have i1' := is_keep ((en.keep k1 p1).wk.a k2) _ _ i1
  obtain ⟨x, vs, rfl, hx, st, al⟩ := i1'.tup
  rw [i2.int]
  obtain ⟨u, hu, iu⟩ := al.get hj
  exact ⟨x, vs, _, u, rfl, rfl, st, atI_nat hu, k u H2 d n2 (k1.trans k2) p2 iu hp⟩
theorem gw_ixL (h : Gw F ts n a fun d1 n1 => Gw F ts n1 b fun d2 n2 => ∃ ds j d, d1 = .lst ds ∧ d2 = .int ((j : Nat) : Int) ∧ ds[j]? = some d ∧ P d n2) (hs : PlainIx b := by exact fun _ _ => rfl) : Gw F ts n (.Subscript a b pos) P := by
  intro σ H Q en k
  refine ge_of (pe_ix ix_list pe_ge pe_ge hs) ?_
  refine h σ H _ en fun v H1 d1 n1 k1 p1 i1 h1 => ?_
  refine h1 σ H1 _ (en.keep k1 p1) fun v2 H2 d2 n2 k2 p2 i2 h2 => ?_
  obtain ⟨ds, j, d, rfl, rfl, hj, hp⟩ := h2
  have i1' := is_keep ((en.keep k1 p1).wk.a k2) _ _ i1
  obtain ⟨x, vs, rfl, hx, st, al⟩ := i1'.lst
  rw [i2.int]
  obtain ⟨u, hu, iu⟩ := al.get hj
  exact ⟨x, vs, _, u, rfl, rfl, .of st, atI_nat hu, k u H2 d n2 (k1.trans k2) p2 iu hp⟩
end
end Cs

namespace Cs
open PySem PySem.Spec PyProof.Rows L2

/-! ### promises by data -/
abbrev Pt := List Dt → Nat → (Dt → Nat → Prop) → Prop
def spD (K : PySem.W.Frag) (C : Addr) (T : Pt) : Sp := fun vs H Q _ => ∃ (p : Addr) (av : List Addr) (n : Nat) (ds : List Dt) (k : Dt → Nat → Prop), Wk ⟨K, C, p, av⟩ H n ∧ IsAll ⟨K, C, p, av⟩ H ds vs ∧ T ds n k ∧
  ∀ v H' d n', Kb p H H' → Pl p H' n' → Is ⟨K, C, p, av⟩ H' d v → k d n' → Q v H'
section
variable {F : Fx} {ts : Ts} {n : Nat} {a b c e : Expr} {es : List Expr} {pos : Pos} {P : Dt → Nat → Prop}
theorem gw_call {T : Pt} {k : Nat} {f : Addr} {fd : FuncData} {ps : List Str} {x : Str} {p : Pos} (G : FnOk F.X.prog F.X.w F.X.K F.X.mg F.X.base CX0 k f fd ps (spD F.X.K F.C T)) (hr : Room k F.X.A) (hm : F.X.mg x = some (.ref f)) (hk : PySem.W.keepIn F.X.K (.ref f) = true) (hb : Binds F.X.K fd ps [])
    (h : Ga F ts n (e :: es) fun ds n1 => T ds n1 P) (hg : Gl F.X x := by rfl) (hdb : (x == ("__debug__" : Str)) = false := by decide) (he : starEach (e :: es) F.X.env = (false, eval e F.X.env) :: starEach es F.X.env := by rfl) (hpl : (backTo pos (starEach es F.X.env)).any (·.1) = false := by rfl) :
    Gw F ts n (.Call (.Name x p) (e :: es) [] pos) P := by
  intro σ H Q en k'
  refine ge_of (pe_call G hr hg hm hk hb .nil pass0 pa_tl hdb he hpl) (h σ H _ en fun vs H1 ds n1 k1 p1 i1 h1 => ?_)
  show spD F.X.K F.C T (vs ++ []) H1 Q E0
  rw [List.append_nil]
  exact ⟨F.p, F.av, n1, ds, P, (en.keep k1 p1).wk, i1, h1, fun v H' d n' k2 p2 i2 h2 => k' v H' d n' (k1.trans k2) p2 i2 h2⟩
/-- a call by keywords alone -/
def Gk (F : Fx) (ts : Ts) (n : Nat) (kws : List Keyword) (P : List Dt → Nat → Prop) : Prop := ∃ tk, PK F.X kws tk ∧ ∀ (σ : L2.St) (H : Hp) (Q : List V → Hp → Prop), En F n ts σ H →
  (∀ vs H' ds n', Kb F.p H H' → Pl F.p H' n' → IsAll F.W H' ds vs → P ds n' → Q vs H') → tk σ H Q
theorem gk_nil {A : List Dt → Nat → Prop} (h : A [] n) : Gk F ts n [] A := ⟨_, pk_nil, fun σ H Q en k => k [] H [] n (.refl _ _) en.wk.pl .nil h⟩
/-- all written values plain names (what is known of them does not change) -/
theorem gk_cons {A : List Dt → Nat → Prop} {nm : Option Str} {kpos : Pos} {kws : List Keyword} {d : Dt} (h : Gw F ts n e fun d' n1 => d' = d ∧ n1 = n) (hk : Gk F ts n kws fun ds n2 => A (d :: ds) n2) : Gk F ts n (⟨nm, e, kpos⟩ :: kws) A := by
  obtain ⟨tk, h1, h2⟩ := hk
  refine ⟨_, pk_cons pe_ge h1, fun σ H Q en k => h σ H _ en fun v H1 d1 n1 k1 p1 i1 e1 => ?_⟩
  obtain ⟨rfl, rfl⟩ := e1
  refine h2 σ H1 _ (en.keep k1 p1) fun vs H2 ds n2 k2 p2 i2 h3 => ?_
  exact k _ H2 _ n2 (k1.trans k2) p2 (.cons (is_keep ((en.keep k1 p1).wk.a k2) _ _ i1) i2) h3
theorem IsAll.perm {W : Wc} {H : Hp} {ds : List Dt} {vs : List V} (h : IsAll W H ds vs) (ix : List Nat) : ∀ {es : List Dt}, (ix.map fun i => ds[i]?) = es.map some → ∃ us, (ix.map fun i => vs[i]?) = us.map some ∧ IsAll W H es us := by
  induction ix with
  | nil =>
    intro es e
    cases es with
    | nil => exact ⟨[], rfl, .nil⟩
    | cons x r => cases e
  | cons i r ih =>
    intro es e
    cases es with
    | nil => cases e
    | cons x t =>
      have e1 : ds[i]? = some x := (List.cons.inj e).1
      obtain ⟨us, h1, h2⟩ := ih (List.cons.inj e).2
      obtain ⟨u, hu, iu⟩ := h.get e1
      exact ⟨u :: us, by rw [List.map_cons, List.map_cons, h1, hu], .cons iu h2⟩
theorem gw_callK {T : Pt} {k : Nat} {f : Addr} {fd : FuncData} {ps ks : List Str} {x : Str} {p : Pos} {kws : List Keyword} {g : List Value → List Value → List Value} {gV : List V → List V → List V} (G : FnOk F.X.prog F.X.w F.X.K F.X.mg F.X.base CX0 k f fd ps (spD F.X.K F.C T)) (hr : Room k F.X.A) (hm : F.X.mg x = some (.ref f)) (hk : PySem.W.keepIn F.X.K (.ref f) = true)
    (hb : KBn F.X.K fd ps 0 ks g gV) (h : Gk F ts n kws fun ds n1 => ds.length = ks.length ∧ ∃ gD : List Dt, (∀ H vs, IsAll F.W H ds vs → IsAll F.W H gD (gV [] vs)) ∧ T gD n1 P) (hg : Gl F.X x := by rfl) (hdb : (x == ("__debug__" : Str)) = false := by decide)
    (hall : (backToKw pos (keywordEach kws F.X.env)).all (·.1.isSome) = true := by rfl) (hks : (backToKw pos (keywordEach kws F.X.env)).filterMap (·.1) = ks := by rfl)
    (hpl : ((backTo pos (starEach [] F.X.env)).any (·.1) || (backToKw pos (keywordEach kws F.X.env)).any (·.1.isNone)) = false := by rfl) : Gw F ts n (.Call (.Name x p) [] kws pos) P := by
  obtain ⟨tk, hpk, h⟩ := h
  intro σ H Q en k' pins s I
  refine wpAny_Call_Name_kw (ld_glob I hg hm ?_ hdb)
  refine PySem.W.callWith_KW0 (h₀ := F.X.base) I.ok.mod.kin hk hall ?_ hpl
  refine thn (hpk.run pos pins s σ H (fun vs H1 => vs.length = ks.length ∧ spD F.X.K F.C T (gV [] vs) H1 Q E0) I (h σ H _ en fun vs H1 ds n1 k1 p1 i1 h1 => ?_)) fun ws s2 ⟨zs, H2, I2, rz, l2, q2⟩ => ⟨I2.kIn, ?_⟩
  · obtain ⟨hl, gD, hD, hT⟩ := h1
    exact ⟨by rw [i1.len]; exact hl, F.p, F.av, n1, gD, P, (en.keep k1 p1).wk, hD _ _ i1, hT, fun v H' d n' k2 p2 i2 h2 => k' v H' d n' (k1.trans k2) p2 i2 h2⟩
  · rw [hks]
    exact run_fnN (us := []) (vs := []) G hr hb pass0 I2 .nil rz rfl l2 q2

/-! ### built-ins -/
theorem gw_B {x : Str} {id : String} {r : List V → Hp → VK → Prop} {p : Pos} {A : List Dt → Nat → Prop} (hc : CallR F.X (.builtin id) r) (hm : F.X.mg x = none) (hv : bootBuiltins x = some (.builtin id))
    (hr : ∀ H (vs : List V) (ds : List Dt) n1 (Q : VK), Wk F.W H n1 → IsAll F.W H ds vs → A ds n1 → (∀ v H' d n', Kb F.p H H' → Pl F.p H' n' → Is F.W H' d v → P d n' → Q v H') → r vs H Q)
    (h : Ga F ts n (e :: es) A) (hg : Gl F.X x := by rfl) (hn : x ≠ "__name__" := by decide) (hdb : (x == ("__debug__" : Str)) = false := by decide) (he : starEach (e :: es) F.X.env = (false, eval e F.X.env) :: starEach es F.X.env := by rfl) (hpl : (backTo pos (starEach es F.X.env)).any (·.1) = false := by rfl) :
    Gw F ts n (.Call (.Name x p) (e :: es) [] pos) P := by
  intro σ H Q en k'
  refine ge_of (pe_callB hc hg hm hv pa_tl hn hdb he hpl) (h σ H _ en fun vs H1 ds n1 k1 p1 i1 h1 => ?_)
  exact hr H1 vs ds n1 Q (en.keep k1 p1).wk i1 h1 fun v H' d n' k2 p2 i2 h2 => k' v H' d n' (k1.trans k2) p2 i2 h2
theorem gw_BT {x : Str} {T : String} {r : List V → Hp → VK → Prop} {p : Pos} {A : List Dt → Nat → Prop} (hc : CallR F.X (.type T) r) (hm : F.X.mg x = none) (hv : bootBuiltins x = some (.type T))
    (hr : ∀ H (vs : List V) (ds : List Dt) n1 (Q : VK), Wk F.W H n1 → IsAll F.W H ds vs → A ds n1 → (∀ v H' d n', Kb F.p H H' → Pl F.p H' n' → Is F.W H' d v → P d n' → Q v H') → r vs H Q)
    (h : Ga F ts n (e :: es) A) (hg : Gl F.X x := by rfl) (hn : x ≠ "__name__" := by decide) (hdb : (x == ("__debug__" : Str)) = false := by decide) (he : starEach (e :: es) F.X.env = (false, eval e F.X.env) :: starEach es F.X.env := by rfl) (hpl : (backTo pos (starEach es F.X.env)).any (·.1) = false := by rfl) :
    Gw F ts n (.Call (.Name x p) (e :: es) [] pos) P := by
  intro σ H Q en k'
  refine ge_of (pe_callTy hc hg hm hv pa_tl hn hdb he hpl) (h σ H _ en fun vs H1 ds n1 k1 p1 i1 h1 => ?_)
  exact hr H1 vs ds n1 Q (en.keep k1 p1).wk i1 h1 fun v H' d n' k2 p2 i2 h2 => k' v H' d n' (k1.trans k2) p2 i2 h2
theorem is1 {W : Wc} {H : Hp} {d : Dt} {vs : List V} (h : IsAll W H [d] vs) : ∃ v, vs = [v] ∧ Is W H d v := by
  unfold IsAll at h
  obtain ⟨v, r, rfl, h1, h2⟩ := h
  unfold IsAll at h2
  exact ⟨v, by rw [h2], h1⟩
theorem is2 {W : Wc} {H : Hp} {d d' : Dt} {vs : List V} (h : IsAll W H [d, d'] vs) : ∃ v u, vs = [v, u] ∧ Is W H d v ∧ Is W H d' u := by
  unfold IsAll at h
  obtain ⟨v, r, rfl, h1, h2⟩ := h
  obtain ⟨u, rfl, h3⟩ := is1 h2
  exact ⟨v, u, rfl, h1, h3⟩
/-- the type of data -/
def tyD : Dt → Option String
  | .int _ => some "int"
  | .bl _ => some "bool"
  | .non => some "NoneType"
  | .str _ => some "str"
  | .tup _ => some "tuple"
  | .lst _ => some "list"
  | _ => none
theorem tyD_x {W : Wc} {H : Hp} {d : Dt} {v : V} {S : String} (h : Is W H d v) (e : tyD d = some S) : TyX W.K H v (.type S) := by
  cases d with
  | int i => cases e; rw [h.int]; exact .base (.int i)
  | bl i => cases e; rw [h.bl]; exact .base (.bl i)
  | non => cases e; rw [h.non]; exact .base .non
  | str i => cases e; rw [h.str]; exact .base (.str i)
  | tup ds =>
    cases e
    obtain ⟨a, vs, rfl, _, s, _⟩ := h.tup
    rcases s with (z | ⟨o, z⟩) | ⟨o, _, _, z, hc, _⟩
    · exact .base (.tup z)
    · exact .fTuple z
    · exact .kTuple z hc
  | lst ds =>
    cases e
    obtain ⟨a, vs, rfl, _, s, _⟩ := h.lst
    exact .base (.lst s)
  | acc ds => cases e
  | tab c r => cases e
  | pail => cases e
  | ty n => cases e
  | cls => cases e
theorem gw_isi {p : Pos} (hm : F.X.mg "isinstance" = none) (h : Ga F ts n (e :: es) fun ds n1 => ∃ d T S t, ds = [d, .ty T] ∧ tyD d = some S ∧ kitB S T = some t ∧ P (.bl t) n1) (hg : Gl F.X "isinstance" := by rfl)
    (he : starEach (e :: es) F.X.env = (false, eval e F.X.env) :: starEach es F.X.env := by rfl) (hpl : (backTo pos (starEach es F.X.env)).any (·.1) = false := by rfl) : Gw F ts n (.Call (.Name "isinstance" p) (e :: es) [] pos) P := by
  refine gw_B call_isi hm (by decide +kernel) (fun H vs ds n1 Q w i1 hA k => ?_) h hg (he := he) (hpl := hpl)
  obtain ⟨d, T, S, t, rfl, h1, h2, h3⟩ := hA
  obtain ⟨v, u, rfl, iv, iu⟩ := is2 i1
  rw [iu.ty]
  exact ⟨v, .ty T, .type S, .type T, t, rfl, .ty T, tyD_x iv h1, kit_ty h2, k _ H _ n1 (.refl _ _) w.pl is_bl h3⟩
theorem gw_len {p : Pos} (hm : F.X.mg "len" = none) (h : Ga F ts n (e :: es) fun ds n1 => ∃ d m, ds = [d] ∧ ((∃ es, d = .tup es ∧ es.length = m) ∨ (∃ es, d = .lst es ∧ es.length = m) ∨ (∃ x : Str, d = .str x ∧ x.length ≤ sizeLine ∧ x.length = m)) ∧ P (.int (m : Int)) n1) (hg : Gl F.X "len" := by rfl)
    (he : starEach (e :: es) F.X.env = (false, eval e F.X.env) :: starEach es F.X.env := by rfl) (hpl : (backTo pos (starEach es F.X.env)).any (·.1) = false := by rfl) : Gw F ts n (.Call (.Name "len" p) (e :: es) [] pos) P := by
  refine gw_B (CallR.or call_len_seq call_len_str) hm PySem.boot_len (fun H vs ds n1 Q w i1 hA k => ?_) h hg (he := he) (hpl := hpl)
  obtain ⟨d, m, rfl, h1, h3⟩ := hA
  obtain ⟨v, rfl, iv⟩ := is1 i1
  rcases h1 with ⟨es, rfl, hl⟩ | ⟨es, rfl, hl⟩ | ⟨x, rfl, hz, hl⟩
  · obtain ⟨a, vs, rfl, _, s, al⟩ := iv.tup
    refine .inl ⟨a, vs, rfl, .inr s, ?_⟩
    rw [al.len, hl]
    exact k _ H _ n1 (.refl _ _) w.pl is_int h3
  · obtain ⟨a, vs, rfl, _, s, al⟩ := iv.lst
    refine .inl ⟨a, vs, rfl, .inl (.of s), ?_⟩
    rw [al.len, hl]
    exact k _ H _ n1 (.refl _ _) w.pl is_int h3
  · rw [iv.str]
    refine .inr ⟨x, rfl, hz, ?_⟩
    rw [hl]
    exact k _ H _ n1 (.refl _ _) w.pl is_int h3
theorem gw_abs {p : Pos} (hm : F.X.mg "abs" = none) (h : Ga F ts n (e :: es) fun ds n1 => ∃ i, ds = [.int i] ∧ P (.int (i.natAbs : Int)) n1) (hg : Gl F.X "abs" := by rfl)
    (he : starEach (e :: es) F.X.env = (false, eval e F.X.env) :: starEach es F.X.env := by rfl) (hpl : (backTo pos (starEach es F.X.env)).any (·.1) = false := by rfl) : Gw F ts n (.Call (.Name "abs" p) (e :: es) [] pos) P := by
  refine gw_B call_abs hm (by decide +kernel) (fun H vs ds n1 Q w i1 hA k => ?_) h hg (he := he) (hpl := hpl)
  obtain ⟨i, rfl, h3⟩ := hA
  obtain ⟨v, rfl, iv⟩ := is1 i1
  rw [iv.int]
  refine ⟨i, rfl, k _ H _ n1 (.refl _ _) w.pl ?_ h3⟩
  have e : (if i < 0 then -i else i) = (i.natAbs : Int) := by split <;> omega
  rw [e]
  exact is_int
theorem gw_int1 {p : Pos} (hm : F.X.mg "int" = none) (h : Ga F ts n (e :: es) fun ds n1 => ∃ i, ds = [.int i] ∧ P (.int i) n1) (hg : Gl F.X "int" := by rfl)
    (he : starEach (e :: es) F.X.env = (false, eval e F.X.env) :: starEach es F.X.env := by rfl) (hpl : (backTo pos (starEach es F.X.env)).any (·.1) = false := by rfl) : Gw F ts n (.Call (.Name "int" p) (e :: es) [] pos) P := by
  refine gw_BT call_int1 hm (by decide +kernel) (fun H vs ds n1 Q w i1 hA k => ?_) h hg (he := he) (hpl := hpl)
  obtain ⟨i, rfl, h3⟩ := hA
  obtain ⟨v, rfl, iv⟩ := is1 i1
  rw [iv.int]
  exact .inl ⟨i, rfl, k _ H _ n1 (.refl _ _) w.pl is_int h3⟩
theorem isAll_bls {W : Wc} {H : Hp} : ∀ {bs : List Bool} {vs : List V}, IsAll W H (bs.map .bl) vs → vs = bs.map .bl
  | [], vs, h => by unfold List.map IsAll at h; exact h
  | b :: bs, vs, h => by
    unfold List.map IsAll at h
    obtain ⟨v, r, rfl, h1, h2⟩ := h
    rw [h1.bl, isAll_bls h2]
    rfl
theorem gw_all {p : Pos} (hm : F.X.mg "all" = none) (hc : F.X.calm = true) (h : Ga F ts n (e :: es) fun ds n1 => ∃ bs : List Bool, ds = [.lst (bs.map .bl)] ∧ P (.bl (bs.all id)) n1) (hg : Gl F.X "all" := by rfl)
    (he : starEach (e :: es) F.X.env = (false, eval e F.X.env) :: starEach es F.X.env := by rfl) (hpl : (backTo pos (starEach es F.X.env)).any (·.1) = false := by rfl) : Gw F ts n (.Call (.Name "all" p) (e :: es) [] pos) P := by
  refine gw_B (cr_all hc) hm (by decide +kernel) (fun H vs ds n1 Q w i1 hA k => ?_) h hg (he := he) (hpl := hpl)
  obtain ⟨bs, rfl, h3⟩ := hA
  obtain ⟨v, rfl, iv⟩ := is1 i1
  obtain ⟨a, vs, rfl, _, s, al⟩ := iv.lst
  rw [isAll_bls al] at s
  exact ⟨a, bs, rfl, .of s, k _ H _ n1 (.refl _ _) w.pl is_bl h3⟩
theorem gw_any {p : Pos} (hm : F.X.mg "any" = none) (hc : F.X.calm = true) (h : Ga F ts n (e :: es) fun ds n1 => ∃ bs : List Bool, ds = [.lst (bs.map .bl)] ∧ P (.bl (bs.any id)) n1) (hg : Gl F.X "any" := by rfl)
    (he : starEach (e :: es) F.X.env = (false, eval e F.X.env) :: starEach es F.X.env := by rfl) (hpl : (backTo pos (starEach es F.X.env)).any (·.1) = false := by rfl) : Gw F ts n (.Call (.Name "any" p) (e :: es) [] pos) P := by
  refine gw_B (cr_any hc) hm (by decide +kernel) (fun H vs ds n1 Q w i1 hA k => ?_) h hg (he := he) (hpl := hpl)
  obtain ⟨bs, rfl, h3⟩ := hA
  obtain ⟨v, rfl, iv⟩ := is1 i1
  obtain ⟨a, vs, rfl, _, s, al⟩ := iv.lst
  rw [isAll_bls al] at s
  exact ⟨a, bs, rfl, .of s, k _ H _ n1 (.refl _ _) w.pl is_bl h3⟩
/-- tuple(a new or known list) -/
theorem gw_tuple {p : Pos} (hm : F.X.mg "tuple" = none) (h : Ga F ts n (e :: es) fun ds n1 => ∃ xs, ds = [.lst xs] ∧ P (.tup xs) n1) (hg : Gl F.X "tuple" := by rfl)
    (he : starEach (e :: es) F.X.env = (false, eval e F.X.env) :: starEach es F.X.env := by rfl) (hpl : (backTo pos (starEach es F.X.env)).any (·.1) = false := by rfl) : Gw F ts n (.Call (.Name "tuple" p) (e :: es) [] pos) P := by
  refine gw_BT call_tuple_of hm (by decide +kernel) (fun H vs ds n1 Q w i1 hA k => ?_) h hg (he := he) (hpl := hpl)
  obtain ⟨xs, rfl, h3⟩ := hA
  obtain ⟨v, rfl, iv⟩ := is1 i1
  obtain ⟨a, vs, rfl, _, s, al⟩ := iv.lst
  refine ⟨a, vs, rfl, .inl ⟨.of s, fun l hl => ?_⟩⟩
  exact k _ _ _ n1 (.new hl) (w.pl.new hl) (is_tup (w.fresh hl) (.of upd_same) (isAll_keep (w.a (.new hl)) _ _ al)) h3
/-- tuple(the growing list) -/
theorem gw_tupleAcc (i : Nat) {p px : Pos} {x : Str} {xs : List Dt} (hm : F.X.mg "tuple" = none) (h : P (.tup xs) n) (hi : ts[i]? = some (some (.acc xs)) := by rfl) (hN : F.X.N[i]? = some x := by rfl) (hv : Vis F.X.env.scope x := by first | exact Or.inl rfl | exact Or.inr (Or.inl rfl) | exact Or.inr (Or.inr rfl))
    (hd : (x == ("__debug__" : Str)) = false := by decide) (hcd : (x == ("__classdict__" : Str)) = false := by decide) (hg : Gl F.X "tuple" := by rfl)
    (he : starEach [.Name x px] F.X.env = (false, eval (.Name x px) F.X.env) :: starEach [] F.X.env := by rfl) (hpl : (backTo pos (starEach [] F.X.env)).any (·.1) = false := by rfl) : Gw F ts n (.Call (.Name "tuple" p) [.Name x px] [] pos) P := by
  intro σ H Q en k
  refine ge_of (pe_callTy call_tuple_of hg hm (by decide +kernel) (pa_cons (pe_var hN hv hd hcd) pa_nil he) (he := he) (hpl := hpl)) ?_
  obtain ⟨v, h1, h2⟩ := en.sl i _ hi
  refine ⟨v, h1, ?_⟩
  obtain ⟨a, vs, rfl, hq, s, al⟩ := h2
  refine ⟨a, vs, rfl, .inl ⟨SqL.of s, fun l hl => ?_⟩⟩
  exact k _ _ _ n (.new hl) (en.wk.pl.new hl) (is_tup (en.wk.fresh hl) (.of upd_same) (isAll_keep (en.wk.a (.new hl)) _ _ al)) h
/-- xs + ys -/
theorem gw_cat (h : Gw F ts n a fun d1 n1 => Gw F ts n1 b fun d2 n2 => ∃ xs ys, d1 = .lst xs ∧ d2 = .lst ys ∧ xs.length + ys.length ≤ 1000 ∧ P (.lst (xs ++ ys)) n2) : Gw F ts n (.BinOp a .Add b pos) P := by
  intro σ H Q en k
  refine ge_of (pe_op op_cat pe_ge pe_ge) ?_
  refine h σ H _ en fun v H1 d1 n1 k1 p1 i1 h1 => ?_
  refine h1 σ H1 _ (en.keep k1 p1) fun v2 H2 d2 n2 k2 p2 i2 h2 => ?_
  obtain ⟨xs, ys, rfl, rfl, hz, hp⟩ := h2
  have w := ((en.keep k1 p1).keep k2 p2).wk
  obtain ⟨l, vs, rfl, hl, sl, al⟩ := (is_keep ((en.keep k1 p1).wk.a k2) _ _ i1).lst
  obtain ⟨m, us, rfl, hm, sm, am⟩ := i2.lst
  refine ⟨l, m, vs, us, rfl, rfl, sl, sm, by rw [al.len, am.len]; exact big1000 hz, fun q hq => ?_⟩
  exact k _ _ _ n2 ((k1.trans k2).trans (.new hq)) (p2.new hq) (is_lst (w.fresh hq) upd_same (isAll_keep (w.a (.new hq)) _ _ (al.app am))) hp
/-- [x] * 2 -/
theorem gw_rep2 (h : Gw F ts n a fun d1 n1 => Gw F ts n1 b fun d2 n2 => ∃ x, d1 = .lst [x] ∧ d2 = .int 2 ∧ P (.lst [x, x]) n2) : Gw F ts n (.BinOp a .Mult b pos) P := by
  intro σ H Q en k
  refine ge_of (pe_op op_rep pe_ge pe_ge) ?_
  refine h σ H _ en fun v H1 d1 n1 k1 p1 i1 h1 => ?_
  refine h1 σ H1 _ (en.keep k1 p1) fun v2 H2 d2 n2 k2 p2 i2 h2 => ?_
  obtain ⟨x, rfl, rfl, hp⟩ := h2
  have w := ((en.keep k1 p1).keep k2 p2).wk
  obtain ⟨l, vs, rfl, hl, sl, al⟩ := (is_keep ((en.keep k1 p1).wk.a k2) _ _ i1).lst
  rw [i2.int]
  obtain ⟨u, rfl, iu⟩ := is1 al
  refine ⟨l, 2, [u], rfl, rfl, sl, by decide, by decide, (by show 1 * 2 ≤ sizeLine; decide), fun q hq => ?_⟩
  exact k _ _ _ n2 ((k1.trans k2).trans (.new hq)) (p2.new hq) (is_lst (vs := [u, u]) (w.fresh hq) upd_same (isAll_keep (w.a (.new hq)) _ _ (.cons iu (.cons iu .nil)))) hp
/-- s in t, s one sign -/
theorem gw_inSign (h : Gw F ts n a fun d1 n1 => Gw F ts n1 b fun d2 n2 => ∃ c z, d1 = .str ⟨#[c]⟩ ∧ d2 = .str z ∧ P (.bl (decide (c ∈ z.cps.toList))) n2) (hm : behindInMarks .In b = false := by rfl) : Gw F ts n (.Compare a [.In] [b] pos) P := by
  intro σ H Q en k
  refine ge_of (pe_cmpR op_in_sign pe_ge pe_ge hm) ?_
  refine h σ H _ en fun v H1 d1 n1 k1 p1 i1 h1 => ?_
  refine h1 σ H1 _ (en.keep k1 p1) fun v2 H2 d2 n2 k2 p2 i2 h2 => ?_
  obtain ⟨c, z, rfl, rfl, hp⟩ := h2
  rw [i1.str, i2.str]
  exact ⟨c, z, rfl, rfl, k _ H2 _ n2 (k1.trans k2) p2 is_bl hp⟩
/-- x in t, t a tuple or a list of texts -/
theorem isAll_strs {W : Wc} {H : Hp} : ∀ {xs : List Str} {vs : List V}, IsAll W H (xs.map .str) vs → vs = xs.map .str
  | [], vs, h => by unfold List.map IsAll at h; exact h
  | b :: bs, vs, h => by
    unfold List.map IsAll at h
    obtain ⟨v, r, rfl, h1, h2⟩ := h
    rw [h1.str, isAll_strs h2]
    rfl
theorem strs_flat : ∀ xs : List Str, (xs.map V.str).all flatV = true
  | [] => rfl
  | x :: xs => by
    rw [List.map_cons, List.all_cons, strs_flat xs]
    rfl
theorem inV_strs (x : Str) : ∀ xs : List Str, inV (.str x) (xs.map V.str) = decide (x ∈ xs)
  | [] => by simp [inV]
  | y :: xs => by
    have ih := inV_strs x xs
    unfold inV at ih ⊢
    rw [List.map_cons, List.any_cons, ih]
    by_cases e : x = y
    · subst e
      simp [eqV]
    · have e' : ¬ y = x := fun z => e z.symm
      simp [eqV, e, e']
theorem gt_inStrs {B : Bool → Nat → Prop} (h : Gw F ts n a fun d1 n1 => Gw F ts n1 b fun d2 n2 => ∃ (x : Str) (xs : List Str), d1 = .str x ∧ (d2 = .tup (xs.map .str) ∨ d2 = .lst (xs.map .str)) ∧ B (decide (x ∈ xs)) n2) (hm : behindInMarks .In b = false := by rfl) : Gt F ts n (.Compare a [.In] [b] pos) B := by
  intro σ H Q en k
  refine tt_of (pt_cmpR op_in_seq pe_ge pe_ge hm) ?_
  refine h σ H _ en fun v H1 d1 n1 k1 p1 i1 h1 => ?_
  refine h1 σ H1 _ (en.keep k1 p1) fun v2 H2 d2 n2 k2 p2 i2 h2 => ?_
  obtain ⟨x, xs, rfl, hd, hp⟩ := h2
  rw [i1.str]
  rcases hd with rfl | rfl
  · obtain ⟨l, vs, rfl, hl, sl, al⟩ := i2.tup
    rw [isAll_strs al] at sl
    refine ⟨l, _, rfl, .inr sl, rfl, strs_flat xs, _, rfl, ?_⟩
    rw [if_neg Bool.false_ne_true, inV_strs]
    exact k _ H2 n2 (k1.trans k2) p2 hp
  · obtain ⟨l, vs, rfl, hl, sl, al⟩ := i2.lst
    rw [isAll_strs al] at sl
    refine ⟨l, _, rfl, .inl (.of sl), rfl, strs_flat xs, _, rfl, ?_⟩
    rw [if_neg Bool.false_ne_true, inV_strs]
    exact k _ H2 n2 (k1.trans k2) p2 hp
end
end Cs

namespace Cs
open PySem PySem.Spec PyProof.Rows L2
section
variable {F : Fx} {ts : Ts} {n : Nat} {a b c e : Expr} {es : List Expr} {pos : Pos} {P : Dt → Nat → Prop} {N : Ts → Nat → Prop} {R : Dt → Nat → Prop} {st : Stmt} {sts : List Stmt}
/-! ### statements -/
theorem gs_nil (h : N ts n) : Gs F ts n [] N R := fun σ H D en kn kr => sl_of pss_nil (kn σ H ts n (.refl _ _ _) en h)
theorem gs_one (h : G1 F ts n st N R) : Gs F ts n [st] N R := fun σ H D en kn kr => sl_of (pss_one ps_sg) (h σ H D en kn kr)
theorem gs_cons (h : G1 F ts n st (fun ts1 n1 => Gs F ts1 n1 sts N R) R) : Gs F ts n (st :: sts) N R := by
  intro σ H D en kn kr
  refine sl_of (pss_cons ps_sg pss_sl) (h σ H _ en (fun σ1 H1 ts1 n1 k1 e1 h1 => ?_) kr)
  exact h1 σ1 H1 D e1 (fun σ2 H2 ts2 n2 k2 e2 h2 => kn σ2 H2 ts2 n2 (k1.trans k2) e2 h2) kr
theorem g1_ret (h : Gw F ts n e R) : G1 F ts n (.Return (some e) pos) N R := fun σ H D en kn kr => sg_of (ps_ret pe_ge) (h σ H _ en fun v H1 d n1 k1 p1 i1 h1 => kr v H1 d n1 (en.base.trans k1) p1 i1 h1)
theorem g1_set (i : Nat) {x : Str} {px : Pos} (nd : F.X.N.Nodup) (h : Gw F ts n e fun d n1 => N (ts.set i (some d)) n1) (hi : i < ts.length := by simp) (hN : F.X.N[i]? = some x := by rfl) (hx : Loc F.X.env.scope x := by first | exact Or.inl rfl | exact Or.inr rfl)
    (hs : swapsWith e (some (.Name x px)) pos.line F.X.env = pure false := by rfl) (hf : F.X.fn x = true ∨ F.X.env.scope.names.lookup x = some .local := by first | exact .inl rfl | exact .inr rfl) : G1 F ts n (.Assign [.Name x px] e pos) N R :=
  fun σ H D en kn kr => sg_of (ps_set nd hN hx pe_ge hs hf) (h σ H _ en fun v H1 d n1 k1 p1 i1 h1 => kn _ H1 _ n1 k1.q ((en.keep k1 p1).set hi (isS_of i1)) h1)
/-- a, b = e1, e2 -/
theorem g1_par (i j : Nat) {x y : Str} {px py pt : Pos} {kt k2 pt2} (nd : F.X.N.Nodup) (hij : i ≠ j) (hc : F.X.calm = true) (h : Ga F ts n [a, b] fun ds n1 => ∃ d1 d2, ds = [d1, d2] ∧ N ((ts.set i (some d1)).set j (some d2)) n1) (hi : i < ts.length := by simp) (hj : j < ts.length := by simp) (hNi : F.X.N[i]? = some x := by rfl) (hNj : F.X.N[j]? = some y := by rfl)
    (hx : F.X.env.scope.names.lookup x = some .local := by rfl) (hy : F.X.env.scope.names.lookup y = some .local := by rfl) (hw : swappedStores [.Tuple [.Name x px, .Name y py] kt pt] (.Tuple [a, b] k2 pt2) F.X.env = pure (some [x, y]) := by rfl)
    (hs : swapsWithSole [.Tuple [.Name x px, .Name y py] kt pt] (.Tuple [a, b] k2 pt2) pos.line F.X.env = pure false := by rfl) : G1 F ts n (.Assign [.Tuple [.Name x px, .Name y py] kt pt] (.Tuple [a, b] k2 pt2) pos) N R := by
  intro σ H D en kn kr
  refine sg_of (ps_par hc nd hNi hNj hij hx hy pa_tl hw hs) (h σ H _ en fun vs H1 ds n1 k1 p1 i1 h1 => ?_)
  obtain ⟨d1, d2, rfl, hN⟩ := h1
  obtain ⟨v, u, rfl, iv, iu⟩ := is2 i1
  exact ⟨v, u, rfl, kn _ H1 _ n1 k1.q (((en.keep k1 p1).set hi (isS_of iv)).set (by rw [List.length_set]; exact hj) (isS_of iu)) hN⟩
/-- a, b = e, e a pair -/
theorem g1_unp (i j : Nat) {x y : Str} {px py pt : Pos} {kt} (nd : F.X.N.Nodup) (hc : F.X.calm = true) (h : Gw F ts n e fun d n1 => ∃ d1 d2, d = .tup [d1, d2] ∧ N ((ts.set i (some d1)).set j (some d2)) n1) (hi : i < ts.length := by simp) (hj : j < ts.length := by simp) (hNi : F.X.N[i]? = some x := by rfl) (hNj : F.X.N[j]? = some y := by rfl)
    (hx : Loc F.X.env.scope x := by first | exact Or.inl rfl | exact Or.inr rfl) (hy : Loc F.X.env.scope y := by first | exact Or.inl rfl | exact Or.inr rfl) (hfx : F.X.fn x = true ∨ F.X.env.scope.names.lookup x = some .local := by first | exact .inl rfl | exact .inr rfl) (hfy : F.X.fn y = true ∨ F.X.env.scope.names.lookup y = some .local := by first | exact .inl rfl | exact .inr rfl)
    (hs : swapsWithSole [.Tuple [.Name x px, .Name y py] kt pt] e pos.line F.X.env = pure false := by rfl) (hw : swappedStores [.Tuple [.Name x px, .Name y py] kt pt] e F.X.env = pure none := by rfl) : G1 F ts n (.Assign [.Tuple [.Name x px, .Name y py] kt pt] e pos) N R := by
  intro σ H D en kn kr
  refine sg_of (ps_asg pe_ge (pg_tup hc (pgs_cons (pg_name nd hNi hx hfx) (pgs_cons (pg_name nd hNj hy hfy) pgs_nil))) hs hw) (h σ H _ en fun v H1 d n1 k1 p1 i1 h1 => ?_)
  obtain ⟨d1, d2, rfl, hN⟩ := h1
  obtain ⟨l, vs, rfl, _, sl, al⟩ := i1.tup
  obtain ⟨v, u, rfl, iv, iu⟩ := is2 al
  exact ⟨l, _, rfl, sl, rfl, v, [u], rfl, u, [], rfl, rfl, kn _ H1 _ n1 k1.q (((en.keep k1 p1).set hi (isS_of iv)).set (by rw [List.length_set]; exact hj) (isS_of iu)) hN⟩
theorem g1_if {A B : List Stmt} (h : Gt F ts n c fun t n1 => if t = true then Gs F ts n1 A N R else Gs F ts n1 B N R) : G1 F ts n (.If c A B pos) N R := by
  intro σ H D en kn kr
  refine sg_of (ps_if pt_tt pss_sl pss_sl) (h σ H _ en fun t H1 n1 k1 p1 h1 => ?_)
  cases t with
  | true => exact iteT (h1 σ H1 D (en.keep k1 p1) (fun σ2 H2 ts2 n2 k2 e2 h2 => kn σ2 H2 ts2 n2 (k1.q.trans k2) e2 h2) kr)
  | false => exact iteF (h1 σ H1 D (en.keep k1 p1) (fun σ2 H2 ts2 n2 k2 e2 h2 => kn σ2 H2 ts2 n2 (k1.q.trans k2) e2 h2) kr)
/-- if c: what never comes -/
theorem g1_unless {A : List Stmt} (h : Gt F ts n c fun t n1 => t = false ∧ N ts n1) : G1 F ts n (.If c A [] pos) N R := by
  intro σ H D en kn kr
  refine sg_of (ps_if pt_tt (pss_never (sts := A)) pss_nil) (h σ H _ en fun t H1 n1 k1 p1 h1 => ?_)
  obtain ⟨rfl, h1⟩ := h1
  exact iteF (kn σ H1 ts n1 k1.q (en.keep k1 p1) h1)
theorem g1_expr (h : Gw F ts n e fun _ n1 => N ts n1) (hs : swapsWith e none pos.line F.X.env = pure false := by rfl) : G1 F ts n (.Expr e pos) N R :=
  fun σ H D en kn kr => sg_of (ps_expr pe_ge hs) (h σ H _ en fun v H1 d n1 k1 p1 i1 h1 => kn σ H1 ts n1 k1.q (en.keep k1 p1) h1)
theorem g1_while {A : List Stmt} (hp : PassesOwn (model F.X.prog F.X.w) F.X.A F.X.env F.X.xe) (I : Nat → Ts → Nat → Prop) (h0 : ∃ m, I m ts n)
    (h : ∀ m ts1 n1, I m ts1 n1 → Gt F ts1 n1 c fun t n2 => if t = true then Gs F ts1 n2 A (fun ts2 n3 => ∃ m', m' < m ∧ I m' ts2 n3) (fun _ _ => False) else N ts1 n2) : G1 F ts n (.While c A [] pos) N R := by
  intro σ H D en kn kr
  refine sg_of (ps_while hp pt_tt pss_sl) ?_
  refine ⟨fun m σ1 H1 => ∃ ts1 n1, Kq F.p F.q H H1 ∧ En F n1 ts1 σ1 H1 ∧ I m ts1 n1, ?_, fun m σ1 H1 hW => ?_⟩
  · obtain ⟨m, hm⟩ := h0
    exact ⟨m, ts, n, .refl _ _ _, en, hm⟩
  · obtain ⟨ts1, n1, k1, e1, i1⟩ := hW
    refine h m ts1 n1 i1 σ1 H1 _ e1 fun t H2 n2 k2 p2 h2 => ?_
    cases t with
    | true =>
      refine iteT ⟨fun σ' H' => ∃ m', m' < m ∧ ∃ ts1 n1, Kq F.p F.q H H' ∧ En F n1 ts1 σ' H' ∧ I m' ts1 n1, fun σ' H' hN => hN, ?_⟩
      refine h2 σ1 H2 _ (e1.keep k2 p2) (fun σ3 H3 ts3 n3 k3 e3 h3 => ?_) (fun _ _ _ _ _ _ _ z => z.elim)
      obtain ⟨m', hm, hI⟩ := h3
      exact ⟨m', hm, ts3, n3, (k1.trans k2.q).trans k3, e3, hI⟩
    | false => exact iteF (kn σ1 H2 ts1 n2 (k1.trans k2.q) (e1.keep k2 p2) h2)
/-! ### a growing list -/
theorem gs_acc (i : Nat) {x : Str} {px lp : Pos} (nd : F.X.N.Nodup) (hq : F.q = none) (h : ∀ q : Addr, Gs { F with q := some q, av := q :: F.av } (ts.set i (some (.acc []))) n sts (fun _ _ => False) R) (hi : i < ts.length := by simp) (hna : ∀ (j : Nat) (d : Dt), ts[j]? = some (some d) → naD d = true) (hN : F.X.N[i]? = some x := by rfl) (hx : Loc F.X.env.scope x := by first | exact Or.inl rfl | exact Or.inr rfl)
    (hs : swapsWith (.List [] lp) (some (.Name x px)) pos.line F.X.env = pure false := by rfl) (hf : F.X.fn x = true ∨ F.X.env.scope.names.lookup x = some .local := by first | exact .inl rfl | exact .inr rfl) : Gs F ts n (.Assign [.Name x px] (.List [] lp) pos :: sts) N R := by
  intro σ H D en kn kr
  refine sl_of (pss_cons (ps_set nd hN hx (pe_lst pa_nil) hs hf) pss_sl) ?_
  refine ⟨Nat.zero_le _, fun q hq0 => sl_k upd_same fun hk => ?_⟩
  have kb : Kb F.p H (upd H q (.lst [])) := .new hq0
  have hqp : q ≠ F.p := fun z => by
    obtain ⟨u, m, c, e, _⟩ := en.wk.pl
    rw [z] at hq0
    rw [show H F.p = _ from e] at hq0
    cases hq0
  have w := en.wk.keep (W := F.W) kb (en.wk.pl.new hq0)
  have hav : ∀ (d : Dt) (v : V), Is F.W H d v → Is (⟨F.X.K, F.C, F.p, q :: F.av⟩ : Wc) (upd H q (.lst [])) d v := fun d v hd => by
    refine is_keep (W := ⟨F.X.K, F.C, F.p, q :: F.av⟩) (H := H) (fun b o nb e => ?_) d v (is_av (av := F.av) (fun a ha hn => ?_) d v hd)
    · rw [upd_ne (ne_of_none e hq0)]
      exact e
    · intro hm
      rcases List.mem_cons.mp hm with z | z
      · subst z
        rcases ha with ⟨o, e⟩ | ⟨o, e⟩
        · rw [hq0] at e
          cases e
        · rw [hk] at e
          cases e
      · exact hn z
  have en2 : En { F with q := some q, av := q :: F.av } n (ts.set i (some (.acc []))) (σ.set i (some (.ref q))) (upd H q (.lst [])) := by
    refine ⟨⟨List.mem_cons_of_mem _ en.wk.mem, fun a ha => ?_, fun a ha => ?_, w.pl⟩, en.base.trans kb, fun a ha => ?_, fun j d hj => ?_, by rw [List.length_set, List.length_set]; exact en.len⟩
    · rcases List.mem_cons.mp ha with z | z
      · rw [z]
        exact hk
      · exact en.wk.kav a z
    · rcases List.mem_cons.mp ha with z | z
      · rw [z]
        exact ⟨_, upd_same⟩
      · exact w.ht a z
    · cases ha
      refine ⟨List.mem_cons_self, hqp, ?_⟩
      cases e : F.H0 q with
      | none => rfl
      | some o =>
        rw [en.base q o hqp e] at hq0
        cases hq0
    · by_cases e : i = j
      · subst e
        rw [List.getElem?_set_self hi] at hj
        cases hj
        exact ⟨.ref q, List.getElem?_set_self (by rw [en.len]; exact hi), q, [], rfl, rfl, upd_same, .nil⟩
      · rw [List.getElem?_set_ne e] at hj
        obtain ⟨v, h1, h2⟩ := en.sl j d hj
        refine ⟨v, by rw [List.getElem?_set_ne e]; exact h1, isS_of (hav d v (h2.is (hna j d hj)))⟩
  refine h q _ _ D en2 (fun _ _ _ _ _ _ z => z.elim) fun v H' d n' k' p' i' r' => ?_
  refine kr v H' d n' k' p' (is_av (av := q :: F.av) (fun a _ hn hm => hn (List.mem_cons_of_mem _ hm)) d v i') r'
/-- xs.append(e) -/
theorem g1_app (i : Nat) {x : Str} {px ap cp : Pos} {xs : List Dt} (hpe : PE F.X (.Call (.Attribute (.Name x px) "append" ap) [e] [] cp) (tBM F.X.K "list" rAppend (tVar i) (tCons (Ge F.X e) tNil)))
    (h : Gw F ts n e fun d n1 => xs.length < 1000 ∧ N (ts.set i (some (.acc (xs ++ [d])))) n1) (hi : ts[i]? = some (some (.acc xs)) := by rfl) (hna : ∀ (j : Nat) (d : Dt), j ≠ i → ts[j]? = some (some d) → naD d = true)
    (hs : swapsWith (.Call (.Attribute (.Name x px) "append" ap) [e] [] cp) none pos.line F.X.env = pure false := by rfl) : G1 F ts n (.Expr (.Call (.Attribute (.Name x px) "append" ap) [e] [] cp) pos) N R := by
  intro σ H D en kn kr
  refine sg_of (ps_expr hpe hs) ?_
  obtain ⟨v, h1, h2⟩ := en.sl i _ hi
  obtain ⟨q, vs, rfl, hq, hl, al⟩ := h2
  refine ⟨.ref q, h1, .inl ⟨rfl, _, .of hl⟩, h σ H _ en fun y H1 d n1 k1 p1 i1 hp => ?_⟩
  have en1 := en.keep k1 p1
  obtain ⟨qa, qp, q0⟩ := en.kq q hq
  have hl1 := k1 q _ qp hl
  refine ⟨q, vs, y, rfl, rfl, hl1, Nat.lt_of_lt_of_le (by rw [al.len]; exact hp.1) (show 1000 ≤ sizeLine by decide), ?_⟩
  have ka : Ka F.W H1 (upd H1 q (.lst (vs ++ [y]))) := fun b o nb e => by
    rw [upd_ne (fun z => nb (by rw [z]; exact qa))]
    exact e
  have kk : Kq F.p F.q H1 (upd H1 q (.lst (vs ++ [y]))) := fun b o nb nq e => by
    rw [upd_ne (fun z => nq (by rw [z]; exact hq.symm))]
    exact e
  have pl' : Pl F.p (upd H1 q (.lst (vs ++ [y]))) n1 := by
    obtain ⟨u, m, c, e, r⟩ := p1
    exact ⟨u, m, c, by rw [upd_ne (Ne.symm qp)]; exact e, r⟩
  refine kn _ _ _ n1 (k1.q.trans kk) ?_ hp.2
  refine ⟨⟨en1.wk.mem, en1.wk.kav, fun a ha => ?_, pl'⟩, fun b o nb e => ?_, en1.kq, fun j d' hj => ?_, by rw [List.length_set]; exact en1.len⟩
  · by_cases z : a = q
    · rw [z]
      exact ⟨_, upd_same⟩
    · obtain ⟨o, e⟩ := en1.wk.ht a ha
      exact ⟨o, by rw [upd_ne z]; exact e⟩
  · rw [upd_ne (fun z => by rw [z, q0] at e; cases e)]
    exact en1.base b o nb e
  · by_cases z : j = i
    · subst z
      rw [List.getElem?_set_self (List.getElem?_eq_some_iff.mp hi).1] at hj
      cases hj
      exact ⟨.ref q, h1, q, vs ++ [y], rfl, hq, upd_same, isAll_keep ka _ _ ((isAll_keep (en.wk.a k1) _ _ al).app (.cons i1 .nil))⟩
    · rw [List.getElem?_set_ne (Ne.symm z)] at hj
      obtain ⟨u, g1, g2⟩ := en1.sl j d' hj
      exact ⟨u, g1, isS_of (is_keep ka _ _ (g2.is (hna j d' z hj)))⟩
end
/-! ### a def by its body -/
theorem ok_of {P : Program} {w : World} {K : PySem.W.Frag} {mg : Str → Option Value} {base : Heap} {C : Addr} {x qual : Str} {st : Stmt} {f : Addr} {fd : FuncData} {N ps : List Str} {k : Nat} {T : Pt} (F : Fun K x qual st f fd) (S : FnScope N ps (defScope st)) (hT : ∀ ds n k, T ds n k → ds.length = ps.length)
    (body : ∀ (cdv : Value) (A : Around) (outer : List PySem.Env) (s : Shared) (H : Hp) (E : XK) (p : Addr) (av : List Addr) (ds : List Dt) (n : Nat) (kk : Dt → Nat → Prop), Room k (A.deeper (envOfC qual (defScope st) s.heap.objs.size f cdv)) → T ds n kk →
      Gs ⟨(cxOf CX0 P w K mg base N qual (defScope st) f cdv A outer s H E).nox, C, p, av, none, H⟩ (ds.map some ++ List.replicate (N.length - ds.length) none) n (defBody st) (fun _ n' => kk .non n') kk) : FnOk P w K mg base CX0 (k + 1) f fd ps (spD K C T) := by
  refine F.ok S (fun vs H Q E h => ?_) (fun cdv A outer s H vs Q E hr h => ?_)
  · obtain ⟨p, av, n, ds, kk, _, i, t, _⟩ := h
    rw [i.len]
    exact hT _ _ _ t
  · obtain ⟨p, av, n, ds, kk, wk, i, t, q⟩ := h
    refine ⟨_, pss_sl, body cdv A outer s H E p av ds n kk hr t (L2.start N vs) H _ ?_ (fun σ' H' ts' n' k' e' r => ?_) fun v H' d n' k' p' i' r => q v H' d n' k' p' i' r⟩
    · refine ⟨wk, .refl _ _, fun a ha => (by cases ha), fun j d hj => ?_, ?_⟩
      · have hjl : j < ds.length := by
          by_cases z : j < ds.length
          · exact z
          · rw [List.getElem?_append_right (by rw [List.length_map]; omega), List.getElem?_replicate] at hj
            split at hj <;> cases hj
        rw [List.getElem?_append_left (by rw [List.length_map]; exact hjl), List.getElem?_map, List.getElem?_eq_getElem hjl] at hj
        have e : ds[j] = d := Option.some.inj (Option.some.inj hj)
        obtain ⟨v, hv, iv⟩ := i.get (List.getElem?_eq_getElem hjl)
        rw [e] at iv
        refine ⟨v, ?_, isS_of iv⟩
        unfold L2.start
        rw [List.getElem?_append_left (by rw [List.length_map, i.len]; exact hjl), List.getElem?_map, hv]
        rfl
      · unfold L2.start
        rw [List.length_append, List.length_append, List.length_map, List.length_map, List.length_replicate, List.length_replicate, i.len]
    · exact q .non H' .non n' e'.base e'.wk.pl is_non r
end Cs

namespace Cs
open PySem PySem.Spec PyProof.Rows L2
/-! ### what is walked, by data -/
structure Srs (W : Wc) (J : It) (m : Nat) (S : Hp → Prop) (src : List Dt) : Prop where
  len : src.length = m
  keep : ∀ H H', Ka W H H' → S H → S H'
  goes : ∀ i H, i < m → S H → J.go i H
  stops : ∀ H, S H → J.stop m H
  yld : ∀ i H n x H', i < m → S H → Wk W H n → J.yld i H x H' → Kb W.p H H' ∧ Pl W.p H' n ∧ ∃ d, src[i]? = some d ∧ Is W H' d x
/-- wider avoidance, where it means nothing to what stands -/
def Wid (K : PySem.W.Frag) (H : Hp) (av av' : List Addr) : Prop := ∀ a, (∃ o, H a = some o) ∨ (∃ o, K.lookup a = some o) → a ∉ av → a ∉ av'
theorem Wid.refl {K : PySem.W.Frag} {H : Hp} {av : List Addr} : Wid K H av av := fun _ _ h => h
def Gi (F : Fx) (ts : Ts) (n : Nat) (tg iter : Expr) (P : List Dt → Nat → Prop) : Prop := ∃ wi : TI, PI F.X tg iter wi ∧ ∀ (σ : L2.St) (H : Hp) (R : It → Hp → Prop), En F n ts σ H →
  (∀ J H' src n', Kb F.p H H' → Pl F.p H' n' → (∀ av', Wid F.X.K H' F.av av' → ∃ S, Srs ⟨F.X.K, F.C, F.p, av'⟩ J src.length S src ∧ S H') → P src n' → R J H') → wi σ H R
/-- a target's binding, by data -/
def Gc (X : Cx) (tg : Expr) : TG := fun v σ H Q => ∀ pins s u, Inv X pins σ H s → RelV v u → wpAny (model X.prog X.w) X.A (assign tg X.env u) (fun _ s' => ∃ σ' H', Inv X pins σ' H' s' ∧ Q σ' H') X.xe s
theorem pg_gc {X : Cx} {tg : Expr} : PG X tg (Gc X tg) := ⟨fun pins s _ _ _ u _ I r h => h pins s u I r⟩
theorem gc_of {X : Cx} {tg : Expr} {g : TG} {v : V} {σ : L2.St} {H : Hp} {Q : L2.St → Hp → Prop} (h : PG X tg g) (q : g v σ H Q) : Gc X tg v σ H Q := fun pins s u I r => h.run pins s σ H v u Q I r q
theorem gc_k {X : Cx} {tg : Expr} {v : V} {σ : L2.St} {H : Hp} {Q : L2.St → Hp → Prop} {a : Addr} {o : HO} (h : H a = some o) (k : X.K.lookup a = none → Gc X tg v σ H Q) : Gc X tg v σ H Q := fun pins s u I => k (inv_k I h) pins s u I
structure Bn (js : List Nat) (f : Ts → Ts) : Prop where
  len : ∀ ts, (f ts).length = ts.length
def Gg (F : Fx) (tg : Expr) (d : Dt) (js : List Nat) (f : Ts → Ts) : Prop := ∀ (σ : L2.St) (H : Hp) (ts : Ts) (n : Nat) (v : V) (Q : L2.St → Hp → Prop), En F n ts σ H → (∀ j ∈ js, j < ts.length) → Is F.W H d v →
  (∀ σ', En F n (f ts) σ' H → (f ts).length = ts.length → (∀ vs : List Nat, (∀ j ∈ js, j ∈ vs) → wipe σ' vs = wipe σ vs) → Q σ' H) → Gc F.X tg v σ H Q
theorem wipe_comm (x : Option V) : ∀ (us : List Nat) (σ : L2.St) (j : Nat), j ∉ us → wipe (σ.set j x) us = (wipe σ us).set j x
  | [], _, _, _ => rfl
  | u :: us, σ, j, hn => by
    unfold wipe
    rw [wipe_comm x us σ j fun z => hn (List.mem_cons_of_mem _ z), List.set_comm]
    intro z
    exact hn (by rw [z]; exact List.mem_cons_self)
theorem wipe_set (x : Option V) : ∀ (vs : List Nat) (σ : L2.St) (j : Nat), j ∈ vs → wipe (σ.set j x) vs = wipe σ vs
  | [], _, _, h => by cases h
  | v :: vs, σ, j, h => by
    unfold wipe
    by_cases e : j ∈ vs
    · rw [wipe_set x vs σ j e]
    · have ev : j = v := by
        rcases List.mem_cons.mp h with z | z
        · exact z
        · exact absurd z e
      subst ev
      rw [wipe_comm x vs σ j e, List.set_set]
theorem wipe_idem : ∀ (vs : List Nat) (σ : L2.St), wipe (wipe σ vs) vs = wipe σ vs
  | [], _ => rfl
  | v :: vs, σ => by
    show (wipe ((wipe σ vs).set v none) vs).set v none = (wipe σ vs).set v none
    by_cases e : v ∈ vs
    · rw [wipe_set none vs _ v e, wipe_idem vs σ]
    · rw [wipe_comm none vs _ v e, wipe_idem vs σ, List.set_set]
section
variable {F : Fx} {ts : Ts} {n : Nat} {a b c e tg iter : Expr} {es : List Expr} {pos : Pos} {P : Dt → Nat → Prop} {N : Ts → Nat → Prop} {R : Dt → Nat → Prop} {st : Stmt} {sts : List Stmt}
theorem gg_name (j : Nat) {x : Str} {d : Dt} (nd : F.X.N.Nodup) (hN : F.X.N[j]? = some x := by rfl) (hx : Loc F.X.env.scope x := by first | exact Or.inl rfl | exact Or.inr rfl) (hf : F.X.fn x = true ∨ F.X.env.scope.names.lookup x = some .local := by first | exact .inl rfl | exact .inr rfl) :
    Gg F (.Name x pos) d [j] (fun ts => ts.set j (some d)) := fun σ H ts n v Q en hj i k => gc_of (pg_name nd hN hx hf) (k _ (en.set (hj j List.mem_cons_self) (isS_of i)) (by rw [List.length_set]) fun vs h => wipe_set _ vs σ j (h j List.mem_cons_self))
theorem gg_pair {tg1 tg2 : Expr} {k : Nat} {d1 d2 : Dt} {js1 js2 : List Nat} {f1 f2 : Ts → Ts} (hc : F.X.calm = true) (h1 : Gg F tg1 d1 js1 f1) (h2 : Gg F tg2 d2 js2 f2) (hs1 : (assignEach [tg1, tg2] F.X.env).map (·.2) = assign tg1 F.X.env :: (assignEach [tg2] F.X.env).map (·.2) := by rfl) (hs2 : (assignEach [tg2] F.X.env).map (·.2) = assign tg2 F.X.env :: (assignEach [] F.X.env).map (·.2) := by rfl)
    (hn : (assignEach [tg1, tg2] F.X.env).length = 2 := by rfl) (hst : (assignEach [tg1, tg2] F.X.env).findIdx? (·.1) = none := by rfl) : Gg F (.Tuple [tg1, tg2] k pos) (.tup [d1, d2]) (js1 ++ js2) (fun ts => f2 (f1 ts)) := by
  intro σ H ts n v Q en hj i k
  refine gc_of (pg_tup hc (pgs_cons pg_gc (pgs_cons pg_gc pgs_nil hs2) hs1) hn hst) ?_
  obtain ⟨l, vs, rfl, _, sl, al⟩ := i.tup
  obtain ⟨v1, v2, rfl, i1, i2⟩ := is2 al
  refine ⟨l, _, rfl, sl, rfl, v1, [v2], rfl, h1 σ H ts n v1 _ en (fun j hm => hj j (List.mem_append_left _ hm)) i1 fun σ1 e1 l1 w1 => ?_⟩
  refine ⟨v2, [], rfl, h2 σ1 H _ n v2 _ e1 (fun j hm => by rw [l1]; exact hj j (List.mem_append_right _ hm)) i2 fun σ2 e2 l2 w2 => ⟨rfl, ?_⟩⟩
  exact k σ2 e2 (by rw [l2, l1]) fun vs hv => by rw [w2 vs fun j hm => hv j (List.mem_append_right _ hm), w1 vs fun j hm => hv j (List.mem_append_left _ hm)]

/-! ### sources -/
theorem gi_tup {A : List Dt → Nat → Prop} (h : Gw F ts n iter fun d n1 => ∃ ds, d = .tup ds ∧ A ds n1) (hpi : ∀ {tl : TE}, PE F.X iter tl → PI F.X tg iter (iTup F.X.K tl)) : Gi F ts n tg iter A := by
  refine ⟨_, hpi pe_ge, fun σ H R en k => h σ H _ en fun v H1 d n1 k1 p1 i1 h1 => ?_⟩
  obtain ⟨ds, rfl, hA⟩ := h1
  obtain ⟨l, vs, rfl, hl, sl, al⟩ := i1.tup
  refine ⟨l, rfl, ⟨vs, sl⟩, k _ H1 ds n1 k1 p1 (fun av' hw => ?_) hA⟩
  have al' := isAll_av (p := F.p) hw ds vs al
  have hl' : l ∉ av' := by
    refine hw l ?_ hl
    rcases sl with (z | ⟨o, z⟩) | ⟨o, _, _, z, _⟩
    · exact .inl ⟨_, z⟩
    · exact .inl ⟨_, z⟩
    · exact .inr ⟨o, z⟩
  refine ⟨fun H => SqT F.X.K H l vs ∧ IsAll ⟨F.X.K, F.C, F.p, av'⟩ H ds vs, ⟨rfl, fun H H' ka hS => ⟨sqt_keep (W := ⟨F.X.K, F.C, F.p, av'⟩) ka hl' hS.1, isAll_keep ka ds vs hS.2⟩, fun i H hi hS => ?_, fun H hS => ?_, fun i H n x H' hi hS w y => ?_⟩, sl, al'⟩
  · obtain ⟨v, hv, _⟩ := hS.2.get (List.getElem?_eq_getElem hi)
    exact ⟨vs, v, hS.1, hv⟩
  · exact ⟨vs, hS.1, by rw [hS.2.len]; exact Nat.le_refl _⟩
  · obtain ⟨rfl, hy⟩ := y
    obtain ⟨d, hd, iv⟩ := hS.2.back (hy vs hS.1)
    exact ⟨.refl _ _, w.pl, d, hd, iv⟩
theorem gi_lst {A : List Dt → Nat → Prop} (h : Gw F ts n iter fun d n1 => ∃ ds, d = .lst ds ∧ A ds n1) (hpi : ∀ {tl : TE}, PE F.X iter tl → PI F.X tg iter (iList F.X.K tl)) : Gi F ts n tg iter A := by
  refine ⟨_, hpi pe_ge, fun σ H R en k => h σ H _ en fun v H1 d n1 k1 p1 i1 h1 => ?_⟩
  obtain ⟨ds, rfl, hA⟩ := h1
  obtain ⟨l, vs, rfl, hl, sl, al⟩ := i1.lst
  refine ⟨l, rfl, ⟨vs, .of sl⟩, k _ H1 ds n1 k1 p1 (fun av' hw => ?_) hA⟩
  have al' := isAll_av (p := F.p) hw ds vs al
  have hl' : l ∉ av' := hw l (.inl ⟨_, sl⟩) hl
  refine ⟨fun H => H l = some (.lst vs) ∧ IsAll ⟨F.X.K, F.C, F.p, av'⟩ H ds vs, ⟨rfl, fun H H' ka hS => ⟨ka l _ hl' hS.1, isAll_keep ka ds vs hS.2⟩, fun i H hi hS => ?_, fun H hS => ?_, fun i H n x H' hi hS w y => ?_⟩, sl, al'⟩
  · obtain ⟨v, hv, _⟩ := hS.2.get (List.getElem?_eq_getElem hi)
    exact ⟨vs, v, .of hS.1, hv⟩
  · exact ⟨vs, .of hS.1, by rw [hS.2.len]; exact Nat.le_refl _⟩
  · obtain ⟨rfl, hy⟩ := y
    obtain ⟨d, hd, iv⟩ := hS.2.back (hy vs (.of hS.1))
    exact ⟨.refl _ _, w.pl, d, hd, iv⟩
/-- a text, sign by sign -/
theorem gi_str {A : List Dt → Nat → Prop} (h : Gw F ts n iter fun d n1 => ∃ x : Str, d = .str x ∧ A (x.cps.toList.map fun c => .str ⟨#[c]⟩) n1) : Gi F ts n tg iter A := by
  refine ⟨_, pi_str pe_ge, fun σ H R en k => h σ H _ en fun v H1 d n1 k1 p1 i1 h1 => ?_⟩
  obtain ⟨x, rfl, hA⟩ := h1
  rw [i1.str]
  refine ⟨x, rfl, k _ H1 _ n1 k1 p1 (fun av' hw => ?_) hA⟩
  refine ⟨fun _ => True, ⟨rfl, fun _ _ _ h => h, fun i H hi _ => (by simpa using hi : i < x.cps.size), fun H _ => by show x.cps.size ≤ _; simp, fun i H n v H' hi _ w y => ?_⟩, trivial⟩
  obtain ⟨rfl, c, hc, rfl⟩ := y
  refine ⟨.refl _ _, w.pl, .str ⟨#[c]⟩, ?_, is_str⟩
  rw [List.getElem?_map, Array.getElem?_toList, hc]
  rfl
/-- range(m) -/
theorem gi_range {A : List Dt → Nat → Prop} {p : Pos} (hm : F.X.mg "range" = none) (h : Gw F ts n a fun d n1 => ∃ m : Nat, d = .int (m : Int) ∧ m ≤ 1000 ∧ A ((List.range m).map fun (i : Nat) => .int (i : Int)) n1) (hg : Gl F.X "range" := by rfl)
    (hs : starEach [a] F.X.env = [(false, eval a F.X.env)] := by rfl) : Gi F ts n tg (.Call (.Name "range" p) [a] [] pos) A := by
  refine ⟨_, pi_range1 hg hm (pa_cons pe_ge pa_nil hs) hs, fun σ H R en k => h σ H _ en fun v H1 d n1 k1 p1 i1 h1 => ?_⟩
  obtain ⟨m, rfl, hm, hA⟩ := h1
  rw [i1.int]
  refine ⟨(m : Int), rfl, by omega, by omega, ?_⟩
  refine k _ H1 _ n1 k1 p1 (fun av' hw => ?_) hA
  refine ⟨fun _ => True, ⟨rfl, fun _ _ _ h => h, fun i H hi _ => (by simpa using hi : i < (m : Int).toNat), fun H _ => by show (m : Int).toNat ≤ _; simp, fun i H n v H' hi _ w y => ?_⟩, trivial⟩
  obtain ⟨rfl, rfl⟩ := y
  refine ⟨.refl _ _, w.pl, .int (i : Int), ?_, by rw [Int.zero_add]; exact is_int⟩
  have hi' : i < m := by simpa using hi
  rw [List.getElem?_map, List.getElem?_range hi']
  rfl
/-- zip(t, u) of two tuples of one length -/
theorem gi_zip {A : List Dt → Nat → Prop} {elts : List Expr} {kk : Nat} {tpos p : Pos} (hm : F.X.mg "zip" = none) (h : Ga F ts n [a, b] fun ds n1 => ∃ xs ys, ds = [.tup xs, .tup ys] ∧ xs.length = ys.length ∧ A (List.zipWith (fun x y => .tup [x, y]) xs ys) n1) (hg : Gl F.X "zip" := by rfl)
    (hs : starEach [a, b] F.X.env = (false, eval a F.X.env) :: starEach [b] F.X.env := by rfl) (hpl : (backTo pos (starEach [b] F.X.env)).any (·.1) = false := by rfl) : Gi F ts n (.Tuple elts kk tpos) (.Call (.Name "zip" p) [a, b] [] pos) A := by
  refine ⟨_, RZ.pi_zipA hg hm pa_tl hs hpl, fun σ H R en k => h σ H _ en fun vs H1 ds n1 k1 p1 i1 h1 => ?_⟩
  obtain ⟨xs, ys, rfl, hl, hA⟩ := h1
  obtain ⟨v, u, rfl, iv, iu⟩ := is2 i1
  obtain ⟨l, vs, rfl, hl1, sl, al⟩ := iv.tup
  obtain ⟨m, us, rfl, hl2, sm, am⟩ := iu.tup
  refine ⟨l, m, vs, us, rfl, .inr ⟨sl, sm, k _ H1 _ n1 k1 p1 (fun av' hw => ?_) hA⟩⟩
  have al' := isAll_av (p := F.p) hw xs vs al
  have am' := isAll_av (p := F.p) hw ys us am
  have tr : ∀ {z : Addr} {ws : List V}, SqT F.X.K H1 z ws → (∃ o, H1 z = some o) ∨ (∃ o, F.X.K.lookup z = some o) := fun {z ws} q => by
    rcases q with (z | ⟨o, z⟩) | ⟨o, _, _, z, _⟩
    · exact .inl ⟨_, z⟩
    · exact .inl ⟨_, z⟩
    · exact .inr ⟨o, z⟩
  have n1' := hw l (tr sl) hl1
  have n2' := hw m (tr sm) hl2
  have hlen : (List.zipWith (fun x y => Dt.tup [x, y]) xs ys).length = xs.length := by rw [List.length_zipWith, hl, Nat.min_self]
  refine ⟨fun H => (SqT F.X.K H l vs ∧ IsAll ⟨F.X.K, F.C, F.p, av'⟩ H xs vs) ∧ (SqT F.X.K H m us ∧ IsAll ⟨F.X.K, F.C, F.p, av'⟩ H ys us), ⟨rfl, fun H H' ka hS => ⟨⟨sqt_keep (W := ⟨F.X.K, F.C, F.p, av'⟩) ka n1' hS.1.1, isAll_keep ka _ _ hS.1.2⟩, ⟨sqt_keep (W := ⟨F.X.K, F.C, F.p, av'⟩) ka n2' hS.2.1, isAll_keep ka _ _ hS.2.2⟩⟩, fun i H hi hS => ?_, fun H hS => ?_, fun i H n x H' hi hS w y => ?_⟩, ⟨sl, al'⟩, ⟨sm, am'⟩⟩
  · rw [hlen] at hi
    obtain ⟨v, hv, _⟩ := hS.1.2.get (List.getElem?_eq_getElem hi)
    obtain ⟨u, hu, _⟩ := hS.2.2.get (List.getElem?_eq_getElem (show i < ys.length by rw [← hl]; exact hi))
    exact ⟨vs, us, v, u, hS.1.1, hS.2.1, hv, hu⟩
  · exact ⟨vs, us, hS.1.1, hS.2.1, .inl (by rw [hS.1.2.len, hlen]; exact Nat.le_refl _)⟩
  · obtain ⟨T, x1, x2, rfl, nT, rfl, f1, f2⟩ := y
    obtain ⟨d1, hd1, j1⟩ := hS.1.2.back (f1 vs hS.1.1)
    obtain ⟨d2, hd2, j2⟩ := hS.2.2.back (f2 us hS.2.1)
    refine ⟨.new nT, w.pl.new nT, .tup [d1, d2], ?_, is_tup (w.fresh nT) (.of upd_same) ?_⟩
    · rw [List.getElem?_zipWith, hd1, hd2]
    · exact isAll_keep (w.a (.new nT)) _ _ (.cons j1 (.cons j2 .nil))

/-! ### for -/
theorem g1_for {A : List Stmt} (js : List Nat) (hp : PassesOwn (model F.X.prog F.X.w) F.X.A F.X.env F.X.xe) (hc : F.X.calm = true)
    (h : Gi F ts n tg iter fun src n1 => ∃ I : Nat → Ts → Nat → Prop, I 0 ts n1 ∧ (∀ i d ts1 n1, src[i]? = some d → I i ts1 n1 → (∀ j ∈ js, j < ts1.length) ∧ ∃ f, Gg F tg d js f ∧ Gs F (f ts1) n1 A (fun ts2 n2 => I (i + 1) ts2 n2) (fun _ _ => False)) ∧ (∀ ts1 n1, I src.length ts1 n1 → N ts1 n1))
    (hs : ∀ x, foldedSetIterable iter F.X.env x = pure x := by intro _; rfl) : G1 F ts n (.For tg iter A [] pos) N R := by
  obtain ⟨wi, hpi, h⟩ := h
  intro σ H D en kn kr
  refine sg_of (ps_for hp hc hpi pg_gc pss_sl hs) (h σ H _ en fun J H1 src n1 k1 p1 hsr h1 => ?_)
  obtain ⟨I, h0, hi, hd⟩ := h1
  obtain ⟨S, hS, s1⟩ := hsr F.av .refl
  refine ⟨fun i m σ2 H2 => m = src.length - i ∧ i ≤ src.length ∧ ∃ ts2 n2, Kq F.p F.q H1 H2 ∧ En F n2 ts2 σ2 H2 ∧ S H2 ∧ I i ts2 n2, ⟨src.length, rfl, Nat.zero_le _, ts, n1, .refl _ _ _, en.keep k1 p1, s1, h0⟩, ?_⟩
  rintro i m σ2 H2 ⟨rfl, hil, ts2, n2, k2, e2, s2, i2⟩
  by_cases hlt : i < src.length
  · refine .inr ⟨hS.goes i H2 hlt s2, fun σ' H' => ∃ ts2 n2, Kq F.p F.q H1 H' ∧ En F n2 ts2 σ' H' ∧ S H' ∧ I (i + 1) ts2 n2, fun σ' H' hN => ⟨src.length - (i + 1), by omega, rfl, hlt, hN⟩, fun x H3 y => ?_⟩
    obtain ⟨k3, p3, d, hdi, ix⟩ := hS.yld i H2 n2 x H3 hlt s2 e2.wk y
    obtain ⟨hj, f, gg, gs⟩ := hi i d ts2 n2 hdi i2
    have e3 := e2.keep k3 p3
    refine gg σ2 H3 ts2 n2 x _ e3 hj ix fun σ4 e4 _ _ => ?_
    refine gs σ4 H3 _ e4 (fun σ5 H5 ts5 n5 k5 e5 h5 => ?_) (fun _ _ _ _ _ _ _ z => z.elim)
    refine ⟨ts5, n5, (k2.trans k3.q).trans k5, e5, hS.keep H3 H5 (fun b o nb e => ?_) (hS.keep H2 H3 (e2.wk.a k3) s2), h5⟩
    refine k5 b o (fun z => nb (by rw [z]; exact e2.wk.mem)) (fun z => nb ?_) e
    exact (e2.kq b z.symm).1
  · have ei : i = src.length := by omega
    subst ei
    exact .inl ⟨hS.stops H2 s2, kn σ2 H2 ts2 n2 (k1.q.trans k2) e2 (hd ts2 n2 i2)⟩

/-! ### comprehensions -/
abbrev Bk (F : Fx) (scope : Scope) (s : Shared) (H : Hp) (Cc : Addr) (cl : List (Str × Addr)) (fp : List Addr) (D : Addr) : Fx := { F with X := F.X.blk s H scope (compEnvC scope cl Cc F.X.env) fp, av := D :: F.av }
def wipT (ts : Ts) : List Nat → Ts
  | [] => ts
  | v :: vs => (wipT ts vs).set v none
theorem wipT_len (ts : Ts) : ∀ vs : List Nat, (wipT ts vs).length = ts.length
  | [] => rfl
  | v :: vs => by unfold wipT; rw [List.length_set, wipT_len ts vs]
theorem wipT_some {ts : Ts} {i : Nat} {d : Dt} : ∀ {vs : List Nat}, (wipT ts vs)[i]? = some (some d) → ts[i]? = some (some d) ∧ i ∉ vs
  | [], h => ⟨h, by simp⟩
  | v :: vs, h => by
    unfold wipT at h
    by_cases hi : v = i
    · subst hi
      by_cases hv : v < (wipT ts vs).length
      · rw [List.getElem?_set_self hv] at h
        cases h
      · rw [List.getElem?_eq_none (by rw [List.length_set]; omega)] at h
        cases h
    · rw [List.getElem?_set_ne hi] at h
      obtain ⟨h1, h2⟩ := wipT_some h
      exact ⟨h1, fun z => (List.mem_cons.mp z).elim (fun q => hi q.symm) h2⟩
theorem wipe_keep {σ : L2.St} {i : Nat} {v : V} : ∀ {vs : List Nat}, i ∉ vs → σ[i]? = some (some v) → (wipe σ vs)[i]? = some (some v)
  | [], _, h => h
  | u :: vs, hn, h => by
    unfold wipe
    rw [List.getElem?_set_ne fun z => hn (by rw [z]; exact List.mem_cons_self)]
    exact wipe_keep (fun z => hn (List.mem_cons_of_mem _ z)) h
theorem gw_lc {elt : Expr} {scope : Scope} {own : List (Str × Nat)} (js : List Nat) (hc : F.X.calm = true) (nd : F.X.N.Nodup) (ok : BlkOk F.X.N F.X.env.scope scope own) (hjs : ∀ j ∈ js, j ∈ own.map (·.2))
    (h : Gi F ts n tg iter fun src n1 => src.length ≤ 1000 ∧ ∃ I : Nat → List Dt → Nat → Prop, I 0 [] n1 ∧ (∀ s H Cc cl fp D i d ds n1, src[i]? = some d → I i ds n1 → (∀ j ∈ js, j < ts.length) ∧ ∃ f, Gg (Bk F scope s H Cc cl fp D) tg d js f ∧ ∀ s H Cc cl fp, Gw (Bk F scope s H Cc cl fp D) (f (wipT ts (own.map (·.2)))) n1 elt fun d' n2 => I (i + 1) (ds ++ [d']) n2) ∧ (∀ ds n1, I src.length ds n1 → P (.lst ds) n1))
    (hs : ∀ x, foldedSetIterable iter F.X.env x = pure x := by intro _; rfl) : Gw F ts n (.ListComp elt [⟨tg, iter, [], 0⟩] scope pos) P := by
  obtain ⟨wi, hpi, h⟩ := h
  intro σ H Q en k
  refine ge_of (pe_lc (g := fun v σ H Q => ∀ s0 H0 Cc cl fp, Gc (F.X.blk s0 H0 scope (compEnvC scope cl Cc F.X.env) fp) tg v σ H Q) (tt := tYes) (te := fun σ H Q => ∀ s0 H0 Cc cl fp, Ge (F.X.blk s0 H0 scope (compEnvC scope cl Cc F.X.env) fp) elt σ H Q) hc nd hpi ok
    (fun s0 H0 Cc cl fp => ⟨fun pins s _ _ _ u _ I r h => h s0 H0 Cc cl fp pins s u I r⟩) (fun _ _ _ _ _ => pts_nil) (fun s0 H0 Cc cl fp => ⟨fun pins s _ _ _ I h => h s0 H0 Cc cl fp pins s I⟩) hs) ?_
  refine h σ H _ en fun J H1 src n1 k1 p1 hsr h1 => ?_
  obtain ⟨hz, I, h0, hi, hd⟩ := h1
  intro D nD
  have e1 := en.keep k1 p1
  have w1 := e1.wk
  have kD : Kb F.p H1 (upd H1 D (.lst [])) := .new nD
  have DneP : D ≠ F.p := fun z => by
    obtain ⟨u, m, c, e, _⟩ := p1
    rw [z] at nD
    rw [nD] at e
    cases e
  by_cases hK : F.X.K.lookup D = none
  · -- the list may be told from everything
    have wid : Wid F.X.K H1 F.av (D :: F.av) := fun a ha hn hm => by
      rcases List.mem_cons.mp hm with z | z
      · subst z
        rcases ha with ⟨o, e⟩ | ⟨o, e⟩
        · rw [nD] at e
          cases e
        · rw [hK] at e
          cases e
      · exact hn z
    obtain ⟨S, hS, s1⟩ := hsr (D :: F.av) wid
    have kaD : ∀ {H2 : Hp} {o : HO}, Ka (⟨F.X.K, F.C, F.p, D :: F.av⟩ : Wc) H2 (upd H2 D o) := fun {H2 o} b u nb e => by
      rw [upd_ne fun z => nb (by rw [z]; exact List.mem_cons_self)]
      exact e
    have wkB : ∀ {H2 : Hp} {n2 : Nat} {o : HO}, Kb F.p H1 H2 → Pl F.p H2 n2 → H2 D = some o → Wk (⟨F.X.K, F.C, F.p, D :: F.av⟩ : Wc) H2 n2 := fun {H2 n2 o} k2 p2 hD => by
      have e2 := e1.keep k2 p2
      refine ⟨List.mem_cons_of_mem _ e2.wk.mem, fun a ha => ?_, fun a ha => ?_, p2⟩
      · rcases List.mem_cons.mp ha with z | z
        · rw [z]
          exact hK
        · exact e2.wk.kav a z
      · rcases List.mem_cons.mp ha with z | z
        · rw [z]
          exact ⟨_, hD⟩
        · exact e2.wk.ht a z
    have enB : ∀ {H2 : Hp} {n2 : Nat} {s0 : Shared} {H0 : Hp} {Cc : Addr} {cl : List (Str × Addr)} {fp : List Addr} {o : HO}, Kb F.p H1 H2 → Pl F.p H2 n2 → H2 D = some o → En (Bk F scope s0 H0 Cc cl fp D) n2 (wipT ts (own.map (·.2))) (wipe σ (own.map (·.2))) H2 := fun {H2 n2 s0 H0 Cc cl fp o} k2 p2 hD => by
      have e2 := e1.keep k2 p2
      refine ⟨wkB k2 p2 hD, e2.base, fun a ha => ?_, fun j d hj => ?_, by rw [wipe_length, wipT_len]; exact en.len⟩
      · obtain ⟨q1, q2, q3⟩ := e2.kq a ha
        exact ⟨List.mem_cons_of_mem _ q1, q2, q3⟩
      · obtain ⟨hj', hn⟩ := wipT_some hj
        obtain ⟨v, g1, g2⟩ := e1.sl j d hj'
        refine ⟨v, wipe_keep hn g1, ?_⟩
        have toB : ∀ {d : Dt} {v : V}, Is F.W H1 d v → Is (⟨F.X.K, F.C, F.p, D :: F.av⟩ : Wc) H2 d v := fun {d v} g => is_keep (W := ⟨F.X.K, F.C, F.p, D :: F.av⟩) (H := H1) (fun b o nb e => k2 b o (fun z => nb (by rw [z]; exact List.mem_cons_of_mem _ w1.mem)) e) d v (is_av (av := F.av) wid d v g)
        by_cases na : naD d = true
        · exact isS_of (toB (g2.is na))
        · cases d with
          | acc ds =>
            obtain ⟨q, vs, ev, hq, hl, al⟩ := g2
            refine ⟨q, vs, ev, hq, k2 q _ (e1.kq q hq).2.1 hl, ?_⟩
            exact isAll_keep (W := ⟨F.X.K, F.C, F.p, D :: F.av⟩) (H := H1) (fun b o nb e => k2 b o (fun z => nb (by rw [z]; exact List.mem_cons_of_mem _ w1.mem)) e) ds vs (isAll_av (av := F.av) wid ds vs al)
          | int i => exact absurd rfl na
          | bl i => exact absurd rfl na
          | non => exact absurd rfl na
          | str i => exact absurd rfl na
          | tup i => exact absurd rfl na
          | lst i => exact absurd rfl na
          | tab i j => exact absurd rfl na
          | pail => exact absurd rfl na
          | ty i => exact absurd rfl na
          | cls => exact absurd rfl na
    refine ⟨fun i m H2 => m = src.length - i ∧ i ≤ src.length ∧ ∃ acc ds n2, Kb F.p H1 H2 ∧ H2 D = some (.lst acc) ∧ Pl F.p H2 n2 ∧ IsAll ⟨F.X.K, F.C, F.p, D :: F.av⟩ H2 ds acc ∧ ds.length = i ∧ S H2 ∧ I i ds n2, ⟨src.length, rfl, Nat.zero_le _, [], [], n1, kD, upd_same, p1.new nD, .nil, rfl, hS.keep _ _ kaD s1, h0⟩, ?_⟩
    rintro i m H2 ⟨rfl, hil, acc, ds, n2, k2, hD, p2, al, hdl, s2, i2⟩
    by_cases hlt : i < src.length
    · refine .inr ⟨hS.goes i H2 hlt s2, fun H' => ∃ acc ds n2, Kb F.p H1 H' ∧ H' D = some (.lst acc) ∧ Pl F.p H' n2 ∧ IsAll ⟨F.X.K, F.C, F.p, D :: F.av⟩ H' ds acc ∧ ds.length = i + 1 ∧ S H' ∧ I (i + 1) ds n2, fun H' hN => ⟨src.length - (i + 1), by omega, rfl, hlt, hN⟩, fun x H3 y => ?_⟩
      have wk2 : Wk ⟨F.X.K, F.C, F.p, D :: F.av⟩ H2 n2 := wkB k2 p2 hD
      obtain ⟨k3, p3, d, hdi, ix⟩ := hS.yld i H2 n2 x H3 hlt s2 wk2 y
      have hD3 := k3 D _ DneP hD
      intro s0 H0 Cc cl fp
      obtain ⟨hj, f, gg, gw⟩ := hi s0 H0 Cc cl fp D i d ds n2 hdi i2
      refine gg _ H3 _ n2 x _ (enB (k2.trans k3) p3 hD3) (fun j hm => by rw [wipT_len]; exact hj j hm) ix fun σ4 e4 l4 w4 => ?_
      refine ⟨(w4 _ hjs).trans (wipe_idem _ _), iteT (B := True) fun s1' H1' Cc1 cl1 fp1 => ?_⟩
      have e5 : En (Bk F scope s1' H1' Cc1 cl1 fp1 D) n2 (f (wipT ts (own.map (·.2)))) σ4 H3 := ⟨e4.wk, e4.base, e4.kq, e4.sl, e4.len⟩
      refine gw s1' H1' Cc1 cl1 fp1 σ4 H3 _ e5 fun v H4 d' n4 k4 p4 i4 h4 => ?_
      have hD4 := k4 D _ DneP hD3
      have ka24 : Ka (⟨F.X.K, F.C, F.p, D :: F.av⟩ : Wc) H2 H4 := fun b o nb e => k4 b o (fun z => nb (by rw [z]; exact List.mem_cons_of_mem _ w1.mem)) (k3 b o (fun z => nb (by rw [z]; exact List.mem_cons_of_mem _ w1.mem)) e)
      have hlen : acc.length = i := by rw [al.len, hdl]
      refine ⟨acc, hD4, Nat.lt_of_lt_of_le (by rw [hlen]; omega) (show 1000 ≤ sizeLine by decide), acc ++ [v], ds ++ [d'], n4, fun b o nb e => ?_, upd_same, ?_, ?_, by rw [List.length_append, hdl]; rfl, hS.keep _ _ kaD (hS.keep _ _ ka24 s2), h4⟩
      · rw [upd_ne (fun z => by rw [z, nD] at e; cases e)]
        exact k4 b o nb (k3 b o nb (k2 b o nb e))
      · obtain ⟨u, m, c, e, r⟩ := p4
        exact ⟨u, m, c, by rw [upd_ne (Ne.symm DneP)]; exact e, r⟩
      · exact isAll_keep kaD _ _ ((isAll_keep ka24 _ _ al).app (.cons i4 .nil))
    · have ei : i = src.length := by omega
      subst ei
      refine .inl ⟨hS.stops H2 s2, ?_⟩
      refine k _ H2 _ n2 (k1.trans k2) p2 (is_lst (w1.fresh nD) hD (isAll_av (av := D :: F.av) (fun a _ hn hm => hn (List.mem_cons_of_mem _ hm)) _ _ al)) (hd ds n2 i2)
  · -- no state is so
    obtain ⟨S, hS, s1⟩ := hsr F.av .refl
    refine ⟨fun i m H2 => m = src.length ∧ i = 0 ∧ H2 = upd H1 D (.lst []), ⟨_, rfl, rfl, rfl⟩, ?_⟩
    rintro i m H2 ⟨rfl, rfl, rfl⟩
    have s2 := hS.keep _ _ (w1.a kD) s1
    by_cases hlt : 0 < src.length
    · refine .inr ⟨hS.goes 0 _ hlt s2, fun _ => False, fun _ z => z.elim, fun x H3 y => ?_⟩
      obtain ⟨k3, _⟩ := hS.yld 0 _ n1 x H3 hlt s2 (w1.keep kD (p1.new nD)) y
      intro s0 H0 Cc cl fp
      exact gc_k (k3 D _ DneP upd_same) fun z => absurd z hK
    · have e0 : src = [] := List.eq_nil_of_length_eq_zero (by omega)
      subst e0
      exact .inl ⟨hS.stops _ s2, k _ _ _ n1 (k1.trans kD) (p1.new nD) (is_lst (w1.fresh nD) upd_same .nil) (hd [] n1 h0)⟩
/-- one value an item, nothing drawn -/
theorem gw_lcD {elt : Expr} {scope : Scope} {own : List (Str × Nat)} (js : List Nat) (g : Dt → Dt) (hc : F.X.calm = true) (nd : F.X.N.Nodup) (ok : BlkOk F.X.N F.X.env.scope scope own) (hjs : ∀ j ∈ js, j ∈ own.map (·.2))
    (h : Gi F ts n tg iter fun src n1 => src.length ≤ 1000 ∧ (∀ s H Cc cl fp D d, d ∈ src → (∀ j ∈ js, j < ts.length) ∧ ∃ f, Gg (Bk F scope s H Cc cl fp D) tg d js f ∧ ∀ s H Cc cl fp, Gw (Bk F scope s H Cc cl fp D) (f (wipT ts (own.map (·.2)))) n1 elt fun d' n2 => d' = g d ∧ n2 = n1) ∧ P (.lst (src.map g)) n1)
    (hs : ∀ x, foldedSetIterable iter F.X.env x = pure x := by intro _; rfl) : Gw F ts n (.ListComp elt [⟨tg, iter, [], 0⟩] scope pos) P := by
  refine gw_lc js hc nd ok hjs ?_ hs
  obtain ⟨wi, hpi, h⟩ := h
  refine ⟨wi, hpi, fun σ H R en k => h σ H R en fun J H' src n' k' p' hsr h1 => k J H' src n' k' p' hsr ?_⟩
  obtain ⟨hz, hi, hd⟩ := h1
  refine ⟨hz, fun i ds m => ds = (src.take i).map g ∧ m = n', ⟨rfl, rfl⟩, fun s H Cc cl fp D i d ds m hdi hI => ?_, fun ds m hI => ?_⟩
  · obtain ⟨rfl, rfl⟩ := hI
    obtain ⟨hj, f, gg, gw⟩ := hi s H Cc cl fp D d (List.mem_of_getElem? hdi)
    refine ⟨hj, f, gg, fun s H Cc cl fp => (gw s H Cc cl fp).imp fun d' n2 hh => ?_⟩
    obtain ⟨rfl, rfl⟩ := hh
    refine ⟨?_, rfl⟩
    rw [List.take_add_one, hdi, List.map_append]
    rfl
  · obtain ⟨rfl, rfl⟩ := hI
    rw [List.take_length]
    exact hd
end
end Cs

namespace PySem
open Sem (wp)
open AutoSeq1 (wpAny_loadPart')
/-- enumerate(t), t a tuple -/
theorem cs_enum_new (l : Addr) (items : Array Value) :
    Meets (Builtin.«enumerate.__new__» ⟨[.type "enumerate", .ref l], []⟩) (fun _ R s => s.heap.IsTuple l items ∧
      R (.ok (.ret (.ref (s.heap.push { cls := .type "tuple_iterator", data := .fields #[.ref l, .int 0 0] }).objs.size)))
        { s with heap := (s.heap.push { cls := .type "tuple_iterator", data := .fields #[.ref l, .int 0 0] }).push { cls := .type "enumerate", data := .fields #[.none, .bool false, .ref s.heap.objs.size, rawInt 0, .none, .none] } }) :=
  .of_wp fun prog w A R s h => by
    obtain ⟨hp, gg, dd, tt, oo⟩ := s
    obtain ⟨ht, hR⟩ := h
    have hsub := sub_enumerate
    have hT : Heap.IsTuple (Shared.heap ⟨hp, gg, dd, tt, oo⟩) l items := ht
    wp_walk
    refine wpAny_stack_any fun stk => wpAny_pure ?_
    split
    · rename_i c _ _ _ _ _
      cases (c == Value.type "enumerate") <;>
        (wp_walk using wpAny_pyIter_tuple hT
         exact ⟨_, rfl, hR⟩)
    · wp_walk using wpAny_pyIter_tuple hT
      exact ⟨_, rfl, hR⟩
end PySem
namespace Cs
open PySem PySem.Spec PyProof.Rows L2
section
variable {prog : Program} {w : World} {A : Around} {E : Value → Shared → Prop} {s : Shared}
theorem call_enumT {l : Addr} {items : Array Value} {Q : Value → Shared → Prop} (hL : s.heap.IsTuple l items)
    (h : ∀ h', IsEnum h' (s.heap.objs.size + 1) s.heap.objs.size 0 .none → h'.IsTupleIter s.heap.objs.size l 0 →
      (∀ b o, s.heap.get? b = some o → h'.get? b = some o) → Q (.ref (s.heap.objs.size + 1)) { s with heap := h' }) : wpAny (model prog w) A (PySem.call (.type "enumerate") [.ref l]) Q E s := by
  refine callType_new F.called_enumerate (by decide) (F.typeCall_enumerate_1 _) (F.newCall_enumerate_1 _) (fun obj => F.args_object_init_2 obj _) F.entry_enumerate_new (cs_enum_new l items) ⟨hL, ?_⟩
  have sz : (s.heap.push { cls := .type "tuple_iterator", data := .fields #[.ref l, .int 0 0] }).objs.size = s.heap.objs.size + 1 := Heap.size_push ..
  show _ ∧ _
  rw [sz]
  have en := Heap.get?_push_size (s.heap.push { cls := .type "tuple_iterator", data := .fields #[.ref l, .int 0 0] })
      (o := { cls := .type "enumerate", data := .fields #[.none, .bool false, .ref s.heap.objs.size, rawInt 0, .none, .none] }) rfl
  rw [sz] at en
  exact ⟨⟨_, en, rfl⟩, h _ en ⟨_, Heap.get?_push_of_some _ (Heap.get?_push_size _ rfl), rfl, rfl⟩ fun b o x => Heap.get?_push_of_some _ (Heap.get?_push_of_some _ x)⟩
end
/-- the tuple at a, each item in a new pair with its place -/
def IenT (K : PySem.W.Frag) (a : Addr) : It where
  go := fun i H => ∃ (xs : List V) (x : V), SqT K H a xs ∧ xs[i]? = some x
  yld := fun i H v H' => ∃ T x, v = .ref T ∧ H T = none ∧ H' = upd H T (.tup [.int (i : Nat), x]) ∧ ∀ xs, SqT K H a xs → xs[i]? = some x
  stop := fun i H => ∃ xs : List V, SqT K H a xs ∧ xs.length = i
theorem turn_enT {P : Program} {w : World} {K : PySem.W.Frag} {elts : List Expr} {kk : Nat} {tpos : Pos} (a e it : Addr) :
    Turn P w K (.Tuple elts kk tpos) (IenT K a) [e, it] e (fun i h => (∃ old, IsEnum h e it ((i : Nat) : Int) old) ∧ h.IsTupleIter it a i ∧ e ≠ it ∧ a ≠ it ∧ a ≠ e) where
  mem := List.mem_cons_self
  obj := fun i h st b hb => by
    obtain ⟨⟨old, he⟩, ⟨o, ho, _, hd⟩, _⟩ := st
    rcases (by simpa using hb : b = e ∨ b = it) with rfl | rfl
    · exact ⟨_, he, fun v q => nomatch q⟩
    · exact ⟨o, ho, fun v q => by rw [hd] at q; cases q⟩
  keep := fun i h h' st k => by
    obtain ⟨⟨old, he⟩, hi, hne⟩ := st
    exact ⟨⟨old, k e (by simp) _ he⟩, hi.at fun o q => k it (by simp) o q, hne⟩
  item := by
    intro X e1 e2 e3 hc i pins s σ H E I hf st hg
    subst e1 e2 e3
    obtain ⟨⟨old, he⟩, hit, hne, hai, hae⟩ := st
    obtain ⟨xs, x, hq, hx⟩ := hg
    obtain ⟨its, rv, p, _⟩ := I.tuple hq
    obtain ⟨u, hu, ru⟩ := rv.get hx
    have el : e < s.heap.objs.size := Heap.lt_size he
    have il : it < s.heap.objs.size := by obtain ⟨_, q, _⟩ := hit; exact Heap.lt_size q
    have hlt : i < its.toArray.size := by
      rw [List.size_toArray]
      exact (List.getElem?_eq_some_iff.mp hu).1
    have D := Draws.tuple (prog := X.prog) (w := X.w) (A := X.A.in1) (show X.A.in1.handled = none from I.ok.hd hc) it a hai its.toArray
    refine wpAny_pyNext_enum_itemD D he ⟨hit, show s.heap.IsTuple a its.toArray from p⟩ hlt hne (by simp [hne, Ne.symm hae]) fun y h' tk hy ho hst hT _ hk => ?_
    have hy' : y = u := by
      have z : its[i]? = some y := by simpa using hy
      rw [hu] at z
      exact (Option.some.inj z).symm
    subst hy'
    refine ⟨_, rfl, wpAny_letOwnedTupleGo_enum (s := { s with heap := h', toks := tk + 1 }) ho fun h'' he' sb => ?_⟩
    have T2 := (sb.2 _ (Nat.ne_of_gt el)).trans hT
    have I1 := I.turnedNew (h' := h'') (t' := tk + 1) (ch := [e, it]) (ob := .tup [.int (i : Nat), x]) (fun b ob hb q => (sb.2 b (fun z => hb (by simp [z]))).trans (hk b ob (fun z => hb (by simp [z])) (fun z => hb (by simp [z])) q)) hf (Nat.le_refl _)
      ⟨by show 2 ≤ sizeLine; decide, [.int i tk, y], .cons ⟨_, rfl⟩ (.cons ru .nil), ⟨_, T2, rfl, _, rfl⟩⟩
    refine ⟨.ref s.heap.objs.size, _, I1, rfl, ⟨_, x, rfl, I.hok.fresh (Nat.le_refl _), rfl, fun ys hy => by rw [I.tuple_inj hy hq]; exact hx⟩, ⟨⟨y, ?_⟩, hst.1.at fun o q => (sb.2 it (Ne.symm hne)).trans q, hne, hai, hae⟩, fun b hb => ?_⟩
    · rw [show ((i + 1 : Nat) : Int) = (i : Int) + 1 by omega]
      exact he'
    · have bl : b < s.heap.objs.size := by
        rcases (by simpa using hb : b = e ∨ b = it) with rfl | rfl
        · exact el
        · exact il
      rw [upd_ne (Nat.ne_of_lt bl)]
      exact (hf b hb).1
  done := by
    intro X e1 e2 e3 hc i pins s σ H E I hf st hg
    subst e1 e2 e3
    obtain ⟨⟨old, he⟩, hit, hne, hai, hae⟩ := st
    obtain ⟨xs, hq, hx⟩ := hg
    obtain ⟨its, rv, p, _⟩ := I.tuple hq
    obtain ⟨f0, f1, f2, f3, f4, f5⟩ := hf it (by simp)
    have hl : its.toArray.size = i := by rw [List.size_toArray, ← rv.length, hx]
    have D := Draws.tuple (prog := X.prog) (w := X.w) (A := X.A.in1) (show X.A.in1.handled = none from I.ok.hd hc) it a hai its.toArray
    refine wpAny_pyNext_enum_endD D he ⟨by rw [hl]; exact hit, show s.heap.IsTuple a its.toArray from p⟩ fun h' eb => ⟨rfl, I.turned (t' := s.toks) (fun b o hb q => eb b o hb q) f0 f1 f3 f4 f5⟩
  self := fun A i s Q E st h => let ⟨⟨_, he⟩, _⟩ := st; wpAny_pyIter_enum he h
section
variable {F : Fx} {ts : Ts} {n : Nat} {a : Expr} {pos : Pos}
theorem gi_enum {A : List Dt → Nat → Prop} {elts : List Expr} {kk : Nat} {tpos p : Pos} (hm : F.X.mg "enumerate" = none) (h : Gw F ts n a fun d n1 => ∃ xs, d = .tup xs ∧ A (xs.mapIdx fun i x => .tup [.int (i : Int), x]) n1) (hg : Gl F.X "enumerate" := by rfl)
    (hs : starEach [a] F.X.env = [(false, eval a F.X.env)] := by rfl) : Gi F ts n (.Tuple elts kk tpos) (.Call (.Name "enumerate" p) [a] [] pos) A := by
  refine ⟨fun σ H R => Ge F.X a σ H fun v H1 => ∃ l xs, v = .ref l ∧ SqT F.X.K H1 l xs ∧ R (IenT F.X.K l) H1, ⟨fun pins s σ H R I h => ?_⟩, fun σ H R en k => h σ H _ en fun v H1 d n1 k1 p1 i1 h1 => ?_⟩
  · refine Call_ (ld_blt I hg hm boot_enumerate (PyProof.Rows.callWith_type1 (thn ((pa_cons pe_ge pa_nil hs).run pos pins s σ H (fun vs H1 => ∃ l xs, vs = [.ref l] ∧ SqT F.X.K H1 l xs ∧ R (IenT F.X.K l) H1) I ?_) fun us s1 ⟨vs, H1, I1, r1, q1⟩ => ?_) hs rfl))
    · refine fun pins' s' I' => thn (h pins' s' I') fun v s2 ⟨x, H2, I2, r2, l, xs, e, q1, q2⟩ => ⟨x, H2, I2, r2, l, xs, by rw [e], q1, q2⟩
    · obtain ⟨l, xs, rfl, hq, q⟩ := q1
      obtain rfl := Vals.ref1 r1
      obtain ⟨its, rv, p', hz⟩ := I1.tuple hq
      obtain ⟨o1, ho1, _⟩ := id p'
      have ll : l < s1.heap.objs.size := Heap.lt_size ho1
      refine call_enumT (show s1.heap.IsTuple l its.toArray from p') fun h' he hit hk => wpAny_pyIter_enum he ?_
      refine ⟨s1.heap.objs.size + 1, [s1.heap.objs.size + 1, s1.heap.objs.size], _, _, H1, rfl, I1.kept (h' := h') (t' := s1.toks) hk, turn_enT l (s1.heap.objs.size + 1) s1.heap.objs.size, ⟨⟨.none, he⟩, hit, Nat.succ_ne_self _, Nat.ne_of_lt ll, Nat.ne_of_lt (Nat.lt_succ_of_lt ll)⟩, fun b hb => ?_, q⟩
      have bl : s1.heap.objs.size ≤ b := by
        rcases (by simpa using hb : b = s1.heap.objs.size + 1 ∨ b = s1.heap.objs.size) with rfl | rfl
        · exact Nat.le_succ _
        · exact Nat.le_refl _
      exact I1.fpOk bl (I1.hok.fresh bl)
  · obtain ⟨ds, rfl, hA⟩ := h1
    obtain ⟨l, vs, rfl, hl, sl, al⟩ := i1.tup
    refine ⟨l, vs, rfl, sl, k _ H1 _ n1 k1 p1 (fun av' hw => ?_) hA⟩
    have al' := isAll_av (p := F.p) hw ds vs al
    have hl' : l ∉ av' := by
      refine hw l ?_ hl
      rcases sl with (z | ⟨o, z⟩) | ⟨o, _, _, z, _⟩
      · exact .inl ⟨_, z⟩
      · exact .inl ⟨_, z⟩
      · exact .inr ⟨o, z⟩
    have hlen : (ds.mapIdx fun i x => Dt.tup [.int (i : Int), x]).length = ds.length := List.length_mapIdx
    refine ⟨fun H => SqT F.X.K H l vs ∧ IsAll ⟨F.X.K, F.C, F.p, av'⟩ H ds vs, ⟨rfl, fun H H' ka hS => ⟨sqt_keep (W := ⟨F.X.K, F.C, F.p, av'⟩) ka hl' hS.1, isAll_keep ka ds vs hS.2⟩, fun i H hi hS => ?_, fun H hS => ?_, fun i H n x H' hi hS w y => ?_⟩, sl, al'⟩
    · obtain ⟨v, hv, _⟩ := hS.2.get (List.getElem?_eq_getElem (by rw [← hlen]; exact hi))
      exact ⟨vs, v, hS.1, hv⟩
    · exact ⟨vs, hS.1, by rw [hS.2.len, hlen]⟩
    · obtain ⟨T, z, rfl, nT, rfl, hy⟩ := y
      obtain ⟨d, hd, iv⟩ := hS.2.back (hy vs hS.1)
      refine ⟨.new nT, w.pl.new nT, .tup [.int (i : Int), d], ?_, is_tup (w.fresh nT) (.of upd_same) (isAll_keep (w.a (.new nT)) _ _ (.cons is_int (.cons iv .nil)))⟩
      rw [List.getElem?_mapIdx, hd]
      rfl
end
end Cs

namespace Cs
open PySem PySem.Spec PyProof.Rows L2
mutual
def toP : Dt → PyData
  | .int i => .int i
  | .bl b => .bool b
  | .str x => .str x
  | .tup ds => .tuple (toPs ds)
  | .lst ds => .list (toPs ds)
  | _ => .none
def toPs : List Dt → List PyData
  | [] => []
  | d :: ds => toP d :: toPs ds
end
mutual
def dataD : Dt → Bool
  | .int _ => true
  | .bl _ => true
  | .non => true
  | .str _ => true
  | .tup ds => dataDs ds
  | .lst ds => dataDs ds
  | _ => false
def dataDs : List Dt → Bool
  | [] => true
  | d :: ds => dataD d && dataDs ds
end
mutual
theorem is_dp {W : Wc} {H : Hp} : ∀ (d : Dt) (v : V), dataD d = true → Is W H d v → Dp W.K H v (toP d)
  | .int i, v, _, h => by rw [h.int]; unfold toP; exact .int i
  | .bl i, v, _, h => by rw [h.bl]; unfold toP; exact .bl i
  | .non, v, _, h => by rw [h.non]; unfold toP; exact .non
  | .str i, v, _, h => by rw [h.str]; unfold toP; exact .str i
  | .tup ds, v, hd, h => by
    obtain ⟨a, vs, rfl, _, s, al⟩ := h.tup
    unfold toP
    unfold dataD at hd
    exact .tup s (isAll_dp ds vs hd al)
  | .lst ds, v, hd, h => by
    obtain ⟨a, vs, rfl, _, s, al⟩ := h.lst
    unfold toP
    unfold dataD at hd
    exact .lst (.of s) (isAll_dp ds vs hd al)
  | .acc ds, v, hd, h => by unfold dataD at hd; cases hd
  | .tab c r, v, hd, h => by unfold dataD at hd; cases hd
  | .pail, v, hd, h => by unfold dataD at hd; cases hd
  | .ty n, v, hd, h => by unfold dataD at hd; cases hd
  | .cls, v, hd, h => by unfold dataD at hd; cases hd
theorem isAll_dp {W : Wc} {H : Hp} : ∀ (ds : List Dt) (vs : List V), dataDs ds = true → IsAll W H ds vs → DpAll W.K H vs (toPs ds)
  | [], vs, _, h => by
    unfold IsAll at h
    subst h
    unfold toPs
    exact .nil
  | d :: ds, vs, hd, h => by
    unfold IsAll at h
    obtain ⟨v, r, rfl, h1, h2⟩ := h
    unfold toPs
    unfold dataDs at hd
    simp only [Bool.and_eq_true] at hd
    exact .cons (is_dp d v hd.1 h1) (isAll_dp ds r hd.2 h2)
end
section
variable {F : Fx} {ts : Ts} {n : Nat} {a b c e : Expr} {es : List Expr} {pos : Pos} {P : Dt → Nat → Prop}
/-- t == () where t has something in it -/
theorem gt_eqNo {B : Bool → Nat → Prop} (hu : F.X.A.units + 64 < cLine) (h : Gw F ts n a fun d1 n1 => Gw F ts n1 b fun d2 n2 => ∃ x xs, d1 = .tup (x :: xs) ∧ d2 = .tup [] ∧ dataD (.tup (x :: xs)) = true ∧ SeqAt.shaped (toP (.tup (x :: xs))) = true ∧ B false n2) : Gt F ts n (.Compare a [.Eq] [b] pos) B := by
  intro σ H Q en k
  refine tt_of (pt_cmpR (op_eqD hu) pe_ge pe_ge (nomark _)) ?_
  refine h σ H _ en fun v H1 d1 n1 k1 p1 i1 h1 => ?_
  refine h1 σ H1 _ (en.keep k1 p1) fun v2 H2 d2 n2 k2 p2 i2 h2 => ?_
  obtain ⟨x, xs, rfl, rfl, hd, hs, hb⟩ := h2
  refine ⟨_, _, is_dp _ _ hd (is_keep ((en.keep k1 p1).wk.a k2) _ _ i1), is_dp (.tup []) _ (by unfold dataD dataDs; rfl) i2, hs, by unfold toP toPs; decide, false, ?_, k false H2 n2 (k1.trans k2) p2 hb⟩
  unfold toP toPs PyData.eqv PyData.eqvAll
  rfl
/-- t[:j] -/
theorem gw_upto {p2 : Pos} (h : Gw F ts n a fun d1 n1 => Gw F ts n1 b fun d2 n2 => ∃ xs j, d1 = .tup xs ∧ d2 = .int ((j : Nat) : Int) ∧ P (.tup (xs.take j)) n2) : Gw F ts n (.Subscript a (.Slice none (some b) none p2) pos) P := by
  intro σ H Q en k
  refine ge_of (pe_slice sl_tupA pe_ge po_none (po_some pe_ge)) ?_
  refine h σ H _ en fun v H1 d1 n1 k1 p1 i1 h1 => ?_
  refine h1 σ H1 _ (en.keep k1 p1) fun v2 H2 d2 n2 k2 p2 i2 h2 => ?_
  obtain ⟨xs, j, rfl, rfl, hp⟩ := h2
  refine ⟨(j : Int), i2.int, ?_⟩
  have w := ((en.keep k1 p1).keep k2 p2).wk
  obtain ⟨l, vs, rfl, hl, sl, al⟩ := (is_keep ((en.keep k1 p1).wk.a k2) _ _ i1).tup
  refine ⟨l, vs, rfl, sl, fun hw => ?_, fun hw q hq => ?_⟩
  · have e2 := hw.2
    rw [HT.sIx_nat] at e2
    have e3 : xs.take j = xs := List.take_of_length_le (by rw [← al.len]; omega)
    rw [e3] at hp
    exact k _ H2 _ n2 (k1.trans k2) p2 (is_tup hl sl al) hp
  · have ec : cutV vs none (some (j : Int)) = vs.take j := by
      unfold cutV
      rw [HT.sIx_none, HT.sIx_nat, List.drop_zero, Nat.sub_zero]
      by_cases hj : j ≤ vs.length
      · rw [Nat.min_eq_left hj]
      · rw [Nat.min_eq_right (by omega), List.take_length, List.take_of_length_le (by omega)]
    rw [ec]
    exact k _ _ _ n2 ((k1.trans k2).trans (.new hq)) (p2.new hq) (is_tup (w.fresh hq) (.of upd_same) (isAll_keep (w.a (.new hq)) _ _ (al.take j))) hp
/-! ### tables -/
theorem tabF_heads (c r : V) : (tabF c r).lookup ("heads" : Str) = some c := by
  unfold tabF
  rw [List.lookup_cons]
  rw [show (("heads" : Str) == "heads") = true by decide +kernel]
theorem tabF_lines (c r : V) : (tabF c r).lookup ("lines" : Str) = some r := by
  unfold tabF
  rw [List.lookup_cons, show (("lines" : Str) == "heads") = false by decide +kernel, List.lookup_cons, show (("lines" : Str) == "lines") = true by decide +kernel]
theorem gw_rows {fname : Str} {C p g : Addr} {fd : FuncData} (hC : F.C = C) (cl : Cls F.X.K C) (hp : PropOf F.X.K C fname p g) (G : FnOk F.X.prog F.X.w F.X.K F.X.mg F.X.base CX0 1 g fd ["self"] (getSp C "lines")) (hr : Room 2 F.X.A) (hb : Binds F.X.K fd ["self"] [])
    (h : Gw F ts n a fun d n1 => ∃ c r, d = .tab c r ∧ P r n1) (hab : attributeBase a fname F.X.env (eval a F.X.env) = eval a F.X.env := by rfl) : Gw F ts n (.Attribute a fname pos) P := by
  intro σ H Q en k
  refine ge_of (pe_prop pe_ge cl hp G hr hb .nil pass0 hab) (h σ H _ en fun v H1 d n1 k1 p1 i1 h1 => ?_)
  obtain ⟨c, r, rfl, hP⟩ := h1
  obtain ⟨l, dx, vc, vr, rfl, hl, hi, ic, ir⟩ := i1.tab
  rw [show F.W.C = C from hC] at hi
  exact ⟨l, dx, _, rfl, hi, l, dx, _, vr, rfl, hi, tabF_lines _ _, k vr H1 r n1 k1 p1 ir hP⟩
theorem gw_columns {fname : Str} {C p g : Addr} {fd : FuncData} (hC : F.C = C) (cl : Cls F.X.K C) (hp : PropOf F.X.K C fname p g) (G : FnOk F.X.prog F.X.w F.X.K F.X.mg F.X.base CX0 1 g fd ["self"] (getSp C "heads")) (hr : Room 2 F.X.A) (hb : Binds F.X.K fd ["self"] [])
    (h : Gw F ts n a fun d n1 => ∃ c r, d = .tab c r ∧ P c n1) (hab : attributeBase a fname F.X.env (eval a F.X.env) = eval a F.X.env := by rfl) : Gw F ts n (.Attribute a fname pos) P := by
  intro σ H Q en k
  refine ge_of (pe_prop pe_ge cl hp G hr hb .nil pass0 hab) (h σ H _ en fun v H1 d n1 k1 p1 i1 h1 => ?_)
  obtain ⟨c, r, rfl, hP⟩ := h1
  obtain ⟨l, dx, vc, vr, rfl, hl, hi, ic, ir⟩ := i1.tab
  rw [show F.W.C = C from hC] at hi
  exact ⟨l, dx, _, rfl, hi, l, dx, _, vc, rfl, hi, tabF_heads _ _, k vc H1 c n1 k1 p1 ic hP⟩
/-- isinstance(t, Table) -/
theorem gw_isiTab {p : Pos} (hm : F.X.mg "isinstance" = none) (cl : Cls F.X.K F.C) (ic : PySem.W.findIn F.X.K (.ref F.C) "__class__" = some (some (.builtin "object.__class__"))) (ig : PySem.W.specialIn F.X.K (.builtin "object.__class__") "__get__" = some (some (.builtin "getset_descriptor.__get__"))) (it : PySem.W.takesIn F.X.K (.builtin "object.__class__") = some true)
    (im : PySem.W.mroIn F.X.K F.C (.type "object") = some true) (ik : PySem.W.kitOne F.X.K (.ref F.C) (.ref F.C) = some true) (h : Ga F ts n (e :: es) fun ds n1 => ∃ c r, ds = [.tab c r, .cls] ∧ P (.bl true) n1) (hg : Gl F.X "isinstance" := by rfl)
    (he : starEach (e :: es) F.X.env = (false, eval e F.X.env) :: starEach es F.X.env := by rfl) (hpl : (backTo pos (starEach es F.X.env)).any (·.1) = false := by rfl) : Gw F ts n (.Call (.Name "isinstance" p) (e :: es) [] pos) P := by
  refine gw_B call_isi hm (by decide +kernel) (fun H vs ds n1 Q w i1 hA k => ?_) h hg (he := he) (hpl := hpl)
  obtain ⟨c, r, rfl, h3⟩ := hA
  obtain ⟨v, u, rfl, iv, iu⟩ := is2 i1
  obtain ⟨l, dx, vc, vr, rfl, hl, hi, _, _⟩ := iv.tab
  rw [iu.cls]
  exact ⟨_, .ref F.C, .ref F.C, .ref F.C, true, rfl, .own F.C, .base (.ins hi cl ic ig it im), ik, k _ H _ n1 (.refl _ _) w.pl is_bl h3⟩
end
end Cs

namespace Cs
open PySem PySem.Spec PyProof.Rows L2
section
variable {F : Fx} {ts : Ts} {n : Nat} {a b c e : Expr} {es : List Expr} {pos : Pos} {P : Dt → Nat → Prop} {N : Ts → Nat → Prop} {R : Dt → Nat → Prop}
theorem Pl.up {p : Addr} {H : Hp} {n n' : Nat} (h : Pl p H n) (hn : n ≤ n') : Pl p H n' := by
  obtain ⟨x, m, c, e, h1, h2, h3, h4⟩ := h
  exact ⟨x, m, c, e, h1, h2, h3, by omega⟩
/-- a wider bound of the count -/
theorem Gw.up (h : Gw F ts n e fun d n1 => ∃ n2, n1 ≤ n2 ∧ P d n2) : Gw F ts n e P := fun σ H Q en k => h σ H Q en fun v H' d n' k1 p1 i1 hh => by
  obtain ⟨n2, h1, h2⟩ := hh
  exact k v H' d n2 k1 (p1.up h1) i1 h2
theorem Gs.upN {sts : List Stmt} (n' : Nat) (hn : n ≤ n') (h : Gs F ts n' sts N R) : Gs F ts n sts N R := fun σ H D en kn kr => h σ H D (en.keep (.refl _ _) (en.wk.pl.up hn)) kn kr
theorem gw_neg (h : Gw F ts n a fun d n1 => ∃ i, d = .int i ∧ P (.int (-i)) n1) : Gw F ts n (.UnaryOp .USub a pos) P := by
  intro σ H Q en k
  refine ge_of (pe_un un_neg pe_ge) (h σ H _ en fun v H1 d n1 k1 p1 i1 h1 => ?_)
  obtain ⟨i, rfl, hp⟩ := h1
  rw [i1.int]
  exact ⟨i, rfl, k _ H1 _ n1 k1 p1 is_int hp⟩
theorem gw_pow (h : Gw F ts n a fun d1 n1 => Gw F ts n1 b fun d2 n2 => RI CPow (fun i j => .int (i ^ j.toNat)) d1 d2 fun d => P d n2) : Gw F ts n (.BinOp a .Pow b pos) P := gw_opR op_pow (ri_ok fun _ _ _ => is_int) h
/-! ### the pail -/
theorem gw_p (i j : Nat) {x : Str} {px cp : Pos} {m : Nat} (h : ∀ u v c : Int, 0 ≤ u → 0 ≤ v → 0 ≤ c → c ≤ n → ∃ y, [u, v, c][j]? = some y ∧ P (.int y) n) (hi : ts[i]? = some (some .pail) := by rfl) (hN : F.X.N[i]? = some x := by rfl) (hv : Vis F.X.env.scope x := by first | exact Or.inl rfl | exact Or.inr (Or.inl rfl) | exact Or.inr (Or.inr rfl))
    (hd : (x == ("__debug__" : Str)) = false := by decide) (hcd : (x == ("__classdict__" : Str)) = false := by decide) (hs : PlainIx (.Constant (.int (j : Int)) m cp) := by exact fun _ _ => rfl) : Gw F ts n (.Subscript (.Name x px) (.Constant (.int (j : Int)) m cp) pos) P := by
  intro σ H Q en k
  obtain ⟨v, h1, h2⟩ := en.sl i _ hi
  have ev : v = .ref F.p := Is.pail (h2.is rfl)
  obtain ⟨u, w, c, e, l1, l2, l3, l4⟩ := en.wk.pl
  obtain ⟨y, hy, hp⟩ := h u w c l1 l2 l3 l4
  refine ge_of (pe_ix ix_list (pe_var hN hv hd hcd) pe_int hs) ⟨v, h1, F.p, [.int u, .int w, .int c], (j : Int), .int y, ev, rfl, .of e, atI_nat ?_, k _ H _ n (.refl _ _) en.wk.pl is_int hp⟩
  have : ([V.int u, V.int w, V.int c] : List V) = [u, w, c].map V.int := rfl
  rw [this, List.getElem?_map, hy]
  rfl
theorem En.pail {σ : L2.St} {H : Hp} {n' : Nat} {u v c : Int} (en : En F n ts σ H) (h1 : 0 ≤ u) (h2 : 0 ≤ v) (h3 : 0 ≤ c) (h4 : c ≤ n') : En F n' ts σ (upd H F.p (.lst [.int u, .int v, .int c])) := by
  have ka : Ka F.W H (upd H F.p (.lst [.int u, .int v, .int c])) := fun b o nb e => by
    rw [upd_ne fun z => nb (by rw [z]; exact en.wk.mem)]
    exact e
  refine ⟨⟨en.wk.mem, en.wk.kav, fun a ha => ?_, ⟨u, v, c, upd_same, h1, h2, h3, h4⟩⟩, fun b o nb e => ?_, en.kq, fun i d hi => ?_, en.len⟩
  · by_cases z : a = F.p
    · rw [z]
      exact ⟨_, upd_same⟩
    · obtain ⟨o, e⟩ := en.wk.ht a ha
      exact ⟨o, by rw [upd_ne z]; exact e⟩
  · rw [upd_ne nb]
    exact en.base b o nb e
  · obtain ⟨y, g1, g2⟩ := en.sl i d hi
    refine ⟨y, g1, ?_⟩
    cases d with
    | acc ds =>
      obtain ⟨q, vs, ev, hq, hl, al⟩ := g2
      exact ⟨q, vs, ev, hq, by rw [upd_ne (en.kq q hq).2.1]; exact hl, isAll_keep ka ds vs al⟩
    | int i => exact is_keep ka (.int i) y g2
    | bl i => exact is_keep ka (.bl i) y g2
    | non => exact is_keep ka .non y g2
    | str i => exact is_keep ka (.str i) y g2
    | tup i => exact is_keep ka (.tup i) y g2
    | lst i => exact is_keep ka (.lst i) y g2
    | tab i j => exact is_keep ka (.tab i j) y g2
    | pail => exact is_keep ka .pail y g2
    | ty i => exact is_keep ka (.ty i) y g2
    | cls => exact is_keep ka .cls y g2
theorem kq_pail {p : Addr} {q : Option Addr} {H : Hp} {o : HO} : Kq p q H (upd H p o) := fun b u nb _ e => by
  rw [upd_ne nb]
  exact e
/-- pail[j] = e -/
theorem g1_pset (i j : Nat) {x : Str} {px cp sp : Pos} {m : Nat} (h : Gw F ts n e fun d n1 => ∃ y : Int, d = .int y ∧ 0 ≤ y ∧ j < 3 ∧ ∃ n2, n1 ≤ n2 ∧ (j = 2 → y ≤ n2) ∧ N ts n2) (hi : ts[i]? = some (some .pail) := by rfl) (hN : F.X.N[i]? = some x := by rfl) (hv : Vis F.X.env.scope x := by first | exact Or.inl rfl | exact Or.inr (Or.inl rfl) | exact Or.inr (Or.inr rfl))
    (hd : (x == ("__debug__" : Str)) = false := by decide) (hcd : (x == ("__classdict__" : Str)) = false := by decide)
    (hs : swapsWithSole [.Subscript (.Name x px) (.Constant (.int (j : Int)) m cp) sp] e pos.line F.X.env = pure false := by rfl) (hw : swappedStores [.Subscript (.Name x px) (.Constant (.int (j : Int)) m cp) sp] e F.X.env = pure none := by rfl)
    (hpg : ∀ {to ti : TE} {t : TSet}, PE F.X (.Name x px) to → PE F.X (.Constant (.int (j : Int)) m cp) ti → PSet F.X t → PG F.X (.Subscript (.Name x px) (.Constant (.int (j : Int)) m cp) sp) (gSub to ti t)) : G1 F ts n (.Assign [.Subscript (.Name x px) (.Constant (.int (j : Int)) m cp) sp] e pos) N R := by
  intro σ H D en kn kr
  refine sg_of (ps_asg pe_ge (hpg (pe_var hN hv hd hcd) pe_int set_list) hs hw) (h σ H _ en fun v H1 d n1 k1 p1 i1 h1 => ?_)
  obtain ⟨y, rfl, hy, hj, n2, hn, hy2, hNn⟩ := h1
  rw [i1.int]
  obtain ⟨w, g1, g2⟩ := en.sl i _ hi
  have ew : w = .ref F.p := Is.pail (g2.is rfl)
  have en1 := en.keep k1 p1
  obtain ⟨a0, a1, a2, e0, l1, l2, l3, l4⟩ := p1
  refine ⟨w, g1, F.p, [.int a0, .int a1, .int a2], (j : Int), j, ew, rfl, e0, ?_, ?_⟩
  · unfold ixN
    rw [if_pos (by omega), if_pos (by show (j : Int) < 3; omega), Int.toNat_natCast]
  · have hj' : j = 0 ∨ j = 1 ∨ j = 2 := by omega
    rcases hj' with rfl | rfl | rfl
    · exact kn σ _ ts n2 (k1.q.trans kq_pail) (en1.pail (u := y) (v := a1) (c := a2) hy l2 l3 (by omega)) hNn
    · exact kn σ _ ts n2 (k1.q.trans kq_pail) (en1.pail (u := a0) (v := y) (c := a2) l1 hy l3 (by omega)) hNn
    · exact kn σ _ ts n2 (k1.q.trans kq_pail) (en1.pail (u := a0) (v := a1) (c := y) l1 l2 hy (hy2 rfl)) hNn
/-- divmod(a, b) -/
theorem gw_divmod {p : Pos} (hm : F.X.mg "divmod" = none) (h : Ga F ts n (e :: es) fun ds n1 => ∃ i j : Int, ds = [.int i, .int j] ∧ CDiv i j ∧ P (.tup [.int (i / j), .int (i % j)]) n1) (hg : Gl F.X "divmod" := by rfl)
    (he : starEach (e :: es) F.X.env = (false, eval e F.X.env) :: starEach es F.X.env := by rfl) (hpl : (backTo pos (starEach es F.X.env)).any (·.1) = false := by rfl) : Gw F ts n (.Call (.Name "divmod" p) (e :: es) [] pos) P := by
  refine gw_B call_divmod hm (by decide +kernel) (fun H vs ds n1 Q w i1 hA k => ?_) h hg (he := he) (hpl := hpl)
  obtain ⟨i, j, rfl, hc, h3⟩ := hA
  obtain ⟨v, u, rfl, iv, iu⟩ := is2 i1
  rw [iv.int, iu.int]
  exact ⟨i, j, rfl, hc, fun q hq => k _ _ _ n1 (.new hq) (w.pl.new hq) (is_tup (w.fresh hq) (.of upd_same) (.cons is_int (.cons is_int .nil))) h3⟩
/-- pail[0], x = e -/
theorem g1_punp (i l : Nat) {x y : Str} {px py cp sp tp : Pos} {m kt : Nat} (nd : F.X.N.Nodup) (hc : F.X.calm = true) (h : Gw F ts n e fun d n1 => ∃ u r : Int, d = .tup [.int u, .int r] ∧ 0 ≤ u ∧ N (ts.set l (some (.int r))) n1) (hl : l < ts.length := by simp) (hi : ts[i]? = some (some .pail) := by rfl) (hN : F.X.N[i]? = some x := by rfl) (hv : Vis F.X.env.scope x := by first | exact Or.inl rfl | exact Or.inr (Or.inl rfl) | exact Or.inr (Or.inr rfl))
    (hd : (x == ("__debug__" : Str)) = false := by decide) (hcd : (x == ("__classdict__" : Str)) = false := by decide) (hNl : F.X.N[l]? = some y := by rfl) (hy : Loc F.X.env.scope y := by first | exact Or.inl rfl | exact Or.inr rfl) (hfy : F.X.fn y = true ∨ F.X.env.scope.names.lookup y = some .local := by first | exact .inl rfl | exact .inr rfl)
    (hpe : ∀ {te : TE} {g1 g2 : TG}, PE F.X e te → PG F.X (.Subscript (.Name x px) (.Constant (.int 0) m cp) sp) g1 → PG F.X (.Name y py) g2 → PS F.X (.Assign [.Tuple [.Subscript (.Name x px) (.Constant (.int 0) m cp) sp, .Name y py] kt tp] e pos) (tAsg te (gTup F.X.K 2 (gCons g1 (gCons g2 gNil)))))
    (hpg : ∀ {to ti : TE} {t : TSet}, PE F.X (.Name x px) to → PE F.X (.Constant (.int 0) m cp) ti → PSet F.X t → PG F.X (.Subscript (.Name x px) (.Constant (.int 0) m cp) sp) (gSub to ti t)) : G1 F ts n (.Assign [.Tuple [.Subscript (.Name x px) (.Constant (.int 0) m cp) sp, .Name y py] kt tp] e pos) N R := by
  intro σ H D en kn kr
  refine sg_of (hpe pe_ge (hpg (pe_var hN hv hd hcd) pe_int set_list) (pg_name nd hNl hy hfy)) (h σ H _ en fun v H1 d n1 k1 p1 i1 h1 => ?_)
  obtain ⟨u, r, rfl, hu, hNn⟩ := h1
  obtain ⟨t, vs, rfl, ht, st, al⟩ := i1.tup
  obtain ⟨v1, v2, rfl, j1, j2⟩ := is2 al
  rw [j1.int, j2.int] at st
  obtain ⟨w, g1, g2⟩ := en.sl i _ hi
  have ew : w = .ref F.p := Is.pail (g2.is rfl)
  have en1 := en.keep k1 p1
  obtain ⟨a0, a1, a2, e0, l1, l2, l3, l4⟩ := p1
  refine ⟨t, _, rfl, st, rfl, .int u, [.int r], rfl, w, g1, F.p, [.int a0, .int a1, .int a2], 0, 0, ew, rfl, e0, rfl, .int r, [], rfl, rfl, ?_⟩
  exact kn _ _ _ n1 (k1.q.trans kq_pail) ((en1.pail (u := u) (v := a1) (c := a2) hu l2 l3 l4).set hl (isS_of is_int)) hNn
end
end Cs

namespace Cs
open PySem PySem.Spec PyProof.Rows L2
theorem en_start {X : Cx} {C p : Addr} {av : List Addr} {N : List Str} {vs : List V} {ds : List Dt} {H : Hp} {n : Nat} (wk : Wk ⟨X.K, C, p, av⟩ H n) (i : IsAll ⟨X.K, C, p, av⟩ H ds vs) : En ⟨X, C, p, av, none, H⟩ n (ds.map some ++ List.replicate (N.length - ds.length) none) (L2.start N vs) H := by
  refine ⟨wk, .refl _ _, fun a ha => (by cases ha), fun j d hj => ?_, ?_⟩
  · have hjl : j < ds.length := by
      by_cases z : j < ds.length
      · exact z
      · rw [List.getElem?_append_right (by rw [List.length_map]; omega), List.getElem?_replicate] at hj
        split at hj <;> cases hj
    rw [List.getElem?_append_left (by rw [List.length_map]; exact hjl), List.getElem?_map, List.getElem?_eq_getElem hjl] at hj
    have e : ds[j] = d := Option.some.inj (Option.some.inj hj)
    obtain ⟨v, hv, iv⟩ := i.get (List.getElem?_eq_getElem hjl)
    rw [e] at iv
    refine ⟨v, ?_, isS_of iv⟩
    unfold L2.start
    rw [List.getElem?_append_left (by rw [List.length_map, i.len]; exact hjl), List.getElem?_map, hv]
    rfl
  · unfold L2.start
    rw [List.length_append, List.length_append, List.length_map, List.length_map, List.length_replicate, List.length_replicate, i.len]
/-! ### promises where no display is under way -/
structure FnG (P : Program) (w : World) (K : PySem.W.Frag) (mg : Str → Option Value) (base : Heap) (k : Nat) (f : Addr) (fd : FuncData) (ps : List Str) (sp : Sp) : Prop where
  many : ∀ vs H Q E, sp vs H Q E → vs.length = ps.length
  goes : ∀ (B : Around) (outer : List PySem.Env) (t : Shared) (H : Hp) (as : Args) (us : List Value) (vs : List V) (Q : VK) (E : XK), Room k B → B.guards = some [] → Env0 P w K mg base B outer t H → BindsTo t fd as (ps.zip us) → Vals vs us → sp vs H Q E →
    codeAny (model P w) B (.call (.ref f) as) (CR CX0 outer P w H t Q E) t
theorem FnG.of {P : Program} {w : World} {K : PySem.W.Frag} {mg : Str → Option Value} {base : Heap} {k : Nat} {f : Addr} {fd : FuncData} {ps : List Str} {sp : Sp} (G : FnOk P w K mg base CX0 k f fd ps sp) : FnG P w K mg base k f fd ps sp :=
  ⟨G.len, fun B outer t H as us vs Q E hr _ => G.run B outer t H as us vs Q E hr⟩
theorem deep_guards {A : Around} {e : PySem.Env} (h : A.guards = some []) : (A.deeper e).guards = some [] := h
theorem fnG_of {P : Program} {w : World} {K : PySem.W.Frag} {mg : Str → Option Value} {base : Heap} {k : Nat} {f : Addr} {x qual : Str} {st : Stmt} {fd : FuncData} {N ps : List Str} {sp : Sp} (F : Fun K x qual st f fd) (S : FnScope N ps (defScope st)) (hlen : ∀ vs H Q E, sp vs H Q E → vs.length = ps.length)
    (body : ∀ (cdv : Value) (B : Around) (outer : List PySem.Env) (t : Shared) (H : Hp) (vs : List V) (Q : VK) (E : XK), Room k (B.deeper (envOfC qual (defScope st) t.heap.objs.size f cdv)) → B.guards = some [] → sp vs H Q E →
      ∃ r, PSs (cxOf CX0 P w K mg base N qual (defScope st) f cdv B outer t H E).nox (defBody st) r ∧ r { nx := fun _ H' => Q .non H', rt := Q } (start N vs) H) : FnG P w K mg base (k + 1) f fd ps sp := by
  obtain ⟨oc, od, kV, doc, pm, an, cdv, ct, osl, rfl, hk, hc⟩ := F.ex
  refine ⟨hlen, fun B outer t H as us vs Q E hr hg ev hb rv hs => ?_⟩
  have many := hlen _ _ _ _ hs
  have kept : ∀ b o, base.get? b = some o → t.heap.get? b = some o := fun b o e => (ev.bs b o e).1
  have inK : K.In t.heap := ev.mod.kin.keeps kept
  refine codeAny_call_function hr.depth (inK _ _ hk) rfl S.co S.gen rfl (PySem.W.codeRec_of inK hc) (hb _ _ _ _ ?_)
  refine wpAny_newFunctionEnv_cells S.kind (fun y hy => ?_) fun env he t1 ic => ?_
  · rcases S.par y.1 (List.of_mem_zip (a := y.1) (b := y.2) hy).1 with q | q
    · exact Or.inl q
    · exact Or.inr ⟨q, PySem.W.cellsFrom_some _ _ _ (Or.inl q)⟩
  · subst he
    refine ⟨(ev.mod.nolimit.keeps kept).keeps ic.toInCall.keep, codeAny_func ?_⟩
    obtain ⟨r, hr1, hr2⟩ := body cdv B outer t H vs Q E (hr.deeper _) hg hs
    have J0 : Inv (cxOf CX0 P w K mg base N qual (defScope st) f cdv B outer t H E) [] (start N vs) H t1 := inv_start S hr.hd ev many rv ic
    refine wpAny_mono (hr1.nox.run [] t1 (start N vs) H _ J0 hr2) (fun fl t2 h2 => ?_) fun _ _ z => z
    cases fl with
    | ret u =>
      obtain ⟨v, σ', H', J, ru, q⟩ := h2
      exact ⟨v, H', J.os, J.bare, J.base, J.hok, ru, q⟩
    | next =>
      obtain ⟨σ', H', J, q⟩ := h2
      exact ⟨.non, H', J.os, J.bare, J.base, J.hok, rfl, q⟩
    | brk => exact h2.choose_spec.choose_spec.2.elim
    | cont => exact h2.choose_spec.choose_spec.2.elim
theorem okG_of {P : Program} {w : World} {K : PySem.W.Frag} {mg : Str → Option Value} {base : Heap} {C : Addr} {x qual : Str} {st : Stmt} {f : Addr} {fd : FuncData} {N ps : List Str} {k : Nat} {T : Pt} (F : Fun K x qual st f fd) (S : FnScope N ps (defScope st)) (hT : ∀ ds n k, T ds n k → ds.length = ps.length)
    (body : ∀ (cdv : Value) (A : Around) (outer : List PySem.Env) (s : Shared) (H : Hp) (E : XK) (p : Addr) (av : List Addr) (ds : List Dt) (n : Nat) (kk : Dt → Nat → Prop), Room k (A.deeper (envOfC qual (defScope st) s.heap.objs.size f cdv)) → A.guards = some [] → T ds n kk →
      Gs ⟨(cxOf CX0 P w K mg base N qual (defScope st) f cdv A outer s H E).nox, C, p, av, none, H⟩ (ds.map some ++ List.replicate (N.length - ds.length) none) n (defBody st) (fun _ n' => kk .non n') kk) : FnG P w K mg base (k + 1) f fd ps (spD K C T) := by
  refine fnG_of F S (fun vs H Q E h => ?_) (fun cdv A outer s H vs Q E hr hg h => ?_)
  · obtain ⟨p, av, n, ds, kk, _, i, t, _⟩ := h
    rw [i.len]
    exact hT _ _ _ t
  · obtain ⟨p, av, n, ds, kk, wk, i, t, q⟩ := h
    refine ⟨_, pss_sl, body cdv A outer s H E p av ds n kk hr hg t (L2.start N vs) H _ (en_start wk i) (fun σ' H' ts' n' k' e' r => ?_) fun v H' d n' k' p' i' r => q v H' d n' k' p' i' r⟩
    exact q .non H' .non n' e'.base e'.wk.pl is_non r
section
variable {F : Fx} {ts : Ts} {n : Nat} {a b c e : Expr} {es : List Expr} {pos : Pos} {P : Dt → Nat → Prop} {N : Ts → Nat → Prop} {R : Dt → Nat → Prop}
theorem gw_callG {T : Pt} {k : Nat} {f : Addr} {fd : FuncData} {ps : List Str} {x : Str} {p : Pos} (G : FnG F.X.prog F.X.w F.X.K F.X.mg F.X.base k f fd ps (spD F.X.K F.C T)) (hr : Room k F.X.A) (hgd : F.X.A.guards = some []) (hm : F.X.mg x = some (.ref f)) (hk : PySem.W.keepIn F.X.K (.ref f) = true) (hb : Binds F.X.K fd ps [])
    (h : Ga F ts n (e :: es) fun ds n1 => T ds n1 P) (hg : Gl F.X x := by rfl) (hdb : (x == ("__debug__" : Str)) = false := by decide) (he : starEach (e :: es) F.X.env = (false, eval e F.X.env) :: starEach es F.X.env := by rfl) (hpl : (backTo pos (starEach es F.X.env)).any (·.1) = false := by rfl) :
    Gw F ts n (.Call (.Name x p) (e :: es) [] pos) P := by
  intro σ H Q en k'
  have pp : PE F.X (.Call (.Name x p) (e :: es) [] pos) (fun σ H Q => Tl F.X (e :: es) σ H fun vs H1 => spD F.X.K F.C T vs H1 Q E0) := by
    refine ⟨fun pins s σ H Q I hq => wpAny_Call_Name_kw (ld_glob I hg hm ?_ hdb)⟩
    refine PySem.W.callWith_K (h₀ := F.X.base) I.ok.mod.kin hk (thn (hq pos pins s I) fun us s1 hz => ?_) he hpl
    obtain ⟨vs, H1, I1, rv, q⟩ := hz
    refine ⟨I1.kIn, ?_⟩
    have hl : (us ++ []).length = ps.length := by
      rw [List.append_nil, ← rv.length]
      exact G.many _ _ _ _ q
    refine wpAny_call (codeAny_mono (G.goes F.X.A F.X.stack s1 H1 ⟨us, []⟩ us vs Q E0 hr hgd I1.env0 (by simpa using hb s1 us I1.kIn hl) rv q) fun res s' hq => ?_)
    cases res with
    | error e => exact pass0 pins σ H1 s1 e s' I1 hq
    | ok fl =>
      cases fl with
      | ret u => exact I1.after hq
      | next => exact False.elim hq
      | brk => exact False.elim hq
      | cont => exact False.elim hq
  refine ge_of pp (h σ H _ en fun vs H1 ds n1 k1 p1 i1 h1 => ?_)
  exact ⟨F.p, F.av, n1, ds, P, (en.keep k1 p1).wk, i1, h1, fun v H' d n' k2 p2 i2 h2 => k' v H' d n' (k1.trans k2) p2 i2 h2⟩
/-! ### repr -/
theorem call_reprD {X : Cx} (hgd : X.A.guards = some []) (hu : X.A.units + 64 < cLine) : CallR X (.builtin "repr") (fun xs H Q => ∃ (a : Addr) (d : PyData), xs = [.ref a] ∧ Dp X.K H (.ref a) d ∧ d.showable = true ∧ d.hasDict = false ∧ d.depth ≤ 60 ∧ d.shown.length ≤ sizeLine ∧ Q (.str d.shown) H) := by
  intro pins s σ H xs us Q I r h
  obtain ⟨a, d, rfl, hd, h1, h2, h3, h4, q⟩ := h
  obtain ⟨u, rfl, ru⟩ := vals1 r
  obtain rfl : u = Value.ref a := ru
  obtain ⟨as, rd⟩ := Dp.reads I d _ _ hd rfl
  exact repr_of_reads' rd h1 (fun z => by rw [h2] at z; cases z) hgd (by omega) (fun _ _ z => z) (fun h' u tk k => ⟨.str d.shown, H, I.kept k, ⟨_, rfl⟩, q⟩) h4
theorem gw_repr {p : Pos} (hm : F.X.mg "repr" = none) (hgd : F.X.A.guards = some []) (hu : F.X.A.units + 64 < cLine) (h : Ga F ts n (e :: es) fun ds n1 => ∃ xs, ds = [.lst xs] ∧ dataD (.lst xs) = true ∧ (toP (.lst xs)).showable = true ∧ (toP (.lst xs)).hasDict = false ∧ (toP (.lst xs)).depth ≤ 60 ∧ (toP (.lst xs)).shown.length ≤ sizeLine ∧ P (.str (toP (.lst xs)).shown) n1) (hg : Gl F.X "repr" := by rfl)
    (he : starEach (e :: es) F.X.env = (false, eval e F.X.env) :: starEach es F.X.env := by rfl) (hpl : (backTo pos (starEach es F.X.env)).any (·.1) = false := by rfl) : Gw F ts n (.Call (.Name "repr" p) (e :: es) [] pos) P := by
  refine gw_B (call_reprD hgd hu) hm (by decide +kernel) (fun H vs ds n1 Q w i1 hA k => ?_) h hg (he := he) (hpl := hpl)
  obtain ⟨xs, rfl, h1, h2, h3, h4, h5, h6⟩ := hA
  obtain ⟨v, rfl, iv⟩ := is1 i1
  have dp := is_dp (.lst xs) v h1 iv
  obtain ⟨l, vs, rfl, _, _, _⟩ := iv.lst
  exact ⟨l, _, rfl, dp, h2, h3, h4, h5, k _ H _ n1 (.refl _ _) w.pl is_str h6⟩
/-! ### a table -/
def initSp (K : PySem.W.Frag) (C : Addr) (M : Dt → Dt → Prop) : Sp := fun vs H Q _ => ∃ (p : Addr) (av : List Addr) (n : Nat) (c r : Dt) (vc vr : V) (x dx : Addr), vs = [.ref x, vc, vr] ∧ x ≠ p ∧ Wk ⟨K, C, p, av⟩ H n ∧ Is ⟨K, C, p, av⟩ H c vc ∧ Is ⟨K, C, p, av⟩ H r vr ∧ M c r ∧ H x = some (.ins C dx []) ∧
  ∀ H' n', Kq p (some x) H H' → Pl p H' n' → n' = n → H' x = some (.ins C dx (tabF vc vr)) → Q .non H'
theorem gw_mk {M : Dt → Dt → Prop} {k : Nat} {f C : Addr} {fd : FuncData} {ps : List Str} {x : Str} {p : Pos} (hC : F.C = C) (Mt : Mk F.X.K C f) (G : FnOk F.X.prog F.X.w F.X.K F.X.mg F.X.base CX0 k f fd ps (initSp F.X.K C M)) (hr : Room (k + 1) F.X.A) (hm : F.X.mg x = some (.ref C)) (hb : Binds F.X.K fd ps [])
    (h : Ga F ts n [a, b] fun ds n1 => ∃ c r, ds = [c, r] ∧ M c r ∧ P (.tab c r) n1) (hg : Gl F.X x := by rfl) (hdb : (x == ("__debug__" : Str)) = false := by decide) (he : starEach [a, b] F.X.env = (false, eval a F.X.env) :: starEach [b] F.X.env := by rfl) (hpl : (backTo pos (starEach [b] F.X.env)).any (·.1) = false := by rfl) :
    Gw F ts n (.Call (.Name x p) [a, b] [] pos) P := by
  intro σ H Q en k'
  subst hC
  refine ge_of (pe_make Mt G hr hg hm hb .nil pass0 pa_tl hdb he hpl) (h σ H _ en fun vs H1 ds n1 k1 p1 i1 h1 => ?_)
  obtain ⟨c, r, rfl, hM, hP⟩ := h1
  obtain ⟨vc, vr, rfl, ic, ir⟩ := is2 i1
  intro y dy ny ndy hne
  have w := (en.keep k1 p1).wk
  have kb : Kb F.p H1 (upd (upd H1 dy (.own y)) y (.ins F.C dy [])) := fun b o nb e => by
    rw [upd_ne (ne_of_none e ny), upd_ne (ne_of_none e ndy)]
    exact e
  have p2 : Pl F.p (upd (upd H1 dy (.own y)) y (.ins F.C dy [])) n1 := (p1.new ndy).new (by rw [upd_ne hne.symm]; exact ny)
  have yp : y ≠ F.p := fun z => by
    obtain ⟨u, m, c, e, _⟩ := p1
    rw [z] at ny
    rw [ny] at e
    cases e
  have ka := w.a kb
  refine ⟨F.p, F.av, n1, c, r, vc, vr, y, dy, rfl, yp, w.keep kb p2, is_keep ka _ _ ic, is_keep ka _ _ ir, hM, upd_same, fun H' n' kq pl en' hy => ⟨rfl, ?_⟩⟩
  subst en'
  have kb2 : Kb F.p H1 H' := fun b o nb e => kq b o nb (fun z => by cases z; rw [ny] at e; cases e) (kb b o nb e)
  exact k' _ _ _ _ (k1.trans kb2) pl (is_tab (w.fresh ny) hy (is_keep (w.a kb2) _ _ ic) (is_keep (w.a kb2) _ _ ir)) hP
/-- len(t), t a table -/
def lenR (X : Cx) (C : Addr) (sp : Sp) : List V → Hp → VK → Prop := fun xs H Q => ∃ (a dx : Addr) (fs : List (Str × V)), xs = [.ref a] ∧ H a = some (.ins C dx fs) ∧ sp [.ref a] H (fun v H' => ∃ m : Nat, v = .int (m : Int) ∧ m ≤ 1000 ∧ Q v H') E0
theorem call_lenT {X : Cx} {C f : Addr} {fd : FuncData} {k : Nat} {sp : Sp} (ln : PySem.W.findIn X.K (.ref C) "__len__" = some (some (.ref f))) (lf : PySem.W.isFn X.K (.ref f) = true) (hb : Binds X.K fd ["self"] [])
    (G : FnOk X.prog X.w X.K X.mg X.base CX0 k f fd ["self"] sp) (hr : Room (k + 1) X.A) : CallR X (.builtin "len") (lenR X C sp) := by
  intro pins s σ H xs us Q I r hh
  obtain ⟨a, dx, fs, rfl, ea, hs⟩ := hh
  obtain ⟨u, rfl, ru⟩ := vals1 r
  obtain rfl : u = Value.ref a := ru
  obtain ⟨mA, O, _⟩ := ins_get I.hok ea
  obtain ⟨od, J, _⟩ := O.look
  obtain ⟨m0, hfr⟩ := I.fr
  refine PySem.W.len_K hfr I.ok.mod.kin J ln lf ?_
  refine wpAny_call (codeAny_mono (G.run X.A.in1 X.stack s H ⟨[.ref a], []⟩ [.ref a] [.ref a] _ E0 hr.in1 I.env0.in1 (by simpa using hb s [.ref a] I.kIn rfl) (.cons rfl .nil) hs) fun res s' hq => ?_)
  cases res with
  | error e => exact pass0 pins σ H s e s' I hq
  | ok fl =>
    cases fl with
    | ret u =>
      obtain ⟨v, H', I', rv, m, rfl, hm, q⟩ := I.after hq
      obtain ⟨t, rfl⟩ := (show ∃ t, u = Value.int (m : Int) t from rv)
      refine ⟨⟨by omega, by omega⟩, .int (m : Int), H', I'.tok _, ⟨_, rfl⟩, q⟩
    | next => exact False.elim hq
    | brk => exact False.elim hq
    | cont => exact False.elim hq
theorem gw_lenT {k : Nat} {p : Pos} {f : Addr} {fd : FuncData} {T : Pt} (hm : F.X.mg "len" = none) (ln : PySem.W.findIn F.X.K (.ref F.C) "__len__" = some (some (.ref f))) (lf : PySem.W.isFn F.X.K (.ref f) = true) (hb : Binds F.X.K fd ["self"] [])
    (G : FnOk F.X.prog F.X.w F.X.K F.X.mg F.X.base CX0 k f fd ["self"] (spD F.X.K F.C T)) (hr : Room (k + 1) F.X.A)
    (h : Ga F ts n (e :: es) fun ds n1 => (∃ c r, ds = [.tab c r]) ∧ T ds n1 fun d n2 => ∃ m : Nat, d = .int (m : Int) ∧ m ≤ 1000 ∧ P d n2) (hg : Gl F.X "len" := by rfl)
    (he : starEach (e :: es) F.X.env = (false, eval e F.X.env) :: starEach es F.X.env := by rfl) (hpl : (backTo pos (starEach es F.X.env)).any (·.1) = false := by rfl) : Gw F ts n (.Call (.Name "len" p) (e :: es) [] pos) P := by
  refine gw_B (call_lenT ln lf hb G hr) hm PySem.boot_len (fun H vs ds n1 Q w i1 hA k => ?_) h hg (he := he) (hpl := hpl)
  obtain ⟨⟨c, r, rfl⟩, hT⟩ := hA
  obtain ⟨v, rfl, iv⟩ := is1 i1
  obtain ⟨l, dx, vc, vr, rfl, hl, hi, ic, ir⟩ := id iv.tab
  refine ⟨l, dx, _, rfl, hi, F.p, F.av, n1, [.tab c r], _, w, i1, hT, fun v H' d n' k2 p2 i2 h2 => ?_⟩
  obtain ⟨m, rfl, hm, hP⟩ := h2
  have ev := i2.int
  exact ⟨m, ev, hm, k v H' _ n' k2 p2 i2 hP⟩
end
end Cs

namespace Cs
open PySem PySem.Spec PyProof.Rows L2
/-! ### what is shown -/
theorem shownAll_map : ∀ ds : List Dt, PyData.shownAll (toPs ds) = ds.map fun d => (toP d).shown
  | [] => by unfold toPs PyData.shownAll; rfl
  | d :: ds => by
    unfold toPs PyData.shownAll
    rw [shownAll_map ds]
    rfl
theorem showAll_map : ∀ ds : List Dt, (∀ d ∈ ds, (toP d).showable = true) → PyData.showableAll (toPs ds) = true
  | [], _ => by unfold toPs PyData.showableAll; rfl
  | d :: ds, h => by
    unfold toPs PyData.showableAll
    rw [h d List.mem_cons_self, showAll_map ds fun x hx => h x (List.mem_cons_of_mem _ hx)]
    rfl
theorem noDict_map : ∀ ds : List Dt, (∀ d ∈ ds, (toP d).hasDict = false) → PyData.hasDictAll (toPs ds) = false
  | [], _ => by unfold toPs PyData.hasDictAll; rfl
  | d :: ds, h => by
    unfold toPs PyData.hasDictAll
    rw [h d List.mem_cons_self, noDict_map ds fun x hx => h x (List.mem_cons_of_mem _ hx)]
    rfl
theorem depth_map {l : Nat} : ∀ ds : List Dt, (∀ d ∈ ds, (toP d).depth ≤ l) → PyData.depthAll (toPs ds) ≤ l + 1
  | [], _ => by unfold toPs PyData.depthAll; omega
  | d :: ds, h => by
    unfold toPs PyData.depthAll
    have h1 := h d List.mem_cons_self
    have h2 := depth_map (l := l) ds fun x hx => h x (List.mem_cons_of_mem _ hx)
    omega
theorem data_map : ∀ ds : List Dt, (∀ d ∈ ds, dataD d = true) → dataDs ds = true
  | [], _ => by unfold dataDs; rfl
  | d :: ds, h => by
    unfold dataDs
    rw [h d List.mem_cons_self, data_map ds fun x hx => h x (List.mem_cons_of_mem _ hx)]
    rfl
theorem sum_le {k : Nat} : ∀ ts : List Nat, (∀ t ∈ ts, t ≤ k) → ts.sum ≤ ts.length * k
  | [], _ => by simp
  | t :: ts, h => by
    rw [List.sum_cons, List.length_cons, Nat.succ_mul]
    have h1 := h t List.mem_cons_self
    have h2 := sum_le ts fun x hx => h x (List.mem_cons_of_mem _ hx)
    omega
structure Shw (d : Dt) (k l : Nat) : Prop where
  dat : dataD d = true
  shw : (toP d).showable = true
  nod : (toP d).hasDict = false
  dep : (toP d).depth ≤ l
  len : (toP d).shown.length ≤ k
theorem Shw.int {i : Int} (h : i.natAbs < 2 ^ 64) : Shw (.int i) 1921 2 := by
  have hl : i.natAbs.log2 < 1920 := by
    by_cases z : i.natAbs = 0
    · rw [z]
      decide
    · exact Nat.lt_trans ((Nat.log2_lt z).mpr h) (by decide)
  refine ⟨rfl, ?_, ?_, ?_, ?_⟩
  · unfold toP PyData.showable
    exact decide_eq_true hl
  · unfold toP PyData.hasDict
    rfl
  · unfold toP PyData.depth
    omega
  · unfold toP PyData.shown
    exact int_text_len_1921 hl
theorem Shw.bl (b : Bool) : Shw (.bl b) 5 2 := by
  refine ⟨rfl, ?_, ?_, ?_, ?_⟩
  · unfold toP PyData.showable
    rfl
  · unfold toP PyData.hasDict
    rfl
  · unfold toP PyData.depth
    omega
  · unfold toP PyData.shown
    cases b <;> decide
theorem shw_sum {ds : List Dt} {k l m : Nat} (h : ∀ d ∈ ds, Shw d k l) (hm : ds.length ≤ m) : ((ds.map fun d => (toP d).shown).map (·.length)).sum + 2 * (ds.map fun d => (toP d).shown).length + 3 ≤ m * (k + 2) + 3 := by
  have h1 := sum_le (k := k) ((ds.map fun d => (toP d).shown).map (·.length)) fun t ht => by
    obtain ⟨s, hs, rfl⟩ := List.mem_map.mp ht
    obtain ⟨d, hd, rfl⟩ := List.mem_map.mp hs
    exact (h d hd).len
  rw [List.length_map, List.length_map] at h1
  rw [List.length_map]
  have h2 : ds.length * (k + 2) ≤ m * (k + 2) := Nat.mul_le_mul_right _ hm
  rw [Nat.mul_add] at h2
  omega
theorem Shw.tup {ds : List Dt} {k l m : Nat} (h : ∀ d ∈ ds, Shw d k l) (hm : ds.length ≤ m) : Shw (.tup ds) (m * (k + 2) + 3) (l + 2) := by
  refine ⟨?_, ?_, ?_, ?_, ?_⟩
  · unfold dataD
    exact data_map ds fun d hd => (h d hd).dat
  · unfold toP PyData.showable
    exact showAll_map ds fun d hd => (h d hd).shw
  · unfold toP PyData.hasDict
    exact noDict_map ds fun d hd => (h d hd).nod
  · unfold toP PyData.depth
    have := depth_map ds fun d hd => (h d hd).dep
    omega
  · unfold toP PyData.shown
    rw [shownAll_map]
    exact Nat.le_trans (tupleText_len_le _) (shw_sum h hm)
theorem Shw.lst {ds : List Dt} {k l m : Nat} (h : ∀ d ∈ ds, Shw d k l) (hm : ds.length ≤ m) : Shw (.lst ds) (m * (k + 2) + 3) (l + 2) := by
  refine ⟨?_, ?_, ?_, ?_, ?_⟩
  · unfold dataD
    exact data_map ds fun d hd => (h d hd).dat
  · unfold toP PyData.showable
    exact showAll_map ds fun d hd => (h d hd).shw
  · unfold toP PyData.hasDict
    exact noDict_map ds fun d hd => (h d hd).nod
  · unfold toP PyData.depth
    have := depth_map ds fun d hd => (h d hd).dep
    omega
  · unfold toP PyData.shown
    rw [shownAll_map]
    exact Nat.le_trans (listText_len_le _) (shw_sum h hm)
theorem Shw.wide {d : Dt} {k : Nat} (h : Shw d k 10) : Shw d k 20 := ⟨h.dat, h.shw, h.nod, Nat.le_trans h.dep (by decide), h.len⟩
def strD (xs : List Dt) : Str := (toP (.lst xs)).shown
section
variable {F : Fx} {ts : Ts} {n : Nat} {a b c e : Expr} {es : List Expr} {pos : Pos} {P : Dt → Nat → Prop} {N : Ts → Nat → Prop} {R : Dt → Nat → Prop} {sts : List Stmt}
theorem gw_reprL {p : Pos} (hm : F.X.mg "repr" = none) (hgd : F.X.A.guards = some []) (hu : F.X.A.units + 64 < cLine) (h : Ga F ts n (e :: es) fun ds n1 => ∃ xs, ds = [.lst xs] ∧ (∃ k, Shw (.lst xs) k 20 ∧ k ≤ 16777216) ∧ P (.str (strD xs)) n1) (hg : Gl F.X "repr" := by rfl)
    (he : starEach (e :: es) F.X.env = (false, eval e F.X.env) :: starEach es F.X.env := by rfl) (hpl : (backTo pos (starEach es F.X.env)).any (·.1) = false := by rfl) : Gw F ts n (.Call (.Name "repr" p) (e :: es) [] pos) P := by
  refine gw_B (call_reprD hgd hu) hm (by decide +kernel) (fun H vs ds n1 Q w i1 hA k => ?_) h hg (he := he) (hpl := hpl)
  obtain ⟨xs, rfl, ⟨m, hs, hm⟩, h6⟩ := hA
  obtain ⟨v, rfl, iv⟩ := is1 i1
  have dp := is_dp (.lst xs) v hs.dat iv
  obtain ⟨l, vs, rfl, _, _, _⟩ := iv.lst
  exact ⟨l, _, rfl, dp, hs.shw, hs.nod, Nat.le_trans hs.dep (by decide), Nat.le_trans hs.len (by rw [sizeLine_eq]; exact hm), k _ H _ n1 (.refl _ _) w.pl is_str h6⟩
/-- repr(the growing list) -/
theorem gw_reprAcc (i : Nat) {p px : Pos} {x : Str} {xs : List Dt} (hm : F.X.mg "repr" = none) (hgd : F.X.A.guards = some []) (hu : F.X.A.units + 64 < cLine) (h : (∃ k, Shw (.lst xs) k 20 ∧ k ≤ 16777216) ∧ P (.str (strD xs)) n) (hi : ts[i]? = some (some (.acc xs)) := by rfl) (hN : F.X.N[i]? = some x := by rfl) (hv : Vis F.X.env.scope x := by first | exact Or.inl rfl | exact Or.inr (Or.inl rfl) | exact Or.inr (Or.inr rfl))
    (hd : (x == ("__debug__" : Str)) = false := by decide) (hcd : (x == ("__classdict__" : Str)) = false := by decide) (hg : Gl F.X "repr" := by rfl)
    (he : starEach [.Name x px] F.X.env = (false, eval (.Name x px) F.X.env) :: starEach [] F.X.env := by rfl) (hpl : (backTo pos (starEach [] F.X.env)).any (·.1) = false := by rfl) : Gw F ts n (.Call (.Name "repr" p) [.Name x px] [] pos) P := by
  intro σ H Q en k
  refine ge_of (pe_callB (call_reprD hgd hu) hg hm (by decide +kernel) (pa_cons (pe_var hN hv hd hcd) pa_nil he) (he := he) (hpl := hpl)) ?_
  obtain ⟨v, h1, h2⟩ := en.sl i _ hi
  obtain ⟨⟨m, hs, hm⟩, h6⟩ := h
  refine ⟨v, h1, ?_⟩
  obtain ⟨l, vs, rfl, hq, s, al⟩ := h2
  have dd : dataDs xs = true := by
    have z := hs.dat
    unfold dataD at z
    exact z
  have dp : Dp F.X.K H (.ref l) (toP (.lst xs)) := by
    unfold toP
    exact .lst (.of s) (isAll_dp xs vs dd al)
  exact ⟨l, _, rfl, dp, hs.shw, hs.nod, Nat.le_trans hs.dep (by decide), Nat.le_trans hs.len (by rw [sizeLine_eq]; exact hm), k _ H _ n (.refl _ _) en.wk.pl is_str h6⟩
/-! ### growing lists -/
abbrev Fx.acc (F : Fx) (q : Addr) : Fx := { F with q := some q, av := q :: F.av }
theorem en_acc {σ : L2.St} {H : Hp} {q : Addr} {i : Nat} {ds : List Dt} {vs : List V} (en : En F n ts σ H) (hi : i < ts.length) (hna : ∀ (j : Nat) (d : Dt), ts[j]? = some (some d) → naD d = true) (hq0 : H q = none) (hk : F.X.K.lookup q = none) (al : IsAll F.W H ds vs) :
    En (F.acc q) n (ts.set i (some (.acc ds))) (σ.set i (some (.ref q))) (upd H q (.lst vs)) := by
  have kb : Kb F.p H (upd H q (.lst vs)) := .new hq0
  have hqp : q ≠ F.p := fun z => by
    obtain ⟨u, m, c, e, _⟩ := en.wk.pl
    rw [z] at hq0
    rw [show H F.p = _ from e] at hq0
    cases hq0
  have w := en.wk.keep (W := F.W) kb (en.wk.pl.new hq0)
  have hw : ∀ a, (∃ o, H a = some o) ∨ (∃ o, F.X.K.lookup a = some o) → a ∉ F.av → a ∉ q :: F.av := fun a ha hn hm => by
    rcases List.mem_cons.mp hm with z | z
    · subst z
      rcases ha with ⟨o, e⟩ | ⟨o, e⟩
      · rw [hq0] at e
        cases e
      · rw [hk] at e
        cases e
    · exact hn z
  have ka : Ka (⟨F.X.K, F.C, F.p, q :: F.av⟩ : Wc) H (upd H q (.lst vs)) := fun b o nb e => by
    rw [upd_ne (ne_of_none e hq0)]
    exact e
  refine ⟨⟨List.mem_cons_of_mem _ en.wk.mem, fun a ha => ?_, fun a ha => ?_, w.pl⟩, en.base.trans kb, fun a ha => ?_, fun j d hj => ?_, by rw [List.length_set, List.length_set]; exact en.len⟩
  · rcases List.mem_cons.mp ha with z | z
    · rw [z]
      exact hk
    · exact en.wk.kav a z
  · rcases List.mem_cons.mp ha with z | z
    · rw [z]
      exact ⟨_, upd_same⟩
    · exact w.ht a z
  · cases ha
    refine ⟨List.mem_cons_self, hqp, ?_⟩
    cases e : F.H0 q with
    | none => rfl
    | some o =>
      rw [en.base q o hqp e] at hq0
      cases hq0
  · by_cases e : i = j
    · subst e
      rw [List.getElem?_set_self hi] at hj
      cases hj
      exact ⟨.ref q, List.getElem?_set_self (by rw [en.len]; exact hi), q, vs, rfl, rfl, upd_same, isAll_keep ka _ _ (isAll_av (av := F.av) hw _ _ al)⟩
    · rw [List.getElem?_set_ne e] at hj
      obtain ⟨v, h1, h2⟩ := en.sl j d hj
      exact ⟨v, by rw [List.getElem?_set_ne e]; exact h1, isS_of (is_keep ka _ _ (is_av (av := F.av) hw d v (h2.is (hna j d hj))))⟩
theorem ret_acc {q : Addr} {D : Ends} (kr : ∀ v H' d n', Kb F.p F.H0 H' → Pl F.p H' n' → Is F.W H' d v → R d n' → D.rt v H') : ∀ v H' d n', Kb (F.acc q).p (F.acc q).H0 H' → Pl (F.acc q).p H' n' → Is (F.acc q).W H' d v → R d n' → D.rt v H' :=
  fun v H' d n' k' p' i' r' => kr v H' d n' k' p' (is_av (av := q :: F.av) (fun a _ hn hm => hn (List.mem_cons_of_mem _ hm)) d v i') r'
/-- xs = [e, ..], grown later -/
theorem gs_accL (i : Nat) {x : Str} {px lp : Pos} (nd : F.X.N.Nodup) (hna : ∀ (j : Nat) (d : Dt), ts[j]? = some (some d) → naD d = true) (h : Ga F ts n es fun ds n1 => ds.length ≤ 1000 ∧ ∀ q : Addr, Gs (F.acc q) (ts.set i (some (.acc ds))) n1 sts (fun _ _ => False) R) (hi : i < ts.length := by simp) (hN : F.X.N[i]? = some x := by rfl) (hx : Loc F.X.env.scope x := by first | exact Or.inl rfl | exact Or.inr rfl)
    (hs : swapsWith (.List es lp) (some (.Name x px)) pos.line F.X.env = pure false := by rfl) (hf : F.X.fn x = true ∨ F.X.env.scope.names.lookup x = some .local := by first | exact .inl rfl | exact .inr rfl) : Gs F ts n (.Assign [.Name x px] (.List es lp) pos :: sts) N R := by
  intro σ H D en kn kr
  refine sl_of (pss_cons (ps_set nd hN hx (pe_lst pa_tl) hs hf) pss_sl) (h σ H _ en fun vs H1 ds n1 k1 p1 i1 h1 => ?_)
  obtain ⟨hz, hg⟩ := h1
  refine ⟨by rw [i1.len]; exact big1000 hz, fun q hq0 => sl_k upd_same fun hk => ?_⟩
  exact hg q _ _ D (en_acc (en.keep k1 p1) hi hna hq0 hk i1) (fun _ _ _ _ _ _ z => z.elim) (ret_acc kr)
/-- xs, a, b = [], True, True -/
theorem gs_acc3 (i j l : Nat) {x y z : Str} {px py pz pt lp cp dp : Pos} {kt k2 pt2} {m1 m2 : Nat} {b1 b2 : Bool} (nd : F.X.N.Nodup) (hij : i ≠ j) (hil : i ≠ l) (hjl : j ≠ l) (hc : F.X.calm = true) (hna : ∀ (j : Nat) (d : Dt), ts[j]? = some (some d) → naD d = true)
    (h : ∀ q : Addr, Gs (F.acc q) (((ts.set i (some (.acc []))).set j (some (.bl b1))).set l (some (.bl b2))) n sts (fun _ _ => False) R)
    (hi : i < ts.length := by simp) (hj : j < ts.length := by simp) (hl : l < ts.length := by simp) (hNi : F.X.N[i]? = some x := by rfl) (hNj : F.X.N[j]? = some y := by rfl) (hNl : F.X.N[l]? = some z := by rfl)
    (hx : F.X.env.scope.names.lookup x = some .local := by rfl) (hy : F.X.env.scope.names.lookup y = some .local := by rfl) (hz : F.X.env.scope.names.lookup z = some .local := by rfl)
    (hst : starEach [.List [] lp, .Constant (.bool b1) m1 cp, .Constant (.bool b2) m2 dp] F.X.env = (false, eval (.List [] lp) F.X.env) :: starEach [.Constant (.bool b1) m1 cp, .Constant (.bool b2) m2 dp] F.X.env := by rfl)
    (hst2 : starEach [.Constant (.bool b1) m1 cp, .Constant (.bool b2) m2 dp] F.X.env = (false, eval (.Constant (.bool b1) m1 cp) F.X.env) :: starEach [.Constant (.bool b2) m2 dp] F.X.env := by rfl)
    (hst3 : starEach [.Constant (.bool b2) m2 dp] F.X.env = (false, eval (.Constant (.bool b2) m2 dp) F.X.env) :: starEach [] F.X.env := by rfl)
    (hw : swappedStores [.Tuple [.Name x px, .Name y py, .Name z pz] kt pt] (.Tuple [.List [] lp, .Constant (.bool b1) m1 cp, .Constant (.bool b2) m2 dp] k2 pt2) F.X.env = pure (some [x, y, z]) := by rfl)
    (hs : swapsWithSole [.Tuple [.Name x px, .Name y py, .Name z pz] kt pt] (.Tuple [.List [] lp, .Constant (.bool b1) m1 cp, .Constant (.bool b2) m2 dp] k2 pt2) pos.line F.X.env = pure false := by rfl) : Gs F ts n (.Assign [.Tuple [.Name x px, .Name y py, .Name z pz] kt pt] (.Tuple [.List [] lp, .Constant (.bool b1) m1 cp, .Constant (.bool b2) m2 dp] k2 pt2) pos :: sts) N R := by
  intro σ H D en kn kr
  refine sl_of (pss_cons (ps_par3 hc nd hNi hNj hNl hij hil hjl hx hy hz (pa_cons (pe_lst pa_nil) (pa_cons pe_bl (pa_cons pe_bl pa_nil hst3) hst2) hst) hw hs) pss_sl) ?_
  refine ⟨Nat.zero_le _, fun q hq0 => ⟨.ref q, .bl b1, .bl b2, rfl, sl_k upd_same fun hk => ?_⟩⟩
  have e1 := en_acc (vs := []) en hi hna hq0 hk .nil
  have e2 := e1.set (j := j) (d := .bl b1) (v := .bl b1) (by rw [List.length_set]; exact hj) (isS_of is_bl)
  have e3 := e2.set (j := l) (d := .bl b2) (v := .bl b2) (by rw [List.length_set, List.length_set]; exact hl) (isS_of is_bl)
  exact h q _ _ D e3 (fun _ _ _ _ _ _ z => z.elim) (ret_acc kr)
/-- a slot forgotten -/
theorem gs_drop (i : Nat) (h : Gs F (ts.set i none) n sts N R) : Gs F ts n sts N R := fun σ H D en kn kr => h σ H D (en.weak (by rw [List.length_set]) rfl fun j d hj => by
  by_cases e : i = j
  · subst e
    by_cases z : i < ts.length
    · rw [List.getElem?_set_self z] at hj
      cases hj
    · rw [List.getElem?_eq_none (by rw [List.length_set]; omega)] at hj
      cases hj
  · rw [List.getElem?_set_ne e] at hj
    exact ⟨hj, fun _ z => z⟩) kn kr
end
end Cs

namespace Cs
open PySem PySem.Spec PyProof.Rows L2
def topS (i : Nat) : Stmt := PySem.Challenge.pw_cornersure_k39_whole_rows_by_answers.main.body.getD i (.Pass ⟨0, 0, 0, 0⟩)
abbrev s_iswhole : Stmt := topS 17
abbrev s_isinteger : Stmt := topS 18
abbrev s_isname : Stmt := topS 19
abbrev s_istupleof : Stmt := topS 20
abbrev s_common : Stmt := topS 21
abbrev s_lowest : Stmt := topS 22
abbrev s_plus : Stmt := topS 23
abbrev s_times : Stmt := topS 24
abbrev s_isabove : Stmt := topS 25
abbrev s_isfraction : Stmt := topS 26
abbrev s_isstretch : Stmt := topS 27
abbrev s_isendstretch : Stmt := topS 32
abbrev s_checkcolumns : Stmt := topS 33
abbrev s_isrow : Stmt := topS 34
abbrev s_checkrows : Stmt := topS 35
abbrev s_checktable : Stmt := topS 38
abbrev s_checkbounds : Stmt := topS 42
abbrev s_isanswer : Stmt := topS 43
abbrev s_checkanswer : Stmt := topS 44
abbrev s_endswith : Stmt := topS 45
abbrev s_allrowends : Stmt := topS 46
abbrev s_issurefor : Stmt := topS 47
abbrev s_ispossiblefor : Stmt := topS 48
abbrev s_checkquestion : Stmt := topS 49
abbrev s_rowends : Stmt := topS 50
abbrev s_issureanswer : Stmt := topS 51
abbrev s_ispossibleanswer : Stmt := topS 52
abbrev s_lpail : Stmt := topS 54
abbrev s_ldip : Stmt := topS 55
abbrev s_lany : Stmt := topS 56
abbrev s_lstretch : Stmt := topS 57
abbrev s_lsheet : Stmt := topS 58
abbrev s_llimits : Stmt := topS 59
abbrev s_lpart : Stmt := topS 60
abbrev s_lplus : Stmt := topS 61
abbrev s_lsums : Stmt := topS 62
abbrev s_lleast : Stmt := topS 63
abbrev s_lonceright : Stmt := topS 64
abbrev s_lright : Stmt := topS 65
abbrev s_Tinit : Stmt := inClass (topS 36) 0
abbrev s_Tcolumns : Stmt := inClass (topS 36) 2
abbrev s_Trows : Stmt := inClass (topS 36) 3
abbrev s_Tlen : Stmt := inClass (topS 36) 5
/-- where each def stands -/
structure Ad where
  a_iswhole : Addr
  d_iswhole : FuncData
  a_isinteger : Addr
  d_isinteger : FuncData
  a_isname : Addr
  d_isname : FuncData
  a_istupleof : Addr
  d_istupleof : FuncData
  a_common : Addr
  d_common : FuncData
  a_lowest : Addr
  d_lowest : FuncData
  a_plus : Addr
  d_plus : FuncData
  a_times : Addr
  d_times : FuncData
  a_isabove : Addr
  d_isabove : FuncData
  a_isfraction : Addr
  d_isfraction : FuncData
  a_isstretch : Addr
  d_isstretch : FuncData
  a_isendstretch : Addr
  d_isendstretch : FuncData
  a_checkcolumns : Addr
  d_checkcolumns : FuncData
  a_isrow : Addr
  d_isrow : FuncData
  a_checkrows : Addr
  d_checkrows : FuncData
  a_checktable : Addr
  d_checktable : FuncData
  a_checkbounds : Addr
  d_checkbounds : FuncData
  a_isanswer : Addr
  d_isanswer : FuncData
  a_checkanswer : Addr
  d_checkanswer : FuncData
  a_endswith : Addr
  d_endswith : FuncData
  a_allrowends : Addr
  d_allrowends : FuncData
  a_issurefor : Addr
  d_issurefor : FuncData
  a_ispossiblefor : Addr
  d_ispossiblefor : FuncData
  a_checkquestion : Addr
  d_checkquestion : FuncData
  a_rowends : Addr
  d_rowends : FuncData
  a_issureanswer : Addr
  d_issureanswer : FuncData
  a_ispossibleanswer : Addr
  d_ispossibleanswer : FuncData
  a_lpail : Addr
  d_lpail : FuncData
  a_ldip : Addr
  d_ldip : FuncData
  a_lany : Addr
  d_lany : FuncData
  a_lstretch : Addr
  d_lstretch : FuncData
  a_lsheet : Addr
  d_lsheet : FuncData
  a_llimits : Addr
  d_llimits : FuncData
  a_lpart : Addr
  d_lpart : FuncData
  a_lplus : Addr
  d_lplus : FuncData
  a_lsums : Addr
  d_lsums : FuncData
  a_lleast : Addr
  d_lleast : FuncData
  a_lonceright : Addr
  d_lonceright : FuncData
  a_lright : Addr
  d_lright : FuncData
  a_Tinit : Addr
  d_Tinit : FuncData
  a_Tcolumns : Addr
  d_Tcolumns : FuncData
  a_Trows : Addr
  d_Trows : FuncData
  a_Tlen : Addr
  d_Tlen : FuncData
  C : Addr
  z : Addr
  pc : Addr
  pr : Addr
structure Kn (K : PySem.W.Frag) (mg : Str → Option Value) (x : Str) (st : Stmt) (ps : List Str) (f : Addr) (fd : FuncData) : Prop where
  fn : Fun K x x st f fd
  bd : Binds K fd ps []
  at_ : mg x = some (.ref f)
/-- what is known of the top -/
structure Al (K : PySem.W.Frag) (mg : Str → Option Value) (Z : Ad) : Prop where
  k_iswhole : Kn K mg "is_whole" s_iswhole ["value"] Z.a_iswhole Z.d_iswhole
  k_isinteger : Kn K mg "is_integer" s_isinteger ["value", "least", "greatest"] Z.a_isinteger Z.d_isinteger
  k_isname : Kn K mg "is_name" s_isname ["value"] Z.a_isname Z.d_isname
  k_istupleof : Kn K mg "is_tuple_of" s_istupleof ["value", "many"] Z.a_istupleof Z.d_istupleof
  k_common : Kn K mg "common" s_common ["one", "other"] Z.a_common Z.d_common
  k_lowest : Kn K mg "lowest" s_lowest ["top", "bottom"] Z.a_lowest Z.d_lowest
  k_plus : Kn K mg "plus" s_plus ["one", "other"] Z.a_plus Z.d_plus
  k_times : Kn K mg "times" s_times ["one", "other"] Z.a_times Z.d_times
  k_isabove : Kn K mg "is_above" s_isabove ["one", "other"] Z.a_isabove Z.d_isabove
  k_isfraction : Kn K mg "is_fraction" s_isfraction ["value"] Z.a_isfraction Z.d_isfraction
  k_isstretch : Kn K mg "is_stretch" s_isstretch ["value", "least", "greatest"] Z.a_isstretch Z.d_isstretch
  k_isendstretch : Kn K mg "is_end_stretch" s_isendstretch ["value"] Z.a_isendstretch Z.d_isendstretch
  k_checkcolumns : Kn K mg "check_columns" s_checkcolumns ["value"] Z.a_checkcolumns Z.d_checkcolumns
  k_isrow : Kn K mg "is_row" s_isrow ["value", "many", "names"] Z.a_isrow Z.d_isrow
  k_checkrows : Kn K mg "check_rows" s_checkrows ["many", "value"] Z.a_checkrows Z.d_checkrows
  k_checktable : Kn K mg "check_table" s_checktable ["value"] Z.a_checktable Z.d_checktable
  k_checkbounds : Kn K mg "check_bounds" s_checkbounds ["table", "value"] Z.a_checkbounds Z.d_checkbounds
  k_isanswer : Kn K mg "is_answer" s_isanswer ["table", "value"] Z.a_isanswer Z.d_isanswer
  k_checkanswer : Kn K mg "check_answer" s_checkanswer ["table", "value"] Z.a_checkanswer Z.d_checkanswer
  k_endswith : Kn K mg "ends_with" s_endswith ["stretches", "answer"] Z.a_endswith Z.d_endswith
  k_allrowends : Kn K mg "all_row_ends" s_allrowends ["table", "answer"] Z.a_allrowends Z.d_allrowends
  k_issurefor : Kn K mg "is_sure_for" s_issurefor ["table", "bounds", "answer"] Z.a_issurefor Z.d_issurefor
  k_ispossiblefor : Kn K mg "is_possible_for" s_ispossiblefor ["table", "bounds", "answer"] Z.a_ispossiblefor Z.d_ispossiblefor
  k_checkquestion : Kn K mg "check_question" s_checkquestion ["table", "bounds"] Z.a_checkquestion Z.d_checkquestion
  k_rowends : Kn K mg "row_ends" s_rowends ["table", "answer"] Z.a_rowends Z.d_rowends
  k_issureanswer : Kn K mg "is_sure_answer" s_issureanswer ["table", "bounds", "answer"] Z.a_issureanswer Z.d_issureanswer
  k_ispossibleanswer : Kn K mg "is_possible_answer" s_ispossibleanswer ["table", "bounds", "answer"] Z.a_ispossibleanswer Z.d_ispossibleanswer
  k_lpail : Kn K mg "_law_pail" s_lpail ["_law_script", "_law_turn"] Z.a_lpail Z.d_lpail
  k_ldip : Kn K mg "_law_dip" s_ldip ["_law_pail_here", "_law_size"] Z.a_ldip Z.d_ldip
  k_lany : Kn K mg "_law_any" s_lany ["_law_pail_here", "_law_some"] Z.a_lany Z.d_lany
  k_lstretch : Kn K mg "_law_stretch" s_lstretch ["_law_pail_here", "_law_wide"] Z.a_lstretch Z.d_lstretch
  k_lsheet : Kn K mg "_law_sheet" s_lsheet ["_law_pail_here", "_law_columns_most", "_law_rows_most"] Z.a_lsheet Z.d_lsheet
  k_llimits : Kn K mg "_law_limits" s_llimits ["_law_pail_here", "_law_sheet_here"] Z.a_llimits Z.d_llimits
  k_lpart : Kn K mg "_law_part" s_lpart ["_law_top", "_law_bottom"] Z.a_lpart Z.d_lpart
  k_lplus : Kn K mg "_law_plus" s_lplus ["_law_one", "_law_two"] Z.a_lplus Z.d_lplus
  k_lsums : Kn K mg "_law_sums" s_lsums ["_law_stretches", "_law_shares"] Z.a_lsums Z.d_lsums
  k_lleast : Kn K mg "_law_least" s_lleast ["_law_some"] Z.a_lleast Z.d_lleast
  k_lonceright : Kn K mg "_law_once_right" s_lonceright ["_law_pail_here"] Z.a_lonceright Z.d_lonceright
  k_lright : Kn K mg "_law_right" s_lright ["_law_pail_here"] Z.a_lright Z.d_lright
  k_Tinit : Fun K "__init__" "Table.__init__" s_Tinit Z.a_Tinit Z.d_Tinit
  b_Tinit : Binds K Z.d_Tinit ["self", "columns", "rows"] []
  k_Tcolumns : Fun K "columns" "Table.columns" s_Tcolumns Z.a_Tcolumns Z.d_Tcolumns
  b_Tcolumns : Binds K Z.d_Tcolumns ["self"] []
  k_Trows : Fun K "rows" "Table.rows" s_Trows Z.a_Trows Z.d_Trows
  b_Trows : Binds K Z.d_Trows ["self"] []
  k_Tlen : Fun K "__len__" "Table.__len__" s_Tlen Z.a_Tlen Z.d_Tlen
  b_Tlen : Binds K Z.d_Tlen ["self"] []
  n_isinstance : mg "isinstance" = none
  n_len : mg "len" = none
  n_all : mg "all" = none
  n_any : mg "any" = none
  n_tuple : mg "tuple" = none
  n_abs : mg "abs" = none
  n_int : mg "int" = none
  n_range : mg "range" = none
  n_zip : mg "zip" = none
  n_enumerate : mg "enumerate" = none
  n_repr : mg "repr" = none
  n_divmod : mg "divmod" = none
  n_bool : mg "bool" = none
  n_str : mg "str" = none
  g_end : ∃ t, mg "MOST_END" = some (.int 10000 t)
  g_cols : ∃ t, mg "MOST_COLUMNS" = some (.int 4 t)
  g_rows : ∃ t, mg "MOST_ROWS" = some (.int 8 t)
  g_long : ∃ t, mg "LONGEST_NAME" = some (.int 8 t)
  g_let : ∃ t, mg "LETTERS" = some (.str "abcdefghijklmnopqrstuvwxyz" t)
  g_zero : mg "ZERO" = some (.ref Z.z)
  z_at : ∃ (o : Obj) (its : Array Value) (m : Nat), K.lookup Z.z = some o ∧ o.cls = .type "tuple" ∧ o.data = .seq its m ∧ its.size ≤ sizeLine ∧ Vals [V.int 0, V.int 1] its.toList
  g_tab : mg "Table" = some (.ref Z.C)
  cl : Cls K Z.C
  nH : NoAttr K Z.C "heads"
  nL : NoAttr K Z.C "lines"
  mkT : Mk K Z.C Z.a_Tinit
  pC : PropOf K Z.C "columns" Z.pc Z.a_Tcolumns
  pR : PropOf K Z.C "rows" Z.pr Z.a_Trows
  ic : PySem.W.findIn K (.ref Z.C) "__class__" = some (some (.builtin "object.__class__"))
  ig : PySem.W.specialIn K (.builtin "object.__class__") "__get__" = some (some (.builtin "getset_descriptor.__get__"))
  it : PySem.W.takesIn K (.builtin "object.__class__") = some true
  im : PySem.W.mroIn K Z.C (.type "object") = some true
  ik : PySem.W.kitOne K (.ref Z.C) (.ref Z.C) = some true
  ln : PySem.W.findIn K (.ref Z.C) "__len__" = some (some (.ref Z.a_Tlen))
  lf : PySem.W.isFn K (.ref Z.a_Tlen) = true
  lk : PySem.W.keepIn K (.ref Z.a_Tlen) = true
end Cs

namespace Cs
open PySem PySem.Spec PyProof.Rows L2
def fr (r : Rat) : Dt := .tup [.int r.num, .int (r.den : Int)]
theorem mkRat_parts (t : Int) (b : Nat) (hb : 0 < b) : (mkRat t b).num = t / ((Nat.gcd t.natAbs b : Nat) : Int) ∧ (((mkRat t b).den : Nat) : Int) = (b : Int) / ((Nat.gcd t.natAbs b : Nat) : Int) := by
  have h0 : b ≠ 0 := by omega
  rw [Rat.num_mkRat, Rat.den_mkRat, if_neg h0, if_neg h0, Nat.gcd_comm]
  exact ⟨rfl, by rw [Int.natCast_ediv]⟩
theorem ifT {c : Bool} {A B : Prop} (hc : c = true) (h : A) : if c = true then A else B := by
  rw [if_pos hc]
  exact h
theorem ifF {c : Bool} {A B : Prop} (hc : c = false) (h : B) : if c = true then A else B := by
  rw [hc]
  exact iteF h
section
variable {P : Program} {w : World} {K : PySem.W.Frag} {mg : Str → Option Value} {base : Heap} {Z : Ad}
/-! ### common -/
def Tcommon : Pt := fun ds n k => ∃ a b : Nat, ds = [.int (a : Int), .int (b : Int)] ∧ k (.int ((Nat.gcd a b : Nat) : Int)) n
theorem sc_common : FnScope ["one", "other"] ["one", "other"] (defScope s_common) := ⟨rfl, rfl, rfl, by decide +kernel, rfl, by decide +kernel, by decide +kernel⟩
theorem ok_common (A : Al K mg Z) : FnOk P w K mg base CX0 1 Z.a_common Z.d_common ["one", "other"] (spD K Z.C Tcommon) := by
  refine ok_of A.k_common.fn sc_common (fun ds n k h => ?_) (fun cdv A' outer s H E p av ds n kk hr h => ?_)
  · obtain ⟨a, b, rfl, _⟩ := h
    rfl
  · obtain ⟨a, b, rfl, hk⟩ := h
    show Gs _ [some (.int (a : Int)), some (.int (b : Int))] _ _ _ _
    refine gs_cons (g1_while PassesOwn.never (fun m ts1 n1 => ∃ x y : Nat, ts1 = [some (.int (x : Int)), some (.int (y : Int))] ∧ y = m ∧ Nat.gcd x y = Nat.gcd a b ∧ n1 = n) ⟨b, a, b, rfl, rfl, rfl, rfl⟩ fun m ts1 n1 hI => ?_)
    obtain ⟨x, y, rfl, rfl, hg, rfl⟩ := hI
    refine gt_gt (gw_name 1 (gw_int ⟨_, _, rfl, rfl, trivial, _, rfl, ?_⟩))
    by_cases hy : 0 < y
    · refine ifT (by exact decide_eq_true (by omega)) ?_
      refine gs_one (g1_par 0 1 sc_common.nd (by decide) rfl (ga_cons (gw_name 1 (ga_cons (gw_mod (gw_name 0 (gw_name 1 ⟨_, _, rfl, rfl, ?_, ga_nil ⟨_, _, rfl, ?_⟩⟩)))))))
      · omega
      · refine ⟨x % y, Nat.mod_lt x hy, y, x % y, ?_, rfl, ?_, rfl⟩
        · rw [Int.natCast_emod]
          rfl
        · rw [← hg, Nat.gcd_comm x y, Nat.gcd_rec y x, Nat.gcd_comm]
    · have e : y = 0 := by omega
      subst e
      refine ifF (by exact decide_eq_false (by omega)) ?_
      refine gs_one (g1_ret (gw_name 0 ?_))
      rw [Nat.gcd_zero_right] at hg
      rw [hg]
      exact hk
/-! ### lowest -/
def Tlowest : Pt := fun ds n k => ∃ (t : Int) (b : Nat), ds = [.int t, .int (b : Int)] ∧ 0 < b ∧ b < 1073741824 ∧ k (fr (mkRat t b)) n
theorem sc_lowest : FnScope ["top", "bottom", "shared"] ["top", "bottom"] (defScope s_lowest) := ⟨rfl, rfl, rfl, by decide +kernel, rfl, by decide +kernel, by decide +kernel⟩
theorem ok_lowest (A : Al K mg Z) : FnOk P w K mg base CX0 2 Z.a_lowest Z.d_lowest ["top", "bottom"] (spD K Z.C Tlowest) := by
  refine ok_of A.k_lowest.fn sc_lowest (fun ds n k h => ?_) (fun cdv A' outer s H E p av ds n kk hr h => ?_)
  · obtain ⟨t, b, rfl, _⟩ := h
    rfl
  · obtain ⟨t, b, rfl, h0, h1, hk⟩ := h
    show Gs _ [some (.int t), some (.int (b : Int)), none] _ _ _ _
    have hg0 : 0 < Nat.gcd t.natAbs b := Nat.gcd_pos_of_pos_right _ h0
    have hg1 : Nat.gcd t.natAbs b ≤ b := Nat.gcd_le_right _ h0
    obtain ⟨e1, e2⟩ := mkRat_parts t b h0
    refine gs_cons (g1_set 2 sc_lowest.nd (gw_call (ok_common A) hr A.k_common.at_ A.k_common.fn.kp A.k_common.bd (ga_cons (gw_abs A.n_abs (ga_cons (gw_name 0 (ga_nil ⟨_, rfl, ga_cons (gw_name 1 (ga_nil ⟨_, _, rfl, ?_⟩))⟩)))))))
    refine gs_one (g1_ret (gw_tup (ga_cons (gw_fdiv (gw_name 0 (gw_name 2 ⟨_, _, rfl, rfl, ?_, ga_cons (gw_fdiv (gw_name 1 (gw_name 2 ⟨_, _, rfl, rfl, ?_, ga_nil ⟨(by show 2 ≤ 1000; decide), ?_⟩⟩)))⟩))))))
    · exact ⟨by omega, by omega⟩
    · exact ⟨by omega, by omega⟩
    unfold fr at hk
    rw [e1, e2] at hk
    exact hk
/-! ### plus, times, is_above -/
def small (r : Rat) : Prop := r.den ≤ 20000 ∧ r.num.natAbs ≤ 1000000000
def Tplus : Pt := fun ds n k => ∃ p q : Rat, ds = [fr p, fr q] ∧ p.den ≤ 20000 ∧ q.den ≤ 20000 ∧ k (fr (p + q)) n
def Ttimes : Pt := fun ds n k => ∃ (p : Rat) (i : Int), ds = [fr p, .tup [.int i, .int 1]] ∧ p.den ≤ 20000 ∧ i.natAbs ≤ 1000000000 ∧ k (fr (p * i)) n
def Tabove : Pt := fun ds n k => ∃ p q : Rat, ds = [fr p, fr q] ∧ p.den ≤ 20000 ∧ q.den ≤ 20000 ∧ k (.bl (decide (q < p))) n
theorem sc_plus : FnScope ["one", "other"] ["one", "other"] (defScope s_plus) := ⟨rfl, rfl, rfl, by decide +kernel, rfl, by decide +kernel, by decide +kernel⟩
theorem sc_times : FnScope ["one", "other"] ["one", "other"] (defScope s_times) := ⟨rfl, rfl, rfl, by decide +kernel, rfl, by decide +kernel, by decide +kernel⟩
theorem sc_isabove : FnScope ["one", "other"] ["one", "other"] (defScope s_isabove) := ⟨rfl, rfl, rfl, by decide +kernel, rfl, by decide +kernel, by decide +kernel⟩
theorem den_pos (r : Rat) : 0 < r.den := Nat.pos_of_ne_zero r.den_nz
theorem cmul_r {i j : Int} (h : j.natAbs ≤ 1000000000) : CMul i j := by
  have e : (2 : Int) ^ 64 = 18446744073709551616 := by decide
  unfold CMul
  rw [e]
  right
  constructor <;> omega
theorem mul_small {a b : Nat} (ha : a ≤ 20000) (hb : b ≤ 20000) : a * b < 1073741824 := Nat.lt_of_le_of_lt (Nat.mul_le_mul ha hb) (by decide)
theorem ok_plus (A : Al K mg Z) : FnOk P w K mg base CX0 3 Z.a_plus Z.d_plus ["one", "other"] (spD K Z.C Tplus) := by
  refine ok_of A.k_plus.fn sc_plus (fun ds n k h => ?_) (fun cdv A' outer s H E pp av ds n kk hr h => ?_)
  · obtain ⟨p, q, rfl, _⟩ := h
    rfl
  · obtain ⟨p, q, rfl, hp, hq, hk⟩ := h
    show Gs _ [some (fr p), some (fr q)] _ _ _ _
    refine gs_one (g1_ret (gw_call (ok_lowest A) hr A.k_lowest.at_ A.k_lowest.fn.kp A.k_lowest.bd (ga_cons
      (gw_add (gw_mul (gw_ixT (gw_name 0 (gw_int ⟨_, 0, _, rfl, rfl, rfl, gw_ixT (gw_name 1 (gw_int ⟨_, 1, _, rfl, rfl, rfl, ⟨_, _, rfl, rfl, ?_, gw_mul (gw_ixT (gw_name 1 (gw_int ⟨_, 0, _, rfl, rfl, rfl, gw_ixT (gw_name 0 (gw_int ⟨_, 1, _, rfl, rfl, rfl, ⟨_, _, rfl, rfl, ?_, ⟨_, _, rfl, rfl, trivial, ga_cons
        (gw_mul (gw_ixT (gw_name 0 (gw_int ⟨_, 1, _, rfl, rfl, rfl, gw_ixT (gw_name 1 (gw_int ⟨_, 1, _, rfl, rfl, rfl, ⟨_, _, rfl, rfl, ?_, ga_nil ?_⟩⟩))⟩))))⟩⟩⟩))⟩)))⟩⟩))⟩))))))))
    · exact cmul_r (by omega)
    · exact cmul_r (by omega)
    · exact cmul_r (by omega)
    · refine ⟨p.num * q.den + q.num * p.den, p.den * q.den, ?_, Nat.mul_pos (den_pos p) (den_pos q), mul_small hp hq, ?_⟩
      · rw [Int.natCast_mul]
      · rw [← Rat.add_def']
        exact hk
theorem ok_times (A : Al K mg Z) : FnOk P w K mg base CX0 3 Z.a_times Z.d_times ["one", "other"] (spD K Z.C Ttimes) := by
  refine ok_of A.k_times.fn sc_times (fun ds n k h => ?_) (fun cdv A' outer s H E pp av ds n kk hr h => ?_)
  · obtain ⟨p, q, rfl, _⟩ := h
    rfl
  · obtain ⟨p, i, rfl, hp, hi, hk⟩ := h
    show Gs _ [some (fr p), some (.tup [.int i, .int 1])] _ _ _ _
    refine gs_one (g1_ret (gw_call (ok_lowest A) hr A.k_lowest.at_ A.k_lowest.fn.kp A.k_lowest.bd (ga_cons
      (gw_mul (gw_ixT (gw_name 0 (gw_int ⟨_, 0, _, rfl, rfl, rfl, gw_ixT (gw_name 1 (gw_int ⟨_, 0, _, rfl, rfl, rfl, ⟨_, _, rfl, rfl, ?_, ga_cons
        (gw_mul (gw_ixT (gw_name 0 (gw_int ⟨_, 1, _, rfl, rfl, rfl, gw_ixT (gw_name 1 (gw_int ⟨_, 1, _, rfl, rfl, rfl, ⟨_, _, rfl, rfl, ?_, ga_nil ?_⟩⟩))⟩))))⟩⟩))⟩)))))))
    · exact cmul_r hi
    · exact cmul_r (by decide)
    · refine ⟨p.num * i, p.den, ?_, den_pos p, by omega, ?_⟩
      · show [Dt.int (p.num * i), Dt.int ((p.den : Int) * 1)] = _
        rw [Int.mul_one]
      · have e : p * (i : Rat) = mkRat (p.num * i) p.den := by
          rw [Rat.mul_def']
          show mkRat (p.num * i) (p.den * 1) = _
          rw [Nat.mul_one]
        rw [← e]
        exact hk
theorem ok_isabove (A : Al K mg Z) : FnOk P w K mg base CX0 1 Z.a_isabove Z.d_isabove ["one", "other"] (spD K Z.C Tabove) := by
  refine ok_of A.k_isabove.fn sc_isabove (fun ds n k h => ?_) (fun cdv A' outer s H E pp av ds n kk hr h => ?_)
  · obtain ⟨p, q, rfl, _⟩ := h
    rfl
  · obtain ⟨p, q, rfl, hp, hq, hk⟩ := h
    show Gs _ [some (fr p), some (fr q)] _ _ _ _
    refine gs_one (g1_ret (gw_gt (gw_mul (gw_ixT (gw_name 0 (gw_int ⟨_, 0, _, rfl, rfl, rfl, gw_ixT (gw_name 1 (gw_int ⟨_, 1, _, rfl, rfl, rfl, ⟨_, _, rfl, rfl, ?_, gw_mul (gw_ixT (gw_name 1 (gw_int ⟨_, 0, _, rfl, rfl, rfl, gw_ixT (gw_name 0 (gw_int ⟨_, 1, _, rfl, rfl, rfl, ⟨_, _, rfl, rfl, ?_, ⟨_, _, rfl, rfl, trivial, ?_⟩⟩⟩))⟩)))⟩⟩))⟩))))))
    · exact cmul_r (by omega)
    · exact cmul_r (by omega)
    · have e : decide (q < p) = decide (q.num * (p.den : Int) < p.num * (q.den : Int)) := by
        rw [decide_eq_decide]
        exact Rat.lt_iff q p
      rw [e] at hk
      exact hk
end
end Cs

namespace Cs
open PySem PySem.Spec PyProof.Rows L2
theorem gt_bo {F : Fx} {ts : Ts} {n : Nat} {op : PySem.BoolOp} {es : List Expr} {pos : Pos} {B : Bool → Nat → Prop} (h : Gb F ts n (.BoolOp op es pos) B) : Gt F ts n (.BoolOp op es pos) B := gt_b h
theorem gw_tup2 {F : Fx} {ts : Ts} {n : Nat} {a b : Expr} {pos : Pos} {x1} {P : Dt → Nat → Prop} (h : Gw F ts n a fun d1 n1 => Gw F ts n1 b fun d2 n2 => P (.tup [d1, d2]) n2) (h1 : starEach [a, b] F.X.env = (false, eval a F.X.env) :: starEach [b] F.X.env := by rfl) (h2 : starEach [b] F.X.env = (false, eval b F.X.env) :: starEach [] F.X.env := by rfl) : Gw F ts n (.Tuple [a, b] x1 pos) P :=
  gw_tup (ga_cons (h.imp fun d1 n1 hh => ga_cons (hh.imp fun d2 n2 hp => ga_nil ⟨(by show 2 ≤ 1000; decide), hp⟩) h2) h1)
local macro_rules | `(tactic| walk_at "gv") => `(tactic| repeat (first
  | ((with_reducible show Gw _ _ _ (Expr.Name _ _) _); first | refine gw_name 0 ?_ | refine gw_name 1 ?_ | refine gw_name 2 ?_ | refine gw_name 3 ?_ | refine gw_name 4 ?_ | refine gw_name 5 ?_ | refine gw_name 6 ?_ | refine gw_name 7 ?_ | refine gw_name 8 ?_ | refine gw_name 9 ?_ | refine gw_name 10 ?_ | refine gw_name 11 ?_ | refine gw_name 12 ?_)
  | ((with_reducible show Gw _ _ _ (Expr.Constant _ _ _) _); first | refine gw_int ?_ | refine gw_str ?_ | refine gw_bl ?_ | refine gw_non ?_)
  | ((with_reducible show Ga _ _ _ [] _); refine ga_nil ?_)
  | ((with_reducible show Ga _ _ _ (_ :: _) _); refine ga_cons ?_)
  | ((with_reducible show Gw _ _ _ (Expr.BoolOp _ [_] _) _); refine gw_one ?_)
  | ((with_reducible show Gw _ _ _ (Expr.BoolOp _ _ _) _); refine gw_and ?_)
  | ((with_reducible show Gw _ _ _ (Expr.UnaryOp _ _ _) _); refine gw_not ?_)
  | ((with_reducible show Gw _ _ _ (Expr.IfExp _ _ _ _) _); refine gw_if ?_)
  | ((with_reducible show Gw _ _ _ (Expr.Tuple [_, _] _ _) _); refine gw_tup2 ?_)
  | ((with_reducible show Gw _ _ _ (Expr.Subscript _ (Expr.Constant _ _ _) _) _); refine gw_ixT ?_)
  | ((with_reducible show Gw _ _ _ (Expr.BinOp _ _ _ _) _); first | refine gw_add ?_ | refine gw_sub ?_ | refine gw_mul ?_ | refine gw_fdiv ?_ | refine gw_mod ?_)
  | ((with_reducible show Gw _ _ _ (Expr.Compare _ [_] _ _) _); first | refine gw_gt ?_ | refine gw_lt ?_ | refine gw_le ?_ | refine gw_eq ?_)
  | ((with_reducible show Gw _ _ _ (Expr.Compare _ [_, _] _ _) _); refine gw_chain ?_)
  | ((with_reducible show Gt _ _ _ (Expr.BoolOp _ _ _) _); refine gt_bo ?_)
  | ((with_reducible show Gt _ _ _ (Expr.UnaryOp _ _ _) _); refine gt_not ?_)
  | ((with_reducible show Gt _ _ _ (Expr.Compare _ [_] _ _) _); first | refine gt_gt ?_ | refine gt_lt ?_ | refine gt_eq ?_)
  | ((with_reducible show Gt _ _ _ (Expr.Call _ _ _ _) _); refine gt_val ?_)
  | ((with_reducible show Gt _ _ _ (Expr.Name _ _) _); refine gt_val ?_)
  | ((with_reducible show Gb _ _ _ (Expr.BoolOp PySem.BoolOp.Or [_] _) _); refine gb_or1 ?_)
  | ((with_reducible show Gb _ _ _ (Expr.BoolOp PySem.BoolOp.And [_] _) _); refine gb_and1 ?_)
  | ((with_reducible show Gb _ _ _ (Expr.BoolOp PySem.BoolOp.Or _ _) _); refine gb_or ?_)
  | ((with_reducible show Gb _ _ _ (Expr.BoolOp PySem.BoolOp.And _ _) _); refine gb_and ?_)
  | ((with_reducible show RI _ _ _ _ _); refine ⟨_, _, rfl, rfl, trivial, ?_⟩)
  | ((with_reducible show (ite (_ = true) _ _)); first | refine ifT rfl ?_ | refine ifF rfl ?_)
  | ((with_reducible show Exists _); first | refine ⟨_, 0, _, rfl, rfl, rfl, ?_⟩ | refine ⟨_, 1, _, rfl, rfl, rfl, ?_⟩ | refine ⟨_, rfl, ?_⟩)))
def sd (x : Int × Int) : Dt := .tup [.int x.1, .int x.2]
def okS (x : Int × Int) : Prop := -10000 ≤ x.1 ∧ x.1 ≤ x.2 ∧ x.2 ≤ 10000
def lets : Str := "abcdefghijklmnopqrstuvwxyz"
def okN (x : Str) : Prop := 1 ≤ x.length ∧ x.length ≤ 8 ∧ ∀ c ∈ x.cps.toList, c ∈ lets.cps.toList
theorem map_true {α : Type} (xs : List α) : (xs.map fun _ => true).all id = true := by
  induction xs with
  | nil => rfl
  | cons x r ih => rw [List.map_cons, List.all_cons, ih]; rfl
theorem lst_true (src : List Dt) : (Dt.lst (src.map fun _ => .bl true)) = .lst ((src.map fun _ => true).map .bl) := by rw [List.map_map]; rfl
section
variable {F : Fx} {ts : Ts} {n : Nat} {a b c e : Expr} {es : List Expr} {pos : Pos} {P : Dt → Nat → Prop}
/-- isinstance(a, T), T a built-in type -/
theorem gw_isi2 (T : String) {x : Str} {p px : Pos} (hm : F.X.mg "isinstance" = none) (hx : F.X.mg x = none) (hv : bootBuiltins x = some (.type T)) (h : Gw F ts n a fun d n1 => ∃ S t, tyD d = some S ∧ kitB S T = some t ∧ P (.bl t) n1) (hg : Gl F.X "isinstance" := by rfl) (hgx : Gl F.X x := by rfl) (hn : x ≠ "__name__" := by decide) (hd : (x == ("__debug__" : Str)) = false := by decide)
    (he1 : starEach [a, .Name x px] F.X.env = (false, eval a F.X.env) :: starEach [.Name x px] F.X.env := by rfl) (he2 : starEach [.Name x px] F.X.env = (false, eval (.Name x px) F.X.env) :: starEach [] F.X.env := by rfl) (hpl : (backTo pos (starEach [.Name x px] F.X.env)).any (·.1) = false := by rfl) : Gw F ts n (.Call (.Name "isinstance" p) [a, .Name x px] [] pos) P := by
  refine gw_isi hm (ga_cons (h.imp fun d n1 hh => ?_) he1) hg he1 hpl
  obtain ⟨S, t, h1, h2, h3⟩ := hh
  exact ga_cons (gw_bty hx hv (ga_nil ⟨d, T, S, t, rfl, h1, h2, h3⟩) hgx hn hd) he2
end
section
variable {P : Program} {w : World} {K : PySem.W.Frag} {mg : Str → Option Value} {base : Heap} {Z : Ad}
/-! ### is_whole, is_integer, is_tuple_of, is_fraction -/
def Twhole : Pt := fun ds n k => ∃ i : Int, ds = [.int i] ∧ k (.bl true) n
theorem sc_iswhole : FnScope ["value"] ["value"] (defScope s_iswhole) := ⟨rfl, rfl, rfl, by decide +kernel, rfl, by decide +kernel, by decide +kernel⟩
theorem ok_iswhole (A : Al K mg Z) : FnOk P w K mg base CX0 1 Z.a_iswhole Z.d_iswhole ["value"] (spD K Z.C Twhole) := by
  refine ok_of A.k_iswhole.fn sc_iswhole (fun ds n k h => ?_) (fun cdv A' outer s H E pp av ds n kk hr h => ?_)
  · obtain ⟨i, rfl, _⟩ := h
    rfl
  · obtain ⟨i, rfl, hk⟩ := h
    show Gs _ [some (.int i)] _ _ _ _
    refine gs_one (g1_ret ?_)
    walk_at "gv"
    refine gw_isi2 "int" A.n_isinstance A.n_int (by decide +kernel) ?_
    walk_at "gv"
    refine ⟨"int", true, rfl, by decide +kernel, true, rfl, ifT rfl ?_⟩
    walk_at "gv"
    refine gw_isi2 "bool" A.n_isinstance A.n_bool (by decide +kernel) ?_
    walk_at "gv"
    refine ⟨"int", false, rfl, by decide +kernel, false, rfl, ?_⟩
    exact hk
def Tinteger : Pt := fun ds n k => ∃ v l g : Int, ds = [.int v, .int l, .int g] ∧ l ≤ v ∧ k (.bl (decide (v ≤ g))) n
theorem sc_isinteger : FnScope ["value", "least", "greatest"] ["value", "least", "greatest"] (defScope s_isinteger) := ⟨rfl, rfl, rfl, by decide +kernel, rfl, by decide +kernel, by decide +kernel⟩
theorem ok_isinteger (A : Al K mg Z) : FnOk P w K mg base CX0 2 Z.a_isinteger Z.d_isinteger ["value", "least", "greatest"] (spD K Z.C Tinteger) := by
  refine ok_of A.k_isinteger.fn sc_isinteger (fun ds n k h => ?_) (fun cdv A' outer s H E pp av ds n kk hr h => ?_)
  · obtain ⟨v, l, g, rfl, _⟩ := h
    rfl
  · obtain ⟨v, l, g, rfl, hl, hk⟩ := h
    show Gs _ [some (.int v), some (.int l), some (.int g)] _ _ _ _
    refine gs_one (g1_ret ?_)
    walk_at "gv"
    refine gw_call (ok_iswhole A) hr A.k_iswhole.at_ A.k_iswhole.fn.kp A.k_iswhole.bd ?_
    walk_at "gv"
    refine ⟨_, rfl, ?_⟩
    walk_at "gv"
    refine ⟨_, _, rfl, rfl, hl, ?_⟩
    walk_at "gv"
    exact hk
def Ttupleof : Pt := fun ds n k => ∃ (xs : List Dt) (m : Int), ds = [.tup xs, .int m] ∧ k (.bl ((xs.length : Int) == m)) n
theorem sc_istupleof : FnScope ["value", "many"] ["value", "many"] (defScope s_istupleof) := ⟨rfl, rfl, rfl, by decide +kernel, rfl, by decide +kernel, by decide +kernel⟩
theorem ok_istupleof (A : Al K mg Z) : FnOk P w K mg base CX0 1 Z.a_istupleof Z.d_istupleof ["value", "many"] (spD K Z.C Ttupleof) := by
  refine ok_of A.k_istupleof.fn sc_istupleof (fun ds n k h => ?_) (fun cdv A' outer s H E pp av ds n kk hr h => ?_)
  · obtain ⟨v, l, rfl, _⟩ := h
    rfl
  · obtain ⟨xs, m, rfl, hk⟩ := h
    show Gs _ [some (.tup xs), some (.int m)] _ _ _ _
    refine gs_one (g1_ret ?_)
    walk_at "gv"
    refine gw_isi2 "tuple" A.n_isinstance A.n_tuple (by decide +kernel) ?_
    walk_at "gv"
    refine ⟨"tuple", true, rfl, by decide +kernel, true, rfl, ifT rfl ?_⟩
    walk_at "gv"
    refine gw_len A.n_len ?_
    walk_at "gv"
    refine ⟨_, _, rfl, .inl ⟨_, rfl, rfl⟩, ?_⟩
    walk_at "gv"
    exact hk
def Tfraction : Pt := fun ds n k => ∃ r : Rat, ds = [fr r] ∧ k (.bl true) n
theorem sc_isfraction : FnScope ["value"] ["value"] (defScope s_isfraction) := ⟨rfl, rfl, rfl, by decide +kernel, rfl, by decide +kernel, by decide +kernel⟩
theorem ok_isfraction (A : Al K mg Z) : FnOk P w K mg base CX0 2 Z.a_isfraction Z.d_isfraction ["value"] (spD K Z.C Tfraction) := by
  refine ok_of A.k_isfraction.fn sc_isfraction (fun ds n k h => ?_) (fun cdv A' outer s H E pp av ds n kk hr h => ?_)
  · obtain ⟨v, rfl, _⟩ := h
    rfl
  · obtain ⟨r, rfl, hk⟩ := h
    show Gs _ [some (fr r)] _ _ _ _
    refine gs_cons (g1_unless ?_)
    walk_at "gv"
    refine gw_call (ok_istupleof A) (hr.mono (by decide)) A.k_istupleof.at_ A.k_istupleof.fn.kp A.k_istupleof.bd ?_
    walk_at "gv"
    refine ⟨_, _, rfl, true, rfl, ifF rfl ?_⟩
    walk_at "gv"
    refine gw_call (ok_iswhole A) (hr.mono (by decide)) A.k_iswhole.at_ A.k_iswhole.fn.kp A.k_iswhole.bd ?_
    walk_at "gv"
    refine ⟨_, rfl, true, rfl, ifF rfl ?_⟩
    walk_at "gv"
    refine gw_call (ok_iswhole A) (hr.mono (by decide)) A.k_iswhole.at_ A.k_iswhole.fn.kp A.k_iswhole.bd ?_
    walk_at "gv"
    refine ⟨_, rfl, true, rfl, rfl, ?_⟩
    have hg : Nat.gcd r.num.natAbs r.den = 1 := r.reduced
    have hp := den_pos r
    refine gs_one (g1_ret ?_)
    walk_at "gv"
    refine ifT (by exact decide_eq_true (by omega)) ?_
    walk_at "gv"
    refine gw_call (ok_common A) (hr.mono (by decide)) A.k_common.at_ A.k_common.fn.kp A.k_common.bd ?_
    walk_at "gv"
    refine gw_abs A.n_abs ?_
    walk_at "gv"
    refine ⟨_, _, rfl, ?_⟩
    walk_at "gv"
    rw [hg]
    exact hk
/-! ### is_stretch, is_end_stretch -/
def Tstretch : Pt := fun ds n k => ∃ (x : Int × Int) (a b : Int), ds = [sd x, .int a, .int b] ∧ a ≤ x.1 ∧ x.1 ≤ x.2 ∧ x.2 ≤ b ∧ k (.bl true) n
theorem sc_isstretch : FnScope ["value", "least", "greatest", "end"] ["value", "least", "greatest"] (defScope s_isstretch) := ⟨rfl, rfl, rfl, by decide +kernel, rfl, by decide +kernel, by decide +kernel⟩
theorem ok_isstretch (A : Al K mg Z) : FnOk P w K mg base CX0 3 Z.a_isstretch Z.d_isstretch ["value", "least", "greatest"] (spD K Z.C Tstretch) := by
  refine ok_of A.k_isstretch.fn sc_isstretch (fun ds n k h => ?_) (fun cdv A' outer s H E pp av ds n kk hr h => ?_)
  · obtain ⟨v, _, _, rfl, _⟩ := h
    rfl
  · obtain ⟨x, a, b, rfl, h1, h2, h3, hk⟩ := h
    show Gs _ [some (sd x), some (.int a), some (.int b), none] _ _ _ _
    refine gs_cons (g1_unless ?_)
    walk_at "gv"
    refine gw_call (ok_istupleof A) (hr.mono (by decide)) A.k_istupleof.at_ A.k_istupleof.fn.kp A.k_istupleof.bd ?_
    walk_at "gv"
    refine ⟨_, _, rfl, true, rfl, ifF rfl ?_⟩
    walk_at "gv"
    refine gw_all A.n_all rfl ?_
    walk_at "gv"
    refine gw_lcD (own := [("end", 3)]) [3] (fun _ => .bl true) rfl sc_isstretch.nd (blkOk_by (N := ["value", "least", "greatest", "end"]) (sc := defScope s_isstretch) (by decide +kernel)) (by simp) (gi_tup ?_ pi_tup)
    walk_at "gv"
    refine ⟨by simp, fun s H Cc cl fp D d hd => ⟨by simp, _, gg_name 3 sc_isstretch.nd, fun s H Cc cl fp => ?_⟩, ?_⟩
    · have hv : ∃ v : Int, d = .int v ∧ a ≤ v ∧ v ≤ b := by
        rcases List.mem_cons.mp hd with e | e
        · exact ⟨_, e, h1, by omega⟩
        · exact ⟨_, List.mem_singleton.mp e, by omega, h3⟩
      obtain ⟨v, rfl, v1, v2⟩ := hv
      refine gw_call (ok_isinteger A) (hr.mono (by decide)) A.k_isinteger.at_ A.k_isinteger.fn.kp A.k_isinteger.bd ?_
      walk_at "gv"
      refine ⟨_, _, _, rfl, v1, ?_⟩
      exact ⟨congrArg Dt.bl (decide_eq_true v2), rfl⟩
    · walk_at "gv"
      refine ⟨[true, true], rfl, true, rfl, rfl, ?_⟩
      refine gs_one (g1_ret ?_)
      walk_at "gv"
      show kk (.bl (decide (x.1 ≤ x.2))) n
      rw [decide_eq_true h2]
      exact hk
def Tendstretch : Pt := fun ds n k => ∃ x : Int × Int, ds = [sd x] ∧ okS x ∧ k (.bl true) n
theorem sc_isendstretch : FnScope ["value"] ["value"] (defScope s_isendstretch) := ⟨rfl, rfl, rfl, by decide +kernel, rfl, by decide +kernel, by decide +kernel⟩
theorem ok_isendstretch (A : Al K mg Z) : FnOk P w K mg base CX0 4 Z.a_isendstretch Z.d_isendstretch ["value"] (spD K Z.C Tendstretch) := by
  refine ok_of A.k_isendstretch.fn sc_isendstretch (fun ds n k h => ?_) (fun cdv A' outer s H E pp av ds n kk hr h => ?_)
  · obtain ⟨v, rfl, _⟩ := h
    rfl
  · obtain ⟨x, rfl, ⟨h1, h2, h3⟩, hk⟩ := h
    obtain ⟨t, he⟩ := A.g_end
    show Gs _ [some (sd x)] _ _ _ _
    refine gs_one (g1_ret ?_)
    refine gw_call (ok_isstretch A) hr A.k_isstretch.at_ A.k_isstretch.fn.kp A.k_isstretch.bd ?_
    walk_at "gv"
    refine gw_gint he ?_
    walk_at "gv"
    refine gw_gint he ?_
    walk_at "gv"
    refine ⟨x, _, _, rfl, ?_, h2, h3, hk⟩
    omega
end
end Cs

namespace Cs
open PySem PySem.Spec PyProof.Rows L2
local macro_rules | `(tactic| walk_at "gv") => `(tactic| repeat (first
  | ((with_reducible show Gw _ _ _ (Expr.Name _ _) _); first | refine gw_name 0 ?_ | refine gw_name 1 ?_ | refine gw_name 2 ?_ | refine gw_name 3 ?_ | refine gw_name 4 ?_ | refine gw_name 5 ?_ | refine gw_name 6 ?_ | refine gw_name 7 ?_ | refine gw_name 8 ?_ | refine gw_name 9 ?_ | refine gw_name 10 ?_ | refine gw_name 11 ?_ | refine gw_name 12 ?_)
  | ((with_reducible show Gw _ _ _ (Expr.Constant _ _ _) _); first | refine gw_int ?_ | refine gw_str ?_ | refine gw_bl ?_ | refine gw_non ?_)
  | ((with_reducible show Ga _ _ _ [] _); refine ga_nil ?_)
  | ((with_reducible show Ga _ _ _ (_ :: _) _); refine ga_cons ?_)
  | ((with_reducible show Gw _ _ _ (Expr.BoolOp _ [_] _) _); refine gw_one ?_)
  | ((with_reducible show Gw _ _ _ (Expr.BoolOp _ _ _) _); refine gw_and ?_)
  | ((with_reducible show Gw _ _ _ (Expr.UnaryOp _ _ _) _); refine gw_not ?_)
  | ((with_reducible show Gw _ _ _ (Expr.IfExp _ _ _ _) _); refine gw_if ?_)
  | ((with_reducible show Gw _ _ _ (Expr.Tuple [_, _] _ _) _); refine gw_tup2 ?_)
  | ((with_reducible show Gw _ _ _ (Expr.Subscript _ (Expr.Constant _ _ _) _) _); refine gw_ixT ?_)
  | ((with_reducible show Gw _ _ _ (Expr.BinOp _ _ _ _) _); first | refine gw_add ?_ | refine gw_sub ?_ | refine gw_mul ?_ | refine gw_fdiv ?_ | refine gw_mod ?_)
  | ((with_reducible show Gw _ _ _ (Expr.Compare _ [_] _ _) _); first | refine gw_gt ?_ | refine gw_lt ?_ | refine gw_le ?_ | refine gw_eq ?_)
  | ((with_reducible show Gw _ _ _ (Expr.Compare _ [_, _] _ _) _); refine gw_chain ?_)
  | ((with_reducible show Gt _ _ _ (Expr.BoolOp _ _ _) _); refine gt_bo ?_)
  | ((with_reducible show Gt _ _ _ (Expr.UnaryOp _ _ _) _); refine gt_not ?_)
  | ((with_reducible show Gt _ _ _ (Expr.Compare _ [_] _ _) _); first | refine gt_gt ?_ | refine gt_lt ?_ | refine gt_eq ?_)
  | ((with_reducible show Gt _ _ _ (Expr.Call _ _ _ _) _); refine gt_val ?_)
  | ((with_reducible show Gt _ _ _ (Expr.Name _ _) _); refine gt_val ?_)
  | ((with_reducible show Gb _ _ _ (Expr.BoolOp PySem.BoolOp.Or [_] _) _); refine gb_or1 ?_)
  | ((with_reducible show Gb _ _ _ (Expr.BoolOp PySem.BoolOp.And [_] _) _); refine gb_and1 ?_)
  | ((with_reducible show Gb _ _ _ (Expr.BoolOp PySem.BoolOp.Or _ _) _); refine gb_or ?_)
  | ((with_reducible show Gb _ _ _ (Expr.BoolOp PySem.BoolOp.And _ _) _); refine gb_and ?_)
  | ((with_reducible show RI _ _ _ _ _); refine ⟨_, _, rfl, rfl, trivial, ?_⟩)
  | ((with_reducible show (ite (_ = true) _ _)); first | refine ifT rfl ?_ | refine ifF rfl ?_)
  | ((with_reducible show Exists _); first | refine ⟨_, 0, _, rfl, rfl, rfl, ?_⟩ | refine ⟨_, 1, _, rfl, rfl, rfl, ?_⟩ | refine ⟨_, rfl, ?_⟩)))
def rowD (r : Str × List (Int × Int)) : Dt := .tup [.str r.1, .tup (r.2.map sd)]
/-! ### the forms of what is compared with () -/
theorem lay_strs : ∀ xs : List Str, (∀ x ∈ xs, PyData.strOk x = true) → PyData.canLayAll0 (toPs (xs.map .str)) = true ∧ PyData.depthAll (toPs (xs.map .str)) = 0
  | [], _ => ⟨rfl, rfl⟩
  | x :: xs, h => by
    obtain ⟨h1, h2⟩ := lay_strs xs fun y hy => h y (List.mem_cons_of_mem _ hy)
    rw [List.map_cons]
    unfold toPs toP PyData.canLayAll0 PyData.depthAll PyData.canLay0 PyData.depth
    rw [h1, h2, h x List.mem_cons_self]
    exact ⟨rfl, rfl⟩
theorem data_strs : ∀ xs : List Str, dataDs (xs.map .str) = true
  | [] => rfl
  | x :: xs => by
    rw [List.map_cons]
    unfold dataDs dataD
    rw [data_strs xs]
    rfl
theorem data_sds : ∀ xs : List (Int × Int), dataDs (xs.map sd) = true
  | [] => rfl
  | x :: xs => by
    rw [List.map_cons]
    unfold dataDs
    rw [data_sds xs]
    rfl
theorem lay_sds : ∀ xs : List (Int × Int), PyData.canLayAll0 (toPs (xs.map sd)) = true ∧ PyData.depthAll (toPs (xs.map sd)) ≤ 1
  | [] => ⟨rfl, by decide⟩
  | x :: xs => by
    obtain ⟨h1, h2⟩ := lay_sds xs
    rw [List.map_cons]
    unfold toPs PyData.canLayAll0 PyData.depthAll
    rw [h1]
    refine ⟨rfl, ?_⟩
    have e : PyData.depth (toP (sd x)) = 1 := rfl
    rw [e]
    omega
theorem data_rows : ∀ rs : List (Str × List (Int × Int)), dataDs (rs.map rowD) = true
  | [] => rfl
  | r :: rs => by
    rw [List.map_cons]
    show (dataD (rowD r) && dataDs (rs.map rowD)) = true
    rw [data_rows rs, Bool.and_true]
    show (true && (dataDs (r.2.map sd) && true)) = true
    rw [data_sds]
    rfl
theorem lay_rows : ∀ rs : List (Str × List (Int × Int)), (∀ r ∈ rs, PyData.strOk r.1 = true) → PyData.canLayAll0 (toPs (rs.map rowD)) = true ∧ PyData.depthAll (toPs (rs.map rowD)) ≤ 3
  | [], _ => ⟨rfl, by decide⟩
  | r :: rs, h => by
    obtain ⟨h1, h2⟩ := lay_rows rs fun y hy => h y (List.mem_cons_of_mem _ hy)
    obtain ⟨g1, g2⟩ := lay_sds r.2
    have e : toP (rowD r) = .tuple [.str r.1, .tuple (toPs (r.2.map sd))] := rfl
    rw [List.map_cons]
    unfold toPs PyData.canLayAll0 PyData.depthAll
    rw [h1, e]
    constructor
    · show (PyData.canLayAll0 [.str r.1, .tuple (toPs (r.2.map sd))] && true) = true
      unfold PyData.canLayAll0 PyData.canLayAll0 PyData.canLayAll0 PyData.canLay0
      rw [h r List.mem_cons_self, g1]
      rfl
    · have e2 : PyData.depth (.tuple [.str r.1, .tuple (toPs (r.2.map sd))]) ≤ 3 := by
        show max 0 (max (PyData.depthAll (toPs (r.2.map sd)) + 1) 0) + 1 ≤ 3
        omega
      omega
theorem shaped_strs {xs : List Str} (h : ∀ x ∈ xs, PyData.strOk x = true) : SeqAt.shaped (toP (.tup (xs.map .str))) = true := by
  obtain ⟨h1, h2⟩ := lay_strs xs h
  have e : toP (.tup (xs.map .str)) = .tuple (toPs (xs.map .str)) := rfl
  rw [e]
  unfold SeqAt.shaped PyData.canLay0 PyData.depth
  rw [h1, h2]
  rfl
theorem shaped_rows {rs : List (Str × List (Int × Int))} (h : ∀ r ∈ rs, PyData.strOk r.1 = true) : SeqAt.shaped (toP (.tup (rs.map rowD))) = true := by
  obtain ⟨h1, h2⟩ := lay_rows rs h
  have e : toP (.tup (rs.map rowD)) = .tuple (toPs (rs.map rowD)) := rfl
  rw [e]
  unfold SeqAt.shaped PyData.canLay0 PyData.depth
  rw [h1, Bool.true_and, decide_eq_true_eq]
  omega
def okM (x : Str) : Prop := okN x ∧ PyData.strOk x = true
section
variable {P : Program} {w : World} {K : PySem.W.Frag} {mg : Str → Option Value} {base : Heap} {Z : Ad}
/-! ### is_name -/
def Tname : Pt := fun ds n k => ∃ x : Str, ds = [.str x] ∧ okN x ∧ k (.bl true) n
theorem sc_isname : FnScope ["value", "sign"] ["value"] (defScope s_isname) := ⟨rfl, rfl, rfl, by decide +kernel, rfl, by decide +kernel, by decide +kernel⟩
theorem ok_isname (A : Al K mg Z) : FnOk P w K mg base CX0 1 Z.a_isname Z.d_isname ["value"] (spD K Z.C Tname) := by
  refine ok_of A.k_isname.fn sc_isname (fun ds n k h => ?_) (fun cdv A' outer s H E pp av ds n kk hr h => ?_)
  · obtain ⟨i, rfl, _⟩ := h
    rfl
  · obtain ⟨x, rfl, ⟨h1, h2, h3⟩, hk⟩ := h
    obtain ⟨t1, e1⟩ := A.g_long
    obtain ⟨t2, e2⟩ := A.g_let
    have hz : x.length ≤ sizeLine := Nat.le_trans h2 (by decide)
    show Gs _ [some (.str x), none] _ _ _ _
    refine gs_one (g1_ret ?_)
    walk_at "gv"
    refine gw_isi2 "str" A.n_isinstance A.n_str (by decide +kernel) ?_
    walk_at "gv"
    refine ⟨"str", true, rfl, by decide +kernel, ?_⟩
    walk_at "gv"
    refine gw_len A.n_len ?_
    walk_at "gv"
    refine ⟨_, _, rfl, .inr (.inr ⟨x, rfl, hz, rfl⟩), ?_⟩
    refine ⟨_, _, rfl, rfl, by omega, gw_gint e1 ?_⟩
    refine ⟨_, rfl, _, rfl, ifT (by exact decide_eq_true (by omega)) ?_⟩
    walk_at "gv"
    refine gw_all A.n_all rfl ?_
    walk_at "gv"
    refine gw_lcD (own := [("sign", 1)]) [1] (fun _ => .bl true) rfl sc_isname.nd (blkOk_by (N := ["value", "sign"]) (sc := defScope s_isname) (by decide +kernel)) (by simp) (gi_str ?_)
    walk_at "gv"
    refine ⟨?_, fun s H Cc cl fp D d hd => ⟨by simp, _, gg_name 1 sc_isname.nd, fun s H Cc cl fp => ?_⟩, ?_⟩
    · rw [List.length_map, Array.length_toList]
      show x.length ≤ 1000
      omega
    · obtain ⟨c, hc, rfl⟩ := List.mem_map.mp hd
      refine gw_inSign ?_
      walk_at "gv"
      refine gw_gstr e2 ?_
      refine ⟨c, _, rfl, rfl, congrArg Dt.bl (decide_eq_true (h3 c hc)), rfl⟩
    · walk_at "gv"
      refine ⟨(x.cps.toList.map fun c => Dt.str ⟨#[c]⟩).map fun _ => true, congrArg (fun z => [z]) (lst_true _), ?_⟩
      rw [map_true]
      exact hk
/-! ### check_columns -/
def Tcols : Pt := fun ds n k => ∃ xs : List Str, ds = [.tup (xs.map .str)] ∧ xs ≠ [] ∧ xs.length ≤ 4 ∧ xs.Nodup ∧ (∀ x ∈ xs, okM x) ∧ k .non n
theorem sc_checkcolumns : FnScope ["value", "index", "name"] ["value"] (defScope s_checkcolumns) := ⟨rfl, rfl, rfl, by decide +kernel, rfl, by decide +kernel, by decide +kernel⟩
theorem nodup_take {α : Type} : ∀ {xs : List α} {i : Nat} {x : α}, xs.Nodup → xs[i]? = some x → x ∉ xs.take i
  | [], _, _, _, h => by simp at h
  | y :: ys, 0, x, _, _ => by simp
  | y :: ys, i + 1, x, nd, h => by
    obtain ⟨n1, n2⟩ := List.nodup_cons.mp nd
    have h' : ys[i]? = some x := by simpa using h
    rw [List.take_succ_cons]
    intro hm
    rcases List.mem_cons.mp hm with e | e
    · rw [e] at h'
      exact n1 (List.mem_of_getElem? h')
    · exact nodup_take n2 h' e
theorem enum_at {xs : List Dt} {i : Nat} {d : Dt} (h : (xs.mapIdx fun i x => Dt.tup [.int (i : Int), x])[i]? = some d) : ∃ x, xs[i]? = some x ∧ d = .tup [.int (i : Int), x] := by
  rw [List.getElem?_mapIdx] at h
  cases e : xs[i]? with
  | none => rw [e] at h; cases h
  | some x =>
    rw [e] at h
    exact ⟨x, rfl, (Option.some.inj h).symm⟩
theorem map_at {α : Type} {f : α → Dt} {xs : List α} {i : Nat} {d : Dt} (h : (xs.map f)[i]? = some d) : ∃ x, xs[i]? = some x ∧ d = f x := by
  rw [List.getElem?_map] at h
  cases e : xs[i]? with
  | none => rw [e] at h; cases h
  | some x =>
    rw [e] at h
    exact ⟨x, rfl, (Option.some.inj h).symm⟩
theorem ok_checkcolumns (A : Al K mg Z) : FnOk P w K mg base CX0 2 Z.a_checkcolumns Z.d_checkcolumns ["value"] (spD K Z.C Tcols) := by
  refine ok_of A.k_checkcolumns.fn sc_checkcolumns (fun ds n k h => ?_) (fun cdv A' outer s H E pp av ds n kk hr h => ?_)
  · obtain ⟨i, rfl, _⟩ := h
    rfl
  · obtain ⟨xs, rfl, hne, hlen, hnd, hall, hk⟩ := h
    obtain ⟨t1, e1⟩ := A.g_cols
    obtain ⟨x0, r0, e0⟩ : ∃ x r, xs = x :: r := by
      cases xs with
      | nil => exact absurd rfl hne
      | cons x r => exact ⟨x, r, rfl⟩
    show Gs _ [some (.tup (xs.map .str)), none, none] _ _ _ _
    refine gs_cons (g1_unless ?_)
    walk_at "gv"
    refine gw_isi2 "tuple" A.n_isinstance A.n_tuple (by decide +kernel) ?_
    walk_at "gv"
    refine ⟨"tuple", true, rfl, by decide +kernel, _, rfl, ifF rfl (gb_or1 (gt_eqNo hr.units ?_))⟩
    walk_at "gv"
    refine gw_tup (ga_nil ⟨by decide, ?_⟩)
    refine ⟨.str x0, r0.map .str, by rw [e0]; rfl, rfl, ?_, ?_, rfl, ?_⟩
    · have := data_strs (x0 :: r0)
      exact this
    · have := shaped_strs (xs := x0 :: r0) fun x hx => (hall x (by rw [e0]; exact hx)).2
      exact this
    refine gs_one (g1_for [1, 2] PassesOwn.never rfl (gi_enum A.n_enumerate ?_))
    walk_at "gv"
    refine ⟨fun i ts1 n1 => (∃ a b, ts1 = [some (.tup (xs.map .str)), a, b]) ∧ n1 = n, ⟨⟨none, none, rfl⟩, rfl⟩, fun i d ts1 n1 hd hI => ?_, fun ts1 n1 hI => ?_⟩
    · obtain ⟨⟨a, b, rfl⟩, rfl⟩ := hI
      obtain ⟨y, hy, rfl⟩ := enum_at hd
      obtain ⟨x, hx, rfl⟩ := map_at hy
      have hil : i < xs.length := (List.getElem?_eq_some_iff.mp hx).1
      refine ⟨by simp, _, gg_pair rfl (gg_name 1 sc_checkcolumns.nd) (gg_name 2 sc_checkcolumns.nd), ?_⟩
      show Gs _ [some (.tup (xs.map .str)), some (.int (i : Int)), some (.str x)] _ _ _ _
      refine gs_one (g1_unless ?_)
      walk_at "gv"
      refine gw_gint e1 ?_
      walk_at "gv"
      refine ifF (by exact beq_eq_false_iff_ne.mpr (by omega)) ?_
      walk_at "gv"
      refine gw_call (ok_isname A) (hr.mono (by decide)) A.k_isname.at_ A.k_isname.fn.kp A.k_isname.bd ?_
      walk_at "gv"
      refine ⟨x, rfl, (hall x (List.mem_of_getElem? hx)).1, ?_⟩
      walk_at "gv"
      refine gt_inStrs ?_
      walk_at "gv"
      refine gw_upto ?_
      walk_at "gv"
      refine ⟨_, i, rfl, rfl, ?_⟩
      refine ⟨x, xs.take i, rfl, .inl (by rw [List.map_take]), ?_⟩
      exact ⟨decide_eq_false (nodup_take hnd hx), ⟨_, _, rfl⟩, rfl⟩
    · obtain ⟨⟨a, b, rfl⟩, rfl⟩ := hI
      exact hk
end
end Cs

namespace Cs
open PySem PySem.Spec PyProof.Rows L2
local macro_rules | `(tactic| walk_at "gv") => `(tactic| repeat (first
  | ((with_reducible show Gw _ _ _ (Expr.Name _ _) _); first | refine gw_name 0 ?_ | refine gw_name 1 ?_ | refine gw_name 2 ?_ | refine gw_name 3 ?_ | refine gw_name 4 ?_ | refine gw_name 5 ?_ | refine gw_name 6 ?_ | refine gw_name 7 ?_ | refine gw_name 8 ?_ | refine gw_name 9 ?_ | refine gw_name 10 ?_ | refine gw_name 11 ?_ | refine gw_name 12 ?_)
  | ((with_reducible show Gw _ _ _ (Expr.Constant _ _ _) _); first | refine gw_int ?_ | refine gw_str ?_ | refine gw_bl ?_ | refine gw_non ?_)
  | ((with_reducible show Ga _ _ _ [] _); refine ga_nil ?_)
  | ((with_reducible show Ga _ _ _ (_ :: _) _); refine ga_cons ?_)
  | ((with_reducible show Gw _ _ _ (Expr.BoolOp _ [_] _) _); refine gw_one ?_)
  | ((with_reducible show Gw _ _ _ (Expr.BoolOp _ _ _) _); refine gw_and ?_)
  | ((with_reducible show Gw _ _ _ (Expr.UnaryOp _ _ _) _); refine gw_not ?_)
  | ((with_reducible show Gw _ _ _ (Expr.IfExp _ _ _ _) _); refine gw_if ?_)
  | ((with_reducible show Gw _ _ _ (Expr.Tuple [_, _] _ _) _); refine gw_tup2 ?_)
  | ((with_reducible show Gw _ _ _ (Expr.Subscript _ (Expr.Constant _ _ _) _) _); refine gw_ixT ?_)
  | ((with_reducible show Gw _ _ _ (Expr.BinOp _ _ _ _) _); first | refine gw_add ?_ | refine gw_sub ?_ | refine gw_mul ?_ | refine gw_fdiv ?_ | refine gw_mod ?_)
  | ((with_reducible show Gw _ _ _ (Expr.Compare _ [_] _ _) _); first | refine gw_gt ?_ | refine gw_lt ?_ | refine gw_le ?_ | refine gw_eq ?_)
  | ((with_reducible show Gw _ _ _ (Expr.Compare _ [_, _] _ _) _); refine gw_chain ?_)
  | ((with_reducible show Gt _ _ _ (Expr.BoolOp _ _ _) _); refine gt_bo ?_)
  | ((with_reducible show Gt _ _ _ (Expr.UnaryOp _ _ _) _); refine gt_not ?_)
  | ((with_reducible show Gt _ _ _ (Expr.Compare _ [_] _ _) _); first | refine gt_gt ?_ | refine gt_lt ?_ | refine gt_eq ?_)
  | ((with_reducible show Gt _ _ _ (Expr.Call _ _ _ _) _); refine gt_val ?_)
  | ((with_reducible show Gt _ _ _ (Expr.Name _ _) _); refine gt_val ?_)
  | ((with_reducible show Gb _ _ _ (Expr.BoolOp PySem.BoolOp.Or [_] _) _); refine gb_or1 ?_)
  | ((with_reducible show Gb _ _ _ (Expr.BoolOp PySem.BoolOp.And [_] _) _); refine gb_and1 ?_)
  | ((with_reducible show Gb _ _ _ (Expr.BoolOp PySem.BoolOp.Or _ _) _); refine gb_or ?_)
  | ((with_reducible show Gb _ _ _ (Expr.BoolOp PySem.BoolOp.And _ _) _); refine gb_and ?_)
  | ((with_reducible show RI _ _ _ _ _); refine ⟨_, _, rfl, rfl, trivial, ?_⟩)
  | ((with_reducible show (ite (_ = true) _ _)); first | refine ifT rfl ?_ | refine ifF rfl ?_)
  | ((with_reducible show Exists _); first | refine ⟨_, 0, _, rfl, rfl, rfl, ?_⟩ | refine ⟨_, 1, _, rfl, rfl, rfl, ?_⟩ | refine ⟨_, rfl, ?_⟩)))
abbrev Row := Str × List (Int × Int)
section
variable {P : Program} {w : World} {K : PySem.W.Frag} {mg : Str → Option Value} {base : Heap} {Z : Ad}
theorem beq_int {i j : Int} (h : i = j) : (i == j) = true := beq_iff_eq.mpr h
/-! ### is_row, check_rows -/
def Trow : Pt := fun ds n k => ∃ (r : Row) (m : Nat) (ns : List Str), ds = [rowD r, .int (m : Int), .lst (ns.map .str)] ∧ r.2.length = m ∧ okN r.1 ∧ r.1 ∉ ns ∧ r.2.length ≤ 1000 ∧ (∀ x ∈ r.2, okS x) ∧ k (.bl true) n
theorem sc_isrow : FnScope ["value", "many", "names", "each"] ["value", "many", "names"] (defScope s_isrow) := ⟨rfl, rfl, rfl, by decide +kernel, rfl, by decide +kernel, by decide +kernel⟩
theorem ok_isrow (A : Al K mg Z) : FnOk P w K mg base CX0 5 Z.a_isrow Z.d_isrow ["value", "many", "names"] (spD K Z.C Trow) := by
  refine ok_of A.k_isrow.fn sc_isrow (fun ds n k h => ?_) (fun cdv A' outer s H E pp av ds n kk hr h => ?_)
  · obtain ⟨_, _, _, rfl, _⟩ := h
    rfl
  · obtain ⟨r, m, ns, rfl, hl, hn, hni, hsz, hok, hk⟩ := h
    show Gs _ [some (rowD r), some (.int (m : Int)), some (.lst (ns.map .str)), none] _ _ _ _
    refine gs_cons (g1_unless ?_)
    walk_at "gv"
    refine gw_call (ok_istupleof A) (hr.mono (by decide)) A.k_istupleof.at_ A.k_istupleof.fn.kp A.k_istupleof.bd ?_
    walk_at "gv"
    refine ⟨_, _, rfl, ?_⟩
    walk_at "gv"
    refine gw_call (ok_isname A) (hr.mono (by decide)) A.k_isname.at_ A.k_isname.fn.kp A.k_isname.bd ?_
    walk_at "gv"
    refine ⟨r.1, rfl, hn, ?_⟩
    walk_at "gv"
    refine gt_inStrs ?_
    walk_at "gv"
    refine ⟨r.1, ns, rfl, .inr rfl, decide_eq_false hni, ?_⟩
    refine gs_one (g1_ret ?_)
    walk_at "gv"
    refine gw_call (ok_istupleof A) (hr.mono (by decide)) A.k_istupleof.at_ A.k_istupleof.fn.kp A.k_istupleof.bd ?_
    walk_at "gv"
    refine ⟨_, _, rfl, _, rfl, ifT (by exact beq_int (by rw [List.length_map]; omega)) ?_⟩
    walk_at "gv"
    refine gw_all A.n_all rfl ?_
    walk_at "gv"
    refine gw_lcD (own := [("each", 3)]) [3] (fun _ => .bl true) rfl sc_isrow.nd (blkOk_by (N := ["value", "many", "names", "each"]) (sc := defScope s_isrow) (by decide +kernel)) (by simp) (gi_tup ?_ pi_tup)
    walk_at "gv"
    refine ⟨by rw [List.length_map]; exact hsz, fun s H Cc cl fp D d hd => ⟨by simp, _, gg_name 3 sc_isrow.nd, fun s H Cc cl fp => ?_⟩, ?_⟩
    · obtain ⟨x, hx, rfl⟩ := List.mem_map.mp hd
      refine gw_call (ok_isendstretch A) (hr.mono (by decide)) A.k_isendstretch.at_ A.k_isendstretch.fn.kp A.k_isendstretch.bd ?_
      walk_at "gv"
      exact ⟨x, rfl, hok x hx, rfl, rfl⟩
    · walk_at "gv"
      refine ⟨(r.2.map sd).map fun _ => true, congrArg (fun z => [z]) (lst_true _), ?_⟩
      rw [map_true]
      exact hk
def Trows : Pt := fun ds n k => ∃ (m : Nat) (rs : List Row), ds = [.int (m : Int), .tup (rs.map rowD)] ∧ rs ≠ [] ∧ rs.length ≤ 8 ∧ (rs.map (·.1)).Nodup ∧ (∀ r ∈ rs, okM r.1 ∧ r.2.length = m ∧ ∀ x ∈ r.2, okS x) ∧ m ≤ 4 ∧ k .non n
theorem sc_checkrows : FnScope ["many", "value", "index", "row", "each"] ["many", "value"] (defScope s_checkrows) := ⟨rfl, rfl, rfl, by decide +kernel, rfl, by decide +kernel, by decide +kernel⟩
theorem ok_checkrows (A : Al K mg Z) : FnOk P w K mg base CX0 6 Z.a_checkrows Z.d_checkrows ["many", "value"] (spD K Z.C Trows) := by
  refine ok_of A.k_checkrows.fn sc_checkrows (fun ds n k h => ?_) (fun cdv A' outer s H E pp av ds n kk hr h => ?_)
  · obtain ⟨_, _, rfl, _⟩ := h
    rfl
  · obtain ⟨m, rs, rfl, hne, hlen, hnd, hall, hm4, hk⟩ := h
    obtain ⟨t1, e1⟩ := A.g_rows
    obtain ⟨x0, r0, e0⟩ : ∃ x r, rs = x :: r := by
      cases rs with
      | nil => exact absurd rfl hne
      | cons x r => exact ⟨x, r, rfl⟩
    show Gs _ [some (.int (m : Int)), some (.tup (rs.map rowD)), none, none, none] _ _ _ _
    refine gs_cons (g1_unless ?_)
    walk_at "gv"
    refine gw_isi2 "tuple" A.n_isinstance A.n_tuple (by decide +kernel) ?_
    walk_at "gv"
    refine ⟨"tuple", true, rfl, by decide +kernel, _, rfl, ifF rfl (gb_or1 (gt_eqNo hr.units ?_))⟩
    walk_at "gv"
    refine gw_tup (ga_nil ⟨by decide, ?_⟩)
    refine ⟨rowD x0, r0.map rowD, by rw [e0]; rfl, rfl, ?_, ?_, rfl, ?_⟩
    · have := data_rows (x0 :: r0)
      exact this
    · have := shaped_rows (rs := x0 :: r0) fun r hr => (hall r (by rw [e0]; exact hr)).1.2
      exact this
    refine gs_one (g1_for [2, 3] PassesOwn.never rfl (gi_enum A.n_enumerate ?_))
    walk_at "gv"
    refine ⟨fun i ts1 n1 => (∃ a b, ts1 = [some (.int (m : Int)), some (.tup (rs.map rowD)), a, b, none]) ∧ n1 = n, ⟨⟨none, none, rfl⟩, rfl⟩, fun i d ts1 n1 hd hI => ?_, fun ts1 n1 hI => ?_⟩
    · obtain ⟨⟨a, b, rfl⟩, rfl⟩ := hI
      obtain ⟨y, hy, rfl⟩ := enum_at hd
      obtain ⟨r, hx, rfl⟩ := map_at hy
      have hil : i < rs.length := (List.getElem?_eq_some_iff.mp hx).1
      obtain ⟨hM, hlm, hS⟩ := hall r (List.mem_of_getElem? hx)
      refine ⟨by simp, _, gg_pair rfl (gg_name 2 sc_checkrows.nd) (gg_name 3 sc_checkrows.nd), ?_⟩
      show Gs _ [some (.int (m : Int)), some (.tup (rs.map rowD)), some (.int (i : Int)), some (rowD r), none] _ _ _ _
      refine gs_one (g1_unless ?_)
      walk_at "gv"
      refine gw_gint e1 ?_
      walk_at "gv"
      refine ifF (by exact beq_eq_false_iff_ne.mpr (by omega)) ?_
      walk_at "gv"
      refine gw_call (ok_isrow A) (hr.mono (by decide)) A.k_isrow.at_ A.k_isrow.fn.kp A.k_isrow.bd ?_
      walk_at "gv"
      refine gw_lcD (own := [("each", 4)]) [4] (fun d => match d with | .tup (x :: _) => x | _ => .non) rfl sc_checkrows.nd (blkOk_by (N := ["many", "value", "index", "row", "each"]) (sc := defScope s_checkrows) (by decide +kernel)) (by simp) (gi_tup ?_ pi_tup)
      refine gw_upto ?_
      walk_at "gv"
      refine ⟨_, i, rfl, rfl, _, rfl, ?_⟩
      refine ⟨by rw [List.length_take, List.length_map]; omega, fun s H Cc cl fp D d hd => ⟨by simp, _, gg_name 4 sc_checkrows.nd, fun s H Cc cl fp => ?_⟩, ?_⟩
      · obtain ⟨q, hq, rfl⟩ := List.mem_map.mp (List.mem_of_mem_take hd)
        walk_at "gv"
        exact ⟨rfl, rfl⟩
      · walk_at "gv"
        refine ⟨r, m, (rs.take i).map (·.1), ?_, hlm, hM.1, ?_, by omega, hS, ?_⟩
        · rw [← List.map_take, List.map_map, List.map_map]
          rfl
        · have hx1 : (rs.map (·.1))[i]? = some r.1 := by
            rw [List.getElem?_map, hx]
            rfl
          have := nodup_take hnd hx1
          rw [List.map_take]
          exact this
        · walk_at "gv"
          exact ⟨rfl, ⟨_, _, rfl⟩, rfl⟩
    · obtain ⟨⟨a, b, rfl⟩, rfl⟩ := hI
      exact hk
/-! ### the properties -/
theorem ok_Trows (A : Al K mg Z) : FnOk P w K mg base CX0 1 Z.a_Trows Z.d_Trows ["self"] (getSp Z.C "lines") := by
  obtain ⟨oc, od, kV, doc, pm, an, cdv, ct, osl, e, lk, hcd⟩ := A.k_Trows.ex
  rw [e] at lk ⊢
  exact fn_getter (N := ["self"]) lk hcd ⟨rfl, rfl, rfl, by decide +kernel, rfl, by decide +kernel, by decide +kernel⟩ rfl rfl A.cl A.nL
theorem ok_Tcolumns (A : Al K mg Z) : FnOk P w K mg base CX0 1 Z.a_Tcolumns Z.d_Tcolumns ["self"] (getSp Z.C "heads") := by
  obtain ⟨oc, od, kV, doc, pm, an, cdv, ct, osl, e, lk, hcd⟩ := A.k_Tcolumns.ex
  rw [e] at lk ⊢
  exact fn_getter (N := ["self"]) lk hcd ⟨rfl, rfl, rfl, by decide +kernel, rfl, by decide +kernel, by decide +kernel⟩ rfl rfl A.cl A.nH
/-! ### check_table, check_bounds, is_answer, check_answer -/
def tabD (xs : List Str) (rs : List Row) : Dt := .tab (.tup (xs.map .str)) (.tup (rs.map rowD))
def Ttable : Pt := fun ds n k => ∃ xs rs, ds = [tabD xs rs] ∧ k .non n
theorem sc_checktable : FnScope ["value"] ["value"] (defScope s_checktable) := ⟨rfl, rfl, rfl, by decide +kernel, rfl, by decide +kernel, by decide +kernel⟩
theorem ok_checktable (A : Al K mg Z) : FnOk P w K mg base CX0 1 Z.a_checktable Z.d_checktable ["value"] (spD K Z.C Ttable) := by
  refine ok_of A.k_checktable.fn sc_checktable (fun ds n k h => ?_) (fun cdv A' outer s H E pp av ds n kk hr h => ?_)
  · obtain ⟨_, _, rfl, _⟩ := h
    rfl
  · obtain ⟨xs, rs, rfl, hk⟩ := h
    show Gs _ [some (tabD xs rs)] _ _ _ _
    refine gs_one (g1_unless ?_)
    walk_at "gv"
    refine gw_isiTab A.n_isinstance A.cl A.ic A.ig A.it A.im A.ik ?_
    walk_at "gv"
    refine gw_gcls A.g_tab ?_
    walk_at "gv"
    exact ⟨_, _, rfl, _, rfl, rfl, hk⟩
def Tbounds : Pt := fun ds n k => ∃ (xs : List Str) (rs : List Row) (bs : List (Int × Int)), ds = [tabD xs rs, .tup (bs.map sd)] ∧ bs.length = rs.length ∧ bs.length ≤ 1000 ∧ (∀ b ∈ bs, okS b) ∧ k .non n
theorem sc_checkbounds : FnScope ["table", "value", "each"] ["table", "value"] (defScope s_checkbounds) := ⟨rfl, rfl, rfl, by decide +kernel, rfl, by decide +kernel, by decide +kernel⟩
theorem ok_checkbounds (A : Al K mg Z) : FnOk P w K mg base CX0 4 Z.a_checkbounds Z.d_checkbounds ["table", "value"] (spD K Z.C Tbounds) := by
  refine ok_of A.k_checkbounds.fn sc_checkbounds (fun ds n k h => ?_) (fun cdv A' outer s H E pp av ds n kk hr h => ?_)
  · obtain ⟨_, _, _, rfl, _⟩ := h
    rfl
  · obtain ⟨xs, rs, bs, rfl, hl, hz, hS, hk⟩ := h
    obtain ⟨t1, e1⟩ := A.g_end
    show Gs _ [some (tabD xs rs), some (.tup (bs.map sd)), none] _ _ _ _
    refine gs_cons (g1_unless ?_)
    walk_at "gv"
    refine gw_call (ok_istupleof A) (hr.mono (by decide)) A.k_istupleof.at_ A.k_istupleof.fn.kp A.k_istupleof.bd ?_
    walk_at "gv"
    refine gw_len A.n_len ?_
    walk_at "gv"
    refine gw_rows rfl A.cl A.pR (ok_Trows A) (hr.mono (by decide)) A.b_Trows ?_
    walk_at "gv"
    refine ⟨_, _, rfl, ?_⟩
    walk_at "gv"
    refine ⟨_, _, rfl, .inl ⟨_, rfl, rfl⟩, ?_⟩
    walk_at "gv"
    refine ⟨_, _, rfl, _, rfl, ?_, ?_⟩
    · rw [List.length_map, List.length_map, hl, beq_self_eq_true]
      rfl
    refine gs_one (g1_unless ?_)
    walk_at "gv"
    refine gw_all A.n_all rfl ?_
    walk_at "gv"
    refine gw_lcD (own := [("each", 2)]) [2] (fun _ => .bl true) rfl sc_checkbounds.nd (blkOk_by (N := ["table", "value", "each"]) (sc := defScope s_checkbounds) (by decide +kernel)) (by simp) (gi_tup ?_ pi_tup)
    walk_at "gv"
    refine ⟨by rw [List.length_map]; exact hz, fun s H Cc cl fp D d hd => ⟨by simp, _, gg_name 2 sc_checkbounds.nd, fun s H Cc cl fp => ?_⟩, ?_⟩
    · obtain ⟨x, hx, rfl⟩ := List.mem_map.mp hd
      obtain ⟨h1, h2, h3⟩ := hS x hx
      refine gw_call (ok_isstretch A) (hr.mono (by decide)) A.k_isstretch.at_ A.k_isstretch.fn.kp A.k_isstretch.bd ?_
      walk_at "gv"
      refine gw_gint e1 ?_
      walk_at "gv"
      refine gw_gint e1 ?_
      walk_at "gv"
      exact ⟨x, _, _, rfl, by omega, h2, h3, rfl, rfl⟩
    · walk_at "gv"
      refine ⟨(bs.map sd).map fun _ => true, congrArg (fun z => [z]) (lst_true _), ?_⟩
      rw [map_true]
      exact ⟨_, rfl, rfl, hk⟩
def Tanswer (b : Dt) : Pt := fun ds n k => ∃ (xs : List Str) (rs : List Row) (ans : List Rat), ds = [tabD xs rs, .tup (ans.map fr)] ∧ ans.length = xs.length ∧ ans.length ≤ 1000 ∧ k b n
theorem sc_isanswer : FnScope ["table", "value", "part"] ["table", "value"] (defScope s_isanswer) := ⟨rfl, rfl, rfl, by decide +kernel, rfl, by decide +kernel, by decide +kernel⟩
theorem ok_isanswer (A : Al K mg Z) : FnOk P w K mg base CX0 3 Z.a_isanswer Z.d_isanswer ["table", "value"] (spD K Z.C (Tanswer (.bl true))) := by
  refine ok_of A.k_isanswer.fn sc_isanswer (fun ds n k h => ?_) (fun cdv A' outer s H E pp av ds n kk hr h => ?_)
  · obtain ⟨_, _, _, rfl, _⟩ := h
    rfl
  · obtain ⟨xs, rs, ans, rfl, hl, hz, hk⟩ := h
    show Gs _ [some (tabD xs rs), some (.tup (ans.map fr)), none] _ _ _ _
    refine gs_one (g1_ret ?_)
    walk_at "gv"
    refine gw_call (ok_istupleof A) (hr.mono (by decide)) A.k_istupleof.at_ A.k_istupleof.fn.kp A.k_istupleof.bd ?_
    walk_at "gv"
    refine gw_len A.n_len ?_
    walk_at "gv"
    refine gw_columns rfl A.cl A.pC (ok_Tcolumns A) (hr.mono (by decide)) A.b_Tcolumns ?_
    walk_at "gv"
    refine ⟨_, _, rfl, ?_⟩
    walk_at "gv"
    refine ⟨_, _, rfl, .inl ⟨_, rfl, rfl⟩, ?_⟩
    walk_at "gv"
    refine ⟨_, _, rfl, _, rfl, ifT (by exact beq_int (by rw [List.length_map, List.length_map, hl])) ?_⟩
    walk_at "gv"
    refine gw_all A.n_all rfl ?_
    walk_at "gv"
    refine gw_lcD (own := [("part", 2)]) [2] (fun _ => .bl true) rfl sc_isanswer.nd (blkOk_by (N := ["table", "value", "part"]) (sc := defScope s_isanswer) (by decide +kernel)) (by simp) (gi_tup ?_ pi_tup)
    walk_at "gv"
    refine ⟨by rw [List.length_map]; exact hz, fun s H Cc cl fp D d hd => ⟨by simp, _, gg_name 2 sc_isanswer.nd, fun s H Cc cl fp => ?_⟩, ?_⟩
    · obtain ⟨x, hx, rfl⟩ := List.mem_map.mp hd
      refine gw_call (ok_isfraction A) (hr.mono (by decide)) A.k_isfraction.at_ A.k_isfraction.fn.kp A.k_isfraction.bd ?_
      walk_at "gv"
      exact ⟨x, rfl, rfl, rfl⟩
    · walk_at "gv"
      refine ⟨(ans.map fr).map fun _ => true, congrArg (fun z => [z]) (lst_true _), ?_⟩
      rw [map_true]
      exact hk
theorem sc_checkanswer : FnScope ["table", "value"] ["table", "value"] (defScope s_checkanswer) := ⟨rfl, rfl, rfl, by decide +kernel, rfl, by decide +kernel, by decide +kernel⟩
theorem ok_checkanswer (A : Al K mg Z) : FnOk P w K mg base CX0 4 Z.a_checkanswer Z.d_checkanswer ["table", "value"] (spD K Z.C (Tanswer .non)) := by
  refine ok_of A.k_checkanswer.fn sc_checkanswer (fun ds n k h => ?_) (fun cdv A' outer s H E pp av ds n kk hr h => ?_)
  · obtain ⟨_, _, _, rfl, _⟩ := h
    rfl
  · obtain ⟨xs, rs, ans, rfl, hl, hz, hk⟩ := h
    show Gs _ [some (tabD xs rs), some (.tup (ans.map fr))] _ _ _ _
    refine gs_one (g1_unless ?_)
    walk_at "gv"
    refine gw_call (ok_isanswer A) hr A.k_isanswer.at_ A.k_isanswer.fn.kp A.k_isanswer.bd ?_
    walk_at "gv"
    exact ⟨xs, rs, ans, rfl, hl, hz, _, rfl, rfl, hk⟩
end
end Cs

namespace Cs
open PySem PySem.Spec PyProof.Rows L2
local macro_rules | `(tactic| walk_at "gv") => `(tactic| repeat (first
  | ((with_reducible show Gw _ _ _ (Expr.Name _ _) _); first | refine gw_name 0 ?_ | refine gw_name 1 ?_ | refine gw_name 2 ?_ | refine gw_name 3 ?_ | refine gw_name 4 ?_ | refine gw_name 5 ?_ | refine gw_name 6 ?_ | refine gw_name 7 ?_ | refine gw_name 8 ?_ | refine gw_name 9 ?_ | refine gw_name 10 ?_ | refine gw_name 11 ?_ | refine gw_name 12 ?_)
  | ((with_reducible show Gw _ _ _ (Expr.Constant _ _ _) _); first | refine gw_int ?_ | refine gw_str ?_ | refine gw_bl ?_ | refine gw_non ?_)
  | ((with_reducible show Ga _ _ _ [] _); refine ga_nil ?_)
  | ((with_reducible show Ga _ _ _ (_ :: _) _); refine ga_cons ?_)
  | ((with_reducible show Gw _ _ _ (Expr.BoolOp _ [_] _) _); refine gw_one ?_)
  | ((with_reducible show Gw _ _ _ (Expr.BoolOp _ _ _) _); refine gw_and ?_)
  | ((with_reducible show Gw _ _ _ (Expr.UnaryOp _ _ _) _); refine gw_not ?_)
  | ((with_reducible show Gw _ _ _ (Expr.IfExp _ _ _ _) _); refine gw_if ?_)
  | ((with_reducible show Gw _ _ _ (Expr.Tuple [_, _] _ _) _); refine gw_tup2 ?_)
  | ((with_reducible show Gw _ _ _ (Expr.Subscript _ (Expr.Constant _ _ _) _) _); refine gw_ixT ?_)
  | ((with_reducible show Gw _ _ _ (Expr.BinOp _ _ _ _) _); first | refine gw_add ?_ | refine gw_sub ?_ | refine gw_mul ?_ | refine gw_fdiv ?_ | refine gw_mod ?_)
  | ((with_reducible show Gw _ _ _ (Expr.Compare _ [_] _ _) _); first | refine gw_gt ?_ | refine gw_lt ?_ | refine gw_le ?_ | refine gw_eq ?_)
  | ((with_reducible show Gw _ _ _ (Expr.Compare _ [_, _] _ _) _); refine gw_chain ?_)
  | ((with_reducible show Gt _ _ _ (Expr.BoolOp _ _ _) _); refine gt_bo ?_)
  | ((with_reducible show Gt _ _ _ (Expr.UnaryOp _ _ _) _); refine gt_not ?_)
  | ((with_reducible show Gt _ _ _ (Expr.Compare _ [_] _ _) _); first | refine gt_gt ?_ | refine gt_lt ?_ | refine gt_eq ?_)
  | ((with_reducible show Gt _ _ _ (Expr.Call _ _ _ _) _); refine gt_val ?_)
  | ((with_reducible show Gt _ _ _ (Expr.Name _ _) _); refine gt_val ?_)
  | ((with_reducible show Gb _ _ _ (Expr.BoolOp PySem.BoolOp.Or [_] _) _); refine gb_or1 ?_)
  | ((with_reducible show Gb _ _ _ (Expr.BoolOp PySem.BoolOp.And [_] _) _); refine gb_and1 ?_)
  | ((with_reducible show Gb _ _ _ (Expr.BoolOp PySem.BoolOp.Or _ _) _); refine gb_or ?_)
  | ((with_reducible show Gb _ _ _ (Expr.BoolOp PySem.BoolOp.And _ _) _); refine gb_and ?_)
  | ((with_reducible show RI _ _ _ _ _); refine ⟨_, _, rfl, rfl, trivial, ?_⟩)
  | ((with_reducible show (ite (_ = true) _ _)); first | refine ifT rfl ?_ | refine ifF rfl ?_)
  | ((with_reducible show Exists _); first | refine ⟨_, 0, _, rfl, rfl, rfl, ?_⟩ | refine ⟨_, 1, _, rfl, rfl, rfl, ?_⟩ | refine ⟨_, rfl, ?_⟩)))
def lo1 (s : Int × Int) (p : Rat) : Rat := if p * (s.2 : Rat) < p * (s.1 : Rat) then p * (s.2 : Rat) else p * (s.1 : Rat)
def hi1 (s : Int × Int) (p : Rat) : Rat := if p * (s.2 : Rat) < p * (s.1 : Rat) then p * (s.1 : Rat) else p * (s.2 : Rat)
def loF (zs : List ((Int × Int) × Rat)) : Rat := zs.foldl (fun a z => a + lo1 z.1 z.2) 0
def hiF (zs : List ((Int × Int) × Rat)) : Rat := zs.foldl (fun a z => a + hi1 z.1 z.2) 0
def loR (ss : List (Int × Int)) (ps : List Rat) : Rat := loF (ss.zip ps)
def hiR (ss : List (Int × Int)) (ps : List Rat) : Rat := hiF (ss.zip ps)
theorem den_mk (n : Int) (d : Nat) (h : 0 < d) : (mkRat n d).den ≤ d := by
  rw [Rat.den_mkRat, if_neg (by omega)]
  exact Nat.div_le_self _ _
theorem den_mul_int (p : Rat) (i : Int) : (p * (i : Rat)).den ≤ p.den := by
  rw [Rat.mul_def']
  show (mkRat (p.num * i) (p.den * 1)).den ≤ p.den
  rw [Nat.mul_one]
  exact den_mk _ _ (den_pos p)
theorem den_addL (p q : Rat) : (p + q).den ≤ p.den * q.den := by
  rw [Rat.add_def']
  exact den_mk _ _ (Nat.mul_pos (den_pos p) (den_pos q))
theorem den_lo1 (s : Int × Int) (p : Rat) : (lo1 s p).den ≤ p.den := by
  unfold lo1
  split <;> exact den_mul_int _ _
theorem den_hi1 (s : Int × Int) (p : Rat) : (hi1 s p).den ≤ p.den := by
  unfold hi1
  split <;> exact den_mul_int _ _
theorem loF_snoc (zs : List ((Int × Int) × Rat)) (z : (Int × Int) × Rat) : loF (zs ++ [z]) = loF zs + lo1 z.1 z.2 := by
  unfold loF
  rw [List.foldl_append]
  rfl
theorem hiF_snoc (zs : List ((Int × Int) × Rat)) (z : (Int × Int) × Rat) : hiF (zs ++ [z]) = hiF zs + hi1 z.1 z.2 := by
  unfold hiF
  rw [List.foldl_append]
  rfl
theorem den_step {x a : Rat} {i : Nat} (h : x.den ≤ 3 ^ i) (ha : a.den ≤ 3) : (x + a).den ≤ 3 ^ (i + 1) := by
  have h1 := den_addL x a
  have h2 := Nat.mul_le_mul h ha
  rw [Nat.pow_succ]
  omega
theorem pow_small {i : Nat} (h : i ≤ 4) : 3 ^ i ≤ 81 := by
  have := Nat.pow_le_pow_right (show 0 < 3 by decide) h
  exact this
section
variable {P : Program} {w : World} {K : PySem.W.Frag} {mg : Str → Option Value} {base : Heap} {Z : Ad}
/-! ### ends_with -/
def endsD (ss : List (Int × Int)) (ps : List Rat) : Dt := .tup [fr (loR ss ps), fr (hiR ss ps)]
def okA (ps : List Rat) : Prop := ps.length ≤ 4 ∧ ∀ p ∈ ps, p.den ≤ 3
def Tends : Pt := fun ds n k => ∃ (ss : List (Int × Int)) (ps : List Rat), ds = [.tup (ss.map sd), .tup (ps.map fr)] ∧ ss.length = ps.length ∧ okA ps ∧ (∀ x ∈ ss, okS x) ∧ k (endsD ss ps) n
theorem sc_endswith : FnScope ["stretches", "answer", "least", "most", "low", "high", "part", "one", "other"] ["stretches", "answer"] (defScope s_endswith) := ⟨rfl, rfl, rfl, by decide +kernel, rfl, by decide +kernel, by decide +kernel⟩
theorem ok_endswith (A : Al K mg Z) : FnOk P w K mg base CX0 4 Z.a_endswith Z.d_endswith ["stretches", "answer"] (spD K Z.C Tends) := by
  refine ok_of A.k_endswith.fn sc_endswith (fun ds n k h => ?_) (fun cdv A' outer s H E pp av ds n kk hr h => ?_)
  · obtain ⟨_, _, rfl, _⟩ := h
    rfl
  · obtain ⟨ss, ps, rfl, hl, ⟨h4, hd⟩, hS, hk⟩ := h
    obtain ⟨zo, zi, zm, z1, z2, z3, z4, z5⟩ := A.z_at
    show Gs _ [some (.tup (ss.map sd)), some (.tup (ps.map fr)), none, none, none, none, none, none, none] _ _ _ _
    refine gs_cons (g1_par 2 3 sc_endswith.nd (by decide) rfl ?_)
    walk_at "gv"
    refine gw_gtup (is := [0, 1]) A.g_zero z1 z2 z3 z4 z5 ?_
    walk_at "gv"
    refine gw_gtup (is := [0, 1]) A.g_zero z1 z2 z3 z4 z5 ?_
    walk_at "gv"
    refine ⟨_, _, rfl, ?_⟩
    show Gs _ [some (.tup (ss.map sd)), some (.tup (ps.map fr)), some (fr (loF [])), some (fr (hiF [])), none, none, none, none, none] _ _ _ _
    refine gs_cons (g1_for [4, 5, 6] PassesOwn.never rfl (gi_zip A.n_zip ?_))
    walk_at "gv"
    refine ⟨_, _, rfl, by rw [List.length_map, List.length_map, hl], ?_⟩
    refine ⟨fun i ts1 n1 => (∃ a b c d e, ts1 = [some (.tup (ss.map sd)), some (.tup (ps.map fr)), some (fr (loF ((ss.zip ps).take i))), some (fr (hiF ((ss.zip ps).take i))), a, b, c, d, e]) ∧ (loF ((ss.zip ps).take i)).den ≤ 3 ^ i ∧ (hiF ((ss.zip ps).take i)).den ≤ 3 ^ i ∧ n1 = n, ⟨⟨none, none, none, none, none, rfl⟩, by rw [List.take_zero]; decide, by rw [List.take_zero]; decide, rfl⟩, fun i d ts1 n1 hdi hI => ?_, fun ts1 n1 hI => ?_⟩
    · obtain ⟨⟨xa, xb, xc, xd, xe, rfl⟩, dl, dh, rfl⟩ := hI
      have hz : ∃ x p, (ss.zip ps)[i]? = some (x, p) ∧ x ∈ ss ∧ p ∈ ps ∧ d = .tup [sd x, fr p] := by
        obtain ⟨u, v, hu, hv, e⟩ := List.getElem?_zipWith_eq_some.mp hdi
        obtain ⟨x, hx, rfl⟩ := map_at hu
        obtain ⟨p, hp, rfl⟩ := map_at hv
        exact ⟨x, p, List.getElem?_zip_eq_some.mpr ⟨hx, hp⟩, List.mem_of_getElem? hx, List.mem_of_getElem? hp, e.symm⟩
      obtain ⟨x, p, hxp, hxm, hpm, rfl⟩ := hz
      have hil : i < 4 := by
        have h1 := (List.getElem?_eq_some_iff.mp hxp).1
        rw [List.length_zip] at h1
        omega
      have dp := hd p hpm
      obtain ⟨s1, s2, s3⟩ := hS x hxm
      have p81 := pow_small (Nat.le_of_lt hil)
      have d1 := den_mul_int p x.1
      have d2 := den_mul_int p x.2
      have et : (ss.zip ps).take (i + 1) = (ss.zip ps).take i ++ [(x, p)] := by
        rw [List.take_add_one, hxp]
        rfl
      refine ⟨by simp, _, gg_pair rfl (gg_pair rfl (gg_name 4 sc_endswith.nd) (gg_name 5 sc_endswith.nd)) (gg_name 6 sc_endswith.nd), ?_⟩
      show Gs _ [some (.tup (ss.map sd)), some (.tup (ps.map fr)), some (fr (loF ((ss.zip ps).take i))), some (fr (hiF ((ss.zip ps).take i))), some (.int x.1), some (.int x.2), some (fr p), xd, xe] _ _ _ _
      refine gs_cons (g1_par 7 8 sc_endswith.nd (by decide) rfl (ga_cons ?_))
      refine gw_call (ok_times A) (hr.mono (by decide)) A.k_times.at_ A.k_times.fn.kp A.k_times.bd ?_
      walk_at "gv"
      refine ⟨p, x.1, rfl, by omega, by omega, ga_cons ?_⟩
      refine gw_call (ok_times A) (hr.mono (by decide)) A.k_times.at_ A.k_times.fn.kp A.k_times.bd ?_
      walk_at "gv"
      refine ⟨p, x.2, rfl, by omega, by omega, ?_⟩
      walk_at "gv"
      refine ⟨_, _, rfl, ?_⟩
      show Gs _ [some (.tup (ss.map sd)), some (.tup (ps.map fr)), some (fr (loF ((ss.zip ps).take i))), some (fr (hiF ((ss.zip ps).take i))), some (.int x.1), some (.int x.2), some (fr p), some (fr (p * (x.1 : Rat))), some (fr (p * (x.2 : Rat)))] _ _ _ _
      by_cases hlt : p * (x.2 : Rat) < p * (x.1 : Rat)
      · have el : lo1 x p = p * (x.2 : Rat) := if_pos hlt
        have eh : hi1 x p = p * (x.1 : Rat) := if_pos hlt
        refine gs_cons (g1_set 2 sc_endswith.nd ?_)
        refine gw_call (ok_plus A) (hr.mono (by decide)) A.k_plus.at_ A.k_plus.fn.kp A.k_plus.bd ?_
        walk_at "gv"
        refine gw_call (ok_isabove A) (hr.mono (by decide)) A.k_isabove.at_ A.k_isabove.fn.kp A.k_isabove.bd ?_
        walk_at "gv"
        refine ⟨_, _, rfl, by omega, by omega, _, rfl, ifT (by exact decide_eq_true hlt) ?_⟩
        walk_at "gv"
        refine ⟨_, _, rfl, by omega, by omega, ?_⟩
        refine gs_one (g1_set 3 sc_endswith.nd ?_)
        refine gw_call (ok_plus A) (hr.mono (by decide)) A.k_plus.at_ A.k_plus.fn.kp A.k_plus.bd ?_
        walk_at "gv"
        refine gw_call (ok_isabove A) (hr.mono (by decide)) A.k_isabove.at_ A.k_isabove.fn.kp A.k_isabove.bd ?_
        walk_at "gv"
        refine ⟨_, _, rfl, by omega, by omega, _, rfl, ifT (by exact decide_eq_true hlt) ?_⟩
        walk_at "gv"
        refine ⟨_, _, rfl, by omega, by omega, ?_⟩
        refine ⟨⟨some (.int x.1), some (.int x.2), some (fr p), some (fr (p * (x.1 : Rat))), some (fr (p * (x.2 : Rat))), ?_⟩, ?_, ?_, rfl⟩
        · rw [et, loF_snoc, hiF_snoc, el, eh]
          rfl
        · rw [et, loF_snoc]
          exact den_step dl (Nat.le_trans (den_lo1 x p) dp)
        · rw [et, hiF_snoc]
          exact den_step dh (Nat.le_trans (den_hi1 x p) dp)
      · have el : lo1 x p = p * (x.1 : Rat) := if_neg hlt
        have eh : hi1 x p = p * (x.2 : Rat) := if_neg hlt
        refine gs_cons (g1_set 2 sc_endswith.nd ?_)
        refine gw_call (ok_plus A) (hr.mono (by decide)) A.k_plus.at_ A.k_plus.fn.kp A.k_plus.bd ?_
        walk_at "gv"
        refine gw_call (ok_isabove A) (hr.mono (by decide)) A.k_isabove.at_ A.k_isabove.fn.kp A.k_isabove.bd ?_
        walk_at "gv"
        refine ⟨_, _, rfl, by omega, by omega, _, rfl, ifF (by exact decide_eq_false hlt) ?_⟩
        walk_at "gv"
        refine ⟨_, _, rfl, by omega, by omega, ?_⟩
        refine gs_one (g1_set 3 sc_endswith.nd ?_)
        refine gw_call (ok_plus A) (hr.mono (by decide)) A.k_plus.at_ A.k_plus.fn.kp A.k_plus.bd ?_
        walk_at "gv"
        refine gw_call (ok_isabove A) (hr.mono (by decide)) A.k_isabove.at_ A.k_isabove.fn.kp A.k_isabove.bd ?_
        walk_at "gv"
        refine ⟨_, _, rfl, by omega, by omega, _, rfl, ifF (by exact decide_eq_false hlt) ?_⟩
        walk_at "gv"
        refine ⟨_, _, rfl, by omega, by omega, ?_⟩
        refine ⟨⟨some (.int x.1), some (.int x.2), some (fr p), some (fr (p * (x.1 : Rat))), some (fr (p * (x.2 : Rat))), ?_⟩, ?_, ?_, rfl⟩
        · rw [et, loF_snoc, hiF_snoc, el, eh]
          rfl
        · rw [et, loF_snoc]
          exact den_step dl (Nat.le_trans (den_lo1 x p) dp)
        · rw [et, hiF_snoc]
          exact den_step dh (Nat.le_trans (den_hi1 x p) dp)
    · obtain ⟨⟨xa, xb, xc, xd, xe, rfl⟩, dl, dh, rfl⟩ := hI
      have e : (ss.zip ps).take (List.zipWith (fun x y => Dt.tup [x, y]) (ss.map sd) (ps.map fr)).length = ss.zip ps := List.take_of_length_le (by simp)
      rw [e]
      refine gs_one (g1_ret ?_)
      walk_at "gv"
      exact hk
/-! ### all_row_ends, is_sure_for, is_possible_for -/
def okR (xs : List Str) (rs : List Row) : Prop := xs.length ≤ 4 ∧ rs.length ≤ 8 ∧ ∀ r ∈ rs, r.2.length = xs.length ∧ ∀ x ∈ r.2, okS x
def allD (rs : List Row) (ps : List Rat) : Dt := .tup (rs.map fun r => endsD r.2 ps)
def Tall : Pt := fun ds n k => ∃ (xs : List Str) (rs : List Row) (ps : List Rat), ds = [tabD xs rs, .tup (ps.map fr)] ∧ okR xs rs ∧ ps.length = xs.length ∧ okA ps ∧ k (allD rs ps) n
theorem sc_allrowends : FnScope ["table", "answer", "name", "stretches"] ["table", "answer"] (defScope s_allrowends) := ⟨rfl, rfl, rfl, by decide +kernel, rfl, by decide +kernel, by decide +kernel⟩
/-- what a row's form holds -/
def rowOf : Dt → List Rat → Dt
  | .tup [_, .tup ss], ps => endsD (ss.map fun d => match d with | .tup [.int a, .int b] => (a, b) | _ => (0, 0)) ps
  | _, _ => .non
theorem rowOf_row (r : Row) (ps : List Rat) : rowOf (rowD r) ps = endsD r.2 ps := by
  show endsD ((r.2.map sd).map fun d => match d with | .tup [.int a, .int b] => (a, b) | _ => (0, 0)) ps = endsD r.2 ps
  rw [List.map_map]
  congr 1
  exact List.map_id' r.2
theorem ok_allrowends (A : Al K mg Z) : FnOk P w K mg base CX0 5 Z.a_allrowends Z.d_allrowends ["table", "answer"] (spD K Z.C Tall) := by
  refine ok_of A.k_allrowends.fn sc_allrowends (fun ds n k h => ?_) (fun cdv A' outer s H E pp av ds n kk hr h => ?_)
  · obtain ⟨_, _, _, rfl, _⟩ := h
    rfl
  · obtain ⟨xs, rs, ps, rfl, ⟨hx, h8, hR⟩, hl, hA, hk⟩ := h
    show Gs _ [some (tabD xs rs), some (.tup (ps.map fr)), none, none] _ _ _ _
    refine gs_one (g1_ret ?_)
    refine gw_tuple A.n_tuple ?_
    walk_at "gv"
    refine gw_lcD (own := [("name", 2), ("stretches", 3)]) [2, 3] (fun d => rowOf d ps) rfl sc_allrowends.nd (blkOk_by (N := ["table", "answer", "name", "stretches"]) (sc := defScope s_allrowends) (by decide +kernel)) (by simp) (gi_tup ?_ pi_tup)
    refine gw_rows rfl A.cl A.pR (ok_Trows A) (hr.mono (by decide)) A.b_Trows ?_
    walk_at "gv"
    refine ⟨_, _, rfl, _, rfl, by rw [List.length_map]; omega, fun s H Cc cl fp D d hd => ?_, ?_⟩
    · obtain ⟨r, hr1, rfl⟩ := List.mem_map.mp hd
      refine ⟨by simp, _, gg_pair rfl (gg_name 2 sc_allrowends.nd) (gg_name 3 sc_allrowends.nd), fun s H Cc cl fp => ?_⟩
      refine gw_call (ok_endswith A) (hr.mono (by decide)) A.k_endswith.at_ A.k_endswith.fn.kp A.k_endswith.bd ?_
      walk_at "gv"
      refine ⟨r.2, ps, rfl, by rw [(hR r hr1).1, hl], hA, (hR r hr1).2, ?_, rfl⟩
      rw [rowOf_row]
    · walk_at "gv"
      have e : (rs.map rowD).map (fun d => rowOf d ps) = rs.map fun r => endsD r.2 ps := by
        rw [List.map_map]
        exact List.map_congr_left fun r _ => rowOf_row r ps
      rw [e]
      exact hk
end
end Cs

namespace Cs
open PySem PySem.Spec PyProof.Rows L2
local macro_rules | `(tactic| walk_at "gv") => `(tactic| repeat (first
  | ((with_reducible show Gw _ _ _ (Expr.Name _ _) _); first | refine gw_name 0 ?_ | refine gw_name 1 ?_ | refine gw_name 2 ?_ | refine gw_name 3 ?_ | refine gw_name 4 ?_ | refine gw_name 5 ?_ | refine gw_name 6 ?_ | refine gw_name 7 ?_ | refine gw_name 8 ?_ | refine gw_name 9 ?_ | refine gw_name 10 ?_ | refine gw_name 11 ?_ | refine gw_name 12 ?_)
  | ((with_reducible show Gw _ _ _ (Expr.Constant _ _ _) _); first | refine gw_int ?_ | refine gw_str ?_ | refine gw_bl ?_ | refine gw_non ?_)
  | ((with_reducible show Ga _ _ _ [] _); refine ga_nil ?_)
  | ((with_reducible show Ga _ _ _ (_ :: _) _); refine ga_cons ?_)
  | ((with_reducible show Gw _ _ _ (Expr.BoolOp _ [_] _) _); refine gw_one ?_)
  | ((with_reducible show Gw _ _ _ (Expr.BoolOp _ _ _) _); refine gw_and ?_)
  | ((with_reducible show Gw _ _ _ (Expr.UnaryOp _ _ _) _); refine gw_not ?_)
  | ((with_reducible show Gw _ _ _ (Expr.IfExp _ _ _ _) _); refine gw_if ?_)
  | ((with_reducible show Gw _ _ _ (Expr.Tuple [_, _] _ _) _); refine gw_tup2 ?_)
  | ((with_reducible show Gw _ _ _ (Expr.Subscript _ (Expr.Constant _ _ _) _) _); refine gw_ixT ?_)
  | ((with_reducible show Gw _ _ _ (Expr.BinOp _ _ _ _) _); first | refine gw_add ?_ | refine gw_sub ?_ | refine gw_mul ?_ | refine gw_fdiv ?_ | refine gw_mod ?_)
  | ((with_reducible show Gw _ _ _ (Expr.Compare _ [_] _ _) _); first | refine gw_gt ?_ | refine gw_lt ?_ | refine gw_le ?_ | refine gw_eq ?_)
  | ((with_reducible show Gw _ _ _ (Expr.Compare _ [_, _] _ _) _); refine gw_chain ?_)
  | ((with_reducible show Gt _ _ _ (Expr.BoolOp _ _ _) _); refine gt_bo ?_)
  | ((with_reducible show Gt _ _ _ (Expr.UnaryOp _ _ _) _); refine gt_not ?_)
  | ((with_reducible show Gt _ _ _ (Expr.Compare _ [_] _ _) _); first | refine gt_gt ?_ | refine gt_lt ?_ | refine gt_eq ?_)
  | ((with_reducible show Gt _ _ _ (Expr.Call _ _ _ _) _); refine gt_val ?_)
  | ((with_reducible show Gt _ _ _ (Expr.Name _ _) _); refine gt_val ?_)
  | ((with_reducible show Gb _ _ _ (Expr.BoolOp PySem.BoolOp.Or [_] _) _); refine gb_or1 ?_)
  | ((with_reducible show Gb _ _ _ (Expr.BoolOp PySem.BoolOp.And [_] _) _); refine gb_and1 ?_)
  | ((with_reducible show Gb _ _ _ (Expr.BoolOp PySem.BoolOp.Or _ _) _); refine gb_or ?_)
  | ((with_reducible show Gb _ _ _ (Expr.BoolOp PySem.BoolOp.And _ _) _); refine gb_and ?_)
  | ((with_reducible show RI _ _ _ _ _); refine ⟨_, _, rfl, rfl, trivial, ?_⟩)
  | ((with_reducible show (ite (_ = true) _ _)); first | refine ifT rfl ?_ | refine ifF rfl ?_)
  | ((with_reducible show Exists _); first | refine ⟨_, 0, _, rfl, rfl, rfl, ?_⟩ | refine ⟨_, 1, _, rfl, rfl, rfl, ?_⟩ | refine ⟨_, rfl, ?_⟩)))
def sureB (rs : List Row) (bs : List (Int × Int)) (ps : List Rat) : Bool := !((rs.zip bs).map fun z => decide (((z.2.1 : Int) : Rat) < hiR z.1.2 ps)).any id
def possB (rs : List Row) (bs : List (Int × Int)) (ps : List Rat) : Bool := !((rs.zip bs).map fun z => decide (((z.2.2 : Int) : Rat) < loR z.1.2 ps)).any id
theorem pow_fold : ∀ (zs : List ((Int × Int) × Rat)), (∀ z ∈ zs, z.2.den ≤ 3) → ∀ i, i ≤ zs.length → (loF (zs.take i)).den ≤ 3 ^ i ∧ (hiF (zs.take i)).den ≤ 3 ^ i
  | zs, h, 0, _ => by
    rw [List.take_zero]
    decide
  | zs, h, i + 1, hi => by
    obtain ⟨h1, h2⟩ := pow_fold zs h i (by omega)
    have e : zs.take (i + 1) = zs.take i ++ [zs[i]] := by rw [List.take_add_one, List.getElem?_eq_getElem (by omega)]; rfl
    have hz := h zs[i] (List.getElem_mem _)
    rw [e, loF_snoc, hiF_snoc]
    exact ⟨den_step h1 (Nat.le_trans (den_lo1 _ _) hz), den_step h2 (Nat.le_trans (den_hi1 _ _) hz)⟩
theorem den_R {ss : List (Int × Int)} {ps : List Rat} (h : okA ps) : (loR ss ps).den ≤ 81 ∧ (hiR ss ps).den ≤ 81 := by
  have hz : ∀ z ∈ ss.zip ps, z.2.den ≤ 3 := fun z hm => h.2 _ (List.of_mem_zip (a := z.1) (b := z.2) hm).2
  obtain ⟨h1, h2⟩ := pow_fold (ss.zip ps) hz _ (Nat.le_refl _)
  rw [List.take_length] at h1 h2
  have h4 : (ss.zip ps).length ≤ 4 := by
    rw [List.length_zip]
    have := h.1
    omega
  have := pow_small h4
  exact ⟨Nat.le_trans h1 this, Nat.le_trans h2 this⟩
section
variable {P : Program} {w : World} {K : PySem.W.Frag} {mg : Str → Option Value} {base : Heap} {Z : Ad}
def Tjudge (B : List Row → List (Int × Int) → List Rat → Bool) : Pt := fun ds n k => ∃ (xs : List Str) (rs : List Row) (bs : List (Int × Int)) (ps : List Rat), ds = [tabD xs rs, .tup (bs.map sd), .tup (ps.map fr)] ∧ okR xs rs ∧ bs.length = rs.length ∧ (∀ b ∈ bs, okS b) ∧ ps.length = xs.length ∧ okA ps ∧ k (.bl (B rs bs ps)) n
/-- what a pair of ends and bounds comes to -/
def jud (hi : Bool) : Dt → Dt
  | .tup [.tup [.tup [.int a, .int b], .tup [.int c, .int d]], .tup [.int l, .int h]] => if hi then .bl (decide (l * d < c)) else .bl (decide (h * b < a))
  | _ => .non
theorem lt_int (i : Int) (r : Rat) : decide ((i : Rat) < r) = decide (i * (r.den : Int) < r.num) := by
  rw [decide_eq_decide, Rat.lt_iff]
  show i * (r.den : Int) < r.num * ((1 : Nat) : Int) ↔ _
  rw [show ((1 : Nat) : Int) = 1 from rfl, Int.mul_one]
theorem jud_hi (r : Row) (b : Int × Int) (ps : List Rat) : jud true (.tup [endsD r.2 ps, sd b]) = .bl (decide (((b.1 : Int) : Rat) < hiR r.2 ps)) := by
  rw [lt_int]
  rfl
theorem jud_lo (r : Row) (b : Int × Int) (ps : List Rat) : jud false (.tup [endsD r.2 ps, sd b]) = .bl (decide (((b.2 : Int) : Rat) < loR r.2 ps)) := by
  rw [lt_int]
  rfl
theorem zip_map2 {α β : Type} (f : α → Dt) (g : β → Dt) (J : Dt → Dt) (h : α → β → Bool) (hj : ∀ a b, J (.tup [f a, g b]) = .bl (h a b)) : ∀ (xs : List α) (ys : List β), (List.zipWith (fun x y => Dt.tup [x, y]) (xs.map f) (ys.map g)).map J = ((xs.zip ys).map fun z => h z.1 z.2).map .bl
  | [], _ => by rfl
  | _ :: _, [] => by rfl
  | x :: xs, y :: ys => by
    show J (.tup [f x, g y]) :: (List.zipWith (fun x y => Dt.tup [x, y]) (xs.map f) (ys.map g)).map J = _
    rw [hj, zip_map2 f g J h hj xs ys]
    rfl
theorem zip_in {rs : List Row} {bs : List (Int × Int)} {ps : List Rat} {d : Dt} (h : d ∈ List.zipWith (fun x y => Dt.tup [x, y]) (rs.map fun r => endsD r.2 ps) (bs.map sd)) : ∃ r b, r ∈ rs ∧ b ∈ bs ∧ d = .tup [endsD r.2 ps, sd b] := by
  obtain ⟨i, hi⟩ := List.mem_iff_getElem?.mp h
  obtain ⟨u, v, hu, hv, e⟩ := List.getElem?_zipWith_eq_some.mp hi
  obtain ⟨x, hx, rfl⟩ := map_at hu
  obtain ⟨p, hp, rfl⟩ := map_at hv
  exact ⟨x, p, List.mem_of_getElem? hx, List.mem_of_getElem? hp, e.symm⟩
theorem sc_issurefor : FnScope ["table", "bounds", "answer", "ends", "least", "most", "low", "high"] ["table", "bounds", "answer"] (defScope s_issurefor) := ⟨rfl, rfl, rfl, by decide +kernel, rfl, by decide +kernel, by decide +kernel⟩
theorem ok_issurefor (A : Al K mg Z) : FnOk P w K mg base CX0 6 Z.a_issurefor Z.d_issurefor ["table", "bounds", "answer"] (spD K Z.C (Tjudge sureB)) := by
  refine ok_of A.k_issurefor.fn sc_issurefor (fun ds n k h => ?_) (fun cdv A' outer s H E pp av ds n kk hr h => ?_)
  · obtain ⟨_, _, _, _, rfl, _⟩ := h
    rfl
  · obtain ⟨xs, rs, bs, ps, rfl, hR, hbl, hbs, hl, hA, hk⟩ := h
    show Gs _ [some (tabD xs rs), some (.tup (bs.map sd)), some (.tup (ps.map fr)), none, none, none, none, none] _ _ _ _
    refine gs_cons (g1_set 3 sc_issurefor.nd ?_)
    refine gw_call (ok_allrowends A) (hr.mono (by decide)) A.k_allrowends.at_ A.k_allrowends.fn.kp A.k_allrowends.bd ?_
    walk_at "gv"
    refine ⟨xs, rs, ps, rfl, hR, hl, hA, ?_⟩
    show Gs _ [some (tabD xs rs), some (.tup (bs.map sd)), some (.tup (ps.map fr)), some (allD rs ps), none, none, none, none] _ _ _ _
    refine gs_one (g1_ret ?_)
    walk_at "gv"
    refine gw_any A.n_any rfl ?_
    walk_at "gv"
    refine gw_lcD (own := [("least", 4), ("most", 5), ("low", 6), ("high", 7)]) [4, 5, 6, 7] (jud true) rfl sc_issurefor.nd (blkOk_by (N := ["table", "bounds", "answer", "ends", "least", "most", "low", "high"]) (sc := defScope s_issurefor) (by decide +kernel)) (by simp) (gi_zip A.n_zip ?_)
    walk_at "gv"
    refine ⟨_, _, rfl, by rw [List.length_map, List.length_map, hbl], by rw [List.length_zipWith, List.length_map]; have := hR.2.1; omega, fun s H Cc cl fp D d hd => ?_, ?_⟩
    · obtain ⟨r, b, hrm, hbm, rfl⟩ := zip_in hd
      obtain ⟨d1, d2⟩ := den_R (ss := r.2) hA
      refine ⟨by simp, _, gg_pair rfl (gg_pair rfl (gg_name 4 sc_issurefor.nd) (gg_name 5 sc_issurefor.nd)) (gg_pair rfl (gg_name 6 sc_issurefor.nd) (gg_name 7 sc_issurefor.nd)), fun s H Cc cl fp => ?_⟩
      refine gw_call (ok_isabove A) (hr.mono (by decide)) A.k_isabove.at_ A.k_isabove.fn.kp A.k_isabove.bd ?_
      walk_at "gv"
      refine ⟨hiR r.2 ps, ((b.1 : Int) : Rat), rfl, by omega, by rw [Rat.den_intCast]; decide, ?_, rfl⟩
      rw [jud_hi]
    · walk_at "gv"
      refine ⟨_, congrArg (fun z => [Dt.lst z]) (zip_map2 (fun r : Row => endsD r.2 ps) sd (jud true) (fun r b => decide (((b.1 : Int) : Rat) < hiR r.2 ps)) (fun r b => jud_hi r b ps) rs bs), ?_⟩
      walk_at "gv"
      exact hk
theorem sc_ispossiblefor : FnScope ["table", "bounds", "answer", "ends", "least", "most", "low", "high"] ["table", "bounds", "answer"] (defScope s_ispossiblefor) := ⟨rfl, rfl, rfl, by decide +kernel, rfl, by decide +kernel, by decide +kernel⟩
theorem ok_ispossiblefor (A : Al K mg Z) : FnOk P w K mg base CX0 6 Z.a_ispossiblefor Z.d_ispossiblefor ["table", "bounds", "answer"] (spD K Z.C (Tjudge possB)) := by
  refine ok_of A.k_ispossiblefor.fn sc_ispossiblefor (fun ds n k h => ?_) (fun cdv A' outer s H E pp av ds n kk hr h => ?_)
  · obtain ⟨_, _, _, _, rfl, _⟩ := h
    rfl
  · obtain ⟨xs, rs, bs, ps, rfl, hR, hbl, hbs, hl, hA, hk⟩ := h
    show Gs _ [some (tabD xs rs), some (.tup (bs.map sd)), some (.tup (ps.map fr)), none, none, none, none, none] _ _ _ _
    refine gs_cons (g1_set 3 sc_ispossiblefor.nd ?_)
    refine gw_call (ok_allrowends A) (hr.mono (by decide)) A.k_allrowends.at_ A.k_allrowends.fn.kp A.k_allrowends.bd ?_
    walk_at "gv"
    refine ⟨xs, rs, ps, rfl, hR, hl, hA, ?_⟩
    show Gs _ [some (tabD xs rs), some (.tup (bs.map sd)), some (.tup (ps.map fr)), some (allD rs ps), none, none, none, none] _ _ _ _
    refine gs_one (g1_ret ?_)
    walk_at "gv"
    refine gw_any A.n_any rfl ?_
    walk_at "gv"
    refine gw_lcD (own := [("least", 4), ("most", 5), ("low", 6), ("high", 7)]) [4, 5, 6, 7] (jud false) rfl sc_ispossiblefor.nd (blkOk_by (N := ["table", "bounds", "answer", "ends", "least", "most", "low", "high"]) (sc := defScope s_ispossiblefor) (by decide +kernel)) (by simp) (gi_zip A.n_zip ?_)
    walk_at "gv"
    refine ⟨_, _, rfl, by rw [List.length_map, List.length_map, hbl], by rw [List.length_zipWith, List.length_map]; have := hR.2.1; omega, fun s H Cc cl fp D d hd => ?_, ?_⟩
    · obtain ⟨r, b, hrm, hbm, rfl⟩ := zip_in hd
      obtain ⟨d1, d2⟩ := den_R (ss := r.2) hA
      refine ⟨by simp, _, gg_pair rfl (gg_pair rfl (gg_name 4 sc_ispossiblefor.nd) (gg_name 5 sc_ispossiblefor.nd)) (gg_pair rfl (gg_name 6 sc_ispossiblefor.nd) (gg_name 7 sc_ispossiblefor.nd)), fun s H Cc cl fp => ?_⟩
      refine gw_call (ok_isabove A) (hr.mono (by decide)) A.k_isabove.at_ A.k_isabove.fn.kp A.k_isabove.bd ?_
      walk_at "gv"
      refine ⟨loR r.2 ps, ((b.2 : Int) : Rat), rfl, by omega, by rw [Rat.den_intCast]; decide, ?_, rfl⟩
      rw [jud_lo]
    · walk_at "gv"
      refine ⟨_, congrArg (fun z => [Dt.lst z]) (zip_map2 (fun r : Row => endsD r.2 ps) sd (jud false) (fun r b => decide (((b.2 : Int) : Rat) < loR r.2 ps)) (fun r b => jud_lo r b ps) rs bs), ?_⟩
      walk_at "gv"
      exact hk
/-! ### the interface -/
theorem sc_checkquestion : FnScope ["table", "bounds"] ["table", "bounds"] (defScope s_checkquestion) := ⟨rfl, rfl, rfl, by decide +kernel, rfl, by decide +kernel, by decide +kernel⟩
theorem ok_checkquestion (A : Al K mg Z) : FnOk P w K mg base CX0 5 Z.a_checkquestion Z.d_checkquestion ["table", "bounds"] (spD K Z.C Tbounds) := by
  refine ok_of A.k_checkquestion.fn sc_checkquestion (fun ds n k h => ?_) (fun cdv A' outer s H E pp av ds n kk hr h => ?_)
  · obtain ⟨_, _, _, rfl, _⟩ := h
    rfl
  · obtain ⟨xs, rs, bs, rfl, hl, hz, hS, hk⟩ := h
    show Gs _ [some (tabD xs rs), some (.tup (bs.map sd))] _ _ _ _
    refine gs_cons (g1_expr ?_)
    refine gw_call (ok_checktable A) (hr.mono (by decide)) A.k_checktable.at_ A.k_checktable.fn.kp A.k_checktable.bd ?_
    walk_at "gv"
    refine ⟨xs, rs, rfl, gs_one (g1_expr ?_)⟩
    refine gw_call (ok_checkbounds A) (hr.mono (by decide)) A.k_checkbounds.at_ A.k_checkbounds.fn.kp A.k_checkbounds.bd ?_
    walk_at "gv"
    exact ⟨xs, rs, bs, rfl, hl, hz, hS, hk⟩
theorem sc_rowends : FnScope ["table", "answer"] ["table", "answer"] (defScope s_rowends) := ⟨rfl, rfl, rfl, by decide +kernel, rfl, by decide +kernel, by decide +kernel⟩
theorem ok_rowends (A : Al K mg Z) : FnOk P w K mg base CX0 6 Z.a_rowends Z.d_rowends ["table", "answer"] (spD K Z.C Tall) := by
  refine ok_of A.k_rowends.fn sc_rowends (fun ds n k h => ?_) (fun cdv A' outer s H E pp av ds n kk hr h => ?_)
  · obtain ⟨_, _, _, rfl, _⟩ := h
    rfl
  · obtain ⟨xs, rs, ps, rfl, hR, hl, hA, hk⟩ := h
    show Gs _ [some (tabD xs rs), some (.tup (ps.map fr))] _ _ _ _
    refine gs_cons (g1_expr ?_)
    refine gw_call (ok_checktable A) (hr.mono (by decide)) A.k_checktable.at_ A.k_checktable.fn.kp A.k_checktable.bd ?_
    walk_at "gv"
    refine ⟨xs, rs, rfl, gs_cons (g1_expr ?_)⟩
    refine gw_call (ok_checkanswer A) (hr.mono (by decide)) A.k_checkanswer.at_ A.k_checkanswer.fn.kp A.k_checkanswer.bd ?_
    walk_at "gv"
    refine ⟨xs, rs, ps, rfl, hl, by have := hA.1; omega, gs_one (g1_ret ?_)⟩
    refine gw_call (ok_allrowends A) (hr.mono (by decide)) A.k_allrowends.at_ A.k_allrowends.fn.kp A.k_allrowends.bd ?_
    walk_at "gv"
    exact ⟨xs, rs, ps, rfl, hR, hl, hA, hk⟩
theorem sc_issureanswer : FnScope ["table", "bounds", "answer"] ["table", "bounds", "answer"] (defScope s_issureanswer) := ⟨rfl, rfl, rfl, by decide +kernel, rfl, by decide +kernel, by decide +kernel⟩
theorem ok_issureanswer (A : Al K mg Z) : FnOk P w K mg base CX0 7 Z.a_issureanswer Z.d_issureanswer ["table", "bounds", "answer"] (spD K Z.C (Tjudge sureB)) := by
  refine ok_of A.k_issureanswer.fn sc_issureanswer (fun ds n k h => ?_) (fun cdv A' outer s H E pp av ds n kk hr h => ?_)
  · obtain ⟨_, _, _, _, rfl, _⟩ := h
    rfl
  · obtain ⟨xs, rs, bs, ps, rfl, hR, hbl, hbs, hl, hA, hk⟩ := h
    show Gs _ [some (tabD xs rs), some (.tup (bs.map sd)), some (.tup (ps.map fr))] _ _ _ _
    refine gs_cons (g1_expr ?_)
    refine gw_call (ok_checkquestion A) (hr.mono (by decide)) A.k_checkquestion.at_ A.k_checkquestion.fn.kp A.k_checkquestion.bd ?_
    walk_at "gv"
    refine ⟨xs, rs, bs, rfl, hbl, by have := hR.2.1; omega, hbs, gs_cons (g1_expr ?_)⟩
    refine gw_call (ok_checkanswer A) (hr.mono (by decide)) A.k_checkanswer.at_ A.k_checkanswer.fn.kp A.k_checkanswer.bd ?_
    walk_at "gv"
    refine ⟨xs, rs, ps, rfl, hl, by have := hA.1; omega, gs_one (g1_ret ?_)⟩
    refine gw_call (ok_issurefor A) (hr.mono (by decide)) A.k_issurefor.at_ A.k_issurefor.fn.kp A.k_issurefor.bd ?_
    walk_at "gv"
    exact ⟨xs, rs, bs, ps, rfl, hR, hbl, hbs, hl, hA, hk⟩
theorem sc_ispossibleanswer : FnScope ["table", "bounds", "answer"] ["table", "bounds", "answer"] (defScope s_ispossibleanswer) := ⟨rfl, rfl, rfl, by decide +kernel, rfl, by decide +kernel, by decide +kernel⟩
theorem ok_ispossibleanswer (A : Al K mg Z) : FnOk P w K mg base CX0 7 Z.a_ispossibleanswer Z.d_ispossibleanswer ["table", "bounds", "answer"] (spD K Z.C (Tjudge possB)) := by
  refine ok_of A.k_ispossibleanswer.fn sc_ispossibleanswer (fun ds n k h => ?_) (fun cdv A' outer s H E pp av ds n kk hr h => ?_)
  · obtain ⟨_, _, _, _, rfl, _⟩ := h
    rfl
  · obtain ⟨xs, rs, bs, ps, rfl, hR, hbl, hbs, hl, hA, hk⟩ := h
    show Gs _ [some (tabD xs rs), some (.tup (bs.map sd)), some (.tup (ps.map fr))] _ _ _ _
    refine gs_cons (g1_expr ?_)
    refine gw_call (ok_checkquestion A) (hr.mono (by decide)) A.k_checkquestion.at_ A.k_checkquestion.fn.kp A.k_checkquestion.bd ?_
    walk_at "gv"
    refine ⟨xs, rs, bs, rfl, hbl, by have := hR.2.1; omega, hbs, gs_cons (g1_expr ?_)⟩
    refine gw_call (ok_checkanswer A) (hr.mono (by decide)) A.k_checkanswer.at_ A.k_checkanswer.fn.kp A.k_checkanswer.bd ?_
    walk_at "gv"
    refine ⟨xs, rs, ps, rfl, hl, by have := hA.1; omega, gs_one (g1_ret ?_)⟩
    refine gw_call (ok_ispossiblefor A) (hr.mono (by decide)) A.k_ispossiblefor.at_ A.k_ispossiblefor.fn.kp A.k_ispossiblefor.bd ?_
    walk_at "gv"
    exact ⟨xs, rs, bs, ps, rfl, hR, hbl, hbs, hl, hA, hk⟩
end
end Cs

namespace Cs
open PySem PySem.Spec PyProof.Rows L2
local macro_rules | `(tactic| walk_at "gv") => `(tactic| repeat (first
  | ((with_reducible show Gw _ _ _ (Expr.Name _ _) _); first | refine gw_name 0 ?_ | refine gw_name 1 ?_ | refine gw_name 2 ?_ | refine gw_name 3 ?_ | refine gw_name 4 ?_ | refine gw_name 5 ?_ | refine gw_name 6 ?_ | refine gw_name 7 ?_ | refine gw_name 8 ?_ | refine gw_name 9 ?_ | refine gw_name 10 ?_ | refine gw_name 11 ?_ | refine gw_name 12 ?_)
  | ((with_reducible show Gw _ _ _ (Expr.Constant _ _ _) _); first | refine gw_int ?_ | refine gw_str ?_ | refine gw_bl ?_ | refine gw_non ?_)
  | ((with_reducible show Ga _ _ _ [] _); refine ga_nil ?_)
  | ((with_reducible show Ga _ _ _ (_ :: _) _); refine ga_cons ?_)
  | ((with_reducible show Gw _ _ _ (Expr.BoolOp _ [_] _) _); refine gw_one ?_)
  | ((with_reducible show Gw _ _ _ (Expr.BoolOp _ _ _) _); refine gw_and ?_)
  | ((with_reducible show Gw _ _ _ (Expr.UnaryOp _ _ _) _); refine gw_not ?_)
  | ((with_reducible show Gw _ _ _ (Expr.IfExp _ _ _ _) _); refine gw_if ?_)
  | ((with_reducible show Gw _ _ _ (Expr.Tuple [_, _] _ _) _); refine gw_tup2 ?_)
  | ((with_reducible show Gw _ _ _ (Expr.Subscript _ (Expr.Constant _ _ _) _) _); refine gw_ixT ?_)
  | ((with_reducible show Gw _ _ _ (Expr.BinOp _ _ _ _) _); first | refine gw_add ?_ | refine gw_sub ?_ | refine gw_mul ?_ | refine gw_fdiv ?_ | refine gw_mod ?_)
  | ((with_reducible show Gw _ _ _ (Expr.Compare _ [_] _ _) _); first | refine gw_gt ?_ | refine gw_lt ?_ | refine gw_le ?_ | refine gw_eq ?_)
  | ((with_reducible show Gw _ _ _ (Expr.Compare _ [_, _] _ _) _); refine gw_chain ?_)
  | ((with_reducible show Gt _ _ _ (Expr.BoolOp _ _ _) _); refine gt_bo ?_)
  | ((with_reducible show Gt _ _ _ (Expr.UnaryOp _ _ _) _); refine gt_not ?_)
  | ((with_reducible show Gt _ _ _ (Expr.Compare _ [_] _ _) _); first | refine gt_gt ?_ | refine gt_lt ?_ | refine gt_eq ?_)
  | ((with_reducible show Gt _ _ _ (Expr.Call _ _ _ _) _); refine gt_val ?_)
  | ((with_reducible show Gt _ _ _ (Expr.Name _ _) _); refine gt_val ?_)
  | ((with_reducible show Gb _ _ _ (Expr.BoolOp PySem.BoolOp.Or [_] _) _); refine gb_or1 ?_)
  | ((with_reducible show Gb _ _ _ (Expr.BoolOp PySem.BoolOp.And [_] _) _); refine gb_and1 ?_)
  | ((with_reducible show Gb _ _ _ (Expr.BoolOp PySem.BoolOp.Or _ _) _); refine gb_or ?_)
  | ((with_reducible show Gb _ _ _ (Expr.BoolOp PySem.BoolOp.And _ _) _); refine gb_and ?_)
  | ((with_reducible show RI _ _ _ _ _); refine ⟨_, _, rfl, rfl, trivial, ?_⟩)
  | ((with_reducible show (ite (_ = true) _ _)); first | refine ifT rfl ?_ | refine ifF rfl ?_)
  | ((with_reducible show Exists _); first | refine ⟨_, 0, _, rfl, rfl, rfl, ?_⟩ | refine ⟨_, 1, _, rfl, rfl, rfl, ?_⟩ | refine ⟨_, rfl, ?_⟩)))
local macro_rules | `(tactic| walk_at "gq") => `(tactic| repeat (first
  | ((with_reducible show Gw _ _ _ (Expr.Name _ _) _); first | refine gw_name 0 ?_ | refine gw_name 1 ?_ | refine gw_name 2 ?_ | refine gw_name 3 ?_ | refine gw_name 4 ?_ | refine gw_name 5 ?_ | refine gw_name 6 ?_ | refine gw_name 7 ?_ | refine gw_name 8 ?_ | refine gw_name 9 ?_ | refine gw_name 10 ?_ | refine gw_name 11 ?_ | refine gw_name 12 ?_)
  | ((with_reducible show Gw _ _ _ (Expr.Constant _ _ _) _); first | refine gw_int ?_ | refine gw_str ?_ | refine gw_bl ?_ | refine gw_non ?_)
  | ((with_reducible show Ga _ _ _ [] _); refine ga_nil ?_)
  | ((with_reducible show Ga _ _ _ (_ :: _) _); refine ga_cons ?_)
  | ((with_reducible show Gw _ _ _ (Expr.BoolOp _ [_] _) _); refine gw_one ?_)
  | ((with_reducible show Gw _ _ _ (Expr.BoolOp _ _ _) _); refine gw_and ?_)
  | ((with_reducible show Gw _ _ _ (Expr.UnaryOp _ _ _) _); refine gw_not ?_)
  | ((with_reducible show Gw _ _ _ (Expr.IfExp _ _ _ _) _); refine gw_if ?_)
  | ((with_reducible show Gw _ _ _ (Expr.Tuple [_, _] _ _) _); refine gw_tup2 ?_)
  | ((with_reducible show Gw _ _ _ (Expr.BinOp _ _ _ _) _); first | refine gw_add ?_ | refine gw_sub ?_ | refine gw_mul ?_ | refine gw_fdiv ?_ | refine gw_mod ?_)
  | ((with_reducible show Gw _ _ _ (Expr.Compare _ [_] _ _) _); first | refine gw_gt ?_ | refine gw_lt ?_ | refine gw_le ?_ | refine gw_eq ?_)
  | ((with_reducible show Gw _ _ _ (Expr.Compare _ [_, _] _ _) _); refine gw_chain ?_)
  | ((with_reducible show Gt _ _ _ (Expr.BoolOp _ _ _) _); refine gt_bo ?_)
  | ((with_reducible show Gt _ _ _ (Expr.UnaryOp _ _ _) _); refine gt_not ?_)
  | ((with_reducible show Gt _ _ _ (Expr.Compare _ [_] _ _) _); first | refine gt_gt ?_ | refine gt_lt ?_ | refine gt_eq ?_)
  | ((with_reducible show Gt _ _ _ (Expr.Call _ _ _ _) _); refine gt_val ?_)
  | ((with_reducible show Gt _ _ _ (Expr.Name _ _) _); refine gt_val ?_)
  | ((with_reducible show Gb _ _ _ (Expr.BoolOp PySem.BoolOp.Or [_] _) _); refine gb_or1 ?_)
  | ((with_reducible show Gb _ _ _ (Expr.BoolOp PySem.BoolOp.And [_] _) _); refine gb_and1 ?_)
  | ((with_reducible show Gb _ _ _ (Expr.BoolOp PySem.BoolOp.Or _ _) _); refine gb_or ?_)
  | ((with_reducible show Gb _ _ _ (Expr.BoolOp PySem.BoolOp.And _ _) _); refine gb_and ?_)
  | ((with_reducible show RI _ _ _ _ _); refine ⟨_, _, rfl, rfl, trivial, ?_⟩)
  | ((with_reducible show (ite (_ = true) _ _)); first | refine ifT rfl ?_ | refine ifF rfl ?_)
  | ((with_reducible show Exists _); first | refine ⟨_, 0, _, rfl, rfl, rfl, ?_⟩ | refine ⟨_, 1, _, rfl, rfl, rfl, ?_⟩ | refine ⟨_, rfl, ?_⟩)))
theorem cmul_c {i j : Int} (h : -1000000000 ≤ j ∧ j ≤ 1000000000) : CMul i j := cmul_r (by omega)
theorem cmul_l {i j : Int} (h : -1000000000 ≤ i ∧ i ≤ 1000000000) : CMul i j := by
  have e : (2 : Int) ^ 64 = 18446744073709551616 := by decide
  unfold CMul
  rw [e]
  left
  constructor <;> omega
theorem mul_nn {a b : Int} (ha : 0 ≤ a) (hb : 0 ≤ b) : 0 ≤ a * b := Int.mul_nonneg ha hb
section
variable {P : Program} {w : World} {K : PySem.W.Frag} {mg : Str → Option Value} {base : Heap} {Z : Ad}
/-! ### draws -/
def Tdip : Pt := fun ds n k => ∃ s : Int, ds = [.pail, .int s] ∧ 0 < s ∧ s < 1000000 ∧ n < 100000000 ∧ ∀ r : Int, 0 ≤ r → r < s → k (.int r) (n + 1)
theorem sc_ldip : FnScope ["_law_pail_here", "_law_size", "_law_digit", "_law_more"] ["_law_pail_here", "_law_size"] (defScope s_ldip) := ⟨rfl, rfl, rfl, by decide +kernel, rfl, by decide +kernel, by decide +kernel⟩
theorem ok_ldip (A : Al K mg Z) : FnOk P w K mg base CX0 1 Z.a_ldip Z.d_ldip ["_law_pail_here", "_law_size"] (spD K Z.C Tdip) := by
  refine ok_of A.k_ldip.fn sc_ldip (fun ds n k h => ?_) (fun cdv A' outer s H E pp av ds n kk hr h => ?_)
  · obtain ⟨_, rfl, _⟩ := h
    rfl
  · obtain ⟨z, rfl, h0, h1, hn, hk⟩ := h
    show Gs _ [some .pail, some (.int z), none, none] _ _ _ _
    refine gs_cons (g1_pset 0 2 ?_ (hpg := fun a b c => pg_sub a b c))
    walk_at "gq"
    refine gw_p 0 2 fun u v c hu hv hc hcn => ⟨c, rfl, ?_⟩
    walk_at "gq"
    refine ⟨by omega, by decide, n + 1, by omega, fun _ => by omega, ?_⟩
    refine gs_cons (g1_if ?_)
    walk_at "gq"
    refine gw_p 0 0 fun u v c hu hv hc hcn => ⟨u, rfl, ?_⟩
    walk_at "gq"
    by_cases hp : 0 < u
    · refine ifT (by exact decide_eq_true hp) ?_
      refine gs_cons (g1_punp 0 2 sc_ldip.nd rfl ?_ (hpe := fun a b c => ps_asg a (pg_tup rfl (pgs_cons b (pgs_cons c pgs_nil)))) (hpg := fun a b c => pg_sub a b c))
      refine gw_divmod A.n_divmod ?_
      walk_at "gq"
      refine gw_p 0 0 fun u2 v2 c2 hu2 hv2 hc2 hcn2 => ⟨u2, rfl, ?_⟩
      walk_at "gq"
      refine ⟨_, _, rfl, ⟨h0, by omega⟩, _, _, rfl, Int.ediv_nonneg hu2 (by omega), ?_⟩
      refine gs_one (g1_ret ?_)
      walk_at "gq"
      exact hk _ (Int.emod_nonneg _ (by omega)) (Int.emod_lt_of_pos _ h0)
    · refine ifF (by exact decide_eq_false hp) (gs_nil ?_)
      refine gs_cons (g1_set 3 sc_ldip.nd ?_)
      walk_at "gq"
      refine gw_p 0 2 fun u2 v2 c2 hu2 hv2 hc2 hcn2 => ⟨c2, rfl, ?_⟩
      refine ⟨_, _, rfl, rfl, cmul_l (by decide), ?_⟩
      walk_at "gq"
      refine gw_p 0 2 fun u3 v3 c3 hu3 hv3 hc3 hcn3 => ⟨c3, rfl, ?_⟩
      refine ⟨_, _, rfl, rfl, cmul_l (by decide), ?_⟩
      refine gw_p 0 2 fun u4 v4 c4 hu4 hv4 hc4 hcn4 => ⟨c4, rfl, ?_⟩
      refine ⟨_, _, rfl, rfl, cmul_c (by omega), ?_⟩
      walk_at "gq"
      refine gs_cons (g1_pset 0 1 ?_ (hpg := fun a b c => pg_sub a b c))
      walk_at "gq"
      refine gw_int1 A.n_int ?_
      walk_at "gq"
      refine gw_p 0 1 fun u5 v5 c5 hu5 hv5 hc5 hcn5 => ⟨v5, rfl, ?_⟩
      walk_at "gq"
      refine ⟨_, _, rfl, rfl, cmul_c (by decide), ?_⟩
      walk_at "gq"
      refine ⟨_, _, rfl, rfl, (by show (0 : Int) < 2147483489; decide), _, rfl, Int.emod_nonneg _ (by decide), by decide, n + 1, by omega, (by intro z; cases z), ?_⟩
      refine gs_one (g1_ret ?_)
      walk_at "gq"
      refine gw_int1 A.n_int ?_
      walk_at "gq"
      refine gw_p 0 1 fun u6 v6 c6 hu6 hv6 hc6 hcn6 => ⟨v6, rfl, ?_⟩
      walk_at "gq"
      refine ⟨_, _, rfl, rfl, ⟨by decide, by decide⟩, ?_⟩
      walk_at "gq"
      refine ⟨_, _, rfl, rfl, h0, ?_⟩
      exact hk _ (Int.emod_nonneg _ (by omega)) (Int.emod_lt_of_pos _ h0)
def Tany : Pt := fun ds n k => ∃ xs : List Int, ds = [.pail, .lst (xs.map .int)] ∧ 0 < xs.length ∧ xs.length < 1000 ∧ n < 100000000 ∧ ∀ x ∈ xs, k (.int x) (n + 1)
theorem sc_lany : FnScope ["_law_pail_here", "_law_some"] ["_law_pail_here", "_law_some"] (defScope s_lany) := ⟨rfl, rfl, rfl, by decide +kernel, rfl, by decide +kernel, by decide +kernel⟩
theorem ok_lany (A : Al K mg Z) : FnOk P w K mg base CX0 2 Z.a_lany Z.d_lany ["_law_pail_here", "_law_some"] (spD K Z.C Tany) := by
  refine ok_of A.k_lany.fn sc_lany (fun ds n k h => ?_) (fun cdv A' outer s H E pp av ds n kk hr h => ?_)
  · obtain ⟨_, rfl, _⟩ := h
    rfl
  · obtain ⟨xs, rfl, h0, h1, hn, hk⟩ := h
    show Gs _ [some .pail, some (.lst (xs.map .int))] _ _ _ _
    refine gs_one (g1_ret (gw_ixL ?_))
    walk_at "gv"
    refine gw_call (ok_ldip A) hr A.k_ldip.at_ A.k_ldip.fn.kp A.k_ldip.bd ?_
    walk_at "gv"
    refine gw_len A.n_len ?_
    walk_at "gv"
    refine ⟨_, _, rfl, .inr (.inl ⟨_, rfl, rfl⟩), ?_⟩
    walk_at "gv"
    refine ⟨_, rfl, by rw [List.length_map]; omega, by rw [List.length_map]; omega, hn, fun r r0 r1 => ?_⟩
    rw [List.length_map] at r1
    have hr1 : r.toNat < xs.length := by omega
    refine ⟨_, r.toNat, .int xs[r.toNat], rfl, by rw [Int.toNat_of_nonneg r0], ?_, hk _ (List.getElem_mem _)⟩
    rw [List.getElem?_map, List.getElem?_eq_getElem hr1]
    rfl
def Tstr : Pt := fun ds n k => ds = [.pail, .int 4] ∧ n < 90000000 ∧ ∀ x : Int × Int, okS x → k (sd x) (n + 4)
theorem sc_lstretch : FnScope ["_law_pail_here", "_law_wide", "_law_low"] ["_law_pail_here", "_law_wide"] (defScope s_lstretch) := ⟨rfl, rfl, rfl, by decide +kernel, rfl, by decide +kernel, by decide +kernel⟩
theorem ok_lstretch (A : Al K mg Z) : FnOk P w K mg base CX0 3 Z.a_lstretch Z.d_lstretch ["_law_pail_here", "_law_wide"] (spD K Z.C Tstr) := by
  refine ok_of A.k_lstretch.fn sc_lstretch (fun ds n k h => ?_) (fun cdv A' outer s H E pp av ds n kk hr h => ?_)
  · obtain ⟨rfl, _⟩ := h
    rfl
  · obtain ⟨rfl, hn, hk⟩ := h
    show Gs _ [some .pail, some (.int 4), none] _ _ _ _
    have fin : ∀ (low : Int) (m : Nat), -10000 ≤ low → low ≤ 9997 → m ≤ n + 3 → Gs ⟨(cxOf CX0 P w K mg base ["_law_pail_here", "_law_wide", "_law_low"] "_law_stretch" (defScope s_lstretch) Z.a_lstretch cdv A' outer s H E).nox, Z.C, pp, av, none, H⟩ [some .pail, some (.int 4), some (.int low)] m ((defBody s_lstretch).drop 2) (fun _ n' => kk .non n') kk := fun low m l1 l2 hm => by
      refine gs_one (g1_ret (Gw.up ?_))
      walk_at "gv"
      refine gw_call (ok_ldip A) (hr.mono (by decide)) A.k_ldip.at_ A.k_ldip.fn.kp A.k_ldip.bd ?_
      walk_at "gv"
      refine ⟨4, rfl, by decide, by decide, by omega, fun r r0 r1 => ?_⟩
      walk_at "gv"
      exact ⟨n + 4, by omega, hk (low, low + r) ⟨l1, by show low ≤ low + r; omega, by show low + r ≤ 10000; omega⟩⟩
    refine gs_cons (g1_set 2 sc_lstretch.nd ?_)
    walk_at "gv"
    refine gw_call (ok_ldip A) (hr.mono (by decide)) A.k_ldip.at_ A.k_ldip.fn.kp A.k_ldip.bd ?_
    walk_at "gv"
    refine ⟨9, rfl, by decide, by decide, by omega, fun r r0 r1 => ?_⟩
    walk_at "gv"
    show Gs _ [some .pail, some (.int 4), some (.int (r - 4))] _ _ _ _
    refine gs_cons (g1_if ?_)
    walk_at "gv"
    refine gw_call (ok_ldip A) (hr.mono (by decide)) A.k_ldip.at_ A.k_ldip.fn.kp A.k_ldip.bd ?_
    walk_at "gv"
    refine ⟨30, rfl, by decide, by decide, by omega, fun q q0 q1 => ?_⟩
    walk_at "gv"
    by_cases hq : q = 0
    · refine ifT (by exact beq_int hq) (gs_one (g1_set 2 sc_lstretch.nd ?_))
      refine gw_call (ok_lany A) (hr.mono (by decide)) A.k_lany.at_ A.k_lany.fn.kp A.k_lany.bd ?_
      walk_at "gv"
      refine gw_lst (ga_cons (gw_neg ?_))
      walk_at "gv"
      refine gw_neg ?_
      walk_at "gv"
      refine ⟨by decide, ?_⟩
      walk_at "gv"
      refine ⟨[-10000, 9997, -1000, 500], rfl, by decide, by decide, by omega, fun x hx => ?_⟩
      have hx' : -10000 ≤ x ∧ x ≤ 9997 := by
        simp only [List.mem_cons, List.not_mem_nil, or_false] at hx
        omega
      exact fin x _ hx'.1 hx'.2 (by omega)
    · refine ifF (by exact beq_eq_false_iff_ne.mpr hq) (gs_nil ?_)
      exact fin (r - 4) _ (by omega) (by omega) (by omega)
/-! ### the law's own fractions -/
def Tpart : Pt := fun ds n k => ∃ (t : Int) (b : Nat), ds = [.int t, .int (b : Int)] ∧ 0 < b ∧ b ≤ 100 ∧ k (fr (mkRat t b)) n
theorem sc_lpart : FnScope ["_law_top", "_law_bottom", "_law_one", "_law_other", "_law_turn"] ["_law_top", "_law_bottom"] (defScope s_lpart) := ⟨rfl, rfl, rfl, by decide +kernel, rfl, by decide +kernel, by decide +kernel⟩
theorem ok_lpart (A : Al K mg Z) : FnOk P w K mg base CX0 1 Z.a_lpart Z.d_lpart ["_law_top", "_law_bottom"] (spD K Z.C Tpart) := by
  refine ok_of A.k_lpart.fn sc_lpart (fun ds n k h => ?_) (fun cdv A' outer s H E pp av ds n kk hr h => ?_)
  · obtain ⟨_, _, rfl, _⟩ := h
    rfl
  · obtain ⟨t, b, rfl, h0, h1, hk⟩ := h
    show Gs _ [some (.int t), some (.int (b : Int)), none, none, none] _ _ _ _
    refine gs_cons (g1_par 2 3 sc_lpart.nd (by decide) rfl (ga_cons ?_))
    refine gw_abs A.n_abs ?_
    walk_at "gv"
    refine ⟨_, _, rfl, ?_⟩
    show Gs _ [some (.int t), some (.int (b : Int)), some (.int (t.natAbs : Int)), some (.int (b : Int)), none] _ _ _ _
    refine gs_cons (g1_for [4] PassesOwn.never rfl (gi_range A.n_range ?_))
    walk_at "gv"
    refine ⟨by decide, ?_⟩
    refine ⟨fun i ts1 n1 => (∃ (x y : Nat) (c : Option Dt), ts1 = [some (.int t), some (.int (b : Int)), some (.int (x : Int)), some (.int (y : Int)), c] ∧ Nat.gcd x y = Nat.gcd t.natAbs b ∧ (y = 0 ∨ y + i ≤ b)) ∧ n1 = n, ⟨⟨t.natAbs, b, none, rfl, rfl, .inr (by omega)⟩, rfl⟩, fun i d ts1 n1 hd hI => ?_, fun ts1 n1 hI => ?_⟩
    · obtain ⟨⟨x, y, c, rfl, hg, hy⟩, rfl⟩ := hI
      refine ⟨by simp, _, gg_name 4 sc_lpart.nd, ?_⟩
      show Gs _ [some (.int t), some (.int (b : Int)), some (.int (x : Int)), some (.int (y : Int)), some d] _ _ _ _
      refine gs_one (g1_unp 2 3 sc_lpart.nd rfl ?_)
      walk_at "gv"
      by_cases hp : 0 < y
      · refine ifT (by exact decide_eq_true (by omega)) ?_
        walk_at "gv"
        refine gw_int1 A.n_int ?_
        walk_at "gv"
        refine ⟨_, _, rfl, rfl, by omega, _, _, rfl, ⟨⟨y, x % y, some d, ?_, ?_, ?_⟩, rfl⟩⟩
        · rw [Int.natCast_emod]
          rfl
        · rw [← hg, Nat.gcd_comm x y, Nat.gcd_rec y x, Nat.gcd_comm]
        · have := Nat.mod_lt x hp
          omega
      · have e : y = 0 := by omega
        subst e
        refine ifF (by exact decide_eq_false (by omega)) ?_
        walk_at "gv"
        exact ⟨_, _, rfl, ⟨⟨x, 0, some d, rfl, hg, .inl rfl⟩, rfl⟩⟩
    · obtain ⟨⟨x, y, c, rfl, hg, hy⟩, rfl⟩ := hI
      have hlen : ((List.range 200).map fun (i : Nat) => Dt.int (i : Int)).length = 200 := by rw [List.length_map, List.length_range]
      rw [hlen] at hy
      have e : y = 0 := by omega
      subst e
      rw [Nat.gcd_zero_right] at hg
      have hg0 : 0 < Nat.gcd t.natAbs b := Nat.gcd_pos_of_pos_right _ h0
      have hg1 : Nat.gcd t.natAbs b ≤ b := Nat.gcd_le_right _ h0
      obtain ⟨e1, e2⟩ := mkRat_parts t b h0
      refine gs_one (g1_ret ?_)
      walk_at "gv"
      refine ⟨_, _, rfl, rfl, ⟨by omega, by omega⟩, ?_⟩
      walk_at "gv"
      refine ⟨_, _, rfl, rfl, ⟨by omega, by omega⟩, ?_⟩
      unfold fr at hk
      rw [e1, e2, ← hg] at hk
      exact hk
def Tlplus : Pt := fun ds n k => ∃ p q : Rat, ds = [fr p, fr q] ∧ p.den ≤ 27 ∧ q.den ≤ 3 ∧ k (fr (p + q)) n
theorem sc_lplus : FnScope ["_law_one", "_law_two"] ["_law_one", "_law_two"] (defScope s_lplus) := ⟨rfl, rfl, rfl, by decide +kernel, rfl, by decide +kernel, by decide +kernel⟩
theorem ok_lplus (A : Al K mg Z) : FnOk P w K mg base CX0 2 Z.a_lplus Z.d_lplus ["_law_one", "_law_two"] (spD K Z.C Tlplus) := by
  refine ok_of A.k_lplus.fn sc_lplus (fun ds n k h => ?_) (fun cdv A' outer s H E pp av ds n kk hr h => ?_)
  · obtain ⟨_, _, rfl, _⟩ := h
    rfl
  · obtain ⟨p, q, rfl, hp, hq, hk⟩ := h
    show Gs _ [some (fr p), some (fr q)] _ _ _ _
    refine gs_one (g1_ret ?_)
    refine gw_call (ok_lpart A) hr A.k_lpart.at_ A.k_lpart.fn.kp A.k_lpart.bd ?_
    walk_at "gv"
    refine ⟨_, _, rfl, rfl, cmul_c (by omega), ?_⟩
    walk_at "gv"
    refine ⟨_, _, rfl, rfl, cmul_c (by omega), ?_⟩
    walk_at "gv"
    refine ⟨_, _, rfl, rfl, cmul_c (by omega), ?_⟩
    walk_at "gv"
    refine ⟨p.num * q.den + q.num * p.den, p.den * q.den, ?_, Nat.mul_pos (den_pos p) (den_pos q), Nat.le_trans (Nat.mul_le_mul hp hq) (by decide), ?_⟩
    · rw [Int.natCast_mul]
    · rw [← Rat.add_def']
      exact hk
end
end Cs

namespace Cs
open PySem PySem.Spec PyProof.Rows L2
local macro_rules | `(tactic| walk_at "gv") => `(tactic| repeat (first
  | ((with_reducible show Gw _ _ _ (Expr.Name _ _) _); first | refine gw_name 0 ?_ | refine gw_name 1 ?_ | refine gw_name 2 ?_ | refine gw_name 3 ?_ | refine gw_name 4 ?_ | refine gw_name 5 ?_ | refine gw_name 6 ?_ | refine gw_name 7 ?_ | refine gw_name 8 ?_ | refine gw_name 9 ?_ | refine gw_name 10 ?_ | refine gw_name 11 ?_ | refine gw_name 12 ?_)
  | ((with_reducible show Gw _ _ _ (Expr.Constant _ _ _) _); first | refine gw_int ?_ | refine gw_str ?_ | refine gw_bl ?_ | refine gw_non ?_)
  | ((with_reducible show Ga _ _ _ [] _); refine ga_nil ?_)
  | ((with_reducible show Ga _ _ _ (_ :: _) _); refine ga_cons ?_)
  | ((with_reducible show Gw _ _ _ (Expr.BoolOp _ [_] _) _); refine gw_one ?_)
  | ((with_reducible show Gw _ _ _ (Expr.BoolOp _ _ _) _); refine gw_and ?_)
  | ((with_reducible show Gw _ _ _ (Expr.UnaryOp _ _ _) _); refine gw_not ?_)
  | ((with_reducible show Gw _ _ _ (Expr.IfExp _ _ _ _) _); refine gw_if ?_)
  | ((with_reducible show Gw _ _ _ (Expr.Tuple [_, _] _ _) _); refine gw_tup2 ?_)
  | ((with_reducible show Gw _ _ _ (Expr.Subscript _ (Expr.Constant _ _ _) _) _); refine gw_ixT ?_)
  | ((with_reducible show Gw _ _ _ (Expr.BinOp _ _ _ _) _); first | refine gw_add ?_ | refine gw_sub ?_ | refine gw_mul ?_ | refine gw_fdiv ?_ | refine gw_mod ?_)
  | ((with_reducible show Gw _ _ _ (Expr.Compare _ [_] _ _) _); first | refine gw_gt ?_ | refine gw_lt ?_ | refine gw_le ?_ | refine gw_eq ?_)
  | ((with_reducible show Gw _ _ _ (Expr.Compare _ [_, _] _ _) _); refine gw_chain ?_)
  | ((with_reducible show Gt _ _ _ (Expr.BoolOp _ _ _) _); refine gt_bo ?_)
  | ((with_reducible show Gt _ _ _ (Expr.UnaryOp _ _ _) _); refine gt_not ?_)
  | ((with_reducible show Gt _ _ _ (Expr.Compare _ [_] _ _) _); first | refine gt_gt ?_ | refine gt_lt ?_ | refine gt_eq ?_)
  | ((with_reducible show Gt _ _ _ (Expr.Call _ _ _ _) _); refine gt_val ?_)
  | ((with_reducible show Gt _ _ _ (Expr.Name _ _) _); refine gt_val ?_)
  | ((with_reducible show Gb _ _ _ (Expr.BoolOp PySem.BoolOp.Or [_] _) _); refine gb_or1 ?_)
  | ((with_reducible show Gb _ _ _ (Expr.BoolOp PySem.BoolOp.And [_] _) _); refine gb_and1 ?_)
  | ((with_reducible show Gb _ _ _ (Expr.BoolOp PySem.BoolOp.Or _ _) _); refine gb_or ?_)
  | ((with_reducible show Gb _ _ _ (Expr.BoolOp PySem.BoolOp.And _ _) _); refine gb_and ?_)
  | ((with_reducible show RI _ _ _ _ _); refine ⟨_, _, rfl, rfl, trivial, ?_⟩)
  | ((with_reducible show (ite (_ = true) _ _)); first | refine ifT rfl ?_ | refine ifF rfl ?_)
  | ((with_reducible show Exists _); first | refine ⟨_, 0, _, rfl, rfl, rfl, ?_⟩ | refine ⟨_, 1, _, rfl, rfl, rfl, ?_⟩ | refine ⟨_, rfl, ?_⟩)))
abbrev Zp := (Int × Int) × Rat
def stepL (z : Zp) (fs : List Rat) : List Rat := fs.flatMap fun f => [f + z.2 * (z.1.1 : Rat), f + z.2 * (z.1.2 : Rat)]
def sumsF (zs : List Zp) : List Rat := zs.foldl (fun fs z => stepL z fs) [0]
def sumsL (ss : List (Int × Int)) (ps : List Rat) : List Rat := sumsF (ss.zip ps)
theorem sumsF_snoc (zs : List Zp) (z : Zp) : sumsF (zs ++ [z]) = stepL z (sumsF zs) := by
  unfold sumsF
  rw [List.foldl_append]
  rfl
theorem stepL_snoc (z : Zp) (fs : List Rat) (f : Rat) : stepL z (fs ++ [f]) = stepL z fs ++ [f + z.2 * (z.1.1 : Rat), f + z.2 * (z.1.2 : Rat)] := by
  unfold stepL
  rw [List.flatMap_append]
  rfl
theorem stepL_len (z : Zp) (fs : List Rat) : (stepL z fs).length = 2 * fs.length := by
  induction fs with
  | nil => rfl
  | cons f r ih =>
    show (stepL z r).length + 1 + 1 = _
    rw [ih, List.length_cons]
    omega
theorem stepL_mem {z : Zp} {fs : List Rat} {r : Rat} (h : r ∈ stepL z fs) : ∃ f ∈ fs, r = f + z.2 * (z.1.1 : Rat) ∨ r = f + z.2 * (z.1.2 : Rat) := by
  obtain ⟨f, hf, hr⟩ := List.mem_flatMap.mp h
  refine ⟨f, hf, ?_⟩
  simp only [List.mem_cons, List.not_mem_nil, or_false] at hr
  exact hr
theorem stepL_den {z : Zp} {fs : List Rat} {i : Nat} (hz : z.2.den ≤ 3) (h : ∀ f ∈ fs, f.den ≤ 3 ^ i) : ∀ r ∈ stepL z fs, r.den ≤ 3 ^ (i + 1) := by
  intro r hr
  obtain ⟨f, hf, e | e⟩ := stepL_mem hr
  · rw [e]
    exact den_step (h f hf) (Nat.le_trans (den_mul_int _ _) hz)
  · rw [e]
    exact den_step (h f hf) (Nat.le_trans (den_mul_int _ _) hz)
theorem pow_small3 {i : Nat} (h : i ≤ 3) : 3 ^ i ≤ 27 := Nat.pow_le_pow_right (show 0 < 3 by decide) h
theorem part_mul (p : Rat) (x : Int) : mkRat (x * p.num) p.den = p * (x : Rat) := by
  rw [Rat.mul_def']
  show _ = mkRat (p.num * x) (p.den * 1)
  rw [Nat.mul_one, Int.mul_comm]
def addD (f p : Rat) : Dt → Dt
  | .int i => fr (f + p * (i : Rat))
  | _ => .non
def leastF (a : Rat) (xs : List Rat) : Rat := xs.foldl (fun a x => if x < a then x else a) a
def leastL : List Rat → Rat
  | [] => 0
  | x :: xs => leastF x (x :: xs)
theorem leastF_snoc (a : Rat) (xs : List Rat) (x : Rat) : leastF a (xs ++ [x]) = if x < leastF a xs then x else leastF a xs := by
  unfold leastF
  rw [List.foldl_append]
  rfl
theorem leastF_mem (a : Rat) (xs : List Rat) : leastF a xs = a ∨ leastF a xs ∈ xs := by
  induction xs generalizing a with
  | nil => exact .inl rfl
  | cons x r ih =>
    have e : leastF a (x :: r) = leastF (if x < a then x else a) r := rfl
    rw [e]
    rcases ih (if x < a then x else a) with h | h
    · rw [h]
      split
      · exact .inr List.mem_cons_self
      · exact .inl rfl
    · exact .inr (List.mem_cons_of_mem _ h)
theorem leastL_mem {xs : List Rat} (h : xs ≠ []) : leastL xs ∈ xs := by
  cases xs with
  | nil => exact absurd rfl h
  | cons x r =>
    rcases leastF_mem x (x :: r) with e | e
    · show leastF x (x :: r) ∈ _
      rw [e]
      exact List.mem_cons_self
    · exact e
section
variable {P : Program} {w : World} {K : PySem.W.Frag} {mg : Str → Option Value} {base : Heap} {Z : Ad}
def Tsums : Pt := fun ds n k => ∃ (ss : List (Int × Int)) (ps : List Rat), ds = [.tup (ss.map sd), .tup (ps.map fr)] ∧ ss.length = ps.length ∧ okA ps ∧ (∀ x ∈ ss, okS x) ∧ k (.lst ((sumsL ss ps).map fr)) n
theorem sc_lsums : FnScope ["_law_stretches", "_law_shares", "_law_found", "_law_stretch_here", "_law_share", "_law_later", "_law_each", "_law_number"] ["_law_stretches", "_law_shares"] (defScope s_lsums) := ⟨rfl, rfl, rfl, by decide +kernel, rfl, by decide +kernel, by decide +kernel⟩
theorem ok_lsums (A : Al K mg Z) : FnOk P w K mg base CX0 3 Z.a_lsums Z.d_lsums ["_law_stretches", "_law_shares"] (spD K Z.C Tsums) := by
  refine ok_of A.k_lsums.fn sc_lsums (fun ds n k h => ?_) (fun cdv A' outer s H E pp av ds n kk hr h => ?_)
  · obtain ⟨_, _, rfl, _⟩ := h
    rfl
  · obtain ⟨ss, ps, rfl, hl, ⟨h4, hd⟩, hS, hk⟩ := h
    show Gs _ [some (.tup (ss.map sd)), some (.tup (ps.map fr)), none, none, none, none, none, none] _ _ _ _
    refine gs_cons (g1_set 2 sc_lsums.nd (gw_lst (ga_cons ?_)))
    walk_at "gv"
    refine ⟨by decide, ?_⟩
    show Gs _ [some (.tup (ss.map sd)), some (.tup (ps.map fr)), some (.lst ((sumsF []).map fr)), none, none, none, none, none] _ _ _ _
    refine gs_cons (g1_for [3, 4] PassesOwn.never rfl (gi_zip A.n_zip ?_))
    walk_at "gv"
    refine ⟨_, _, rfl, by rw [List.length_map, List.length_map, hl], ?_⟩
    refine ⟨fun i ts1 n1 => (∃ a b c d e, ts1 = [some (.tup (ss.map sd)), some (.tup (ps.map fr)), some (.lst ((sumsF ((ss.zip ps).take i)).map fr)), a, b, c, d, e]) ∧ (∀ f ∈ sumsF ((ss.zip ps).take i), f.den ≤ 3 ^ i) ∧ (sumsF ((ss.zip ps).take i)).length = 2 ^ i ∧ n1 = n, ⟨⟨none, none, none, none, none, rfl⟩, by rw [List.take_zero]; intro f hf; rw [show f = 0 by simpa [sumsF] using hf]; decide, by rw [List.take_zero]; rfl, rfl⟩, fun i d ts1 n1 hdi hI => ?_, fun ts1 n1 hI => ?_⟩
    · obtain ⟨⟨xa, xb, xc, xd, xe, rfl⟩, hden, hlen, rfl⟩ := hI
      have hz : ∃ x p, (ss.zip ps)[i]? = some (x, p) ∧ x ∈ ss ∧ p ∈ ps ∧ d = .tup [sd x, fr p] := by
        obtain ⟨u, v, hu, hv, e⟩ := List.getElem?_zipWith_eq_some.mp hdi
        obtain ⟨x, hx, rfl⟩ := map_at hu
        obtain ⟨p, hp, rfl⟩ := map_at hv
        exact ⟨x, p, List.getElem?_zip_eq_some.mpr ⟨hx, hp⟩, List.mem_of_getElem? hx, List.mem_of_getElem? hp, e.symm⟩
      obtain ⟨x, p, hxp, hxm, hpm, rfl⟩ := hz
      have hil : i < 4 := by
        have h1 := (List.getElem?_eq_some_iff.mp hxp).1
        rw [List.length_zip] at h1
        omega
      have dp := hd p hpm
      have dp0 := den_pos p
      have p27 := pow_small3 (Nat.le_of_lt_succ hil)
      have l8 : 2 ^ i ≤ 8 := Nat.pow_le_pow_right (show 0 < 2 by decide) (Nat.le_of_lt_succ hil)
      have et : (ss.zip ps).take (i + 1) = (ss.zip ps).take i ++ [(x, p)] := by
        rw [List.take_add_one, hxp]
        rfl
      generalize hfs : sumsF ((ss.zip ps).take i) = fs at hden hlen ⊢
      refine ⟨by simp, _, gg_pair rfl (gg_name 3 sc_lsums.nd) (gg_name 4 sc_lsums.nd), ?_⟩
      show Gs _ [some (.tup (ss.map sd)), some (.tup (ps.map fr)), some (.lst (fs.map fr)), some (sd x), some (fr p), xc, xd, xe] _ _ _ _
      refine gs_cons (g1_set 5 sc_lsums.nd (gw_lst (ga_nil ⟨by decide, ?_⟩)))
      show Gs _ [some (.tup (ss.map sd)), some (.tup (ps.map fr)), some (.lst (fs.map fr)), some (sd x), some (fr p), some (.lst []), xd, xe] _ _ _ _
      refine gs_cons (g1_for [6] PassesOwn.never rfl (gi_lst ?_ pi_list))
      walk_at "gv"
      refine ⟨fun j ts1 n2 => (∃ a b, ts1 = [some (.tup (ss.map sd)), some (.tup (ps.map fr)), some (.lst (fs.map fr)), some (sd x), some (fr p), some (.lst ((stepL (x, p) (fs.take j)).map fr)), a, b]) ∧ n2 = n1, ⟨⟨xd, xe, rfl⟩, rfl⟩, fun j d ts1 n2 hdj hJ => ?_, fun ts1 n2 hJ => ?_⟩
      · obtain ⟨⟨ya, yb, rfl⟩, rfl⟩ := hJ
        obtain ⟨f, hf, rfl⟩ := map_at hdj
        have hfd := hden f (List.mem_of_getElem? hf)
        have hjl := (List.getElem?_eq_some_iff.mp hf).1
        refine ⟨by simp, _, gg_name 6 sc_lsums.nd, ?_⟩
        show Gs _ [some (.tup (ss.map sd)), some (.tup (ps.map fr)), some (.lst (fs.map fr)), some (sd x), some (fr p), some (.lst ((stepL (x, p) (fs.take j)).map fr)), some (fr f), yb] _ _ _ _
        refine gs_one (g1_set 5 sc_lsums.nd (gw_cat ?_))
        walk_at "gv"
        refine gw_lcD (own := [("_law_number", 7)]) [7] (addD f p) rfl sc_lsums.nd (blkOk_by (N := ["_law_stretches", "_law_shares", "_law_found", "_law_stretch_here", "_law_share", "_law_later", "_law_each", "_law_number"]) (sc := defScope s_lsums) (by decide +kernel)) (by simp) (gi_tup ?_ pi_tup)
        walk_at "gv"
        refine ⟨(by show 2 ≤ 1000; decide), fun s H Cc cl fp D d hd => ?_, ?_⟩
        · have hdd : ∃ u : Int, d = .int u ∧ -10000 ≤ u ∧ u ≤ 10000 := by
            obtain ⟨s1, s2, s3⟩ := hS x hxm
            simp only [List.mem_cons, List.not_mem_nil, or_false] at hd
            rcases hd with rfl | rfl
            · exact ⟨_, rfl, by omega, by omega⟩
            · exact ⟨_, rfl, by omega, by omega⟩
          obtain ⟨u, rfl, u1, u2⟩ := hdd
          refine ⟨by simp, _, gg_name 7 sc_lsums.nd, fun s H Cc cl fp => ?_⟩
          refine gw_call (ok_lplus A) (hr.mono (by decide)) A.k_lplus.at_ A.k_lplus.fn.kp A.k_lplus.bd (ga_cons ?_)
          walk_at "gv"
          refine gw_call (ok_lpart A) (hr.mono (by decide)) A.k_lpart.at_ A.k_lpart.fn.kp A.k_lpart.bd ?_
          walk_at "gv"
          refine ⟨_, _, rfl, rfl, cmul_l (by omega), ?_⟩
          walk_at "gv"
          refine ⟨u * p.num, p.den, rfl, dp0, by omega, ?_⟩
          walk_at "gv"
          refine ⟨f, p * (u : Rat), by rw [part_mul], by omega, Nat.le_trans (den_mul_int _ _) dp, rfl, rfl⟩
        · refine ⟨_, _, rfl, rfl, ?_, ?_⟩
          · rw [List.length_map, stepL_len, List.length_take]
            show _ + 2 ≤ 1000
            omega
          · refine ⟨⟨some (fr f), yb, ?_⟩, rfl⟩
            have e2 : fs.take (j + 1) = fs.take j ++ [f] := by
              rw [List.take_add_one, hf]
              rfl
            rw [e2, stepL_snoc, List.map_append]
            rfl
      · obtain ⟨⟨ya, yb, rfl⟩, rfl⟩ := hJ
        rw [List.length_map, List.take_length]
        refine gs_one (g1_set 2 sc_lsums.nd ?_)
        walk_at "gv"
        refine ⟨⟨some (sd x), some (fr p), some (.lst ((stepL (x, p) fs).map fr)), ya, yb, ?_⟩, ?_, ?_, rfl⟩
        · rw [et, sumsF_snoc, hfs]
          rfl
        · rw [et, sumsF_snoc, hfs]
          exact stepL_den dp hden
        · rw [et, sumsF_snoc, hfs, stepL_len, hlen, Nat.pow_succ, Nat.mul_comm]
    · obtain ⟨⟨xa, xb, xc, xd, xe, rfl⟩, _, _, rfl⟩ := hI
      have e : (ss.zip ps).take (List.zipWith (fun x y => Dt.tup [x, y]) (ss.map sd) (ps.map fr)).length = ss.zip ps := List.take_of_length_le (by simp)
      rw [e]
      refine gs_one (g1_ret ?_)
      walk_at "gv"
      exact hk
def Tleast : Pt := fun ds n k => ∃ xs : List Rat, ds = [.lst (xs.map fr)] ∧ xs ≠ [] ∧ (∀ x ∈ xs, x.den ≤ 1000000) ∧ k (fr (leastL xs)) n
theorem sc_lleast : FnScope ["_law_some", "_law_found", "_law_each"] ["_law_some"] (defScope s_lleast) := ⟨rfl, rfl, rfl, by decide +kernel, rfl, by decide +kernel, by decide +kernel⟩
theorem ok_lleast (A : Al K mg Z) : FnOk P w K mg base CX0 1 Z.a_lleast Z.d_lleast ["_law_some"] (spD K Z.C Tleast) := by
  refine ok_of A.k_lleast.fn sc_lleast (fun ds n k h => ?_) (fun cdv A' outer s H E pp av ds n kk hr h => ?_)
  · obtain ⟨_, rfl, _⟩ := h
    rfl
  · obtain ⟨xs, rfl, hne, hd, hk⟩ := h
    obtain ⟨x0, xr, rfl⟩ := List.exists_cons_of_ne_nil hne
    generalize hX : x0 :: xr = xs at hd hk hne ⊢
    show Gs _ [some (.lst (xs.map fr)), none, none] _ _ _ _
    refine gs_cons (g1_set 1 sc_lleast.nd (gw_ixL ?_))
    walk_at "gv"
    refine ⟨_, 0, fr x0, rfl, rfl, by rw [← hX]; rfl, ?_⟩
    show Gs _ [some (.lst (xs.map fr)), some (fr (leastF x0 [])), none] _ _ _ _
    refine gs_cons (g1_for [2] PassesOwn.never rfl (gi_lst ?_ pi_list))
    walk_at "gv"
    have h0 : x0 ∈ xs := by rw [← hX]; exact List.mem_cons_self
    refine ⟨fun i ts1 n1 => (∃ a, ts1 = [some (.lst (xs.map fr)), some (fr (leastF x0 (xs.take i))), a]) ∧ n1 = n, ⟨⟨none, rfl⟩, rfl⟩, fun i d ts1 n1 hdi hI => ?_, fun ts1 n1 hI => ?_⟩
    · obtain ⟨⟨xa, rfl⟩, rfl⟩ := hI
      obtain ⟨x, hx, rfl⟩ := map_at hdi
      have hxd := hd x (List.mem_of_getElem? hx)
      generalize hf : leastF x0 (xs.take i) = f
      have hfd : f.den ≤ 1000000 := by
        rw [← hf]
        rcases leastF_mem x0 (xs.take i) with e | e
        · rw [e]
          exact hd x0 h0
        · exact hd _ (List.mem_of_mem_take e)
      have et : xs.take (i + 1) = xs.take i ++ [x] := by
        rw [List.take_add_one, hx]
        rfl
      refine ⟨by simp, _, gg_name 2 sc_lleast.nd, ?_⟩
      show Gs _ [some (.lst (xs.map fr)), some (fr f), some (fr x)] _ _ _ _
      refine gs_one (g1_set 1 sc_lleast.nd ?_)
      walk_at "gv"
      refine ⟨_, _, rfl, rfl, cmul_c (by omega), ?_⟩
      walk_at "gv"
      refine ⟨_, _, rfl, rfl, cmul_c (by omega), ?_⟩
      walk_at "gv"
      by_cases hlt : x < f
      · refine ifT (by exact decide_eq_true ((Rat.lt_iff x f).mp hlt)) ?_
        walk_at "gv"
        refine ⟨⟨some (fr x), ?_⟩, rfl⟩
        rw [et, leastF_snoc, hf, if_pos hlt]
        rfl
      · refine ifF (by exact decide_eq_false fun z => hlt ((Rat.lt_iff x f).mpr z)) ?_
        walk_at "gv"
        refine ⟨⟨some (fr x), ?_⟩, rfl⟩
        rw [et, leastF_snoc, hf, if_neg hlt]
        rfl
    · obtain ⟨⟨xa, rfl⟩, rfl⟩ := hI
      rw [List.length_map, List.take_length]
      refine gs_one (g1_ret ?_)
      walk_at "gv"
      rw [← hX] at hk ⊢
      exact hk
end
end Cs

namespace Cs
open PySem PySem.Spec PyProof.Rows L2
local macro_rules | `(tactic| walk_at "gv") => `(tactic| repeat (first
  | ((with_reducible show Gw _ _ _ (Expr.Name _ _) _); first | refine gw_name 0 ?_ | refine gw_name 1 ?_ | refine gw_name 2 ?_ | refine gw_name 3 ?_ | refine gw_name 4 ?_ | refine gw_name 5 ?_ | refine gw_name 6 ?_ | refine gw_name 7 ?_ | refine gw_name 8 ?_ | refine gw_name 9 ?_ | refine gw_name 10 ?_ | refine gw_name 11 ?_ | refine gw_name 12 ?_)
  | ((with_reducible show Gw _ _ _ (Expr.Constant _ _ _) _); first | refine gw_int ?_ | refine gw_str ?_ | refine gw_bl ?_ | refine gw_non ?_)
  | ((with_reducible show Ga _ _ _ [] _); refine ga_nil ?_)
  | ((with_reducible show Ga _ _ _ (_ :: _) _); refine ga_cons ?_)
  | ((with_reducible show Gw _ _ _ (Expr.BoolOp _ [_] _) _); refine gw_one ?_)
  | ((with_reducible show Gw _ _ _ (Expr.BoolOp _ _ _) _); refine gw_and ?_)
  | ((with_reducible show Gw _ _ _ (Expr.UnaryOp _ _ _) _); refine gw_not ?_)
  | ((with_reducible show Gw _ _ _ (Expr.IfExp _ _ _ _) _); refine gw_if ?_)
  | ((with_reducible show Gw _ _ _ (Expr.Tuple [_, _] _ _) _); refine gw_tup2 ?_)
  | ((with_reducible show Gw _ _ _ (Expr.Subscript _ (Expr.Constant _ _ _) _) _); refine gw_ixT ?_)
  | ((with_reducible show Gw _ _ _ (Expr.BinOp _ _ _ _) _); first | refine gw_add ?_ | refine gw_sub ?_ | refine gw_mul ?_ | refine gw_fdiv ?_ | refine gw_mod ?_)
  | ((with_reducible show Gw _ _ _ (Expr.Compare _ [_] _ _) _); first | refine gw_gt ?_ | refine gw_lt ?_ | refine gw_le ?_ | refine gw_eq ?_)
  | ((with_reducible show Gw _ _ _ (Expr.Compare _ [_, _] _ _) _); refine gw_chain ?_)
  | ((with_reducible show Gt _ _ _ (Expr.BoolOp _ _ _) _); refine gt_bo ?_)
  | ((with_reducible show Gt _ _ _ (Expr.UnaryOp _ _ _) _); refine gt_not ?_)
  | ((with_reducible show Gt _ _ _ (Expr.Compare _ [_] _ _) _); first | refine gt_gt ?_ | refine gt_lt ?_ | refine gt_eq ?_)
  | ((with_reducible show Gt _ _ _ (Expr.Call _ _ _ _) _); refine gt_val ?_)
  | ((with_reducible show Gt _ _ _ (Expr.Name _ _) _); refine gt_val ?_)
  | ((with_reducible show Gb _ _ _ (Expr.BoolOp PySem.BoolOp.Or [_] _) _); refine gb_or1 ?_)
  | ((with_reducible show Gb _ _ _ (Expr.BoolOp PySem.BoolOp.And [_] _) _); refine gb_and1 ?_)
  | ((with_reducible show Gb _ _ _ (Expr.BoolOp PySem.BoolOp.Or _ _) _); refine gb_or ?_)
  | ((with_reducible show Gb _ _ _ (Expr.BoolOp PySem.BoolOp.And _ _) _); refine gb_and ?_)
  | ((with_reducible show RI _ _ _ _ _); refine ⟨_, _, rfl, rfl, trivial, ?_⟩)
  | ((with_reducible show (ite (_ = true) _ _)); first | refine ifT rfl ?_ | refine ifF rfl ?_)
  | ((with_reducible show Exists _); first | refine ⟨_, 0, _, rfl, rfl, rfl, ?_⟩ | refine ⟨_, 1, _, rfl, rfl, rfl, ?_⟩ | refine ⟨_, rfl, ?_⟩)))
def naTs (ts : Ts) : Bool := ts.all fun o => match o with
  | some d => naD d
  | none => true
theorem na_of {ts : Ts} (h : naTs ts = true) : ∀ (j : Nat) (d : Dt), ts[j]? = some (some d) → naD d = true := fun j d e => List.all_eq_true.mp h (some d) (List.mem_of_getElem? e)
theorem na_but {ts : Ts} {i : Nat} (h : naTs (ts.set i none) = true) : ∀ (j : Nat) (d : Dt), j ≠ i → ts[j]? = some (some d) → naD d = true := fun j d n e => na_of h j d (by rw [List.getElem?_set_ne (Ne.symm n)]; exact e)
section
variable {F : Fx} {ts : Ts} {n : Nat} {a b c e : Expr} {es : List Expr} {pos : Pos} {P : Dt → Nat → Prop}
theorem gw_run {σ : L2.St} {H : Hp} {Q : VK} (en : En F n ts σ H) (g : Gw F ts n e P) (k : ∀ v H' d n', Kb F.p H H' → Pl F.p H' n' → Is F.W H' d v → P d n' → Q v H') : Ge F.X e σ H Q := g σ H Q en k
theorem gw_lines {C : Addr} (hC : F.C = C) (cl : Cls F.X.K C) (na : NoAttr F.X.K C "lines") (h : Gw F ts n a fun d n1 => ∃ c r, d = .tab c r ∧ P r n1) (hab : attributeBase a "lines" F.X.env (eval a F.X.env) = eval a F.X.env := by rfl) : Gw F ts n (.Attribute a "lines" pos) P := by
  intro σ H Q en k
  refine ge_of (pe_fld pe_ge hab) (h σ H _ en fun v H1 d n1 k1 p1 i1 h1 => ?_)
  obtain ⟨c, r, rfl, hP⟩ := h1
  obtain ⟨l, dx, vc, vr, rfl, hl, hi, ic, ir⟩ := i1.tab
  rw [show F.W.C = C from hC] at hi
  exact ⟨l, C, dx, _, vr, rfl, hi, cl, na, tabF_lines _ _, k vr H1 r n1 k1 p1 ir hP⟩
end
section
variable {P : Program} {w : World} {K : PySem.W.Frag} {mg : Str → Option Value} {base : Heap} {Z : Ad}
/-! ### Table(..), len(table) -/
def goodT (c r : Dt) : Prop := ∃ (xs : List Str) (rs : List Row), c = .tup (xs.map .str) ∧ r = .tup (rs.map rowD) ∧ xs ≠ [] ∧ xs.length ≤ 4 ∧ xs.Nodup ∧ (∀ x ∈ xs, okM x) ∧ rs ≠ [] ∧ rs.length ≤ 8 ∧ (rs.map (·.1)).Nodup ∧ (∀ r ∈ rs, okM r.1 ∧ r.2.length = xs.length ∧ ∀ x ∈ r.2, okS x)
theorem sc_Tinit : FnScope ["self", "columns", "rows"] ["self", "columns", "rows"] (defScope s_Tinit) := ⟨rfl, rfl, rfl, by decide +kernel, rfl, by decide +kernel, by decide +kernel⟩
theorem ok_Tinit (A : Al K mg Z) : FnOk P w K mg base CX0 7 Z.a_Tinit Z.d_Tinit ["self", "columns", "rows"] (initSp K Z.C goodT) := by
  refine A.k_Tinit.ok sc_Tinit (fun vs H Q E h => ?_) (fun cdv A' outer s H vs Q E hr h => ?_)
  · obtain ⟨p, av, n, c, r, vc, vr, x, dx, rfl, _⟩ := h
    rfl
  · obtain ⟨p, av, n, c, r, vc, vr, x, dx, rfl, hxp, wk, ic, ir, ⟨xs, rs, rfl, rfl, g1, g2, g3, g4, g5, g6, g7, g8⟩, hx, hk⟩ := h
    refine ⟨_, pss_cons (ps_expr pe_ge) (pss_cons (ps_expr pe_ge) (pss_cons (ps_fld (pv 0) (pv 1) rfl) (pss_one (ps_fld (pv 0) (pv 2) rfl)))), ?_⟩
    have en : En ⟨(cxOf CX0 P w K mg base ["self", "columns", "rows"] "Table.__init__" (defScope s_Tinit) Z.a_Tinit cdv A' outer s H E).nox, Z.C, p, av, none, H⟩ n [none, some (.tup (xs.map .str)), some (.tup (rs.map rowD))] [some (.ref x), some vc, some vr] H := by
      refine ⟨wk, .refl _ _, fun a ha => (by cases ha), fun i d hi => ?_, rfl⟩
      match i, hi with
      | 0, hi => cases hi
      | 1, hi =>
        cases hi
        exact ⟨vc, rfl, isS_of ic⟩
      | 2, hi =>
        cases hi
        exact ⟨vr, rfl, isS_of ir⟩
      | i + 3, hi => cases hi
    refine gw_run (P := fun _ n1 => n1 = n) en ?_ fun v1 H1 d1 n1 k1 p1 i1 h1 => ?_
    · refine gw_call (ok_checkcolumns A) (hr.mono (by decide)) A.k_checkcolumns.at_ A.k_checkcolumns.fn.kp A.k_checkcolumns.bd ?_
      walk_at "gv"
      exact ⟨xs, rfl, g1, g2, g3, g4, rfl⟩
    · subst h1
      refine gw_run (P := fun _ n2 => n2 = n1) (en.keep k1 p1) ?_ fun v2 H2 d2 n2 k2 p2 i2 h2 => ?_
      · refine gw_call (ok_checkrows A) (hr.mono (by decide)) A.k_checkrows.at_ A.k_checkrows.fn.kp A.k_checkrows.bd ?_
        walk_at "gv"
        refine gw_len A.n_len ?_
        walk_at "gv"
        refine ⟨_, _, rfl, .inl ⟨_, rfl, rfl⟩, ?_⟩
        walk_at "gv"
        refine ⟨_, rs, by rw [List.length_map], g5, g6, g7, g8, g2, rfl⟩
      · subst h2
        have hx2 : H2 x = some (.ins Z.C dx []) := k2 x _ hxp (k1 x _ hxp hx)
        refine ⟨vc, rfl, .ref x, rfl, x, Z.C, dx, [], rfl, hx2, A.cl, A.nH, by decide, vr, rfl, .ref x, rfl, x, Z.C, dx, _, rfl, upd_same, A.cl, A.nL, (by show 1 < 1000; decide), ?_⟩
        refine hk _ n2 (fun b o nb nx e => ?_) ?_ rfl ?_
        · have nbx : b ≠ x := fun z => nx (by rw [z])
          rw [upd_ne nbx, upd_ne nbx]
          exact k2 b o nb (k1 b o nb e)
        · obtain ⟨u, m, c, e, r⟩ := p2
          exact ⟨u, m, c, by rw [upd_ne hxp.symm, upd_ne hxp.symm]; exact e, r⟩
        · rw [upd_same]
          rfl
def Tlen : Pt := fun ds n k => ∃ (c : Dt) (rs : List Dt), ds = [.tab c (.tup rs)] ∧ k (.int (rs.length : Int)) n
theorem sc_Tlen : FnScope ["self"] ["self"] (defScope s_Tlen) := ⟨rfl, rfl, rfl, by decide +kernel, rfl, by decide +kernel, by decide +kernel⟩
theorem ok_Tlen (A : Al K mg Z) : FnOk P w K mg base CX0 1 Z.a_Tlen Z.d_Tlen ["self"] (spD K Z.C Tlen) := by
  refine ok_of A.k_Tlen sc_Tlen (fun ds n k h => ?_) (fun cdv A' outer s H E pp av ds n kk hr h => ?_)
  · obtain ⟨_, _, rfl, _⟩ := h
    rfl
  · obtain ⟨c, rs, rfl, hk⟩ := h
    show Gs _ [some (.tab c (.tup rs))] _ _ _ _
    refine gs_one (g1_ret (gw_len A.n_len (ga_cons (gw_lines rfl A.cl A.nL ?_))))
    walk_at "gv"
    refine ⟨_, _, rfl, ?_⟩
    walk_at "gv"
    exact ⟨_, _, rfl, .inl ⟨_, rfl, rfl⟩, hk⟩
/-! ### the law's table -/
def colsL : List Str := ["x", "y", "zeta", "w"]
def nmsL : List Str := ["need", "room", "c", "duty"]
theorem colsL_ok : ∀ x ∈ colsL, okM x := by
  intro x hx
  simp only [colsL, List.mem_cons, List.not_mem_nil, or_false] at hx
  rcases hx with rfl | rfl | rfl | rfl <;> exact ⟨⟨by decide +kernel, by decide +kernel, by decide +kernel⟩, by decide +kernel⟩
theorem nmsL_ok : ∀ x ∈ nmsL, okM x := by
  intro x hx
  simp only [nmsL, List.mem_cons, List.not_mem_nil, or_false] at hx
  rcases hx with rfl | rfl | rfl | rfl <;> exact ⟨⟨by decide +kernel, by decide +kernel, by decide +kernel⟩, by decide +kernel⟩
theorem colsL_nd : colsL.Nodup := by decide +kernel
theorem nmsL_nd : nmsL.Nodup := by decide +kernel
def okT (xs : List Str) (rs : List Row) : Prop := (∃ j, 1 ≤ j ∧ j ≤ 4 ∧ xs = colsL.take j) ∧ (∃ i, 1 ≤ i ∧ i ≤ 4 ∧ rs.map (·.1) = nmsL.take i) ∧ ∀ r ∈ rs, r.2.length = xs.length ∧ ∀ x ∈ r.2, okS x
theorem okT_len {xs : List Str} {rs : List Row} (h : okT xs rs) : 1 ≤ xs.length ∧ xs.length ≤ 4 ∧ 1 ≤ rs.length ∧ rs.length ≤ 4 := by
  obtain ⟨⟨j, j1, j4, e1⟩, ⟨i, i1, i4, e2⟩, _⟩ := h
  have h1 : xs.length = j := by rw [e1, List.length_take]; show min j 4 = j; omega
  have h2 : rs.length = i := by rw [← List.length_map (·.1), e2, List.length_take]; show min i 4 = i; omega
  omega
theorem okT_R {xs : List Str} {rs : List Row} (h : okT xs rs) : okR xs rs := by
  obtain ⟨h1, h2, h3, h4⟩ := okT_len h
  exact ⟨h2, by omega, h.2.2⟩
theorem okT_good {xs : List Str} {rs : List Row} (h : okT xs rs) : goodT (.tup (xs.map .str)) (.tup (rs.map rowD)) := by
  obtain ⟨h1, h2, h3, h4⟩ := okT_len h
  obtain ⟨⟨j, j1, j4, e1⟩, ⟨i, i1, i4, e2⟩, hr⟩ := h
  refine ⟨xs, rs, rfl, rfl, fun z => by rw [z] at h1; exact absurd h1 (by decide), h2, by rw [e1]; exact colsL_nd.sublist (List.take_sublist _ _), fun x hx => colsL_ok x (by rw [e1] at hx; exact List.mem_of_mem_take hx), fun z => by rw [z] at h3; exact absurd h3 (by decide), by omega, by rw [e2]; exact nmsL_nd.sublist (List.take_sublist _ _), fun r hrm => ⟨?_, hr r hrm⟩⟩
  have hm : r.1 ∈ rs.map (·.1) := List.mem_map.mpr ⟨r, hrm, rfl⟩
  rw [e2] at hm
  exact nmsL_ok _ (List.mem_of_mem_take hm)
def Tsheet : Pt := fun ds n k => ds = [.pail, .int 4, .int 4] ∧ n < 80000000 ∧ ∀ xs rs, okT xs rs → ∀ n', n' ≤ n + 100 → k (tabD xs rs) n'
theorem sc_lsheet : FnScope ["_law_pail_here", "_law_columns_most", "_law_rows_most", "_law_titles", "_law_found", "_law_k", "_law_title"] ["_law_pail_here", "_law_columns_most", "_law_rows_most"] (defScope s_lsheet) := ⟨rfl, rfl, rfl, by decide +kernel, rfl, by decide +kernel, by decide +kernel⟩
theorem ok_lsheet (A : Al K mg Z) : FnOk P w K mg base CX0 9 Z.a_lsheet Z.d_lsheet ["_law_pail_here", "_law_columns_most", "_law_rows_most"] (spD K Z.C Tsheet) := by
  refine ok_of A.k_lsheet.fn sc_lsheet (fun ds n k h => ?_) (fun cdv A' outer s H E pp av ds n kk hr h => ?_)
  · obtain ⟨rfl, _⟩ := h
    rfl
  · obtain ⟨rfl, hn, hk⟩ := h
    show Gs _ [some .pail, some (.int 4), some (.int 4), none, none, none, none] _ _ _ _
    refine gs_cons (g1_set 3 sc_lsheet.nd (gw_upto (gw_tup ?_)))
    walk_at "gv"
    refine ⟨by decide, ?_⟩
    walk_at "gv"
    refine gw_call (ok_ldip A) (hr.mono (by decide)) A.k_ldip.at_ A.k_ldip.fn.kp A.k_ldip.bd ?_
    walk_at "gv"
    refine ⟨4, rfl, by decide, by decide, by omega, fun r r0 r1 => ?_⟩
    walk_at "gv"
    refine ⟨colsL.map .str, (1 + r).toNat, rfl, by rw [Int.toNat_of_nonneg (by omega)], ?_⟩
    rw [← List.map_take]
    generalize hxs : colsL.take (1 + r).toNat = xs
    have hxl : xs.length = (1 + r).toNat := by rw [← hxs, List.length_take]; show min _ 4 = _; omega
    show Gs _ [some .pail, some (.int 4), some (.int 4), some (.tup (xs.map .str)), none, none, none] _ _ _ _
    refine gs_acc 4 sc_lsheet.nd rfl (fun q => ?_) (hna := na_of rfl)
    show Gs _ [some .pail, some (.int 4), some (.int 4), some (.tup (xs.map .str)), some (.acc []), none, none] _ _ _ _
    refine gs_cons (g1_for [5] PassesOwn.never rfl (gi_range A.n_range ?_))
    walk_at "gv"
    refine gw_call (ok_ldip A) (hr.mono (by decide)) A.k_ldip.at_ A.k_ldip.fn.kp A.k_ldip.bd ?_
    walk_at "gv"
    refine ⟨4, rfl, by decide, by decide, by omega, fun m m0 m1 => ?_⟩
    walk_at "gv"
    refine ⟨(1 + m).toNat, by rw [Int.toNat_of_nonneg (by omega)], by omega, ?_⟩
    refine ⟨fun i ts1 n1 => (∃ (rs : List Row) (a : Option Dt), ts1 = [some .pail, some (.int 4), some (.int 4), some (.tup (xs.map .str)), some (.acc (rs.map rowD)), a, none] ∧ rs.map (·.1) = nmsL.take i ∧ ∀ r ∈ rs, r.2.length = xs.length ∧ ∀ x ∈ r.2, okS x) ∧ n1 ≤ n + 2 + 16 * i ∧ i ≤ 4, ⟨⟨[], none, rfl, rfl, by intro r hr; cases hr⟩, by omega, by omega⟩, fun i d ts1 n1 hdi hI => ?_, fun ts1 n1 hI => ?_⟩
    · obtain ⟨⟨rs, xa, rfl, hnm, hrs⟩, hb, hi4⟩ := hI
      have hi : i < (1 + m).toNat ∧ d = .int (i : Int) := by
        obtain ⟨u, hu, rfl⟩ := map_at hdi
        have hl := (List.getElem?_eq_some_iff.mp hu).1
        rw [List.length_range] at hl
        rw [List.getElem?_range hl] at hu
        cases hu
        exact ⟨hl, rfl⟩
      obtain ⟨hi1, rfl⟩ := hi
      have hi2 : i < nmsL.length := by show i < 4; omega
      have hrl : rs.length = i := by
        rw [← List.length_map (·.1), hnm, List.length_take]
        show min i 4 = i
        omega
      refine ⟨by simp, _, gg_name 5 sc_lsheet.nd, ?_⟩
      show Gs _ [some .pail, some (.int 4), some (.int 4), some (.tup (xs.map .str)), some (.acc (rs.map rowD)), some (.int (i : Int)), none] _ _ _ _
      refine gs_one (g1_app 4 (pe_bm PySem.F.plainAttrs_list PySem.F.slot_list_append PySem.F.type_list_append mt_append (pv 4) (pa_cons pe_ge pa_nil)) ?_ (hna := na_but rfl))
      refine gw_tup2 (gw_ixT (gw_tup ?_))
      walk_at "gv"
      refine ⟨by decide, ?_⟩
      walk_at "gv"
      refine ⟨nmsL.map .str, i, .str nmsL[i], rfl, rfl, by rw [List.getElem?_map, List.getElem?_eq_getElem hi2]; rfl, ?_⟩
      refine gw_tuple A.n_tuple (ga_cons ?_)
      refine gw_lc (own := [("_law_title", 6)]) [6] rfl sc_lsheet.nd (blkOk_by (N := ["_law_pail_here", "_law_columns_most", "_law_rows_most", "_law_titles", "_law_found", "_law_k", "_law_title"]) (sc := defScope s_lsheet) (by decide +kernel)) (by simp) (gi_tup ?_ pi_tup)
      walk_at "gv"
      refine ⟨by rw [List.length_map]; omega, fun j ds n2 => ∃ ss : List (Int × Int), ds = ss.map sd ∧ ss.length = j ∧ (∀ x ∈ ss, okS x) ∧ n2 ≤ n1 + 4 * j ∧ j ≤ 4, ⟨[], rfl, rfl, (by intro x hx; cases hx), by omega, by omega⟩, fun s H Cc cl fp D j d ds n2 hdj hJ => ?_, fun ds n2 hJ => ?_⟩
      · obtain ⟨ss, rfl, hsl, hss, hn2, hj4⟩ := hJ
        have hjx : j < xs.length := by
          have := (List.getElem?_eq_some_iff.mp hdj).1
          rwa [List.length_map] at this
        refine ⟨by simp, _, gg_name 6 sc_lsheet.nd, fun s H Cc cl fp => ?_⟩
        refine gw_call (ok_lstretch A) (hr.mono (by decide)) A.k_lstretch.at_ A.k_lstretch.fn.kp A.k_lstretch.bd ?_
        walk_at "gv"
        refine ⟨rfl, by omega, fun x hx => ⟨ss ++ [x], by rw [List.map_append]; rfl, by rw [List.length_append, hsl]; rfl, fun y hy => ?_, by omega, by omega⟩⟩
        rcases List.mem_append.mp hy with z | z
        · exact hss y z
        · rw [List.mem_singleton.mp z]
          exact hx
      · obtain ⟨ss, rfl, hsl, hss, hn2, hj4⟩ := hJ
        rw [List.length_map] at hsl hn2
        walk_at "gv"
        refine ⟨by rw [List.length_map]; omega, ⟨rs ++ [(nmsL[i], ss)], some (.int (i : Int)), ?_, ?_, fun r hr => ?_⟩, by omega, by omega⟩
        · rw [List.map_append]
          rfl
        · rw [List.map_append, hnm, List.take_add_one, List.getElem?_eq_getElem hi2]
          rfl
        · rcases List.mem_append.mp hr with z | z
          · exact hrs r z
          · rw [List.mem_singleton.mp z]
            exact ⟨hsl, hss⟩
    · obtain ⟨⟨rs, xa, rfl, hnm, hrs⟩, hb, hi4⟩ := hI
      rw [List.length_map, List.length_range] at hnm hb hi4
      have hT : okT xs rs := ⟨⟨(1 + r).toNat, by omega, by omega, hxs.symm⟩, ⟨(1 + m).toNat, by omega, by omega, hnm⟩, hrs⟩
      refine gs_one (g1_ret (Gw.up ?_))
      refine gw_mk rfl A.mkT (ok_Tinit A) (hr.mono (by decide)) A.g_tab A.b_Tinit ?_
      walk_at "gv"
      refine gw_tupleAcc 4 A.n_tuple ?_
      walk_at "gv"
      exact ⟨_, _, rfl, okT_good hT, n1, Nat.le_refl _, hk xs rs hT n1 (by omega)⟩
def Tlimits : Pt := fun ds n k => ∃ (xs : List Str) (rs : List Row), ds = [.pail, tabD xs rs] ∧ rs.length ≤ 8 ∧ n < 80000000 ∧ ∀ bs : List (Int × Int), bs.length = rs.length → (∀ b ∈ bs, okS b) → ∀ n', n' ≤ n + 100 → k (.tup (bs.map sd)) n'
theorem sc_llimits : FnScope ["_law_pail_here", "_law_sheet_here", "_law_found", "_law_row"] ["_law_pail_here", "_law_sheet_here"] (defScope s_llimits) := ⟨rfl, rfl, rfl, by decide +kernel, rfl, by decide +kernel, by decide +kernel⟩
theorem ok_llimits (A : Al K mg Z) : FnOk P w K mg base CX0 4 Z.a_llimits Z.d_llimits ["_law_pail_here", "_law_sheet_here"] (spD K Z.C Tlimits) := by
  refine ok_of A.k_llimits.fn sc_llimits (fun ds n k h => ?_) (fun cdv A' outer s H E pp av ds n kk hr h => ?_)
  · obtain ⟨_, _, rfl, _⟩ := h
    rfl
  · obtain ⟨xs, rs, rfl, h8, hn, hk⟩ := h
    show Gs _ [some .pail, some (tabD xs rs), none, none] _ _ _ _
    refine gs_acc 2 sc_llimits.nd rfl (fun q => ?_) (hna := na_of rfl)
    show Gs _ [some .pail, some (tabD xs rs), some (.acc []), none] _ _ _ _
    refine gs_cons (g1_for [3] PassesOwn.never rfl (gi_tup ?_ pi_tup))
    refine gw_rows rfl A.cl A.pR (ok_Trows A) (hr.mono (by decide)) A.b_Trows ?_
    walk_at "gv"
    refine ⟨_, _, rfl, _, rfl, ?_⟩
    refine ⟨fun i ts1 n1 => (∃ (bs : List (Int × Int)) (a : Option Dt), ts1 = [some .pail, some (tabD xs rs), some (.acc (bs.map sd)), a] ∧ bs.length = i ∧ ∀ b ∈ bs, okS b) ∧ n1 ≤ n + 5 * i ∧ i ≤ 8, ⟨⟨[], none, rfl, rfl, by intro r hr; cases hr⟩, by omega, by omega⟩, fun i d ts1 n1 hdi hI => ?_, fun ts1 n1 hI => ?_⟩
    · obtain ⟨⟨bs, xa, rfl, hbl, hbs⟩, hb, hi8⟩ := hI
      have hil : i < 8 := by
        have := (List.getElem?_eq_some_iff.mp hdi).1
        rw [List.length_map] at this
        omega
      obtain ⟨row, hrow, rfl⟩ := map_at hdi
      have fin : ∀ (b : Int × Int) (m : Nat), okS b → m ≤ n1 + 5 → (bs.map sd).length < 1000 ∧ (∃ (bs' : List (Int × Int)) (a : Option Dt), ([some .pail, some (tabD xs rs), some (.acc (bs.map sd)), some (rowD row)] : Ts).set 2 (some (.acc (bs.map sd ++ [sd b]))) = [some .pail, some (tabD xs rs), some (.acc (bs'.map sd)), a] ∧ bs'.length = i + 1 ∧ ∀ b ∈ bs', okS b) ∧ m ≤ n + 5 * (i + 1) ∧ i + 1 ≤ 8 := fun b m hbo hm => by
        refine ⟨by rw [List.length_map]; omega, ⟨bs ++ [b], some (rowD row), by rw [List.map_append]; rfl, by rw [List.length_append, hbl]; rfl, fun y hy => ?_⟩, by omega, by omega⟩
        rcases List.mem_append.mp hy with z | z
        · exact hbs y z
        · rw [List.mem_singleton.mp z]
          exact hbo
      refine ⟨by simp, _, gg_name 3 sc_llimits.nd, ?_⟩
      show Gs _ [some .pail, some (tabD xs rs), some (.acc (bs.map sd)), some (rowD row)] _ _ _ _
      refine gs_one (g1_app 2 (pe_bm PySem.F.plainAttrs_list PySem.F.slot_list_append PySem.F.type_list_append mt_append (pv 2) (pa_cons pe_ge pa_nil)) ?_ (hna := na_but rfl))
      refine gw_if ?_
      walk_at "gv"
      refine gw_call (ok_ldip A) (hr.mono (by decide)) A.k_ldip.at_ A.k_ldip.fn.kp A.k_ldip.bd ?_
      walk_at "gv"
      refine ⟨3, rfl, by decide, by decide, by omega, fun r r0 r1 => ?_⟩
      walk_at "gv"
      by_cases hq : r = 0
      · refine ifT (by exact beq_int hq) ?_
        refine gw_call (ok_lstretch A) (hr.mono (by decide)) A.k_lstretch.at_ A.k_lstretch.fn.kp A.k_lstretch.bd ?_
        walk_at "gv"
        exact ⟨rfl, by omega, fun x hx => fin x _ hx (by omega)⟩
      · refine ifF (by exact beq_eq_false_iff_ne.mpr hq) ?_
        walk_at "gv"
        refine gw_call (ok_ldip A) (hr.mono (by decide)) A.k_ldip.at_ A.k_ldip.fn.kp A.k_ldip.bd ?_
        walk_at "gv"
        refine ⟨6, rfl, by decide, by decide, by omega, fun u u0 u1 => ?_⟩
        walk_at "gv"
        exact fin (2, 3 + u) _ ⟨(by show (-10000 : Int) ≤ 2; decide), by show (2 : Int) ≤ 3 + u; omega, by show 3 + u ≤ 10000; omega⟩ (by omega)
    · obtain ⟨⟨bs, xa, rfl, hbl, hbs⟩, hb, hi8⟩ := hI
      rw [List.length_map] at hbl hb hi8
      refine gs_one (g1_ret (gw_tupleAcc 2 A.n_tuple ?_))
      exact hk bs hbl hbs n1 (by omega)
end
end Cs

namespace Cs
open PySem PySem.Spec PyProof.Rows L2
theorem leastF_le (xs : List Rat) : ∀ a, leastF a xs ≤ a ∧ ∀ x ∈ xs, leastF a xs ≤ x := by
  induction xs with
  | nil => exact fun a => ⟨Rat.le_refl, fun x hx => by cases hx⟩
  | cons y r ih =>
    intro a
    have e : leastF a (y :: r) = leastF (if y < a then y else a) r := rfl
    obtain ⟨h1, h2⟩ := ih (if y < a then y else a)
    rw [e]
    have k1 : (if y < a then y else a) ≤ a := by split <;> grind
    have k2 : (if y < a then y else a) ≤ y := by split <;> grind
    refine ⟨Rat.le_trans h1 k1, fun x hx => ?_⟩
    rcases List.mem_cons.mp hx with z | z
    · rw [z]
      exact Rat.le_trans h1 k2
    · exact h2 x z
theorem leastL_le {xs : List Rat} {x : Rat} (h : x ∈ xs) : leastL xs ≤ x := by
  cases xs with
  | nil => cases h
  | cons y r => exact (leastF_le (y :: r) y).2 x h
theorem leastL_is {xs : List Rat} {m : Rat} (h : m ∈ xs) (hl : ∀ x ∈ xs, m ≤ x) : leastL xs = m := by
  have h1 := leastL_le h
  have h2 := hl _ (leastL_mem (xs := xs) (by intro z; rw [z] at h; cases h))
  exact Rat.le_antisymm h1 h2
theorem lo1_le (x : Int × Int) (p : Rat) : lo1 x p ≤ p * (x.1 : Rat) ∧ lo1 x p ≤ p * (x.2 : Rat) ∧ (lo1 x p = p * (x.1 : Rat) ∨ lo1 x p = p * (x.2 : Rat)) := by
  unfold lo1
  split <;> grind
theorem hi1_le (x : Int × Int) (p : Rat) : p * (x.1 : Rat) ≤ hi1 x p ∧ p * (x.2 : Rat) ≤ hi1 x p ∧ (hi1 x p = p * (x.1 : Rat) ∨ hi1 x p = p * (x.2 : Rat)) := by
  unfold hi1
  split <;> grind
theorem stepL_in {z : Zp} {fs : List Rat} {f r : Rat} (h : f ∈ fs) (e : r = f + z.2 * (z.1.1 : Rat) ∨ r = f + z.2 * (z.1.2 : Rat)) : r ∈ stepL z fs := by
  refine List.mem_flatMap.mpr ⟨f, h, ?_⟩
  rcases e with e | e <;> simp [e]
theorem sums_ends (zs : List Zp) : ∀ n, n ≤ zs.length → (∀ r ∈ sumsF (zs.take n), loF (zs.take n) ≤ r ∧ r ≤ hiF (zs.take n)) ∧ loF (zs.take n) ∈ sumsF (zs.take n) ∧ hiF (zs.take n) ∈ sumsF (zs.take n) := by
  intro n
  induction n with
  | zero =>
    intro _
    rw [List.take_zero]
    refine ⟨fun r hr => ?_, List.mem_cons_self, List.mem_cons_self⟩
    have e : r = 0 := by simpa [sumsF] using hr
    rw [e]
    exact ⟨Rat.le_refl, Rat.le_refl⟩
  | succ n ih =>
    intro hn
    obtain ⟨h1, h2, h3⟩ := ih (by omega)
    have e : zs.take (n + 1) = zs.take n ++ [zs[n]] := by
      rw [List.take_add_one, List.getElem?_eq_getElem (by omega)]
      rfl
    rw [e, sumsF_snoc, loF_snoc, hiF_snoc]
    obtain ⟨l1, l2, l3⟩ := lo1_le zs[n].1 zs[n].2
    obtain ⟨g1, g2, g3⟩ := hi1_le zs[n].1 zs[n].2
    refine ⟨fun r hr => ?_, stepL_in h2 ?_, stepL_in h3 ?_⟩
    · obtain ⟨f, hf, hr⟩ := stepL_mem hr
      obtain ⟨q1, q2⟩ := h1 f hf
      rcases hr with e | e <;> (rw [e]; constructor <;> grind)
    · rcases l3 with e | e <;> simp [e]
    · rcases g3 with e | e <;> simp [e]
theorem sumsL_ends (ss : List (Int × Int)) (ps : List Rat) : (∀ r ∈ sumsL ss ps, loR ss ps ≤ r ∧ r ≤ hiR ss ps) ∧ loR ss ps ∈ sumsL ss ps ∧ hiR ss ps ∈ sumsL ss ps := by
  have h := sums_ends (ss.zip ps) _ (Nat.le_refl _)
  rw [List.take_length] at h
  exact h
theorem least_lo (ss : List (Int × Int)) (ps : List Rat) : leastL (sumsL ss ps) = loR ss ps := by
  obtain ⟨h1, h2, _⟩ := sumsL_ends ss ps
  exact leastL_is h2 fun x hx => (h1 x hx).1
theorem least_hi (ss : List (Int × Int)) (ps : List Rat) : leastL ((sumsL ss ps).map fun r => -r) = -hiR ss ps := by
  obtain ⟨h1, _, h3⟩ := sumsL_ends ss ps
  refine leastL_is (List.mem_map.mpr ⟨_, h3, rfl⟩) fun x hx => ?_
  obtain ⟨y, hy, rfl⟩ := List.mem_map.mp hx
  have := (h1 y hy).2
  grind
theorem lo_hi (ss : List (Int × Int)) (ps : List Rat) : loR ss ps ≤ hiR ss ps := by
  obtain ⟨h1, h2, _⟩ := sumsL_ends ss ps
  exact (h1 _ h2).2
theorem sure_poss {rs : List Row} {bs : List (Int × Int)} {ps : List Rat} (hb : ∀ b ∈ bs, okS b) (h : sureB rs bs ps = true) : possB rs bs ps = true := by
  unfold sureB at h
  unfold possB
  rw [Bool.not_eq_true'] at h ⊢
  rw [List.any_eq_false] at h ⊢
  intro x hx
  obtain ⟨z, hz, rfl⟩ := List.mem_map.mp hx
  have hzz := h _ (List.mem_map.mpr ⟨z, hz, rfl⟩)
  simp only [id, decide_eq_true_eq] at hzz ⊢
  have hbz := hb z.2 (List.of_mem_zip (a := z.1) (b := z.2) hz).2
  have h1 : ((z.2.1 : Int) : Rat) ≤ ((z.2.2 : Int) : Rat) := Rat.intCast_le_intCast.mpr hbz.2.1
  have h2 := lo_hi z.1.2 ps
  grind
/-! ### sizes -/
theorem num_mk (i : Int) (d : Nat) : (mkRat i d).num.natAbs ≤ i.natAbs := by
  rw [Rat.num_mkRat]
  split
  · exact Nat.zero_le _
  · exact Int.natAbs_ediv_le_natAbs _ _
theorem num_add (p q : Rat) : (p + q).num.natAbs ≤ p.num.natAbs * q.den + q.num.natAbs * p.den := by
  rw [Rat.add_def']
  refine Nat.le_trans (num_mk _ _) (Nat.le_trans (Int.natAbs_add_le _ _) ?_)
  rw [Int.natAbs_mul, Int.natAbs_mul, Int.natAbs_natCast, Int.natAbs_natCast]
  exact Nat.le_refl _
theorem num_mul (p : Rat) (x : Int) : (p * (x : Rat)).num.natAbs ≤ p.num.natAbs * x.natAbs := by
  rw [Rat.mul_def']
  show (mkRat (p.num * x) _).num.natAbs ≤ _
  refine Nat.le_trans (num_mk _ _) ?_
  rw [Int.natAbs_mul]
  exact Nat.le_refl _
end Cs

namespace Cs
open PySem PySem.Spec PyProof.Rows L2
local macro_rules | `(tactic| walk_at "gv") => `(tactic| repeat (first
  | ((with_reducible show Gw _ _ _ (Expr.Name _ _) _); first | refine gw_name 0 ?_ | refine gw_name 1 ?_ | refine gw_name 2 ?_ | refine gw_name 3 ?_ | refine gw_name 4 ?_ | refine gw_name 5 ?_ | refine gw_name 6 ?_ | refine gw_name 7 ?_ | refine gw_name 8 ?_ | refine gw_name 9 ?_ | refine gw_name 10 ?_ | refine gw_name 11 ?_ | refine gw_name 12 ?_ | refine gw_name 13 ?_ | refine gw_name 14 ?_)
  | ((with_reducible show Gw _ _ _ (Expr.Constant _ _ _) _); first | refine gw_int ?_ | refine gw_str ?_ | refine gw_bl ?_ | refine gw_non ?_)
  | ((with_reducible show Ga _ _ _ [] _); refine ga_nil ?_)
  | ((with_reducible show Ga _ _ _ (_ :: _) _); refine ga_cons ?_)
  | ((with_reducible show Gw _ _ _ (Expr.BoolOp _ [_] _) _); refine gw_one ?_)
  | ((with_reducible show Gw _ _ _ (Expr.BoolOp _ _ _) _); refine gw_and ?_)
  | ((with_reducible show Gw _ _ _ (Expr.UnaryOp _ _ _) _); refine gw_not ?_)
  | ((with_reducible show Gw _ _ _ (Expr.IfExp _ _ _ _) _); refine gw_if ?_)
  | ((with_reducible show Gw _ _ _ (Expr.Tuple [_, _] _ _) _); refine gw_tup2 ?_)
  | ((with_reducible show Gw _ _ _ (Expr.Subscript _ (Expr.Constant _ _ _) _) _); refine gw_ixT ?_)
  | ((with_reducible show Gw _ _ _ (Expr.BinOp _ _ _ _) _); first | refine gw_add ?_ | refine gw_sub ?_ | refine gw_mul ?_ | refine gw_fdiv ?_ | refine gw_mod ?_)
  | ((with_reducible show Gw _ _ _ (Expr.Compare _ [_] _ _) _); first | refine gw_gt ?_ | refine gw_lt ?_ | refine gw_le ?_ | refine gw_eq ?_)
  | ((with_reducible show Gw _ _ _ (Expr.Compare _ [_, _] _ _) _); refine gw_chain ?_)
  | ((with_reducible show Gt _ _ _ (Expr.BoolOp _ _ _) _); refine gt_bo ?_)
  | ((with_reducible show Gt _ _ _ (Expr.UnaryOp _ _ _) _); refine gt_not ?_)
  | ((with_reducible show Gt _ _ _ (Expr.Compare _ [_] _ _) _); first | refine gt_gt ?_ | refine gt_lt ?_ | refine gt_eq ?_)
  | ((with_reducible show Gt _ _ _ (Expr.Call _ _ _ _) _); refine gt_val ?_)
  | ((with_reducible show Gt _ _ _ (Expr.Name _ _) _); refine gt_val ?_)
  | ((with_reducible show Gb _ _ _ (Expr.BoolOp PySem.BoolOp.Or [_] _) _); refine gb_or1 ?_)
  | ((with_reducible show Gb _ _ _ (Expr.BoolOp PySem.BoolOp.And [_] _) _); refine gb_and1 ?_)
  | ((with_reducible show Gb _ _ _ (Expr.BoolOp PySem.BoolOp.Or _ _) _); refine gb_or ?_)
  | ((with_reducible show Gb _ _ _ (Expr.BoolOp PySem.BoolOp.And _ _) _); refine gb_and ?_)
  | ((with_reducible show RI _ _ _ _ _); refine ⟨_, _, rfl, rfl, trivial, ?_⟩)
  | ((with_reducible show (ite (_ = true) _ _)); first | refine ifT rfl ?_ | refine ifF rfl ?_)
  | ((with_reducible show Exists _); first | refine ⟨_, 0, _, rfl, rfl, rfl, ?_⟩ | refine ⟨_, 1, _, rfl, rfl, rfl, ?_⟩ | refine ⟨_, rfl, ?_⟩)))
/-! ### keyword calls -/
def sw2 {α : Type} : List α → List α
  | [a, t] => [t, a]
  | _ => []
def sw3 {α : Type} : List α → List α
  | [a, b, t] => [t, b, a]
  | _ => []
theorem sw2_vals {zs : List V} {ws : List Value} (h : Vals zs ws) : Vals (sw2 zs) (sw2 ws) := by
  match zs, ws, h with
  | [], _, .nil => exact .nil
  | [_], _, .cons _ .nil => exact .nil
  | [_, _], _, .cons h1 (.cons h2 .nil) => exact .cons h2 (.cons h1 .nil)
  | _ :: _ :: _ :: _, _, .cons _ (.cons _ (.cons _ _)) => exact .nil
theorem sw3_vals {zs : List V} {ws : List Value} (h : Vals zs ws) : Vals (sw3 zs) (sw3 ws) := by
  match zs, ws, h with
  | [], _, .nil => exact .nil
  | [_], _, .cons _ .nil => exact .nil
  | [_, _], _, .cons _ (.cons _ .nil) => exact .nil
  | [_, _, _], _, .cons h1 (.cons h2 (.cons h3 .nil)) => exact .cons h3 (.cons h2 (.cons h1 .nil))
  | _ :: _ :: _ :: _ :: _, _, .cons _ (.cons _ (.cons _ (.cons _ _))) => exact .nil
theorem kb_rowends {K : PySem.W.Frag} {f : Addr} {fd : FuncData} (F : Fun K "row_ends" "row_ends" s_rowends f fd) : KBn K fd ["table", "answer"] 0 ["answer", "table"] (fun _ ws => sw2 ws) (fun _ zs => sw2 zs) := by
  obtain ⟨oc, od, kV, doc, pm, an, cdv, ct, osl, rfl, lk, hcd⟩ := F.ex
  refine ⟨fun s us ws X l1 l2 => ?_, fun _ h => sw2_vals h⟩
  match us, ws, l1, l2 with
  | [], [a, t], _, _ => exact BindsTo.of_eq rfl
theorem kb_sure {K : PySem.W.Frag} {f : Addr} {fd : FuncData} (F : Fun K "is_sure_answer" "is_sure_answer" s_issureanswer f fd) : KBn K fd ["table", "bounds", "answer"] 0 ["answer", "bounds", "table"] (fun _ ws => sw3 ws) (fun _ zs => sw3 zs) := by
  obtain ⟨oc, od, kV, doc, pm, an, cdv, ct, osl, rfl, lk, hcd⟩ := F.ex
  refine ⟨fun s us ws X l1 l2 => ?_, fun _ h => sw3_vals h⟩
  match us, ws, l1, l2 with
  | [], [a, b, t], _, _ => exact BindsTo.of_eq rfl
theorem kb_poss {K : PySem.W.Frag} {f : Addr} {fd : FuncData} (F : Fun K "is_possible_answer" "is_possible_answer" s_ispossibleanswer f fd) : KBn K fd ["table", "bounds", "answer"] 0 ["answer", "bounds", "table"] (fun _ ws => sw3 ws) (fun _ zs => sw3 zs) := by
  obtain ⟨oc, od, kV, doc, pm, an, cdv, ct, osl, rfl, lk, hcd⟩ := F.ex
  refine ⟨fun s us ws X l1 l2 => ?_, fun _ h => sw3_vals h⟩
  match us, ws, l1, l2 with
  | [], [a, b, t], _, _ => exact BindsTo.of_eq rfl
theorem isAll_sw2 {W : Wc} {H : Hp} {a t : Dt} {vs : List V} (h : IsAll W H [a, t] vs) : IsAll W H [t, a] (sw2 vs) := by
  obtain ⟨v, u, rfl, h1, h2⟩ := is2 h
  exact .cons h2 (.cons h1 .nil)
theorem isAll_sw3 {W : Wc} {H : Hp} {a b t : Dt} {vs : List V} (h : IsAll W H [a, b, t] vs) : IsAll W H [t, b, a] (sw3 vs) := by
  unfold IsAll at h
  obtain ⟨v, r, rfl, h1, h2⟩ := h
  obtain ⟨u, x, rfl, h3, h4⟩ := is2 h2
  exact .cons h4 (.cons h3 (.cons h1 .nil))
/-! ### the plain law, by rows -/
theorem sumsF_den (zs : List Zp) (hz : ∀ z ∈ zs, z.2.den ≤ 3) : ∀ i, i ≤ zs.length → ∀ r ∈ sumsF (zs.take i), r.den ≤ 3 ^ i := by
  intro i
  induction i with
  | zero =>
    intro _ r hr
    have e : r = 0 := by simpa [sumsF] using hr
    rw [e]
    decide
  | succ i ih =>
    intro hi
    have e : zs.take (i + 1) = zs.take i ++ [zs[i]] := by
      rw [List.take_add_one, List.getElem?_eq_getElem (by omega)]
      rfl
    rw [e, sumsF_snoc]
    exact stepL_den (hz _ (List.getElem_mem _)) (ih (by omega))
theorem sumsL_den {ss : List (Int × Int)} {ps : List Rat} (h : okA ps) : ∀ r ∈ sumsL ss ps, r.den ≤ 81 := by
  intro r hr
  have h1 := sumsF_den (ss.zip ps) (fun z hm => h.2 _ (List.of_mem_zip (a := z.1) (b := z.2) hm).2) _ (Nat.le_refl _) r (by rw [List.take_length]; exact hr)
  have h4 : (ss.zip ps).length ≤ 4 := by
    rw [List.length_zip]
    have := h.1
    omega
  exact Nat.le_trans h1 (pow_small h4)
theorem sumsF_len (zs : List Zp) : ∀ i, i ≤ zs.length → (sumsF (zs.take i)).length = 2 ^ i := by
  intro i
  induction i with
  | zero =>
    intro _
    rfl
  | succ i ih =>
    intro hi
    have e : zs.take (i + 1) = zs.take i ++ [zs[i]] := by
      rw [List.take_add_one, List.getElem?_eq_getElem (by omega)]
      rfl
    rw [e, sumsF_snoc, stepL_len, ih (by omega), Nat.pow_succ, Nat.mul_comm]
theorem sumsL_len {ss : List (Int × Int)} {ps : List Rat} (h : okA ps) : (sumsL ss ps).length ≤ 1000 := by
  have h1 := sumsF_len (ss.zip ps) _ (Nat.le_refl _)
  rw [List.take_length] at h1
  have h4 : (ss.zip ps).length ≤ 4 := by
    rw [List.length_zip]
    have := h.1
    omega
  show (sumsF (ss.zip ps)).length ≤ 1000
  rw [h1]
  exact Nat.le_trans (Nat.pow_le_pow_right (show 0 < 2 by decide) h4) (by decide)
theorem step_num {x a : Rat} {i u : Nat} (h : x.den ≤ 3 ^ i) (ha : a.den ≤ 3) (hn : a.num.natAbs ≤ 40000) (hx : x.num.natAbs ≤ 40000 * (i * 3 ^ i)) : (x + a).num.natAbs ≤ 40000 * ((i + 1) * 3 ^ (i + 1)) := by
  have h1 := num_add x a
  have h2 : x.num.natAbs * a.den ≤ 40000 * (i * 3 ^ i) * 3 := Nat.mul_le_mul hx ha
  have h3 : a.num.natAbs * x.den ≤ 40000 * 3 ^ i := Nat.mul_le_mul hn h
  rw [Nat.pow_succ, Nat.add_mul, ← Nat.mul_assoc i]
  generalize 3 ^ i = t at *
  generalize i * t = w at *
  omega
def okP (ps : List Rat) : Prop := okA ps ∧ ∀ p ∈ ps, p.num.natAbs ≤ 4
theorem num_lo1 {x : Int × Int} {p : Rat} (hx : okS x) (hp : p.num.natAbs ≤ 4) : (lo1 x p).num.natAbs ≤ 40000 ∧ (hi1 x p).num.natAbs ≤ 40000 := by
  obtain ⟨s1, s2, s3⟩ := hx
  have a1 := num_mul p x.1
  have a2 := num_mul p x.2
  have b1 : p.num.natAbs * x.1.natAbs ≤ 4 * 10000 := Nat.mul_le_mul hp (by omega)
  have b2 : p.num.natAbs * x.2.natAbs ≤ 4 * 10000 := Nat.mul_le_mul hp (by omega)
  obtain ⟨_, _, e1⟩ := lo1_le x p
  obtain ⟨_, _, e2⟩ := hi1_le x p
  constructor
  · rcases e1 with e | e <;> (rw [e]; omega)
  · rcases e2 with e | e <;> (rw [e]; omega)
theorem num_fold (zs : List Zp) (hz : ∀ z ∈ zs, okS z.1 ∧ z.2.den ≤ 3 ∧ z.2.num.natAbs ≤ 4) : ∀ i, i ≤ zs.length → (loF (zs.take i)).num.natAbs ≤ 40000 * (i * 3 ^ i) ∧ (hiF (zs.take i)).num.natAbs ≤ 40000 * (i * 3 ^ i) := by
  intro i
  induction i with
  | zero =>
    intro _
    rw [List.take_zero]
    decide
  | succ i ih =>
    intro hi
    have e : zs.take (i + 1) = zs.take i ++ [zs[i]] := by
      rw [List.take_add_one, List.getElem?_eq_getElem (by omega)]
      rfl
    obtain ⟨h1, h2⟩ := ih (by omega)
    obtain ⟨d1, d2⟩ := pow_fold zs (fun z hm => (hz z hm).2.1) i (by omega)
    obtain ⟨q1, q2, q3⟩ := hz zs[i] (List.getElem_mem _)
    obtain ⟨n1, n2⟩ := num_lo1 q1 q3
    rw [e, loF_snoc, hiF_snoc]
    exact ⟨step_num (u := 0) d1 (Nat.le_trans (den_lo1 _ _) q2) n1 h1, step_num (u := 0) d2 (Nat.le_trans (den_hi1 _ _) q2) n2 h2⟩
theorem num_R {ss : List (Int × Int)} {ps : List Rat} (hs : ∀ x ∈ ss, okS x) (h : okP ps) : (loR ss ps).num.natAbs < 2 ^ 64 ∧ (hiR ss ps).num.natAbs < 2 ^ 64 := by
  have hz : ∀ z ∈ ss.zip ps, okS z.1 ∧ z.2.den ≤ 3 ∧ z.2.num.natAbs ≤ 4 := fun z hm =>
    have m := List.of_mem_zip (a := z.1) (b := z.2) hm
    ⟨hs _ m.1, h.1.2 _ m.2, h.2 _ m.2⟩
  obtain ⟨h1, h2⟩ := num_fold (ss.zip ps) hz _ (Nat.le_refl _)
  rw [List.take_length] at h1 h2
  have h4 : (ss.zip ps).length ≤ 4 := by
    rw [List.length_zip]
    have := h.1.1
    omega
  have b : (ss.zip ps).length * 3 ^ (ss.zip ps).length ≤ 4 * 81 := Nat.mul_le_mul h4 (pow_small h4)
  show (loF (ss.zip ps)).num.natAbs < _ ∧ (hiF (ss.zip ps)).num.natAbs < _
  constructor <;> omega
theorem shw_fr {r : Rat} (h : r.num.natAbs < 2 ^ 64) (hd : r.den < 2 ^ 64) : Shw (fr r) 4000 4 := by
  have q := Shw.tup (ds := [.int r.num, .int (r.den : Int)]) (k := 1921) (l := 2) (m := 2) (fun d hm => by
    simp only [List.mem_cons, List.not_mem_nil, or_false] at hm
    rcases hm with rfl | rfl
    · exact .int h
    · exact .int (by rw [Int.natAbs_natCast]; exact hd)) (Nat.le_refl 2)
  exact ⟨q.dat, q.shw, q.nod, q.dep, Nat.le_trans q.len (by decide)⟩
theorem shw_ends {ss : List (Int × Int)} {ps : List Rat} (hs : ∀ x ∈ ss, okS x) (h : okP ps) : Shw (endsD ss ps) 9000 6 := by
  obtain ⟨n1, n2⟩ := num_R hs h
  obtain ⟨d1, d2⟩ := den_R (ss := ss) h.1
  have q := Shw.tup (ds := [fr (loR ss ps), fr (hiR ss ps)]) (k := 4000) (l := 4) (m := 2) (fun d hm => by
    simp only [List.mem_cons, List.not_mem_nil, or_false] at hm
    rcases hm with rfl | rfl
    · exact shw_fr n1 (by omega)
    · exact shw_fr n2 (by omega)) (Nat.le_refl 2)
  exact ⟨q.dat, q.shw, q.nod, q.dep, Nat.le_trans q.len (by decide)⟩
theorem shw_all {rs : List Row} {ps : List Rat} (hl : rs.length ≤ 4) (hs : ∀ r ∈ rs, ∀ x ∈ r.2, okS x) (h : okP ps) : Shw (.lst [allD rs ps, allD rs ps]) 100000 10 := by
  have q := Shw.tup (ds := rs.map fun r => endsD r.2 ps) (k := 9000) (l := 6) (m := 4) (fun d hm => by
    obtain ⟨r, hr, rfl⟩ := List.mem_map.mp hm
    exact shw_ends (hs r hr) h) (by rw [List.length_map]; exact hl)
  have q2 := Shw.lst (ds := [allD rs ps, allD rs ps]) (m := 2) (fun d hm => by
    simp only [List.mem_cons, List.not_mem_nil, or_false, or_self] at hm
    rw [hm]
    exact q) (Nat.le_refl 2)
  exact ⟨q2.dat, q2.shw, q2.nod, q2.dep, Nat.le_trans q2.len (by decide)⟩
theorem shw_bls (a b : Bool) : Shw (.lst [.bl a, .bl b]) 100000 10 := by
  have q := Shw.lst (ds := [.bl a, .bl b]) (k := 5) (l := 2) (m := 2) (fun d hm => by
    simp only [List.mem_cons, List.not_mem_nil, or_false] at hm
    rcases hm with rfl | rfl
    · exact .bl a
    · exact .bl b) (Nat.le_refl 2)
  exact ⟨q.dat, q.shw, q.nod, Nat.le_trans q.dep (by decide), Nat.le_trans q.len (by decide)⟩
abbrev Jz := Row × (Int × Int)
def sureZ (zs : List Jz) (ps : List Rat) : Bool := !(zs.map fun z => decide (((z.2.1 : Int) : Rat) < hiR z.1.2 ps)).any id
def possZ (zs : List Jz) (ps : List Rat) : Bool := !(zs.map fun z => decide (((z.2.2 : Int) : Rat) < loR z.1.2 ps)).any id
theorem sureZ_snoc (zs : List Jz) (r : Row) (b : Int × Int) (ps : List Rat) : sureZ (zs ++ [(r, b)]) ps = (sureZ zs ps && decide (hiR r.2 ps ≤ ((b.1 : Int) : Rat))) := by
  unfold sureZ
  rw [List.map_append, List.any_append, Bool.not_or]
  congr 1
  show (!(decide (((b.1 : Int) : Rat) < hiR r.2 ps) || false)) = _
  rw [Bool.or_false]
  by_cases z : ((b.1 : Int) : Rat) < hiR r.2 ps
  · rw [decide_eq_true z, decide_eq_false (by grind)]
    rfl
  · rw [decide_eq_false z, decide_eq_true (by grind)]
    rfl
theorem possZ_snoc (zs : List Jz) (r : Row) (b : Int × Int) (ps : List Rat) : possZ (zs ++ [(r, b)]) ps = (possZ zs ps && decide (loR r.2 ps ≤ ((b.2 : Int) : Rat))) := by
  unfold possZ
  rw [List.map_append, List.any_append, Bool.not_or]
  congr 1
  show (!(decide (((b.2 : Int) : Rat) < loR r.2 ps) || false)) = _
  rw [Bool.or_false]
  by_cases z : ((b.2 : Int) : Rat) < loR r.2 ps
  · rw [decide_eq_true z, decide_eq_false (by grind)]
    rfl
  · rw [decide_eq_false z, decide_eq_true (by grind)]
    rfl
theorem le_int (r : Rat) (i : Int) : decide (r ≤ (i : Rat)) = decide (r.num ≤ i * (r.den : Int)) := by
  rw [decide_eq_decide, Rat.le_iff]
  show r.num * ((1 : Nat) : Int) ≤ i * (r.den : Int) ↔ _
  rw [show ((1 : Nat) : Int) = 1 from rfl, Int.mul_one]
def negD : Dt → Dt
  | .tup [.int a, .int b] => .tup [.int (0 - a), .int b]
  | _ => .non
theorem negD_fr (r : Rat) : negD (fr r) = fr (-r) := by
  show Dt.tup [.int (0 - r.num), .int r.den] = _
  unfold fr
  rw [Rat.neg_num, Rat.neg_den, Int.zero_sub]
end Cs

namespace Cs
open PySem PySem.Spec PyProof.Rows L2
local macro_rules | `(tactic| walk_at "gv") => `(tactic| repeat (first
  | ((with_reducible show Gw _ _ _ (Expr.Name _ _) _); first | refine gw_name 0 ?_ | refine gw_name 1 ?_ | refine gw_name 2 ?_ | refine gw_name 3 ?_ | refine gw_name 4 ?_ | refine gw_name 5 ?_ | refine gw_name 6 ?_ | refine gw_name 7 ?_ | refine gw_name 8 ?_ | refine gw_name 9 ?_ | refine gw_name 10 ?_ | refine gw_name 11 ?_ | refine gw_name 12 ?_ | refine gw_name 13 ?_ | refine gw_name 14 ?_)
  | ((with_reducible show Gw _ _ _ (Expr.Constant _ _ _) _); first | refine gw_int ?_ | refine gw_str ?_ | refine gw_bl ?_ | refine gw_non ?_)
  | ((with_reducible show Ga _ _ _ [] _); refine ga_nil ?_)
  | ((with_reducible show Ga _ _ _ (_ :: _) _); refine ga_cons ?_)
  | ((with_reducible show Gw _ _ _ (Expr.BoolOp _ [_] _) _); refine gw_one ?_)
  | ((with_reducible show Gw _ _ _ (Expr.BoolOp _ _ _) _); refine gw_and ?_)
  | ((with_reducible show Gw _ _ _ (Expr.UnaryOp _ _ _) _); refine gw_not ?_)
  | ((with_reducible show Gw _ _ _ (Expr.IfExp _ _ _ _) _); refine gw_if ?_)
  | ((with_reducible show Gw _ _ _ (Expr.Tuple [_, _] _ _) _); refine gw_tup2 ?_)
  | ((with_reducible show Gw _ _ _ (Expr.Subscript _ (Expr.Constant _ _ _) _) _); refine gw_ixT ?_)
  | ((with_reducible show Gw _ _ _ (Expr.BinOp _ _ _ _) _); first | refine gw_add ?_ | refine gw_sub ?_ | refine gw_mul ?_ | refine gw_fdiv ?_ | refine gw_mod ?_)
  | ((with_reducible show Gw _ _ _ (Expr.Compare _ [_] _ _) _); first | refine gw_gt ?_ | refine gw_lt ?_ | refine gw_le ?_ | refine gw_eq ?_)
  | ((with_reducible show Gw _ _ _ (Expr.Compare _ [_, _] _ _) _); refine gw_chain ?_)
  | ((with_reducible show Gt _ _ _ (Expr.BoolOp _ _ _) _); refine gt_bo ?_)
  | ((with_reducible show Gt _ _ _ (Expr.UnaryOp _ _ _) _); refine gt_not ?_)
  | ((with_reducible show Gt _ _ _ (Expr.Compare _ [_] _ _) _); first | refine gt_gt ?_ | refine gt_lt ?_ | refine gt_eq ?_)
  | ((with_reducible show Gt _ _ _ (Expr.Call _ _ _ _) _); refine gt_val ?_)
  | ((with_reducible show Gt _ _ _ (Expr.Name _ _) _); refine gt_val ?_)
  | ((with_reducible show Gb _ _ _ (Expr.BoolOp PySem.BoolOp.Or [_] _) _); refine gb_or1 ?_)
  | ((with_reducible show Gb _ _ _ (Expr.BoolOp PySem.BoolOp.And [_] _) _); refine gb_and1 ?_)
  | ((with_reducible show Gb _ _ _ (Expr.BoolOp PySem.BoolOp.Or _ _) _); refine gb_or ?_)
  | ((with_reducible show Gb _ _ _ (Expr.BoolOp PySem.BoolOp.And _ _) _); refine gb_and ?_)
  | ((with_reducible show RI _ _ _ _ _); refine ⟨_, _, rfl, rfl, trivial, ?_⟩)
  | ((with_reducible show (ite (_ = true) _ _)); first | refine ifT rfl ?_ | refine ifF rfl ?_)
  | ((with_reducible show Exists _); first | refine ⟨_, 0, _, rfl, rfl, rfl, ?_⟩ | refine ⟨_, 1, _, rfl, rfl, rfl, ?_⟩ | refine ⟨_, rfl, ?_⟩)))
section
variable {P : Program} {w : World} {K : PySem.W.Frag} {mg : Str → Option Value} {base : Heap} {Z : Ad}
abbrev nOnce : List Str := ["_law_pail_here", "_law_sheet_here", "_law_limits_here", "_law_shares", "_law_due", "_law_is_sure", "_law_is_some", "_law_k", "_law_some", "_law_low", "_law_high", "_law_told", "_law_far", "_law_title", "_law_each"]
def Tonce : Pt := fun ds n k => ds = [.pail] ∧ n < 1000000 ∧ ∀ n', n' ≤ n + 1000 → k (.bl true) n'
theorem sc_lonceright : FnScope nOnce ["_law_pail_here"] (defScope s_lonceright) := ⟨rfl, rfl, rfl, by decide +kernel, rfl, by decide +kernel, by decide +kernel⟩
theorem ok_lonceright (A : Al K mg Z) : FnG P w K mg base 10 Z.a_lonceright Z.d_lonceright ["_law_pail_here"] (spD K Z.C Tonce) := by
  refine okG_of A.k_lonceright.fn sc_lonceright (fun ds n k h => ?_) (fun cdv A' outer s H E pp av ds n kk hr hgd h => ?_)
  · obtain ⟨rfl, _⟩ := h
    rfl
  · obtain ⟨rfl, hn, hk⟩ := h
    show Gs _ [some .pail, none, none, none, none, none, none, none, none, none, none, none, none, none, none] _ _ _ _
    refine gs_cons (g1_set 1 sc_lonceright.nd ?_)
    refine gw_call (ok_lsheet A) (hr.mono (by decide)) A.k_lsheet.at_ A.k_lsheet.fn.kp A.k_lsheet.bd ?_
    walk_at "gv"
    refine ⟨rfl, by omega, fun xs rs hT n1 hn1 => ?_⟩
    obtain ⟨x1, x4, r1, r4⟩ := okT_len hT
    have hR := okT_R hT
    show Gs _ [some .pail, some (tabD xs rs), none, none, none, none, none, none, none, none, none, none, none, none, none] _ _ _ _
    refine gs_cons (g1_set 2 sc_lonceright.nd ?_)
    refine gw_call (ok_llimits A) (hr.mono (by decide)) A.k_llimits.at_ A.k_llimits.fn.kp A.k_llimits.bd ?_
    walk_at "gv"
    refine ⟨xs, rs, rfl, by omega, by omega, fun bs hbl hbs n2 hn2 => ?_⟩
    show Gs _ [some .pail, some (tabD xs rs), some (.tup (bs.map sd)), none, none, none, none, none, none, none, none, none, none, none, none] _ _ _ _
    refine gs_cons (g1_set 3 sc_lonceright.nd (gw_tuple A.n_tuple (ga_cons ?_)))
    refine gw_lc (own := [("_law_title", 13)]) [13] rfl sc_lonceright.nd (blkOk_by (N := nOnce) (sc := defScope s_lonceright) (by decide +kernel)) (by simp) (gi_tup ?_ pi_tup)
    refine gw_columns rfl A.cl A.pC (ok_Tcolumns A) (hr.mono (by decide)) A.b_Tcolumns ?_
    walk_at "gv"
    refine ⟨_, _, rfl, _, rfl, by rw [List.length_map]; omega, fun i ds m => ∃ ps : List Rat, ds = ps.map fr ∧ ps.length = i ∧ (∀ p ∈ ps, p.den ≤ 3 ∧ p.num.natAbs ≤ 4) ∧ m ≤ n2 + 2 * i ∧ i ≤ 4, ⟨[], rfl, rfl, (by intro p hp; cases hp), by omega, by omega⟩, fun s H Cc cl fp D i d ds m hdi hI => ?_, fun ds m hI => ?_⟩
    · obtain ⟨ps, rfl, hpl, hps, hm, hi4⟩ := hI
      have hix : i < xs.length := by
        have := (List.getElem?_eq_some_iff.mp hdi).1
        rwa [List.length_map] at this
      refine ⟨by simp, _, gg_name 13 sc_lonceright.nd, fun s H Cc cl fp => ?_⟩
      refine gw_call (ok_lpart A) (hr.mono (by decide)) A.k_lpart.at_ A.k_lpart.fn.kp A.k_lpart.bd ?_
      walk_at "gv"
      refine gw_call (ok_ldip A) (hr.mono (by decide)) A.k_ldip.at_ A.k_ldip.fn.kp A.k_ldip.bd ?_
      walk_at "gv"
      refine ⟨9, rfl, by decide, by decide, by omega, fun r q0 q1 => ?_⟩
      walk_at "gv"
      refine gw_call (ok_ldip A) (hr.mono (by decide)) A.k_ldip.at_ A.k_ldip.fn.kp A.k_ldip.bd ?_
      walk_at "gv"
      refine ⟨3, rfl, by decide, by decide, by omega, fun u u0 u1 => ?_⟩
      walk_at "gv"
      refine ⟨r - 4, (1 + u).toNat, by rw [Int.toNat_of_nonneg (by omega)], by omega, by omega, ps ++ [mkRat (r - 4) (1 + u).toNat], by rw [List.map_append]; rfl, by rw [List.length_append, hpl]; rfl, fun p hp => ?_, by omega, by omega⟩
      rcases List.mem_append.mp hp with z | z
      · exact hps p z
      · rw [List.mem_singleton.mp z]
        exact ⟨Nat.le_trans (den_mk _ _ (by omega)) (by omega), Nat.le_trans (num_mk _ _) (by omega)⟩
    · obtain ⟨ps, rfl, hpl, hps, hm, _⟩ := hI
      rw [List.length_map] at hpl hm
      walk_at "gv"
      have hA : okA ps := ⟨by omega, fun p hp => (hps p hp).1⟩
      have hP : okP ps := ⟨hA, fun p hp => (hps p hp).2⟩
      show Gs _ [some .pail, some (tabD xs rs), some (.tup (bs.map sd)), some (.tup (ps.map fr)), none, none, none, none, none, none, none, none, none, none, none] _ _ _ _
      refine gs_acc3 4 5 6 sc_lonceright.nd (by decide) (by decide) (by decide) rfl (na_of rfl) fun q => ?_
      show Gs _ [some .pail, some (tabD xs rs), some (.tup (bs.map sd)), some (.tup (ps.map fr)), some (.acc []), some (.bl true), some (.bl true), none, none, none, none, none, none, none, none] _ _ _ _
      refine gs_cons (g1_for [7] PassesOwn.never rfl (gi_range A.n_range (gw_lenT A.n_len A.ln A.lf A.b_Tlen (ok_Tlen A) (hr.mono (by decide)) ?_)))
      walk_at "gv"
      refine ⟨⟨_, _, rfl⟩, _, _, rfl, (rs.map rowD).length, rfl, by rw [List.length_map]; omega, (rs.map rowD).length, rfl, by rw [List.length_map]; omega, ?_⟩
      rw [List.length_map]
      refine ⟨fun i ts1 m1 => (∃ a b c d, ts1 = [some .pail, some (tabD xs rs), some (.tup (bs.map sd)), some (.tup (ps.map fr)), some (.acc ((rs.take i).map fun r => endsD r.2 ps)), some (.bl (sureZ ((rs.zip bs).take i) ps)), some (.bl (possZ ((rs.zip bs).take i) ps)), a, b, c, d, none, none, none, none]) ∧ m1 = m, ⟨⟨none, none, none, none, rfl⟩, rfl⟩, fun i d ts1 m1 hdi hI => ?_, fun ts1 m1 hI => ?_⟩
      · obtain ⟨⟨xa, xb, xc, xd, rfl⟩, rfl⟩ := hI
        have hi : i < rs.length ∧ d = .int (i : Int) := by
          obtain ⟨u, hu, rfl⟩ := map_at hdi
          have hl := (List.getElem?_eq_some_iff.mp hu).1
          rw [List.length_range] at hl
          rw [List.getElem?_range hl] at hu
          cases hu
          exact ⟨hl, rfl⟩
        obtain ⟨hi1, rfl⟩ := hi
        have hi2 : i < bs.length := by omega
        obtain ⟨row, hrow⟩ : ∃ row, rs[i]? = some row := ⟨_, List.getElem?_eq_getElem hi1⟩
        obtain ⟨b, hb⟩ : ∃ b, bs[i]? = some b := ⟨_, List.getElem?_eq_getElem hi2⟩
        have hrm := hT.2.2 row (List.mem_of_getElem? hrow)
        have hbo := hbs b (List.mem_of_getElem? hb)
        have hz : (rs.zip bs)[i]? = some (row, b) := List.getElem?_zip_eq_some.mpr ⟨hrow, hb⟩
        have ez : (rs.zip bs).take (i + 1) = (rs.zip bs).take i ++ [(row, b)] := by
          rw [List.take_add_one, hz]
          rfl
        have er : rs.take (i + 1) = rs.take i ++ [row] := by
          rw [List.take_add_one, hrow]
          rfl
        have hrD : (rs.map rowD)[i]? = some (rowD row) := by rw [List.getElem?_map, hrow]; rfl
        have hbD : (bs.map sd)[i]? = some (sd b) := by rw [List.getElem?_map, hb]; rfl
        have hlen : (rs.take i).length ≤ 4 := by rw [List.length_take]; omega
        generalize hdu : ((rs.take i).map fun r => endsD r.2 ps) = du
        generalize hsu : sureZ ((rs.zip bs).take i) ps = su
        generalize hpo : possZ ((rs.zip bs).take i) ps = po
        have hdl : du.length < 1000 := by rw [← hdu, List.length_map]; omega
        refine ⟨by simp, _, gg_name 7 sc_lonceright.nd, ?_⟩
        refine gs_drop 8 (gs_drop 9 (gs_drop 10 ?_))
        show Gs _ [some .pail, some (tabD xs rs), some (.tup (bs.map sd)), some (.tup (ps.map fr)), some (.acc du), some (.bl su), some (.bl po), some (.int (i : Int)), none, none, none, none, none, none, none] _ _ _ _
        refine gs_cons (g1_set 8 sc_lonceright.nd ?_)
        refine gw_call (ok_lsums A) (hr.mono (by decide)) A.k_lsums.at_ A.k_lsums.fn.kp A.k_lsums.bd (ga_cons (gw_ixT (gw_ixT (gw_rows rfl A.cl A.pR (ok_Trows A) (hr.mono (by decide)) A.b_Trows ?_))))
        walk_at "gv"
        refine ⟨_, _, rfl, ?_⟩
        walk_at "gv"
        refine ⟨_, i, rowD row, rfl, rfl, hrD, ?_⟩
        walk_at "gv"
        refine ⟨row.2, ps, rfl, by rw [hrm.1, hpl], hA, hrm.2, ?_⟩
        generalize hsm : sumsL row.2 ps = sm
        have hsd : ∀ r ∈ sm, r.den ≤ 81 := by rw [← hsm]; exact sumsL_den hA
        have hsn : sm ≠ [] := by
          rw [← hsm]
          intro z
          have := (sumsL_ends row.2 ps).2.1
          rw [z] at this
          cases this
        have hsl : sm.length ≤ 1000 := by
          rw [← hsm]
          exact sumsL_len hA
        show Gs _ [some .pail, some (tabD xs rs), some (.tup (bs.map sd)), some (.tup (ps.map fr)), some (.acc du), some (.bl su), some (.bl po), some (.int (i : Int)), some (.lst (sm.map fr)), none, none, none, none, none, none] _ _ _ _
        refine gs_cons (g1_set 9 sc_lonceright.nd ?_)
        refine gw_call (ok_lleast A) (hr.mono (by decide)) A.k_lleast.at_ A.k_lleast.fn.kp A.k_lleast.bd ?_
        walk_at "gv"
        refine ⟨sm, rfl, hsn, fun x hx => Nat.le_trans (hsd x hx) (by decide), ?_⟩
        have elo : leastL sm = loR row.2 ps := by rw [← hsm, least_lo]
        rw [elo]
        generalize hlo : loR row.2 ps = lo
        show Gs _ [some .pail, some (tabD xs rs), some (.tup (bs.map sd)), some (.tup (ps.map fr)), some (.acc du), some (.bl su), some (.bl po), some (.int (i : Int)), some (.lst (sm.map fr)), some (fr lo), none, none, none, none, none] _ _ _ _
        refine gs_cons (g1_set 10 sc_lonceright.nd ?_)
        refine gw_call (ok_lleast A) (hr.mono (by decide)) A.k_lleast.at_ A.k_lleast.fn.kp A.k_lleast.bd (ga_cons ?_)
        refine gw_lcD (own := [("_law_each", 14)]) [14] negD rfl sc_lonceright.nd (blkOk_by (N := nOnce) (sc := defScope s_lonceright) (by decide +kernel)) (by simp) (gi_lst ?_ pi_list)
        walk_at "gv"
        refine ⟨by rw [List.length_map]; exact hsl, fun s H Cc cl fp D d hd => ?_, ?_⟩
        · obtain ⟨r, hr1, rfl⟩ := List.mem_map.mp hd
          refine ⟨by simp, _, gg_name 14 sc_lonceright.nd, fun s H Cc cl fp => ?_⟩
          walk_at "gv"
          exact ⟨rfl, rfl⟩
        · walk_at "gv"
          have eneg : (sm.map fr).map negD = (sm.map fun r => -r).map fr := by
            rw [List.map_map, List.map_map]
            exact List.map_congr_left fun r _ => negD_fr r
          rw [eneg]
          refine ⟨sm.map fun r => -r, rfl, by simpa using hsn, fun x hx => ?_, ?_⟩
          · obtain ⟨y, hy, rfl⟩ := List.mem_map.mp hx
            rw [Rat.neg_den]
            exact Nat.le_trans (hsd y hy) (by decide)
          · have ehi : leastL (sm.map fun r => -r) = -hiR row.2 ps := by rw [← hsm, least_hi]
            rw [ehi]
            generalize hhi : hiR row.2 ps = hi
            show Gs _ [some .pail, some (tabD xs rs), some (.tup (bs.map sd)), some (.tup (ps.map fr)), some (.acc du), some (.bl su), some (.bl po), some (.int (i : Int)), some (.lst (sm.map fr)), some (fr lo), some (fr (-hi)), none, none, none, none] _ _ _ _
            refine gs_cons (g1_app 4 (pe_bm PySem.F.plainAttrs_list PySem.F.slot_list_append PySem.F.type_list_append mt_append (pv 4) (pa_cons pe_ge pa_nil)) ?_ (hna := na_but rfl))
            walk_at "gv"
            refine ⟨hdl, ?_⟩
            have eDu : du ++ [Dt.tup [fr lo, .tup [.int (0 - (-hi).num), .int ((-hi).den : Int)]]] = (rs.take (i + 1)).map fun r => endsD r.2 ps := by
              rw [er, List.map_append, hdu]
              show _ = du ++ [endsD row.2 ps]
              unfold endsD
              rw [hlo, hhi, Rat.neg_num, Rat.neg_den, Int.zero_sub, Int.neg_neg]
              rfl
            show Gs _ [some .pail, some (tabD xs rs), some (.tup (bs.map sd)), some (.tup (ps.map fr)), some (.acc (du ++ [Dt.tup [fr lo, .tup [.int (0 - (-hi).num), .int ((-hi).den : Int)]]])), some (.bl su), some (.bl po), some (.int (i : Int)), some (.lst (sm.map fr)), some (fr lo), some (fr (-hi)), none, none, none, none] _ _ _ _
            rw [eDu]
            generalize hdv : ((rs.take (i + 1)).map fun r => endsD r.2 ps) = dv
            refine gs_cons (g1_set 5 sc_lonceright.nd (Gw.imp (P := fun d n' => d = .bl (sureZ ((rs.zip bs).take (i + 1)) ps) ∧ n' = m1) (gw_and ?_) fun d n' hd => ?_))
            · rw [ez, sureZ_snoc, hsu, hhi]
              walk_at "gv"
              cases su with
              | false => exact ifF rfl ⟨rfl, rfl⟩
              | true =>
                refine ifT rfl ?_
                walk_at "gv"
                refine gw_ixT ?_
                walk_at "gv"
                refine ⟨_, i, sd b, rfl, rfl, hbD, ?_⟩
                walk_at "gv"
                refine ⟨_, _, rfl, rfl, cmul_l (by obtain ⟨q1, q2, q3⟩ := hbo; omega), ?_⟩
                walk_at "gv"
                refine ⟨?_, rfl⟩
                rw [le_int, Rat.neg_num, Rat.neg_den, Int.zero_sub, Int.neg_neg]
                rfl
            · obtain ⟨rfl, rfl⟩ := hd
              show Gs _ [some .pail, some (tabD xs rs), some (.tup (bs.map sd)), some (.tup (ps.map fr)), some (.acc dv), some (.bl (sureZ ((rs.zip bs).take (i + 1)) ps)), some (.bl po), some (.int (i : Int)), some (.lst (sm.map fr)), some (fr lo), some (fr (-hi)), none, none, none, none] _ _ _ _
              refine gs_one (g1_set 6 sc_lonceright.nd (Gw.imp (P := fun d n'' => d = .bl (possZ ((rs.zip bs).take (i + 1)) ps) ∧ n'' = n') (gw_and ?_) fun d n'' hd => ?_))
              · rw [ez, possZ_snoc, hpo, hlo]
                walk_at "gv"
                cases po with
                | false => exact ifF rfl ⟨rfl, rfl⟩
                | true =>
                  refine ifT rfl ?_
                  walk_at "gv"
                  refine gw_ixT ?_
                  walk_at "gv"
                  refine ⟨_, i, sd b, rfl, rfl, hbD, ?_⟩
                  walk_at "gv"
                  refine ⟨_, _, rfl, rfl, cmul_l (by obtain ⟨q1, q2, q3⟩ := hbo; omega), ?_⟩
                  walk_at "gv"
                  refine ⟨?_, rfl⟩
                  rw [le_int]
                  rfl
              · obtain ⟨rfl, rfl⟩ := hd
                refine ⟨⟨some (.int (i : Int)), some (.lst (sm.map fr)), some (fr lo), some (fr (-hi)), ?_⟩, rfl⟩
                rw [hdv]
                rfl
      · obtain ⟨⟨xa, xb, xc, xd, rfl⟩, rfl⟩ := hI
        rw [List.length_map, List.length_range, List.take_length, List.take_of_length_le (by rw [List.length_zip]; omega)]
        have hpx : ps.length = xs.length := hpl
        have hsh := shw_all r4 (fun r hr => (hT.2.2 r hr).2) hP
        refine gs_drop 7 (gs_drop 8 (gs_drop 9 (gs_drop 10 ?_)))
        show Gs _ [some .pail, some (tabD xs rs), some (.tup (bs.map sd)), some (.tup (ps.map fr)), some (.acc (rs.map fun r => endsD r.2 ps)), some (.bl (sureB rs bs ps)), some (.bl (possB rs bs ps)), none, none, none, none, none, none, none, none] _ _ _ _
        generalize hSu : sureB rs bs ps = Su
        generalize hPo : possB rs bs ps = Po
        refine gs_cons (g1_unless (gt_neS (gw_reprL A.n_repr hgd hr.units (ga_cons (gw_lst (ga_cons ?_))))))
        refine gw_call (ok_rowends A) (hr.mono (by decide)) A.k_rowends.at_ A.k_rowends.fn.kp A.k_rowends.bd ?_
        walk_at "gv"
        refine ⟨xs, rs, ps, rfl, hR, hpx, hA, ?_⟩
        walk_at "gv"
        refine gw_callK (ok_rowends A) (hr.mono (by decide)) A.k_rowends.at_ A.k_rowends.fn.kp (kb_rowends A.k_rowends.fn) (gk_cons (d := .tup (ps.map fr)) (gw_name 3 ⟨rfl, rfl⟩) (gk_cons (d := tabD xs rs) (gw_name 1 ⟨rfl, rfl⟩) (gk_nil ⟨rfl, [tabD xs rs, .tup (ps.map fr)], fun H vs h => isAll_sw2 h, xs, rs, ps, rfl, hR, hpx, hA, ?_⟩)))
        walk_at "gv"
        refine ⟨(by show 2 ≤ 1000; decide), ?_⟩
        walk_at "gv"
        refine ⟨⟨100000, hsh.wide, by decide⟩, ?_⟩
        refine gw_reprL A.n_repr hgd hr.units (ga_cons (gw_rep2 (gw_lst (ga_cons (gw_tupleAcc 4 A.n_tuple ?_)))))
        walk_at "gv"
        refine ⟨(by show 1 ≤ 1000; decide), ?_⟩
        walk_at "gv"
        refine ⟨rfl, ?_⟩
        walk_at "gv"
        refine ⟨⟨100000, hsh.wide, by decide⟩, ?_⟩
        refine ⟨_, _, rfl, rfl, _, rfl, ?_, ?_⟩
        · show (!(strD [allD rs ps, allD rs ps] == strD [allD rs ps, allD rs ps])) = false
          rw [beq_self_eq_true]
          rfl
        refine gs_cons (g1_set 11 sc_lonceright.nd (gw_lst (ga_cons ?_)))
        refine gw_call (ok_issureanswer A) (hr.mono (by decide)) A.k_issureanswer.at_ A.k_issureanswer.fn.kp A.k_issureanswer.bd ?_
        walk_at "gv"
        refine ⟨xs, rs, bs, ps, rfl, hR, hbl, hbs, hpx, hA, ?_⟩
        rw [hSu]
        walk_at "gv"
        refine gw_call (ok_ispossibleanswer A) (hr.mono (by decide)) A.k_ispossibleanswer.at_ A.k_ispossibleanswer.fn.kp A.k_ispossibleanswer.bd ?_
        walk_at "gv"
        refine ⟨xs, rs, bs, ps, rfl, hR, hbl, hbs, hpx, hA, ?_⟩
        rw [hPo]
        walk_at "gv"
        refine ⟨(by show 2 ≤ 1000; decide), ?_⟩
        show Gs _ [some .pail, some (tabD xs rs), some (.tup (bs.map sd)), some (.tup (ps.map fr)), some (.acc (rs.map fun r => endsD r.2 ps)), some (.bl Su), some (.bl Po), none, none, none, none, some (.lst [.bl Su, .bl Po]), none, none, none] _ _ _ _
        refine gs_cons (g1_unless ?_)
        walk_at "gv"
        refine gt_neS (gw_reprL A.n_repr hgd hr.units (ga_cons ?_))
        walk_at "gv"
        refine ⟨⟨100000, (shw_bls _ _).wide, by decide⟩, ?_⟩
        refine gw_reprL A.n_repr hgd hr.units (ga_cons (gw_lst ?_))
        walk_at "gv"
        refine ⟨(by show 2 ≤ 1000; decide), ?_⟩
        walk_at "gv"
        refine ⟨⟨100000, (shw_bls _ _).wide, by decide⟩, ?_⟩
        refine ⟨_, _, rfl, rfl, _, rfl, ifF (by show (!(strD [.bl Su, .bl Po] == strD [.bl Su, .bl Po])) = false; rw [beq_self_eq_true]; rfl) ?_⟩
        walk_at "gv"
        have fin : Gs (Fx.acc ⟨(cxOf CX0 P w K mg base nOnce "_law_once_right" (defScope s_lonceright) Z.a_lonceright cdv A' outer s H E).nox, Z.C, pp, av, none, H⟩ q) [some .pail, some (tabD xs rs), some (.tup (bs.map sd)), some (.tup (ps.map fr)), some (.acc (rs.map fun r => endsD r.2 ps)), some (.bl Su), some (.bl Po), none, none, none, none, some (.lst [.bl Su, .bl Po]), none, none, none] m1 ((defBody s_lonceright).drop 8) (fun _ _ => False) kk := by
          refine gs_drop 4 ?_
          show Gs _ [some .pail, some (tabD xs rs), some (.tup (bs.map sd)), some (.tup (ps.map fr)), none, some (.bl Su), some (.bl Po), none, none, none, none, some (.lst [.bl Su, .bl Po]), none, none, none] _ _ _ _
          refine gs_accL 12 sc_lonceright.nd (na_of rfl) (ga_cons ?_)
          refine gw_callK (ok_issureanswer A) (hr.mono (by decide)) A.k_issureanswer.at_ A.k_issureanswer.fn.kp (kb_sure A.k_issureanswer.fn) (gk_cons (d := .tup (ps.map fr)) (gw_name 3 ⟨rfl, rfl⟩) (gk_cons (d := .tup (bs.map sd)) (gw_name 2 ⟨rfl, rfl⟩) (gk_cons (d := tabD xs rs) (gw_name 1 ⟨rfl, rfl⟩) (gk_nil ⟨rfl, [tabD xs rs, .tup (bs.map sd), .tup (ps.map fr)], fun H vs h => isAll_sw3 h, xs, rs, bs, ps, rfl, hR, hbl, hbs, hpx, hA, ?_⟩))))
          rw [hSu]
          walk_at "gv"
          refine ⟨(by show 1 ≤ 1000; decide), fun q2 => ?_⟩
          show Gs _ [some .pail, some (tabD xs rs), some (.tup (bs.map sd)), some (.tup (ps.map fr)), none, some (.bl Su), some (.bl Po), none, none, none, none, some (.lst [.bl Su, .bl Po]), some (.acc [.bl Su]), none, none] _ _ _ _
          refine gs_cons (g1_app 12 (pe_bm PySem.F.plainAttrs_list PySem.F.slot_list_append PySem.F.type_list_append mt_append (pv 12) (pa_cons pe_ge pa_nil)) ?_ (hna := na_but rfl))
          refine gw_callK (ok_ispossibleanswer A) (hr.mono (by decide)) A.k_ispossibleanswer.at_ A.k_ispossibleanswer.fn.kp (kb_poss A.k_ispossibleanswer.fn) (gk_cons (d := .tup (ps.map fr)) (gw_name 3 ⟨rfl, rfl⟩) (gk_cons (d := .tup (bs.map sd)) (gw_name 2 ⟨rfl, rfl⟩) (gk_cons (d := tabD xs rs) (gw_name 1 ⟨rfl, rfl⟩) (gk_nil ⟨rfl, [tabD xs rs, .tup (bs.map sd), .tup (ps.map fr)], fun H vs h => isAll_sw3 h, xs, rs, bs, ps, rfl, hR, hbl, hbs, hpx, hA, ?_⟩))))
          rw [hPo]
          refine ⟨(by show 1 < 1000; decide), ?_⟩
          show Gs _ [some .pail, some (tabD xs rs), some (.tup (bs.map sd)), some (.tup (ps.map fr)), none, some (.bl Su), some (.bl Po), none, none, none, none, some (.lst [.bl Su, .bl Po]), some (.acc [.bl Su, .bl Po]), none, none] _ _ _ _
          refine gs_one (g1_ret (gw_eqS (gw_reprAcc 12 A.n_repr hgd hr.units ⟨⟨100000, (shw_bls _ _).wide, by decide⟩, gw_reprL A.n_repr hgd hr.units (ga_cons ?_)⟩)))
          walk_at "gv"
          refine ⟨⟨100000, (shw_bls _ _).wide, by decide⟩, _, _, rfl, rfl, ?_⟩
          show kk (.bl (strD [.bl Su, .bl Po] == strD [.bl Su, .bl Po])) _
          rw [beq_self_eq_true]
          exact hk _ (by omega)
        cases hv : Su with
        | false =>
          subst hv
          exact ifF rfl ⟨rfl, fin⟩
        | true =>
          refine ifT rfl ?_
          walk_at "gv"
          have e2 : Po = true := by rw [← hPo]; exact sure_poss hbs (hSu.trans hv)
          refine ⟨by rw [e2]; rfl, ?_⟩
          rw [hv] at fin
          exact fin
end
end Cs

namespace Cs
open PySem PySem.Spec PyProof.Rows L2
local macro_rules | `(tactic| walk_at "gv") => `(tactic| repeat (first
  | ((with_reducible show Gw _ _ _ (Expr.Name _ _) _); first | refine gw_name 0 ?_ | refine gw_name 1 ?_ | refine gw_name 2 ?_ | refine gw_name 3 ?_ | refine gw_name 4 ?_ | refine gw_name 5 ?_ | refine gw_name 6 ?_ | refine gw_name 7 ?_ | refine gw_name 8 ?_ | refine gw_name 9 ?_ | refine gw_name 10 ?_ | refine gw_name 11 ?_ | refine gw_name 12 ?_ | refine gw_name 13 ?_ | refine gw_name 14 ?_)
  | ((with_reducible show Gw _ _ _ (Expr.Constant _ _ _) _); first | refine gw_int ?_ | refine gw_str ?_ | refine gw_bl ?_ | refine gw_non ?_)
  | ((with_reducible show Ga _ _ _ [] _); refine ga_nil ?_)
  | ((with_reducible show Ga _ _ _ (_ :: _) _); refine ga_cons ?_)
  | ((with_reducible show Gw _ _ _ (Expr.BoolOp _ [_] _) _); refine gw_one ?_)
  | ((with_reducible show Gw _ _ _ (Expr.BoolOp _ _ _) _); refine gw_and ?_)
  | ((with_reducible show Gw _ _ _ (Expr.UnaryOp _ _ _) _); refine gw_not ?_)
  | ((with_reducible show Gw _ _ _ (Expr.IfExp _ _ _ _) _); refine gw_if ?_)
  | ((with_reducible show Gw _ _ _ (Expr.Tuple [_, _] _ _) _); refine gw_tup2 ?_)
  | ((with_reducible show Gw _ _ _ (Expr.Subscript _ (Expr.Constant _ _ _) _) _); refine gw_ixT ?_)
  | ((with_reducible show Gw _ _ _ (Expr.BinOp _ _ _ _) _); first | refine gw_add ?_ | refine gw_sub ?_ | refine gw_mul ?_ | refine gw_fdiv ?_ | refine gw_mod ?_)
  | ((with_reducible show Gw _ _ _ (Expr.Compare _ [_] _ _) _); first | refine gw_gt ?_ | refine gw_lt ?_ | refine gw_le ?_ | refine gw_eq ?_)
  | ((with_reducible show Gw _ _ _ (Expr.Compare _ [_, _] _ _) _); refine gw_chain ?_)
  | ((with_reducible show Gt _ _ _ (Expr.BoolOp _ _ _) _); refine gt_bo ?_)
  | ((with_reducible show Gt _ _ _ (Expr.UnaryOp _ _ _) _); refine gt_not ?_)
  | ((with_reducible show Gt _ _ _ (Expr.Compare _ [_] _ _) _); first | refine gt_gt ?_ | refine gt_lt ?_ | refine gt_eq ?_)
  | ((with_reducible show Gt _ _ _ (Expr.Call _ _ _ _) _); refine gt_val ?_)
  | ((with_reducible show Gt _ _ _ (Expr.Name _ _) _); refine gt_val ?_)
  | ((with_reducible show Gb _ _ _ (Expr.BoolOp PySem.BoolOp.Or [_] _) _); refine gb_or1 ?_)
  | ((with_reducible show Gb _ _ _ (Expr.BoolOp PySem.BoolOp.And [_] _) _); refine gb_and1 ?_)
  | ((with_reducible show Gb _ _ _ (Expr.BoolOp PySem.BoolOp.Or _ _) _); refine gb_or ?_)
  | ((with_reducible show Gb _ _ _ (Expr.BoolOp PySem.BoolOp.And _ _) _); refine gb_and ?_)
  | ((with_reducible show RI _ _ _ _ _); refine ⟨_, _, rfl, rfl, trivial, ?_⟩)
  | ((with_reducible show (ite (_ = true) _ _)); first | refine ifT rfl ?_ | refine ifF rfl ?_)
  | ((with_reducible show Exists _); first | refine ⟨_, 0, _, rfl, rfl, rfl, ?_⟩ | refine ⟨_, 1, _, rfl, rfl, rfl, ?_⟩ | refine ⟨_, rfl, ?_⟩)))
section
variable {P : Program} {w : World} {K : PySem.W.Frag} {mg : Str → Option Value} {base : Heap} {Z : Ad}
def Tright : Pt := fun ds n k => ds = [.pail] ∧ n < 100000 ∧ ∀ n', n' ≤ n + 2000 → k (.bl true) n'
theorem sc_lright : FnScope ["_law_pail_here"] ["_law_pail_here"] (defScope s_lright) := ⟨rfl, rfl, rfl, by decide +kernel, rfl, by decide +kernel, by decide +kernel⟩
theorem ok_lright (A : Al K mg Z) : FnG P w K mg base 11 Z.a_lright Z.d_lright ["_law_pail_here"] (spD K Z.C Tright) := by
  refine okG_of A.k_lright.fn sc_lright (fun ds n k h => ?_) (fun cdv A' outer s H E pp av ds n kk hr hgd h => ?_)
  · obtain ⟨rfl, _⟩ := h
    rfl
  · obtain ⟨rfl, hn, hk⟩ := h
    show Gs _ [some .pail] _ _ _ _
    refine gs_one (g1_ret (gw_and ?_))
    refine gw_callG (ok_lonceright A) hr hgd A.k_lonceright.at_ A.k_lonceright.fn.kp A.k_lonceright.bd ?_
    walk_at "gv"
    refine ⟨rfl, by omega, fun n1 h1 => ⟨true, rfl, ifT rfl ?_⟩⟩
    refine gw_one ?_
    refine gw_callG (ok_lonceright A) hr hgd A.k_lonceright.at_ A.k_lonceright.fn.kp A.k_lonceright.bd ?_
    walk_at "gv"
    exact ⟨rfl, by omega, fun n2 h2 => hk n2 (by omega)⟩
/-! ### the pail -/
theorem ge_val {X : Cx} {e : Expr} {σ : L2.St} {H : Hp} {Q : VK} (h : ∀ Q : VK, (∀ i : Int, Q (.int i) H) → Ge X e σ H Q) (k : ∀ i : Int, Q (.int i) H) : Ge X e σ H Q := h Q k
theorem ge_valN {X : Cx} {e : Expr} {σ : L2.St} {H : Hp} {Q : VK} (h : ∀ Q : VK, (∀ i : Int, 0 ≤ i → Q (.int i) H) → Ge X e σ H Q) (k : ∀ i : Int, 0 ≤ i → Q (.int i) H) : Ge X e σ H Q := h Q k
def pailSp (K : PySem.W.Frag) : Sp := fun vs H Q _ => ∃ (a : Addr) (ns : List Int) (t : Nat), vs = [.ref a, .int (t : Int)] ∧ SqL K H a (ns.map V.int) ∧ t ≤ 1 ∧
  ∀ (q : Addr) (H' : Hp) (h m : Int), H q = none → (∀ b o, H b = some o → H' b = some o) → H' q = some (.lst [.int h, .int m, .int 0]) → 0 ≤ h → 0 ≤ m → Q (.ref q) H'
theorem sc_lpail : FnScope ["_law_script", "_law_turn", "_law_mixed", "_law_each", "_law_own", "_law_held"] ["_law_script", "_law_turn"] (defScope s_lpail) := ⟨rfl, rfl, rfl, by decide +kernel, rfl, by decide +kernel, by decide +kernel⟩
theorem ok_lpail (A : Al K mg Z) : FnOk P w K mg base CX0 1 Z.a_lpail Z.d_lpail ["_law_script", "_law_turn"] (pailSp K) := by
  refine A.k_lpail.fn.ok sc_lpail (fun vs H Q E h => ?_) (fun cdv A' outer s H vs Q E hr h => ?_)
  · obtain ⟨a, ns, t, rfl, _⟩ := h
    rfl
  · obtain ⟨a, ns, t, rfl, hS, ht, hk⟩ := h
    refine ⟨_, pss_cons (ps_set (i := 2) sc_lpail.nd rfl (Or.inl rfl) (pe_op op_add pe_int (pe_op op_mul pe_int (pv 1))))
      (pss_cons (ps_for PassesOwn.never rfl (pi_list (pe_slice sl_list (pv 0) po_none (po_some pe_int))) (pg_name (i := 3) sc_lpail.nd rfl (Or.inl rfl))
        (pss_one (ps_set (i := 2) sc_lpail.nd rfl (Or.inl rfl) (pe_op op_mod (pe_callTy call_int1 (by rfl) A.n_int (by decide +kernel) (pa_cons (pe_op op_add (pe_op op_add (pe_op op_mul (pv 2) pe_int) (pe_op op_mul (pe_callTy call_int1 (by rfl) A.n_int (by decide +kernel) (pa_cons (pv 3) pa_nil)) pe_int)) pe_int) pa_nil)) pe_int))))
      (pss_cons (ps_set (i := 4) sc_lpail.nd rfl (Or.inl rfl) pe_ge) (pss_cons (ps_set (i := 5) sc_lpail.nd rfl (Or.inl rfl) pe_ge) (pss_one (ps_ret pe_ge))))), ?_⟩
    refine ⟨.int (t : Int), rfl, _, _, rfl, rfl, cmul_l (by decide), _, _, rfl, rfl, ?_⟩
    generalize hcut : cutV (ns.map V.int) none (some 47) = cut
    have hints : ∀ y ∈ cut, ∃ u : Int, y = .int u := fun y hy => by
      rw [← hcut] at hy
      unfold cutV at hy
      obtain ⟨u, _, rfl⟩ := List.mem_map.mp (List.mem_of_mem_drop (List.mem_of_mem_take hy))
      exact ⟨u, rfl⟩
    refine ⟨.ref a, rfl, 47, rfl, a, ns.map V.int, rfl, hS, fun q hq => ⟨q, rfl, ⟨_, .of upd_same⟩, ?_⟩⟩
    rw [hcut]
    refine for_list (K := K) (a := q) (xs := cut) (fun i σ H' => ∃ (m : Int) (e : Option V), σ = [some (.ref a), some (.int (t : Int)), some (.int m), e, none, none] ∧ H' = upd H q (.lst cut)) ⟨_, none, rfl, rfl⟩ (fun i σ H' _ hI => ?_) ?_ ?_
    · obtain ⟨m, e, rfl, rfl⟩ := hI
      exact .of upd_same
    · rintro i y σ H' hi ⟨m, e, rfl, rfl⟩
      obtain ⟨u, rfl⟩ := hints y (List.mem_of_getElem? hi)
      refine ⟨_, rfl, _, _, rfl, rfl, cmul_c (by decide), _, rfl, .inl ⟨u, rfl, _, _, rfl, rfl, cmul_c (by decide), _, _, rfl, rfl, _, _, rfl, rfl, .inl ⟨_, rfl, _, _, rfl, rfl, (by show (0 : Int) < 2147483497; decide), ?_⟩⟩⟩
      exact ⟨_, _, rfl, rfl⟩
    · rintro σ H' ⟨m, e, rfl, rfl⟩
      have kept : ∀ b o, H b = some o → (upd H q (.lst cut)) b = some o := fun b o eb => by
        rw [upd_ne (ne_of_none eb hq)]
        exact eb
      generalize upd H q (.lst cut) = H1 at kept
      have hS1 : SqL K H1 a (ns.map V.int) := sql_keep (W := ⟨K, Z.C, a, []⟩) (fun b o _ eb => kept b o eb) (by simp) hS
      show Ge _ _ _ _ _
      refine ge_val (fun Q0 hQ => ?_) fun own => ?_
      · refine ge_of (pe_ifExp (pt_cmpR op_lt (pv 1) (pe_callB call_len_seq (by rfl) A.n_len PySem.boot_len (pa_cons (pv 0) pa_nil)) (nomark _)) (pe_callTy call_int1 (by rfl) A.n_int (by decide +kernel) (pa_cons (pe_ix ix_list (pv 0) (pv 1) (fun _ _ => rfl)) pa_nil)) (pe_op op_add (pe_op op_mul pe_int (pv 1)) pe_int)) ?_
        refine ⟨_, rfl, _, rfl, a, ns.map V.int, rfl, .inl hS1, _, _, rfl, rfl, _, rfl, ?_⟩
        rw [List.length_map]
        by_cases hl : (t : Int) < (ns.length : Int)
        · rw [decide_eq_true hl]
          refine iteT ⟨_, rfl, _, rfl, a, ns.map V.int, (t : Int), .int (ns[t]'(by omega)), rfl, rfl, hS1, atI_nat ?_, .inl ⟨_, rfl, hQ _⟩⟩
          rw [List.getElem?_map, List.getElem?_eq_getElem (by omega)]
          rfl
        · rw [decide_eq_false hl]
          exact iteF ⟨_, rfl, _, _, rfl, rfl, cmul_l (by decide), _, _, rfl, rfl, hQ _⟩
      · show Ge _ _ _ _ _
        refine ge_valN (fun Q0 hQ => ?_) fun held h0 => ?_
        · refine ge_of (pe_ifExp (PW.pt (pw_or (pt_cmpR op_lt (pv 4) pe_int (nomark _)) (pw_or1 (pt_cmpR op_ge (pv 4) (pe_op op_pow pe_int pe_int) (nomark _))))) (pe_callB call_abs (by rfl) A.n_abs (by decide +kernel) (pa_cons (pv 4) pa_nil)) pe_int) ?_
          have habs : ∀ z : Int, Q0 (.int (if z < 0 then -z else z)) H1 := fun z => hQ _ (by split <;> omega)
          refine ⟨_, rfl, _, _, rfl, rfl, _, rfl, ?_⟩
          by_cases hl : own < 0
          · rw [decide_eq_true hl]
            exact iteT (iteT ⟨_, rfl, own, rfl, habs own⟩)
          · rw [decide_eq_false hl]
            refine iteF ⟨_, rfl, _, _, rfl, rfl, ⟨by decide, by decide, by decide⟩, _, _, rfl, rfl, _, rfl, ?_⟩
            cases hd : decide ((10 : Int) ^ (18 : Int).toNat ≤ own) with
            | true => exact iteT ⟨_, rfl, own, rfl, habs own⟩
            | false => exact iteF (hQ 0 (by decide))
        · show Ge _ _ _ _ _
          refine ge_of (pe_lst (pa_cons (pv 5) (pa_cons (pe_op op_mod (pe_callTy call_int1 (by rfl) A.n_int (by decide +kernel) (pa_cons (pe_op op_add (pe_op op_mul (pv 2) pe_int) (pv 4)) pa_nil)) pe_int) (pa_cons pe_int pa_nil)))) ?_
          refine ⟨_, rfl, _, rfl, _, _, rfl, rfl, cmul_c (by decide), _, rfl, _, _, rfl, rfl, .inl ⟨_, rfl, _, _, rfl, rfl, (by show (0 : Int) < 2147483489; decide), (by show 3 ≤ sizeLine; decide), fun p hp => ?_⟩⟩
          refine hk p _ held _ ?_ (fun b o eb => ?_) upd_same h0 (Int.emod_nonneg _ (by decide))
          · cases ep : H p with
            | none => rfl
            | some o =>
              rw [kept p o ep] at hp
              cases hp
          · rw [upd_ne (ne_of_none (kept b o eb) hp)]
            exact kept b o eb
end
end Cs

namespace Cs
open PySem PySem.Spec PyProof.Rows L2
section
variable {X : Cx} {x : Str} {p pos : Pos} {e : Expr} {es : List Expr} {t : TA} {sp : Sp} {k : Nat} {f : Addr} {fd : FuncData} {ps : List Str}
/-- a call where no display is under way -/
theorem pe_callG (G : FnG X.prog X.w X.K X.mg X.base k f fd ps sp) (hr : Room k X.A) (hgd : X.A.guards = some []) (hm : X.mg x = some (.ref f)) (hk : PySem.W.keepIn X.K (.ref f) = true) (hb : Binds X.K fd ps []) (ha : PA X (e :: es) t)
    (hg : Gl X x := by rfl) (hdb : (x == ("__debug__" : Str)) = false := by decide) (he : starEach (e :: es) X.env = (false, eval e X.env) :: starEach es X.env := by rfl) (hpl : (backTo pos (starEach es X.env)).any (·.1) = false := by rfl) :
    PE X (.Call (.Name x p) (e :: es) [] pos) (fun σ H Q => t σ H fun vs H1 => sp vs H1 Q E0) := by
  refine ⟨fun pins s σ H Q I hq => wpAny_Call_Name_kw (ld_glob I hg hm ?_ hdb)⟩
  refine PySem.W.callWith_K (h₀ := X.base) I.ok.mod.kin hk (thn (ha.run pos pins s σ H _ I hq) fun us s1 hz => ?_) he hpl
  obtain ⟨vs, H1, I1, rv, q⟩ := hz
  refine ⟨I1.kIn, ?_⟩
  have hl : (us ++ []).length = ps.length := by
    rw [List.append_nil, ← rv.length]
    exact G.many _ _ _ _ q
  refine wpAny_call (codeAny_mono (G.goes X.A X.stack s1 H1 ⟨us, []⟩ us vs Q E0 hr hgd I1.env0 (by simpa using hb s1 us I1.kIn hl) rv q) fun res s' hq => ?_)
  cases res with
  | error e => exact pass0 pins σ H1 s1 e s' I1 hq
  | ok fl =>
    cases fl with
    | ret u => exact I1.after hq
    | next => exact False.elim hq
    | brk => exact False.elim hq
    | cont => exact False.elim hq
/-- what is new is none of the written part -/
theorem pe_kn {te : TE} (h : PE X e te) : PE X e (fun σ H Q => te σ H fun v H1 => (∀ a o, v = .ref a → H1 a = some o → X.K.lookup a = none) → Q v H1) := by
  refine ⟨fun pins s σ H Q I hq => thn (h.run pins s σ H _ I hq) fun u s1 hz => ?_⟩
  obtain ⟨v, H1, I1, rv, q⟩ := hz
  exact ⟨v, H1, I1, rv, q fun a o _ e => inv_k I1 e⟩
end
section
variable {P : Program} {w : World} {K : PySem.W.Frag} {mg : Str → Option Value} {base : Heap} {Z : Ad}
abbrev s_law : Stmt := topS 66
def lawSp (K : PySem.W.Frag) : Sp := fun vs H Q _ => ∃ (a : Addr) (ns : List Int), vs = [.ref a] ∧ SqL K H a (ns.map V.int) ∧ ∀ H', Q (.bl true) H'
def teLaw (K : PySem.W.Frag) (C : Addr) : TE := fun σ H Q => tCons (fun σ H Q => tCall (pailSp K) [] E0 (tCons (tVar 0) (tCons (tVar 1) tNil)) σ H fun v H1 => (∀ a o, v = .ref a → H1 a = some o → K.lookup a = none) → Q v H1) tNil σ H fun vs H1 => spD K C Tright vs H1 Q E0
theorem sc_law : FnScope ["_law_script", "_law_turn"] ["_law_script"] (defScope s_law) := ⟨rfl, rfl, rfl, by decide +kernel, rfl, by decide +kernel, by decide +kernel⟩
theorem ok_law {f : Addr} {fd : FuncData} (F : Fun K "law" "law" s_law f fd) (A : Al K mg Z) : FnG P w K mg base 12 f fd ["_law_script"] (lawSp K) := by
  refine fnG_of F sc_law (fun vs H Q E h => ?_) (fun cdv A' outer s H vs Q E hr hgd h => ?_)
  · obtain ⟨a, ns, rfl, _⟩ := h
    rfl
  · obtain ⟨a, ns, rfl, hS, hk⟩ := h
    refine ⟨_, pss_one (ps_ret (pe_callB (cr_all rfl) (by rfl) A.n_all (by decide +kernel) (pa_cons (pe_lc (own := [("_law_turn", 1)]) (g := gName 1) (tt := tYes) (te := teLaw K Z.C) rfl sc_law.nd (pi_range1 rfl A.n_range (pa_cons pe_int pa_nil)) (blkOk_by (N := ["_law_script", "_law_turn"]) (sc := defScope s_law) (by decide +kernel))
      (fun _ _ _ _ _ => pg_name (i := 1) sc_law.nd rfl (by first | exact Or.inl rfl | exact Or.inr rfl) (by first | exact .inl rfl | exact .inr rfl)) (fun _ _ _ _ _ => pts_nil)
      (fun s1 H1 Cc cl fp => pe_callG (ok_lright A) hr hgd A.k_lright.at_ A.k_lright.fn.kp A.k_lright.bd (pa_cons (pe_kn (pe_call (ok_lpail A) (hr.mono (by decide)) rfl A.k_lpail.at_ A.k_lpail.fn.kp A.k_lpail.bd .nil pass0 (pa_cons (pv 0) (pa_cons (pv 1) pa_nil)))) pa_nil))) pa_nil))), ?_⟩
    refine ⟨2, rfl, by decide, by decide, fun D hD => ?_⟩
    refine ⟨fun i m H2 => m = 2 - i ∧ i ≤ 2 ∧ H2 D = some (.lst (List.replicate i (.bl true))) ∧ ∀ b o, H b = some o → H2 b = some o, ⟨2, rfl, by decide, upd_same, fun b o e => ?_⟩, ?_⟩
    · rw [upd_ne (ne_of_none e hD)]
      exact e
    · rintro i m H2 ⟨rfl, hi2, hd, kept⟩
      by_cases hlt : i < 2
      · refine .inr ⟨hlt, fun H' => H' D = some (.lst (List.replicate (i + 1) (.bl true))) ∧ ∀ b o, H b = some o → H' b = some o, fun H' hN => ⟨2 - (i + 1), by omega, rfl, by omega, hN.1, hN.2⟩, fun x H3 y => ?_⟩
        obtain ⟨rfl, rfl⟩ := y
        refine ⟨rfl, iteT (B := True) ?_⟩
        have hS2 : SqL K H3 a (ns.map V.int) := sql_keep (W := ⟨K, Z.C, a, []⟩) (fun b o _ eb => kept b o eb) (by simp) hS
        refine ⟨_, rfl, _, rfl, a, ns, i, by rw [Int.zero_add]; rfl, hS2, by omega, fun q H4 h m hq0 kq hq h0 m0 hkn => ?_⟩
        have hkq : K.lookup q = none := hkn q _ rfl hq
        refine ⟨q, [q], 0, [.pail], fun d _ => d = .bl true, ⟨by simp, fun b hb => ?_, fun b hb => ?_, h, m, 0, hq, h0, m0, by decide, by decide⟩, .cons is_pail .nil, ⟨rfl, by decide, fun n' _ => rfl⟩, fun v H5 d n5 k5 p5 i5 h5 => ?_⟩
        · rw [List.mem_singleton.mp hb]
          exact hkq
        · rw [List.mem_singleton.mp hb]
          exact ⟨_, hq⟩
        · subst h5
          rw [i5.bl]
          have qD : D ≠ q := fun z => by rw [← z, hd] at hq0; cases hq0
          have h5D := k5 D _ qD (kq D _ hd)
          refine ⟨_, h5D, by rw [List.length_replicate, sizeLine_eq]; omega, ?_, fun b o eb => ?_⟩
          · rw [upd_same, List.replicate_succ']
          · have bD : b ≠ D := fun z => by rw [z, hD] at eb; cases eb
            have bq : b ≠ q := fun z => by rw [← z, kept b o eb] at hq0; cases hq0
            rw [upd_ne bD]
            exact k5 b o bq (kq b o (kept b o eb))
      · have ei : i = 2 := by omega
        subst ei
        exact .inl ⟨Nat.le_refl 2, D, [true, true], rfl, .of hd, hk H2⟩
end
end Cs

namespace Cs
open PySem PySem.Spec PyProof.Rows L2
/-- the promise of a law's def at its only call: nothing but its script is tracked -/
theorem law_goes {P : Program} {w : World} {K : PySem.W.Frag} {mg mb : Str → Option Value} {k : Nat} {fa a : Addr} {fd : FuncData} {x : Str} {t : Shared} {its : List Value} {ns : List Int}
    (inK : K.In t.heap) (nsG : t.heap.Ns mainGlobals mg) (nsB : t.heap.Ns builtinsNs mb) (isB : ∀ y : Str, y ≠ "__name__" → mb y = bootBuiltins y) (noL : t.heap.NoLimit) (noG : t.gens = #[])
    (isA : t.heap.get? a = some { cls := .type "list", data := .seq its.toArray }) (hwhole : IntsAre its ns) (few : ns.length ≤ sizeLine) (room : Room k callerA)
    (G : ∀ base : Heap, K.In base → base.Ns mainGlobals mg → FnG P w K mg base k fa fd [x] (lawSp K)) (bind : ∀ (s : Shared) (u : Value), BindsTo s fd ⟨[u], []⟩ [(x, u)]) :
    codeAny (model P w) callerA (.call (.ref fa) ⟨[.ref a], []⟩) (fun r s' => r = .ok (.ret (.bool true)) ∧ OldK t.heap s'.heap ∧ s'.os = t.os ∧ AllBare s'.gens) t := by
  have vals := vals_ints hwhole
  obtain ⟨T, only, hS, hok, apart⟩ : ∃ T : Hp, (∀ b u, T b = some u → b = a ∧ ∃ o xs, u = .frz o (.lst xs)) ∧ SqL K T a (ns.map V.int) ∧ HOk P w T t.heap ∧ ∀ b, T b ≠ none → K.lookup b = none := by
    cases hk : K.lookup a with
    | some o =>
      have e := inK a o hk
      rw [isA] at e
      cases e
      exact ⟨fun _ => none, fun b u z => (by cases z), .inr ⟨_, its.toArray, _, hk, rfl, rfl, rfl, by rw [List.size_toArray, hwhole.length]; exact few, by simpa using vals⟩, fun b u z => (by have z' : (none : Option HO) = some u := z; cases z'), fun b z => absurd rfl z⟩
    | none =>
      refine ⟨fun b => if b = a then some (.frz { cls := .type "list", data := .seq its.toArray } (.lst (ns.map V.int))) else none, fun b u z => ?_, .inl (.inr ⟨_, if_pos rfl⟩), fun b u z => ?_, fun b z => ?_⟩
      · by_cases hb : b = a
        · have z2 := (if_pos hb).symm.trans z
          cases z2
          exact ⟨hb, _, _, rfl⟩
        · have z2 := (if_neg hb).symm.trans z
          cases z2
      · by_cases hb : b = a
        · have z2 := (if_pos hb).symm.trans z
          cases z2
          subst hb
          exact ⟨isA, by rw [List.length_map]; exact few, its, _, vals, isA⟩
        · have z2 := (if_neg hb).symm.trans z
          cases z2
      · by_cases hb : b = a
        · rw [hb]
          exact hk
        · exact absurd (if_neg hb) z
  have plain : ∀ {b : Addr} {o : Obj} {es : Array DictEntry} {ep : Nat}, t.heap.get? b = some o → o.data = .dict es ep → T b = none := fun {b o es ep} e d => by
    cases hq : T b with
    | none => rfl
    | some u =>
      obtain ⟨rfl, _⟩ := only b u hq
      rw [isA] at e
      cases e
      have d2 : Data.seq its.toArray _ = Data.dict es ep := d
      cases d2
  have nsH : ∀ {b : Addr} {m : Str → Option Value}, t.heap.Ns b m → (hidT t.heap T).Ns b m := fun {b m} hn => by
    obtain ⟨o, es, ep, e, d, r⟩ := hn
    exact ⟨o, es, ep, hidT_get e (plain e d), d, r⟩
  have inH : K.In (hidT t.heap T) := fun b o e => hidT_get (inK b o e) (by
    cases hq : T b with
    | none => rfl
    | some u =>
      have z := apart b (by rw [hq]; simp)
      rw [z] at e
      cases e)
  have modH : Mod K mg (hidT t.heap T) := by
    refine ⟨inH, nsH nsG, ⟨mb, nsH nsB, isB⟩, ?_⟩
    obtain ⟨mc, h1, h2⟩ := noL
    exact ⟨mc, nsH h1, h2⟩
  have ev : Env0 P w K mg (hidT t.heap T) callerA [] t T := ⟨rfl, modH, fun b o e => of_hidT e, Nat.le_of_eq (hidT_size _ _), trivial, fun b hb => (by cases hb), hok, .of_eq noG⟩
  have go := (G _ inH (nsH nsG)).goes callerA [] t T ⟨[.ref a], []⟩ [.ref a] [.ref a] (fun v _ => v = .bl true) (fun _ _ _ => False) room rfl ev (bind t (.ref a)) (.cons rfl .nil) ⟨a, ns, rfl, hS, fun _ => rfl⟩
  refine codeAny_mono go fun r s' hr => ?_
  cases r with
  | error e => exact hr.elim
  | ok fl =>
    cases fl with
    | next => exact hr.elim
    | brk => exact hr.elim
    | cont => exact hr.elim
    | ret u =>
      obtain ⟨v, H', os, bare, un, hok', ru, hv⟩ := hr
      have hv2 : v = .bl true := hv
      subst hv2
      obtain rfl : u = Value.bool true := ru
      refine ⟨rfl, OldK.of_keep fun b o e => ?_, os, bare⟩
      cases hq : T b with
      | none => exact un.keep b o e hq (fun z => by cases z) (by simp)
      | some u =>
        obtain ⟨rfl, ob, xs, rfl⟩ := only b u hq
        have z2 := un.frzs b ob _ hq
        obtain ⟨e1, _⟩ := hok b _ hq
        obtain ⟨e2, _⟩ := hok' b _ z2
        rw [e] at e1
        cases e1
        exact e2
theorem walk_goes {l : PySem.W.OpenLaw} {n k : Nat} {q : Program} {loose : List Str} {XP : (Str → Option Value) → Heap → Prop} {YP : World → Heap → Prop} {d : DefRec} {K : Params → PySem.W.Frag} {x : Str} (hn : l.most = some n) (hn2 : n ≤ sizeLine) (hdf : d.params.defaults = []) (room : Room k callerA)
    (inY : ∀ (w : World) (h : Heap), YP w h → (K w.params).In h)
    (F : ∀ (w : World) (mg : Str → Option Value) (fa : Addr) (h : Heap), (K w.params).In h → h.Ns mainGlobals mg → mg d.name = some (.ref fa) →
      ∃ fd : FuncData, (∀ (s : Shared) (u : Value), BindsTo s fd ⟨[u], []⟩ [(x, u)]) ∧ ∀ base : Heap, (K w.params).In base → base.Ns mainGlobals mg → FnG l.prog w (K w.params) mg base k fa fd [x] (lawSp (K w.params))) :
    PySem.W.WalkO q loose XP YP l.row.toRowW d [] (fun f vs => PySem.call f vs) := by
  refine Att.attach_call hn hdf fun w s₀ t mg mb fa o pm cd doc a its ns G Y ho hd hcd hmg hobj hints hlen hg => ?_
  obtain ⟨fd, hb, hF⟩ := F w mg fa _ (inY w _ Y) G.T.g hmg
  exact law_goes (inY w _ Y) G.T.g G.T.b G.T.builtins G.T.nolimit hg hobj hints (Nat.le_trans hlen hn2) room hF hb
end Cs

namespace Cs
open PySem PySem.Spec PyProof.Rows L2
def Bd (x qual : Str) (st : Stmt) (ps : List Str) : Prop := ∀ (kV doc pm : Value) (an : Option Addr) (cdv ct : Value) (us : List Value), us.length = ps.length → bindArgs (PySem.W.fnOf x qual (defArgs st) (defBody st) (defScope st) .none kV doc pm an cdv ct) ⟨us, []⟩ = pure (ps.zip us)
theorem bd_iswhole : Bd "is_whole" "is_whole" s_iswhole ["value"] := fun _ _ _ _ _ _ us hl => match us, hl with | [_], _ => rfl
theorem bd_isinteger : Bd "is_integer" "is_integer" s_isinteger ["value", "least", "greatest"] := fun _ _ _ _ _ _ us hl => match us, hl with | [_, _, _], _ => rfl
theorem bd_isname : Bd "is_name" "is_name" s_isname ["value"] := fun _ _ _ _ _ _ us hl => match us, hl with | [_], _ => rfl
theorem bd_istupleof : Bd "is_tuple_of" "is_tuple_of" s_istupleof ["value", "many"] := fun _ _ _ _ _ _ us hl => match us, hl with | [_, _], _ => rfl
theorem bd_common : Bd "common" "common" s_common ["one", "other"] := fun _ _ _ _ _ _ us hl => match us, hl with | [_, _], _ => rfl
theorem bd_lowest : Bd "lowest" "lowest" s_lowest ["top", "bottom"] := fun _ _ _ _ _ _ us hl => match us, hl with | [_, _], _ => rfl
theorem bd_plus : Bd "plus" "plus" s_plus ["one", "other"] := fun _ _ _ _ _ _ us hl => match us, hl with | [_, _], _ => rfl
theorem bd_times : Bd "times" "times" s_times ["one", "other"] := fun _ _ _ _ _ _ us hl => match us, hl with | [_, _], _ => rfl
theorem bd_isabove : Bd "is_above" "is_above" s_isabove ["one", "other"] := fun _ _ _ _ _ _ us hl => match us, hl with | [_, _], _ => rfl
theorem bd_isfraction : Bd "is_fraction" "is_fraction" s_isfraction ["value"] := fun _ _ _ _ _ _ us hl => match us, hl with | [_], _ => rfl
theorem bd_isstretch : Bd "is_stretch" "is_stretch" s_isstretch ["value", "least", "greatest"] := fun _ _ _ _ _ _ us hl => match us, hl with | [_, _, _], _ => rfl
theorem bd_isendstretch : Bd "is_end_stretch" "is_end_stretch" s_isendstretch ["value"] := fun _ _ _ _ _ _ us hl => match us, hl with | [_], _ => rfl
theorem bd_checkcolumns : Bd "check_columns" "check_columns" s_checkcolumns ["value"] := fun _ _ _ _ _ _ us hl => match us, hl with | [_], _ => rfl
theorem bd_isrow : Bd "is_row" "is_row" s_isrow ["value", "many", "names"] := fun _ _ _ _ _ _ us hl => match us, hl with | [_, _, _], _ => rfl
theorem bd_checkrows : Bd "check_rows" "check_rows" s_checkrows ["many", "value"] := fun _ _ _ _ _ _ us hl => match us, hl with | [_, _], _ => rfl
theorem bd_checktable : Bd "check_table" "check_table" s_checktable ["value"] := fun _ _ _ _ _ _ us hl => match us, hl with | [_], _ => rfl
theorem bd_checkbounds : Bd "check_bounds" "check_bounds" s_checkbounds ["table", "value"] := fun _ _ _ _ _ _ us hl => match us, hl with | [_, _], _ => rfl
theorem bd_isanswer : Bd "is_answer" "is_answer" s_isanswer ["table", "value"] := fun _ _ _ _ _ _ us hl => match us, hl with | [_, _], _ => rfl
theorem bd_checkanswer : Bd "check_answer" "check_answer" s_checkanswer ["table", "value"] := fun _ _ _ _ _ _ us hl => match us, hl with | [_, _], _ => rfl
theorem bd_endswith : Bd "ends_with" "ends_with" s_endswith ["stretches", "answer"] := fun _ _ _ _ _ _ us hl => match us, hl with | [_, _], _ => rfl
theorem bd_allrowends : Bd "all_row_ends" "all_row_ends" s_allrowends ["table", "answer"] := fun _ _ _ _ _ _ us hl => match us, hl with | [_, _], _ => rfl
theorem bd_issurefor : Bd "is_sure_for" "is_sure_for" s_issurefor ["table", "bounds", "answer"] := fun _ _ _ _ _ _ us hl => match us, hl with | [_, _, _], _ => rfl
theorem bd_ispossiblefor : Bd "is_possible_for" "is_possible_for" s_ispossiblefor ["table", "bounds", "answer"] := fun _ _ _ _ _ _ us hl => match us, hl with | [_, _, _], _ => rfl
theorem bd_checkquestion : Bd "check_question" "check_question" s_checkquestion ["table", "bounds"] := fun _ _ _ _ _ _ us hl => match us, hl with | [_, _], _ => rfl
theorem bd_rowends : Bd "row_ends" "row_ends" s_rowends ["table", "answer"] := fun _ _ _ _ _ _ us hl => match us, hl with | [_, _], _ => rfl
theorem bd_issureanswer : Bd "is_sure_answer" "is_sure_answer" s_issureanswer ["table", "bounds", "answer"] := fun _ _ _ _ _ _ us hl => match us, hl with | [_, _, _], _ => rfl
theorem bd_ispossibleanswer : Bd "is_possible_answer" "is_possible_answer" s_ispossibleanswer ["table", "bounds", "answer"] := fun _ _ _ _ _ _ us hl => match us, hl with | [_, _, _], _ => rfl
theorem bd_lpail : Bd "_law_pail" "_law_pail" s_lpail ["_law_script", "_law_turn"] := fun _ _ _ _ _ _ us hl => match us, hl with | [_, _], _ => rfl
theorem bd_ldip : Bd "_law_dip" "_law_dip" s_ldip ["_law_pail_here", "_law_size"] := fun _ _ _ _ _ _ us hl => match us, hl with | [_, _], _ => rfl
theorem bd_lany : Bd "_law_any" "_law_any" s_lany ["_law_pail_here", "_law_some"] := fun _ _ _ _ _ _ us hl => match us, hl with | [_, _], _ => rfl
theorem bd_lstretch : Bd "_law_stretch" "_law_stretch" s_lstretch ["_law_pail_here", "_law_wide"] := fun _ _ _ _ _ _ us hl => match us, hl with | [_, _], _ => rfl
theorem bd_lsheet : Bd "_law_sheet" "_law_sheet" s_lsheet ["_law_pail_here", "_law_columns_most", "_law_rows_most"] := fun _ _ _ _ _ _ us hl => match us, hl with | [_, _, _], _ => rfl
theorem bd_llimits : Bd "_law_limits" "_law_limits" s_llimits ["_law_pail_here", "_law_sheet_here"] := fun _ _ _ _ _ _ us hl => match us, hl with | [_, _], _ => rfl
theorem bd_lpart : Bd "_law_part" "_law_part" s_lpart ["_law_top", "_law_bottom"] := fun _ _ _ _ _ _ us hl => match us, hl with | [_, _], _ => rfl
theorem bd_lplus : Bd "_law_plus" "_law_plus" s_lplus ["_law_one", "_law_two"] := fun _ _ _ _ _ _ us hl => match us, hl with | [_, _], _ => rfl
theorem bd_lsums : Bd "_law_sums" "_law_sums" s_lsums ["_law_stretches", "_law_shares"] := fun _ _ _ _ _ _ us hl => match us, hl with | [_, _], _ => rfl
theorem bd_lleast : Bd "_law_least" "_law_least" s_lleast ["_law_some"] := fun _ _ _ _ _ _ us hl => match us, hl with | [_], _ => rfl
theorem bd_lonceright : Bd "_law_once_right" "_law_once_right" s_lonceright ["_law_pail_here"] := fun _ _ _ _ _ _ us hl => match us, hl with | [_], _ => rfl
theorem bd_lright : Bd "_law_right" "_law_right" s_lright ["_law_pail_here"] := fun _ _ _ _ _ _ us hl => match us, hl with | [_], _ => rfl
theorem bd_Tinit : Bd "__init__" "Table.__init__" s_Tinit ["self", "columns", "rows"] := fun _ _ _ _ _ _ us hl => match us, hl with | [_, _, _], _ => rfl
theorem bd_Tcolumns : Bd "columns" "Table.columns" s_Tcolumns ["self"] := fun _ _ _ _ _ _ us hl => match us, hl with | [_], _ => rfl
theorem bd_Trows : Bd "rows" "Table.rows" s_Trows ["self"] := fun _ _ _ _ _ _ us hl => match us, hl with | [_], _ => rfl
theorem bd_Tlen : Bd "__len__" "Table.__len__" s_Tlen ["self"] := fun _ _ _ _ _ _ us hl => match us, hl with | [_], _ => rfl
section
variable {K : PySem.W.Frag} {h : Heap} {mg : Str → Option Value}
theorem kn_ex {x : Str} {st : Stmt} {ps : List Str} {f : Addr} {oc kV dc pm cd ct : Value} {od an : Option Addr} {sl : Array (Option Value)} (X : K.In h) (G : h.Ns mainGlobals mg) (b : Bd x x st ps) (a : PySem.W.nsIn K mainGlobals x = some (some (.ref f)))
    (l : K.lookup f = some ⟨oc, od, .func (PySem.W.fnOf x x (defArgs st) (defBody st) (defScope st) .none kV dc pm an cd ct), sl⟩) (c : PySem.W.codeIn K cd x = true) (k : PySem.W.keepIn K (.ref f) = true) : ∃ f fd, Kn K mg x st ps f fd :=
  ⟨f, _, fun_mk (st := st) l c k, (fun_mk (st := st) l c k).binds b, PySem.W.mg_of X G a⟩
/-- what is known of a method: its def, how it binds -/
structure Mt (K : PySem.W.Frag) (x qual : Str) (st : Stmt) (ps : List Str) (f : Addr) (fd : FuncData) : Prop where
  fn : Fun K x qual st f fd
  bd : Binds K fd ps []
theorem mt_mk {x qual : Str} {st : Stmt} {ps : List Str} {f : Addr} {oc kV dc pm cd ct : Value} {od an : Option Addr} {sl : Array (Option Value)} (b : Bd x qual st ps)
    (l : K.lookup f = some ⟨oc, od, .func (PySem.W.fnOf x qual (defArgs st) (defBody st) (defScope st) .none kV dc pm an cd ct), sl⟩) (c : PySem.W.codeIn K cd qual = true) (k : PySem.W.keepIn K (.ref f) = true) : ∃ fd, Mt K x qual st ps f fd :=
  ⟨_, fun_mk (st := st) l c k, (fun_mk (st := st) l c k).binds b⟩
theorem gi_ex {x : Str} {i : Int} {t : Tok} (X : K.In h) (G : h.Ns mainGlobals mg) (a : PySem.W.nsIn K mainGlobals x = some (some (.int i t))) : ∃ t, mg x = some (.int i t) := ⟨t, PySem.W.mg_of X G a⟩
theorem gt_ex {x y : Str} {t : Tok} (X : K.In h) (G : h.Ns mainGlobals mg) (a : PySem.W.nsIn K mainGlobals x = some (some (.str y t))) : ∃ t, mg x = some (.str y t) := ⟨t, PySem.W.mg_of X G a⟩
def Zt (K : PySem.W.Frag) (z : Addr) : Prop := ∃ (o : Obj) (its : Array Value) (m : Nat), K.lookup z = some o ∧ o.cls = .type "tuple" ∧ o.data = .seq its m ∧ its.size ≤ sizeLine ∧ Vals [V.int 0, V.int 1] its.toList
theorem zero_ex {z : Addr} {od : Option Addr} {t0 t1 : Tok} {m : Nat} {sl : Array (Option Value)} (X : K.In h) (G : h.Ns mainGlobals mg) (a : PySem.W.nsIn K mainGlobals "ZERO" = some (some (.ref z))) (l : K.lookup z = some ⟨.type "tuple", od, .seq #[.int 0 t0, .int 1 t1] m, sl⟩) :
    ∃ z, mg "ZERO" = some (.ref z) ∧ Zt K z :=
  ⟨z, PySem.W.mg_of X G a, _, _, _, l, rfl, rfl, (by show 2 ≤ sizeLine; decide), .cons ⟨_, rfl⟩ (.cons ⟨_, rfl⟩ .nil)⟩
/-- the class -/
structure Tk (K : PySem.W.Frag) (mg : Str → Option Value) (C fI fC fR fL pc pr : Addr) (dI dC dR dL : FuncData) : Prop where
  g : mg "Table" = some (.ref C)
  mI : Mt K "__init__" "Table.__init__" s_Tinit ["self", "columns", "rows"] fI dI
  mC : Mt K "columns" "Table.columns" s_Tcolumns ["self"] fC dC
  mR : Mt K "rows" "Table.rows" s_Trows ["self"] fR dR
  mL : Mt K "__len__" "Table.__len__" s_Tlen ["self"] fL dL
  cl : Cls K C
  nH : NoAttr K C "heads"
  nL : NoAttr K C "lines"
  mkC : Mk K C fI
  pC : PropOf K C "columns" pc fC
  pR : PropOf K C "rows" pr fR
  ic : PySem.W.findIn K (.ref C) "__class__" = some (some (.builtin "object.__class__"))
  im : PySem.W.mroIn K C (.type "object") = some true
  ik : PySem.W.kitOne K (.ref C) (.ref C) = some true
  ln : PySem.W.findIn K (.ref C) "__len__" = some (some (.ref fL))
  lf : PySem.W.isFn K (.ref fL) = true
theorem tk_ex {C fI fC fR fL pc pr : Addr} {rc rr : List Value}
    {oc1 kV1 dc1 pm1 cd1 ct1 oc2 kV2 dc2 pm2 cd2 ct2 oc3 kV3 dc3 pm3 cd3 ct3 oc4 kV4 dc4 pm4 cd4 ct4 : Value} {od1 an1 od2 an2 od3 an3 od4 an4 : Option Addr} {sl1 sl2 sl3 sl4 : Array (Option Value)}
    (X : K.In h) (G : h.Ns mainGlobals mg) (a : PySem.W.nsIn K mainGlobals "Table" = some (some (.ref C)))
    (fi : PySem.W.findIn K (.ref C) "__init__" = some (some (.ref fI))) (ii : PySem.W.isFn K (.ref fI) = true) (l1 : K.lookup fI = some ⟨oc1, od1, .func (PySem.W.fnOf "__init__" "Table.__init__" (defArgs s_Tinit) (defBody s_Tinit) (defScope s_Tinit) .none kV1 dc1 pm1 an1 cd1 ct1), sl1⟩) (c1 : PySem.W.codeIn K cd1 "Table.__init__" = true) (k1 : PySem.W.keepIn K (.ref fI) = true)
    (pa : PySem.W.findIn K (.ref C) "columns" = some (some (.ref pc))) (pg : PySem.W.specialIn K (.ref pc) "__get__" = some (some (.builtin "property.__get__"))) (pt : PySem.W.takesIn K (.ref pc) = some true) (pq : PySem.W.recIn K pc "property" = some (.ref fC :: rc))
    (l2 : K.lookup fC = some ⟨oc2, od2, .func (PySem.W.fnOf "columns" "Table.columns" (defArgs s_Tcolumns) (defBody s_Tcolumns) (defScope s_Tcolumns) .none kV2 dc2 pm2 an2 cd2 ct2), sl2⟩) (c2 : PySem.W.codeIn K cd2 "Table.columns" = true) (k2 : PySem.W.keepIn K (.ref fC) = true)
    (ra : PySem.W.findIn K (.ref C) "rows" = some (some (.ref pr))) (rg : PySem.W.specialIn K (.ref pr) "__get__" = some (some (.builtin "property.__get__"))) (rt : PySem.W.takesIn K (.ref pr) = some true) (rq : PySem.W.recIn K pr "property" = some (.ref fR :: rr))
    (l3 : K.lookup fR = some ⟨oc3, od3, .func (PySem.W.fnOf "rows" "Table.rows" (defArgs s_Trows) (defBody s_Trows) (defScope s_Trows) .none kV3 dc3 pm3 an3 cd3 ct3), sl3⟩) (c3 : PySem.W.codeIn K cd3 "Table.rows" = true) (k3 : PySem.W.keepIn K (.ref fR) = true)
    (ln : PySem.W.findIn K (.ref C) "__len__" = some (some (.ref fL))) (lf : PySem.W.isFn K (.ref fL) = true) (l4 : K.lookup fL = some ⟨oc4, od4, .func (PySem.W.fnOf "__len__" "Table.__len__" (defArgs s_Tlen) (defBody s_Tlen) (defScope s_Tlen) .none kV4 dc4 pm4 an4 cd4 ct4), sl4⟩) (c4 : PySem.W.codeIn K cd4 "Table.__len__" = true) (k4 : PySem.W.keepIn K (.ref fL) = true)
    (e1 : PySem.W.plainGet K C Str.empty = true) (e2 : PySem.W.hasDictIn K C = true) (e3 : PySem.W.plainOver K C = true) (e4 : PySem.W.findIn K (.ref C) "__setattr__" = some (some (.builtin "object.__setattr__"))) (e5 : PySem.W.makesIn K C = true) (e6 : PySem.W.keepIn K (.ref C) = true)
    (nH : PySem.W.findIn K (.ref C) "heads" = some none) (nL : PySem.W.findIn K (.ref C) "lines" = some none) (ic : PySem.W.findIn K (.ref C) "__class__" = some (some (.builtin "object.__class__"))) (im : PySem.W.mroIn K C (.type "object") = some true) :
    ∃ C fI fC fR fL pc pr dI dC dR dL, Tk K mg C fI fC fR fL pc pr dI dC dR dL := by
  obtain ⟨dI, m1⟩ := mt_mk bd_Tinit l1 c1 k1
  obtain ⟨dC, m2⟩ := mt_mk bd_Tcolumns l2 c2 k2
  obtain ⟨dR, m3⟩ := mt_mk bd_Trows l3 c3 k3
  obtain ⟨dL, m4⟩ := mt_mk bd_Tlen l4 c4 k4
  exact ⟨C, fI, fC, fR, fL, pc, pr, dI, dC, dR, dL, PySem.W.mg_of X G a, m1, m2, m3, m4, ⟨e1, e2, e3, e4⟩, nH, nL, ⟨e5, fi, ii, e6⟩, ⟨pa, pg, pt, _, pq⟩, ⟨ra, rg, rt, _, rq⟩, ic, im, if_pos (beq_self_eq_true _), ln, lf⟩
theorem law_ex {l : PySem.W.OpenLaw} {w : World} {fa f : Addr} {oc kV dc pm cd ct : Value} {od an : Option Addr} {sl : Array (Option Value)} {Z : Ad} (X : K.In h) (G : h.Ns mainGlobals mg) (hfa : mg "law" = some (.ref fa)) (A : Al K mg Z) (a : PySem.W.nsIn K mainGlobals "law" = some (some (.ref f)))
    (l4 : K.lookup f = some ⟨oc, od, .func (PySem.W.fnOf "law" "law" (defArgs s_law) (defBody s_law) (defScope s_law) .none kV dc pm an cd ct), sl⟩) (c4 : PySem.W.codeIn K cd "law" = true) (k4 : PySem.W.keepIn K (.ref f) = true) :
    ∃ fd : FuncData, (∀ (s : Shared) (v : Value), BindsTo s fd ⟨[v], []⟩ [("_law_script", v)]) ∧ ∀ base : Heap, K.In base → base.Ns mainGlobals mg → FnG l.prog w K mg base 12 fa fd ["_law_script"] (lawSp K) := by
  have e := hfa.symm.trans (PySem.W.mg_of X G a)
  cases e
  exact ⟨_, fun s v => .of_eq rfl, fun base _ _ => ok_law (fun_mk (st := s_law) l4 c4 k4) A⟩
end
end Cs

open PySem PySem.W PyProof.Rows in
set_option maxRecDepth 100000 in
set_option maxHeartbeats 0 in
theorem PySem.Challenge.cw_cornersure_k39_whole_rows_by_answers_holds : PySem.Challenge.rw_cornersure_k39_whole_rows_by_answers.Holds := by
  w_on; o_law; k_head; (case hw => w_witness2)
  k_fill
  refine Cs.walk_goes (l := PySem.Challenge.rw_cornersure_k39_whole_rows_by_answers) (n := 63) (k := 12) (x := "_law_script") rfl (by decide) rfl ⟨rfl, by decide, by decide⟩ (fun w h Y => PySem.W.kIn_of Y) ?F
  case F =>
    intro w mg fa h KX G hmg
    obtain ⟨a_iswhole, d_iswhole, k_iswhole⟩ := (by
      refine' Cs.kn_ex KX G Cs.bd_iswhole ?a ?l ?c ?k
      (case a => k_is)
      (case l => k_is)
      (case c => k_is)
      (case k => k_is)
      : ∃ a d, Cs.Kn _ mg "is_whole" Cs.s_iswhole ["value"] a d)
    obtain ⟨a_isinteger, d_isinteger, k_isinteger⟩ := (by
      refine' Cs.kn_ex KX G Cs.bd_isinteger ?a ?l ?c ?k
      (case a => k_is)
      (case l => k_is)
      (case c => k_is)
      (case k => k_is)
      : ∃ a d, Cs.Kn _ mg "is_integer" Cs.s_isinteger ["value", "least", "greatest"] a d)
    obtain ⟨a_isname, d_isname, k_isname⟩ := (by
      refine' Cs.kn_ex KX G Cs.bd_isname ?a ?l ?c ?k
      (case a => k_is)
      (case l => k_is)
      (case c => k_is)
      (case k => k_is)
      : ∃ a d, Cs.Kn _ mg "is_name" Cs.s_isname ["value"] a d)
    obtain ⟨a_istupleof, d_istupleof, k_istupleof⟩ := (by
      refine' Cs.kn_ex KX G Cs.bd_istupleof ?a ?l ?c ?k
      (case a => k_is)
      (case l => k_is)
      (case c => k_is)
      (case k => k_is)
      : ∃ a d, Cs.Kn _ mg "is_tuple_of" Cs.s_istupleof ["value", "many"] a d)
    obtain ⟨a_common, d_common, k_common⟩ := (by
      refine' Cs.kn_ex KX G Cs.bd_common ?a ?l ?c ?k
      (case a => k_is)
      (case l => k_is)
      (case c => k_is)
      (case k => k_is)
      : ∃ a d, Cs.Kn _ mg "common" Cs.s_common ["one", "other"] a d)
    obtain ⟨a_lowest, d_lowest, k_lowest⟩ := (by
      refine' Cs.kn_ex KX G Cs.bd_lowest ?a ?l ?c ?k
      (case a => k_is)
      (case l => k_is)
      (case c => k_is)
      (case k => k_is)
      : ∃ a d, Cs.Kn _ mg "lowest" Cs.s_lowest ["top", "bottom"] a d)
    obtain ⟨a_plus, d_plus, k_plus⟩ := (by
      refine' Cs.kn_ex KX G Cs.bd_plus ?a ?l ?c ?k
      (case a => k_is)
      (case l => k_is)
      (case c => k_is)
      (case k => k_is)
      : ∃ a d, Cs.Kn _ mg "plus" Cs.s_plus ["one", "other"] a d)
    obtain ⟨a_times, d_times, k_times⟩ := (by
      refine' Cs.kn_ex KX G Cs.bd_times ?a ?l ?c ?k
      (case a => k_is)
      (case l => k_is)
      (case c => k_is)
      (case k => k_is)
      : ∃ a d, Cs.Kn _ mg "times" Cs.s_times ["one", "other"] a d)
    obtain ⟨a_isabove, d_isabove, k_isabove⟩ := (by
      refine' Cs.kn_ex KX G Cs.bd_isabove ?a ?l ?c ?k
      (case a => k_is)
      (case l => k_is)
      (case c => k_is)
      (case k => k_is)
      : ∃ a d, Cs.Kn _ mg "is_above" Cs.s_isabove ["one", "other"] a d)
    obtain ⟨a_isfraction, d_isfraction, k_isfraction⟩ := (by
      refine' Cs.kn_ex KX G Cs.bd_isfraction ?a ?l ?c ?k
      (case a => k_is)
      (case l => k_is)
      (case c => k_is)
      (case k => k_is)
      : ∃ a d, Cs.Kn _ mg "is_fraction" Cs.s_isfraction ["value"] a d)
    obtain ⟨a_isstretch, d_isstretch, k_isstretch⟩ := (by
      refine' Cs.kn_ex KX G Cs.bd_isstretch ?a ?l ?c ?k
      (case a => k_is)
      (case l => k_is)
      (case c => k_is)
      (case k => k_is)
      : ∃ a d, Cs.Kn _ mg "is_stretch" Cs.s_isstretch ["value", "least", "greatest"] a d)
    obtain ⟨a_isendstretch, d_isendstretch, k_isendstretch⟩ := (by
      refine' Cs.kn_ex KX G Cs.bd_isendstretch ?a ?l ?c ?k
      (case a => k_is)
      (case l => k_is)
      (case c => k_is)
      (case k => k_is)
      : ∃ a d, Cs.Kn _ mg "is_end_stretch" Cs.s_isendstretch ["value"] a d)
    obtain ⟨a_checkcolumns, d_checkcolumns, k_checkcolumns⟩ := (by
      refine' Cs.kn_ex KX G Cs.bd_checkcolumns ?a ?l ?c ?k
      (case a => k_is)
      (case l => k_is)
      (case c => k_is)
      (case k => k_is)
      : ∃ a d, Cs.Kn _ mg "check_columns" Cs.s_checkcolumns ["value"] a d)
    obtain ⟨a_isrow, d_isrow, k_isrow⟩ := (by
      refine' Cs.kn_ex KX G Cs.bd_isrow ?a ?l ?c ?k
      (case a => k_is)
      (case l => k_is)
      (case c => k_is)
      (case k => k_is)
      : ∃ a d, Cs.Kn _ mg "is_row" Cs.s_isrow ["value", "many", "names"] a d)
    obtain ⟨a_checkrows, d_checkrows, k_checkrows⟩ := (by
      refine' Cs.kn_ex KX G Cs.bd_checkrows ?a ?l ?c ?k
      (case a => k_is)
      (case l => k_is)
      (case c => k_is)
      (case k => k_is)
      : ∃ a d, Cs.Kn _ mg "check_rows" Cs.s_checkrows ["many", "value"] a d)
    obtain ⟨a_checktable, d_checktable, k_checktable⟩ := (by
      refine' Cs.kn_ex KX G Cs.bd_checktable ?a ?l ?c ?k
      (case a => k_is)
      (case l => k_is)
      (case c => k_is)
      (case k => k_is)
      : ∃ a d, Cs.Kn _ mg "check_table" Cs.s_checktable ["value"] a d)
    obtain ⟨a_checkbounds, d_checkbounds, k_checkbounds⟩ := (by
      refine' Cs.kn_ex KX G Cs.bd_checkbounds ?a ?l ?c ?k
      (case a => k_is)
      (case l => k_is)
      (case c => k_is)
      (case k => k_is)
      : ∃ a d, Cs.Kn _ mg "check_bounds" Cs.s_checkbounds ["table", "value"] a d)
    obtain ⟨a_isanswer, d_isanswer, k_isanswer⟩ := (by
      refine' Cs.kn_ex KX G Cs.bd_isanswer ?a ?l ?c ?k
      (case a => k_is)
      (case l => k_is)
      (case c => k_is)
      (case k => k_is)
      : ∃ a d, Cs.Kn _ mg "is_answer" Cs.s_isanswer ["table", "value"] a d)
    obtain ⟨a_checkanswer, d_checkanswer, k_checkanswer⟩ := (by
      refine' Cs.kn_ex KX G Cs.bd_checkanswer ?a ?l ?c ?k
      (case a => k_is)
      (case l => k_is)
      (case c => k_is)
      (case k => k_is)
      : ∃ a d, Cs.Kn _ mg "check_answer" Cs.s_checkanswer ["table", "value"] a d)
    obtain ⟨a_endswith, d_endswith, k_endswith⟩ := (by
      refine' Cs.kn_ex KX G Cs.bd_endswith ?a ?l ?c ?k
      (case a => k_is)
      (case l => k_is)
      (case c => k_is)
      (case k => k_is)
      : ∃ a d, Cs.Kn _ mg "ends_with" Cs.s_endswith ["stretches", "answer"] a d)
    obtain ⟨a_allrowends, d_allrowends, k_allrowends⟩ := (by
      refine' Cs.kn_ex KX G Cs.bd_allrowends ?a ?l ?c ?k
      (case a => k_is)
      (case l => k_is)
      (case c => k_is)
      (case k => k_is)
      : ∃ a d, Cs.Kn _ mg "all_row_ends" Cs.s_allrowends ["table", "answer"] a d)
    obtain ⟨a_issurefor, d_issurefor, k_issurefor⟩ := (by
      refine' Cs.kn_ex KX G Cs.bd_issurefor ?a ?l ?c ?k
      (case a => k_is)
      (case l => k_is)
      (case c => k_is)
      (case k => k_is)
      : ∃ a d, Cs.Kn _ mg "is_sure_for" Cs.s_issurefor ["table", "bounds", "answer"] a d)
    obtain ⟨a_ispossiblefor, d_ispossiblefor, k_ispossiblefor⟩ := (by
      refine' Cs.kn_ex KX G Cs.bd_ispossiblefor ?a ?l ?c ?k
      (case a => k_is)
      (case l => k_is)
      (case c => k_is)
      (case k => k_is)
      : ∃ a d, Cs.Kn _ mg "is_possible_for" Cs.s_ispossiblefor ["table", "bounds", "answer"] a d)
    obtain ⟨a_checkquestion, d_checkquestion, k_checkquestion⟩ := (by
      refine' Cs.kn_ex KX G Cs.bd_checkquestion ?a ?l ?c ?k
      (case a => k_is)
      (case l => k_is)
      (case c => k_is)
      (case k => k_is)
      : ∃ a d, Cs.Kn _ mg "check_question" Cs.s_checkquestion ["table", "bounds"] a d)
    obtain ⟨a_rowends, d_rowends, k_rowends⟩ := (by
      refine' Cs.kn_ex KX G Cs.bd_rowends ?a ?l ?c ?k
      (case a => k_is)
      (case l => k_is)
      (case c => k_is)
      (case k => k_is)
      : ∃ a d, Cs.Kn _ mg "row_ends" Cs.s_rowends ["table", "answer"] a d)
    obtain ⟨a_issureanswer, d_issureanswer, k_issureanswer⟩ := (by
      refine' Cs.kn_ex KX G Cs.bd_issureanswer ?a ?l ?c ?k
      (case a => k_is)
      (case l => k_is)
      (case c => k_is)
      (case k => k_is)
      : ∃ a d, Cs.Kn _ mg "is_sure_answer" Cs.s_issureanswer ["table", "bounds", "answer"] a d)
    obtain ⟨a_ispossibleanswer, d_ispossibleanswer, k_ispossibleanswer⟩ := (by
      refine' Cs.kn_ex KX G Cs.bd_ispossibleanswer ?a ?l ?c ?k
      (case a => k_is)
      (case l => k_is)
      (case c => k_is)
      (case k => k_is)
      : ∃ a d, Cs.Kn _ mg "is_possible_answer" Cs.s_ispossibleanswer ["table", "bounds", "answer"] a d)
    obtain ⟨a_lpail, d_lpail, k_lpail⟩ := (by
      refine' Cs.kn_ex KX G Cs.bd_lpail ?a ?l ?c ?k
      (case a => k_is)
      (case l => k_is)
      (case c => k_is)
      (case k => k_is)
      : ∃ a d, Cs.Kn _ mg "_law_pail" Cs.s_lpail ["_law_script", "_law_turn"] a d)
    obtain ⟨a_ldip, d_ldip, k_ldip⟩ := (by
      refine' Cs.kn_ex KX G Cs.bd_ldip ?a ?l ?c ?k
      (case a => k_is)
      (case l => k_is)
      (case c => k_is)
      (case k => k_is)
      : ∃ a d, Cs.Kn _ mg "_law_dip" Cs.s_ldip ["_law_pail_here", "_law_size"] a d)
    obtain ⟨a_lany, d_lany, k_lany⟩ := (by
      refine' Cs.kn_ex KX G Cs.bd_lany ?a ?l ?c ?k
      (case a => k_is)
      (case l => k_is)
      (case c => k_is)
      (case k => k_is)
      : ∃ a d, Cs.Kn _ mg "_law_any" Cs.s_lany ["_law_pail_here", "_law_some"] a d)
    obtain ⟨a_lstretch, d_lstretch, k_lstretch⟩ := (by
      refine' Cs.kn_ex KX G Cs.bd_lstretch ?a ?l ?c ?k
      (case a => k_is)
      (case l => k_is)
      (case c => k_is)
      (case k => k_is)
      : ∃ a d, Cs.Kn _ mg "_law_stretch" Cs.s_lstretch ["_law_pail_here", "_law_wide"] a d)
    obtain ⟨a_lsheet, d_lsheet, k_lsheet⟩ := (by
      refine' Cs.kn_ex KX G Cs.bd_lsheet ?a ?l ?c ?k
      (case a => k_is)
      (case l => k_is)
      (case c => k_is)
      (case k => k_is)
      : ∃ a d, Cs.Kn _ mg "_law_sheet" Cs.s_lsheet ["_law_pail_here", "_law_columns_most", "_law_rows_most"] a d)
    obtain ⟨a_llimits, d_llimits, k_llimits⟩ := (by
      refine' Cs.kn_ex KX G Cs.bd_llimits ?a ?l ?c ?k
      (case a => k_is)
      (case l => k_is)
      (case c => k_is)
      (case k => k_is)
      : ∃ a d, Cs.Kn _ mg "_law_limits" Cs.s_llimits ["_law_pail_here", "_law_sheet_here"] a d)
    obtain ⟨a_lpart, d_lpart, k_lpart⟩ := (by
      refine' Cs.kn_ex KX G Cs.bd_lpart ?a ?l ?c ?k
      (case a => k_is)
      (case l => k_is)
      (case c => k_is)
      (case k => k_is)
      : ∃ a d, Cs.Kn _ mg "_law_part" Cs.s_lpart ["_law_top", "_law_bottom"] a d)
    obtain ⟨a_lplus, d_lplus, k_lplus⟩ := (by
      refine' Cs.kn_ex KX G Cs.bd_lplus ?a ?l ?c ?k
      (case a => k_is)
      (case l => k_is)
      (case c => k_is)
      (case k => k_is)
      : ∃ a d, Cs.Kn _ mg "_law_plus" Cs.s_lplus ["_law_one", "_law_two"] a d)
    obtain ⟨a_lsums, d_lsums, k_lsums⟩ := (by
      refine' Cs.kn_ex KX G Cs.bd_lsums ?a ?l ?c ?k
      (case a => k_is)
      (case l => k_is)
      (case c => k_is)
      (case k => k_is)
      : ∃ a d, Cs.Kn _ mg "_law_sums" Cs.s_lsums ["_law_stretches", "_law_shares"] a d)
    obtain ⟨a_lleast, d_lleast, k_lleast⟩ := (by
      refine' Cs.kn_ex KX G Cs.bd_lleast ?a ?l ?c ?k
      (case a => k_is)
      (case l => k_is)
      (case c => k_is)
      (case k => k_is)
      : ∃ a d, Cs.Kn _ mg "_law_least" Cs.s_lleast ["_law_some"] a d)
    obtain ⟨a_lonceright, d_lonceright, k_lonceright⟩ := (by
      refine' Cs.kn_ex KX G Cs.bd_lonceright ?a ?l ?c ?k
      (case a => k_is)
      (case l => k_is)
      (case c => k_is)
      (case k => k_is)
      : ∃ a d, Cs.Kn _ mg "_law_once_right" Cs.s_lonceright ["_law_pail_here"] a d)
    obtain ⟨a_lright, d_lright, k_lright⟩ := (by
      refine' Cs.kn_ex KX G Cs.bd_lright ?a ?l ?c ?k
      (case a => k_is)
      (case l => k_is)
      (case c => k_is)
      (case k => k_is)
      : ∃ a d, Cs.Kn _ mg "_law_right" Cs.s_lright ["_law_pail_here"] a d)
    obtain ⟨C, fI, fC, fR, fL, pc, pr, dI, dC, dR, dL, T⟩ := (by
      refine' Cs.tk_ex KX G ?a ?fi ?ii ?l1 ?c1 ?k1 ?pa ?pg ?pt ?pq ?l2 ?c2 ?k2 ?ra ?rg ?rt ?rq ?l3 ?c3 ?k3 ?ln ?lf ?l4 ?c4 ?k4 ?e1 ?e2 ?e3 ?e4 ?e5 ?e6 ?nH ?nL ?ic ?im
      (case a => k_is)
      (case fi => k_is)
      (case ii => k_is)
      (case l1 => k_is)
      (case c1 => k_is)
      (case k1 => k_is)
      (case pa => k_is)
      (case pg => k_is)
      (case pt => k_is)
      (case pq => k_is)
      (case l2 => k_is)
      (case c2 => k_is)
      (case k2 => k_is)
      (case ra => k_is)
      (case rg => k_is)
      (case rt => k_is)
      (case rq => k_is)
      (case l3 => k_is)
      (case c3 => k_is)
      (case k3 => k_is)
      (case ln => k_is)
      (case lf => k_is)
      (case l4 => k_is)
      (case c4 => k_is)
      (case k4 => k_is)
      (case e1 => k_is)
      (case e2 => k_is)
      (case e3 => k_is)
      (case e4 => k_is)
      (case e5 => k_is)
      (case e6 => k_is)
      (case nH => k_is)
      (case nL => k_is)
      (case ic => k_is)
      (case im => k_is)
      : ∃ C fI fC fR fL pc pr dI dC dR dL, Cs.Tk _ mg C fI fC fR fL pc pr dI dC dR dL)
    have n_isinstance : mg "isinstance" = none := by
      refine' PySem.W.mg_none_of KX G ?a
      (case a => k_is)
    have n_len : mg "len" = none := by
      refine' PySem.W.mg_none_of KX G ?a
      (case a => k_is)
    have n_all : mg "all" = none := by
      refine' PySem.W.mg_none_of KX G ?a
      (case a => k_is)
    have n_any : mg "any" = none := by
      refine' PySem.W.mg_none_of KX G ?a
      (case a => k_is)
    have n_tuple : mg "tuple" = none := by
      refine' PySem.W.mg_none_of KX G ?a
      (case a => k_is)
    have n_abs : mg "abs" = none := by
      refine' PySem.W.mg_none_of KX G ?a
      (case a => k_is)
    have n_int : mg "int" = none := by
      refine' PySem.W.mg_none_of KX G ?a
      (case a => k_is)
    have n_range : mg "range" = none := by
      refine' PySem.W.mg_none_of KX G ?a
      (case a => k_is)
    have n_zip : mg "zip" = none := by
      refine' PySem.W.mg_none_of KX G ?a
      (case a => k_is)
    have n_enumerate : mg "enumerate" = none := by
      refine' PySem.W.mg_none_of KX G ?a
      (case a => k_is)
    have n_repr : mg "repr" = none := by
      refine' PySem.W.mg_none_of KX G ?a
      (case a => k_is)
    have n_divmod : mg "divmod" = none := by
      refine' PySem.W.mg_none_of KX G ?a
      (case a => k_is)
    have n_bool : mg "bool" = none := by
      refine' PySem.W.mg_none_of KX G ?a
      (case a => k_is)
    have n_str : mg "str" = none := by
      refine' PySem.W.mg_none_of KX G ?a
      (case a => k_is)
    have g_end : ∃ t, mg "MOST_END" = some (.int 10000 t) := by
      refine' Cs.gi_ex KX G ?a
      (case a => k_is)
    have g_cols : ∃ t, mg "MOST_COLUMNS" = some (.int 4 t) := by
      refine' Cs.gi_ex KX G ?a
      (case a => k_is)
    have g_rows : ∃ t, mg "MOST_ROWS" = some (.int 8 t) := by
      refine' Cs.gi_ex KX G ?a
      (case a => k_is)
    have g_long : ∃ t, mg "LONGEST_NAME" = some (.int 8 t) := by
      refine' Cs.gi_ex KX G ?a
      (case a => k_is)
    have g_let : ∃ t, mg "LETTERS" = some (.str "abcdefghijklmnopqrstuvwxyz" t) := by
      refine' Cs.gt_ex KX G ?a
      (case a => k_is)
    obtain ⟨z, g_zero, z_at⟩ := (by
      refine' Cs.zero_ex KX G ?a ?l
      (case a => k_is)
      (case l => k_is)
      : ∃ z, mg "ZERO" = some (.ref z) ∧ Cs.Zt _ z)
    refine' Cs.law_ex (Z := ⟨a_iswhole, d_iswhole, a_isinteger, d_isinteger, a_isname, d_isname, a_istupleof, d_istupleof, a_common, d_common, a_lowest, d_lowest, a_plus, d_plus, a_times, d_times, a_isabove, d_isabove, a_isfraction, d_isfraction, a_isstretch, d_isstretch, a_isendstretch, d_isendstretch, a_checkcolumns, d_checkcolumns, a_isrow, d_isrow, a_checkrows, d_checkrows, a_checktable, d_checktable, a_checkbounds, d_checkbounds, a_isanswer, d_isanswer, a_checkanswer, d_checkanswer, a_endswith, d_endswith, a_allrowends, d_allrowends, a_issurefor, d_issurefor, a_ispossiblefor, d_ispossiblefor, a_checkquestion, d_checkquestion, a_rowends, d_rowends, a_issureanswer, d_issureanswer, a_ispossibleanswer, d_ispossibleanswer, a_lpail, d_lpail, a_ldip, d_ldip, a_lany, d_lany, a_lstretch, d_lstretch, a_lsheet, d_lsheet, a_llimits, d_llimits, a_lpart, d_lpart, a_lplus, d_lplus, a_lsums, d_lsums, a_lleast, d_lleast, a_lonceright, d_lonceright, a_lright, d_lright, fI, dI, fC, dC, fR, dR, fL, dL, C, z, pc, pr⟩) KX G hmg ⟨k_iswhole, k_isinteger, k_isname, k_istupleof, k_common, k_lowest, k_plus, k_times, k_isabove, k_isfraction, k_isstretch, k_isendstretch, k_checkcolumns, k_isrow, k_checkrows, k_checktable, k_checkbounds, k_isanswer, k_checkanswer, k_endswith, k_allrowends, k_issurefor, k_ispossiblefor, k_checkquestion, k_rowends, k_issureanswer, k_ispossibleanswer, k_lpail, k_ldip, k_lany, k_lstretch, k_lsheet, k_llimits, k_lpart, k_lplus, k_lsums, k_lleast, k_lonceright, k_lright, T.mI.fn, T.mI.bd, T.mC.fn, T.mC.bd, T.mR.fn, T.mR.bd, T.mL.fn, T.mL.bd, n_isinstance, n_len, n_all, n_any, n_tuple, n_abs, n_int, n_range, n_zip, n_enumerate, n_repr, n_divmod, n_bool, n_str, g_end, g_cols, g_rows, g_long, g_let, g_zero, z_at, T.g, T.cl, T.nH, T.nL, T.mkC, T.pC, T.pR, T.ic, ?ig, ?it, T.im, T.ik, T.ln, T.lf, T.mL.fn.kp⟩ ?a ?l ?c ?k
    (case ig => k_is)
    (case it => k_is)
    (case a => k_is)
    (case l => k_is)
    (case c => k_is)
    (case k => k_is)
