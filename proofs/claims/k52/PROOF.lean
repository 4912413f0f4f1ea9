import PyProof.Rows.All
import Wide.All
import OpenK.AllK
import Wide.FinOn
import HandS.ForMost
import HandS.Exc
import HandS.ExcOwn
import HandS.CallSlots
import HandS.TryOnly
import HandS.WordsExc
import HandS.Flow
import HandS.TupAny
import HandS.Conv
import HandS.Style
import HandS.TupMul
import HandS.IsInst
import HandS.Strs
import HandS.Defaults
import HandS.HeadEnd
import HandS.ExcInit
import HandS.ExcSuper
import HandS.Nested
import KE.KExcSuper
import HandS.TryMany
import HandS.ExcField
import HandS.HeadHook1
import HandS.HeadHook2
import KE.KExcIs
import HandS.Deep
import HandS.DictComp
import HandS.Iter
import KE.GoesMore
import HandS.Zip
import HandS.More
import HandS.HeadHook3
import HandS.Wide
import KE.KStateDown
import HandS.Head0
import HandS.Head1
import HandS.Head2
import PySem.Challenge.RW_plaitwrought_k52_whole_polynomials
set_option Elab.async false
set_option linter.all false
set_option maxRecDepth 100000
set_option maxHeartbeats 0

/-! Data: plain trees, what a slot holds, and how they stand in the abstract heap. -/
namespace DD
open PySem PySem.Spec PyProof.Rows L2

/-- plain data; a tuple of which it is known that it has no dict (tup), or not (pt) -/
inductive D where
  | non | bl (b : Bool) | int (i : Int) | str (x : Str) | tup (xs : List D) | pt (xs : List D)

mutual
def D.py : D → PyData
  | .non => .none
  | .bl b => .bool b
  | .int i => .int i
  | .str x => .str x
  | .tup xs => .tuple (D.pys xs)
  | .pt xs => .tuple (D.pys xs)
def D.pys : List D → List PyData
  | [] => []
  | x :: xs => x.py :: D.pys xs
end
theorem pys_map : ∀ xs : List D, D.pys xs = xs.map D.py
  | [] => by simp [D.pys]
  | x :: xs => by simp [D.pys, pys_map xs]
def D.tup? : D → Option (List D)
  | .tup xs => some xs
  | .pt xs => some xs
  | _ => none
/-- a tuple that has no dict -/
def SqN (K : PySem.W.Frag) (H : Hp) (a : Addr) (vs : List V) : Prop :=
  (∃ o : Obj, H a = some (.frz o (.tup vs)) ∧ o.dict = none) ∨
    ∃ (o : Obj) (its : Array Value) (n : Nat), K.lookup a = some o ∧ o.cls = .type "tuple" ∧ o.dict = none ∧ o.data = .seq its n ∧ its.size ≤ sizeLine ∧ Vals vs its.toList
theorem SqN.t {K : PySem.W.Frag} {H : Hp} {a : Addr} {vs : List V} (h : SqN K H a vs) : SqT K H a vs := by
  rcases h with ⟨o, h, _⟩ | ⟨o, its, n, h1, h2, _, h4, h5, h6⟩
  · exact .inl (.inr ⟨o, h⟩)
  · exact .inr ⟨o, its, n, h1, h2, h4, h5, h6⟩
theorem SqN.of {K : PySem.W.Frag} {H : Hp} {a : Addr} {vs : List V} {o : Obj} (h : H a = some (.frz o (.tup vs))) (d : o.dict = none) : SqN K H a vs := .inl ⟨o, h, d⟩
mutual
/-- v is the data x -/
inductive Rp (K : PySem.W.Frag) (H : Hp) : V → D → Prop
  | non : Rp K H .non .non
  | bl (b : Bool) : Rp K H (.bl b) (.bl b)
  | int (i : Int) : Rp K H (.int i) (.int i)
  | str (x : Str) : Rp K H (.str x) (.str x)
  | tup {a : Addr} {vs : List V} {xs : List D} : SqN K H a vs → Rps K H vs xs → Rp K H (.ref a) (.tup xs)
  | pt {a : Addr} {vs : List V} {xs : List D} : SqT K H a vs → Rps K H vs xs → Rp K H (.ref a) (.pt xs)
inductive Rps (K : PySem.W.Frag) (H : Hp) : List V → List D → Prop
  | nil : Rps K H [] []
  | cons {v : V} {vs : List V} {x : D} {xs : List D} : Rp K H v x → Rps K H vs xs → Rps K H (v :: vs) (x :: xs)
end

/-- what a slot holds: plain data, a list of plain data (its own), a list that nobody changes, dicts; a caller's list (bw); a list that is being walked (pin) -/
inductive Val where
  | d (x : D) | l (xs : List D) | fz (xs : List D) | m (kvs : List (Key × D)) | mt (kvs : List (List Key × D)) | bw (xs : List D) | pin (b : Bool) (xs : List D)

/-- a list as one reads it -/
def Val.norm : Val → Val
  | .bw xs => .l xs
  | .pin _ xs => .l xs
  | .d x => .d x
  | .l x => .l x
  | .fz x => .fz x
  | .m x => .m x
  | .mt x => .mt x
/-- the place of the list is kept in mind -/
def Val.kept : Val → Bool
  | .bw _ => true
  | .pin _ _ => true
  | _ => false
abbrev Env := List (Option Val)
abbrev AS := Addr → Prop

/-- what never changes -/
def Imm : HO → Prop
  | .tup _ => True
  | .frz _ _ => True
  | _ => False
/-- all that stands outside A, and all that never changes, is as it was -/
def Ext (A : AS) (H H' : Hp) : Prop := ∀ a o, H a = some o → (¬ A a ∨ Imm o) → H' a = some o
/-- B: of A, or new -/
def New (A : AS) (H : Hp) (B : AS) : Prop := ∀ a, B a → A a ∨ H a = none
def none_ : AS := fun _ => False
def uni (A B : AS) : AS := fun a => A a ∨ B a
def dis (A B : AS) : Prop := ∀ a, A a → B a → False

theorem Ext.refl (A : AS) (H : Hp) : Ext A H H := fun _ _ h _ => h
theorem Ext.trans {A B : AS} {H H1 H2 : Hp} (e : Ext A H H1) (n : New A H B) (f : Ext B H1 H2) : Ext A H H2 := fun a o h q => by
  refine f a o (e a o h q) ?_
  rcases q with q | q
  · refine .inl fun b => ?_
    rcases n a b with z | z
    · exact q z
    · rw [h] at z; cases z
  · exact .inr q
theorem New.trans {A B C : AS} {H H1 : Hp} (e : Ext A H H1) (n : New A H B) (f : New B H1 C) : New A H C := fun a c => by
  rcases f a c with z | z
  · exact n a z
  · by_cases q : A a
    · exact .inl q
    · right
      cases h : H a with
      | none => rfl
      | some o => rw [e a o h (.inl q)] at z; cases z
theorem Ext.fresh {A : AS} {H H1 : Hp} {a : Addr} (e : Ext A H H1) (z : H1 a = none) : A a ∨ H a = none := by
  by_cases q : A a
  · exact .inl q
  · right
    cases h : H a with
    | none => rfl
    | some o => rw [e a o h (.inl q)] at z; cases z
theorem New.self {A : AS} {H : Hp} : New A H A := fun _ h => .inl h
theorem New.none {A : AS} {H : Hp} : New A H none_ := fun _ h => h.elim
theorem New.uni {A B C : AS} {H : Hp} (h : New A H B) (k : New A H C) : New A H (uni B C) := fun a q => q.elim (h a) (k a)
theorem New.sub {A B C : AS} {H : Hp} (h : New A H B) (k : ∀ a, C a → B a) : New A H C := fun a q => h a (k a q)
theorem Ext.weak {A B : AS} {H H' : Hp} (h : Ext A H H') (k : ∀ a, A a → B a) : Ext B H H' := fun a o e q => h a o e (q.imp (fun n z => n (k a z)) id)
theorem Ext.upd {A : AS} {H : Hp} {p : Addr} {o : HO} (h : A p ∨ H p = none) (hm : ∀ u, H p = some u → ¬ Imm u) : Ext A H (L2.upd H p o) := fun a u e q => by
  by_cases z : a = p
  · subst z
    rcases h with h | h
    · rcases q with q | q
      · exact (q h).elim
      · exact (hm u e q).elim
    · rw [h] at e; cases e
  · rw [upd_ne z]; exact e
theorem Ext.new {A : AS} {H : Hp} {p : Addr} {o : HO} (h : H p = none) : Ext A H (L2.upd H p o) := Ext.upd (.inr h) fun u e => by rw [h] at e; cases e

/-! ### data in the heap -/
section
variable {K : PySem.W.Frag} {H H' : Hp}
theorem rd_ext {A : AS} (e : Ext A H H') {a : Addr} {xs : List V} (h : SqT K H a xs) : SqT K H' a xs := by
  rcases h with (h | ⟨o, h⟩) | h
  · exact .inl (.inl (e _ _ h (.inr trivial)))
  · exact .inl (.inr ⟨o, e _ _ h (.inr trivial)⟩)
  · exact .inr h
theorem sqn_ext {A : AS} (e : Ext A H H') {a : Addr} {xs : List V} (h : SqN K H a xs) : SqN K H' a xs := by
  rcases h with ⟨o, h, d⟩ | h
  · exact .inl ⟨o, e _ _ h (.inr trivial), d⟩
  · exact .inr h
mutual
theorem dp_ext {A : AS} (e : Ext A H H') : ∀ (x : D) (v : V), Rp K H v x → Rp K H' v x
  | .non, v, h => by cases h; exact .non
  | .bl b, v, h => by cases h; exact .bl b
  | .int i, v, h => by cases h; exact .int i
  | .str x, v, h => by cases h; exact .str x
  | .tup xs, v, h => by
    cases h with
    | tup hs ha => exact .tup (sqn_ext e hs) (dps_ext e xs _ ha)
  | .pt xs, v, h => by
    cases h with
    | pt hs ha => exact .pt (rd_ext e hs) (dps_ext e xs _ ha)
theorem dps_ext {A : AS} (e : Ext A H H') : ∀ (xs : List D) (vs : List V), Rps K H vs xs → Rps K H' vs xs
  | [], vs, h => by cases h; exact .nil
  | x :: xs, vs, h => by
    cases h with
    | cons h1 h2 => exact .cons (dp_ext e x _ h1) (dps_ext e xs _ h2)
end
mutual
theorem rp_dp : ∀ (x : D) (v : V), Rp K H v x → Dp K H v x.py
  | .non, v, h => by cases h; simp only [D.py]; exact .non
  | .bl b, v, h => by cases h; simp only [D.py]; exact .bl b
  | .int i, v, h => by cases h; simp only [D.py]; exact .int i
  | .str x, v, h => by cases h; simp only [D.py]; exact .str x
  | .tup xs, v, h => by
    cases h with
    | tup hs ha => simp only [D.py]; exact .tup hs.t (rps_dp xs _ ha)
  | .pt xs, v, h => by
    cases h with
    | pt hs ha => simp only [D.py]; exact .tup hs (rps_dp xs _ ha)
theorem rps_dp : ∀ (xs : List D) (vs : List V), Rps K H vs xs → DpAll K H vs (D.pys xs)
  | [], vs, h => by cases h; simp only [D.pys]; exact .nil
  | x :: xs, vs, h => by
    cases h with
    | cons h1 h2 => simp only [D.pys]; exact .cons (rp_dp x _ h1) (rps_dp xs _ h2)
end

theorem dps_len : ∀ {xs : List D} {vs : List V}, Rps K H vs xs → vs.length = xs.length
  | [], vs, h => by cases h; rfl
  | x :: xs, vs, h => by
    cases h with
    | cons h1 h2 => simp [dps_len h2]
theorem dps_get : ∀ {xs : List D} {vs : List V} {i : Nat} {v : V}, Rps K H vs xs → vs[i]? = some v → ∃ x, xs[i]? = some x ∧ Rp K H v x
  | [], vs, i, v, h, e => by cases h; simp at e
  | x :: xs, vs, i, v, h, e => by
    cases h with
    | cons h1 h2 =>
      cases i with
      | zero => simp at e; subst e; exact ⟨x, rfl, h1⟩
      | succ i =>
        obtain ⟨y, e1, e2⟩ := dps_get h2 (i := i) (by simpa using e)
        exact ⟨y, by simpa using e1, e2⟩
theorem dps_at {xs : List D} {vs : List V} {i : Nat} {x : D} (h : Rps K H vs xs) (e : xs[i]? = some x) : ∃ v, vs[i]? = some v ∧ Rp K H v x := by
  have hl := dps_len h
  have hi : i < vs.length := by
    rw [hl]
    exact (List.getElem?_eq_some_iff.mp e).1
  obtain ⟨y, e1, e2⟩ := dps_get h (List.getElem?_eq_getElem hi)
  rw [e] at e1
  cases e1
  exact ⟨_, List.getElem?_eq_getElem hi, e2⟩
theorem dps_app : ∀ {xs ys : List D} {vs ws : List V}, Rps K H vs xs → Rps K H ws ys → Rps K H (vs ++ ws) (xs ++ ys)
  | [], ys, vs, ws, h, k => by cases h; exact k
  | x :: xs, ys, vs, ws, h, k => by
    cases h with
    | cons h1 h2 => exact .cons h1 (dps_app h2 k)
theorem dps_one {x : D} {v : V} (h : Rp K H v x) : Rps K H [v] [x] := .cons h .nil
theorem dps_take : ∀ {xs : List D} {vs : List V} (n : Nat), Rps K H vs xs → Rps K H (vs.take n) (xs.take n)
  | xs, vs, 0, h => by simp; exact .nil
  | [], vs, n + 1, h => by cases h; exact .nil
  | x :: xs, vs, n + 1, h => by
    cases h with
    | cons h1 h2 => simp only [List.take_succ_cons]; exact .cons h1 (dps_take n h2)
theorem dps_drop : ∀ {xs : List D} {vs : List V} (n : Nat), Rps K H vs xs → Rps K H (vs.drop n) (xs.drop n)
  | xs, vs, 0, h => h
  | [], vs, n + 1, h => by cases h; exact .nil
  | x :: xs, vs, n + 1, h => by
    cases h with
    | cons h1 h2 => simp only [List.drop_succ_cons]; exact dps_drop n h2
theorem dps_set : ∀ {xs : List D} {vs : List V} {x : D} {v : V} (n : Nat), Rps K H vs xs → Rp K H v x → Rps K H (vs.set n v) (xs.set n x)
  | [], vs, x, v, n, h, k => by cases h; exact .nil
  | y :: xs, vs, x, v, n, h, k => by
    cases h with
    | cons h1 h2 =>
      cases n with
      | zero => exact .cons k h2
      | succ n => exact .cons h1 (dps_set n h2 k)
theorem dps_rev : ∀ {xs : List D} {vs : List V}, Rps K H vs xs → Rps K H vs.reverse xs.reverse
  | [], vs, h => by cases h; exact .nil
  | x :: xs, vs, h => by
    cases h with
    | cons h1 h2 =>
      rw [List.reverse_cons, List.reverse_cons]
      exact dps_app (dps_rev h2) (dps_one h1)
/-- data of ints -/
theorem dps_ints : ∀ {ns : List Int} {vs : List V}, Rps K H vs (ns.map D.int) → vs = ns.map V.int
  | [], vs, h => by cases h; rfl
  | n :: ns, vs, h => by
    simp only [List.map_cons] at h
    cases h with
    | cons h1 h2 =>
      cases h1
      rw [dps_ints h2]; rfl
theorem dps_of_ints : ∀ (ns : List Int), Rps K H (ns.map V.int) (ns.map D.int)
  | [] => .nil
  | n :: ns => .cons (.int n) (dps_of_ints ns)
theorem dp_int {v : V} {i : Int} (h : Rp K H v (D.int i)) : v = .int i := by cases h; rfl
theorem dp_bl {v : V} {b : Bool} (h : Rp K H v (D.bl b)) : v = .bl b := by cases h; rfl
theorem dp_str {v : V} {x : Str} (h : Rp K H v (D.str x)) : v = .str x := by cases h; rfl
theorem dp_non {v : V} (h : Rp K H v D.non) : v = .non := by cases h; rfl
theorem dp_tup {v : V} {x : D} {xs : List D} (h : Rp K H v x) (e : x.tup? = some xs) : ∃ a vs, v = .ref a ∧ SqT K H a vs ∧ Rps K H vs xs := by
  cases h with
  | tup hs ha => cases e; exact ⟨_, _, rfl, hs.t, ha⟩
  | pt hs ha => cases e; exact ⟨_, _, rfl, hs, ha⟩
  | non => cases e
  | bl _ => cases e
  | int _ => cases e
  | str _ => cases e
theorem dp_tupN {v : V} {xs : List D} (h : Rp K H v (.tup xs)) : ∃ a vs, v = .ref a ∧ SqN K H a vs ∧ Rps K H vs xs := by
  cases h with
  | tup hs ha => exact ⟨_, _, rfl, hs, ha⟩
theorem int_dp {i : Int} : Rp K H (.int i) (D.int i) := .int i
theorem bl_dp {b : Bool} : Rp K H (.bl b) (D.bl b) := .bl b
theorem str_dp {x : Str} : Rp K H (.str x) (D.str x) := .str x
theorem non_dp : Rp K H .non D.non := .non
theorem tup_dp {a : Addr} {vs : List V} {xs : List D} (h : SqN K H a vs) (k : Rps K H vs xs) : Rp K H (.ref a) (D.tup xs) := .tup h k
end
end DD


/-! The state of a def as data: slots, references, outcomes; readings by functions on data. -/
namespace DD
open PySem PySem.Spec PyProof.Rows L2

abbrev KVs {κ : Type} (K : PySem.W.Frag) (H : Hp) : List (κ × V) → List (κ × D) → Prop := Paired fun p q => p.1 = q.1 ∧ Rp K H p.2 q.2
def FzL (K : PySem.W.Frag) (H : Hp) (a : Addr) (vs : List V) : Prop := (∃ o, H a = some (.frz o (.lst vs))) ∨ ∀ H', SqL K H' a vs
/-- x stands at v, its own changeable objects at f -/
def RepV (K : PySem.W.Frag) (H : Hp) (x : Val) (v : V) (f : AS) : Prop := match x with
  | .d x => Rp K H v x ∧ ∀ a, ¬ f a
  | .l xs => ∃ a vs, v = .ref a ∧ H a = some (.lst vs) ∧ Rps K H vs xs ∧ ∀ b, f b ↔ b = a
  | .fz xs => (∃ a vs, v = .ref a ∧ FzL K H a vs ∧ Rps K H vs xs) ∧ ∀ a, ¬ f a
  | .m kvs => ∃ a ks, v = .ref a ∧ H a = some (.dK ks) ∧ KVs K H ks kvs ∧ ∀ b, f b ↔ b = a
  | .mt kvs => ∃ a ks, v = .ref a ∧ H a = some (.dT ks) ∧ KVs K H ks kvs ∧ ∀ b, f b ↔ b = a
  | .bw xs => ∃ a vs, v = .ref a ∧ H a = some (.lst vs) ∧ Rps K H vs xs ∧ ∀ b, f b ↔ b = a
  | .pin _ xs => ∃ a vs, v = .ref a ∧ H a = some (.lst vs) ∧ Rps K H vs xs ∧ ∀ b, f b ↔ b = a

section
variable {K : PySem.W.Frag} {ρ : Nat → Addr} {H H' : Hp}
theorem kvs_ext {κ : Type} {A : AS} (e : Ext A H H') : ∀ {ks : List (κ × V)} {kvs : List (κ × D)}, KVs K H ks kvs → KVs K H' ks kvs
  | _, _, .nil => .nil
  | _, _, .cons h t => .cons ⟨h.1, dp_ext e _ _ h.2⟩ (kvs_ext e t)
theorem fz_ext {A : AS} (e : Ext A H H') {a : Addr} {vs : List V} (h : FzL K H a vs) : FzL K H' a vs := by
  rcases h with ⟨o, h⟩ | h
  · exact .inl ⟨o, e _ _ h (.inr trivial)⟩
  · exact .inr h
theorem fz_sq {a : Addr} {vs : List V} (h : FzL K H a vs) : SqL K H a vs := by
  rcases h with ⟨o, h⟩ | h
  · exact .inl (.inr ⟨o, h⟩)
  · exact h H
theorem repV_ext {A : AS} (e : Ext A H H') {x : Val} {v : V} {f : AS} (h : RepV K H x v f) (d : dis f A) : RepV K H' x v f := by
  cases x with
  | d x => exact ⟨dp_ext e _ _ h.1, h.2⟩
  | l xs =>
    obtain ⟨a, vs, rfl, h1, h2, h3⟩ := h
    exact ⟨a, vs, rfl, e _ _ h1 (.inl fun z => d a ((h3 a).mpr rfl) z), dps_ext e _ _ h2, h3⟩
  | fz xs =>
    obtain ⟨⟨a, vs, rfl, h1, h2⟩, h3⟩ := h
    exact ⟨⟨a, vs, rfl, fz_ext e h1, dps_ext e _ _ h2⟩, h3⟩
  | m kvs =>
    obtain ⟨a, ks, rfl, h1, h2, h3⟩ := h
    exact ⟨a, ks, rfl, e _ _ h1 (.inl fun z => d a ((h3 a).mpr rfl) z), kvs_ext e h2, h3⟩
  | mt kvs =>
    obtain ⟨a, ks, rfl, h1, h2, h3⟩ := h
    exact ⟨a, ks, rfl, e _ _ h1 (.inl fun z => d a ((h3 a).mpr rfl) z), kvs_ext e h2, h3⟩
  | bw xs =>
    obtain ⟨a, vs, rfl, h1, h2, h3⟩ := h
    exact ⟨a, vs, rfl, e _ _ h1 (.inl fun z => d a ((h3 a).mpr rfl) z), dps_ext e _ _ h2, h3⟩
  | pin _ xs =>
    obtain ⟨a, vs, rfl, h1, h2, h3⟩ := h
    exact ⟨a, vs, rfl, e _ _ h1 (.inl fun z => d a ((h3 a).mpr rfl) z), dps_ext e _ _ h2, h3⟩
/-- what is changeable stands there, and can be changed -/
theorem repV_there {x : Val} {v : V} {f : AS} (h : RepV K H x v f) {a : Addr} (k : f a) : ∃ o, H a = some o ∧ ¬ Imm o := by
  cases x with
  | d x => exact (h.2 a k).elim
  | l xs =>
    obtain ⟨b, vs, rfl, h1, h2, h3⟩ := h
    have := (h3 a).mp k; subst this
    exact ⟨_, h1, id⟩
  | fz xs => exact (h.2 a k).elim
  | m kvs =>
    obtain ⟨b, vs, rfl, h1, h2, h3⟩ := h
    have := (h3 a).mp k; subst this
    exact ⟨_, h1, id⟩
  | mt kvs =>
    obtain ⟨b, vs, rfl, h1, h2, h3⟩ := h
    have := (h3 a).mp k; subst this
    exact ⟨_, h1, id⟩
  | bw xs =>
    obtain ⟨b, vs, rfl, h1, h2, h3⟩ := h
    have := (h3 a).mp k; subst this
    exact ⟨_, h1, id⟩
  | pin _ xs =>
    obtain ⟨b, vs, rfl, h1, h2, h3⟩ := h
    have := (h3 a).mp k; subst this
    exact ⟨_, h1, id⟩
end

/-! ### the slots -/
abbrev FS := Nat → AS
def foot (φ : FS) : AS := fun a => ∃ i, φ i a
structure RepE (K : PySem.W.Frag) (ρ : Nat → Addr) (H : Hp) (σ : L2.St) (η : Env) (φ : FS) : Prop where
  len : σ.length = η.length
  rep : ∀ (i : Nat) (x : Val), η[i]? = some (some x) → ∃ v, σ[i]? = some (some v) ∧ RepV K H x v (φ i)
  emp : ∀ (i : Nat), (∀ x, η[i]? ≠ some (some x)) → ∀ a, ¬ φ i a
  dis : ∀ (i j : Nat) (a : Addr), φ i a → φ j a → i = j
  pin : ∀ (i : Nat) (x : Val), η[i]? = some (some x) → x.kept = true → σ[i]? = some (some (.ref (ρ i)))
section
variable {K : PySem.W.Frag} {ρ : Nat → Addr} {H H' : Hp} {σ : L2.St} {η : Env} {φ : FS}
theorem RepE.ext {A : AS} (r : RepE K ρ H σ η φ) (e : Ext A H H') (d : DD.dis (foot φ) A) : RepE K ρ H' σ η φ :=
  ⟨r.len, fun i x h => by
    obtain ⟨v, h1, h2⟩ := r.rep i x h
    exact ⟨v, h1, repV_ext e h2 fun a fa => d a ⟨i, fa⟩⟩, r.emp, r.dis, r.pin⟩
theorem RepE.there (r : RepE K ρ H σ η φ) {a : Addr} (h : foot φ a) : ∃ o, H a = some o ∧ ¬ Imm o := by
  obtain ⟨i, h⟩ := h
  cases q : η[i]? with
  | none => exact (r.emp i (fun x e => by rw [q] at e; cases e) a h).elim
  | some o =>
    cases o with
    | none => exact (r.emp i (fun x e => by rw [q] at e; cases e) a h).elim
    | some x =>
      obtain ⟨v, h1, h2⟩ := r.rep i x q
      exact repV_there h2 h
/-- a fresh object -/
theorem RepE.fresh (r : RepE K ρ H σ η φ) {p : Addr} {o : HO} (h : H p = none) : RepE K ρ (L2.upd H p o) σ η φ :=
  r.ext (A := none_) (Ext.new h) fun _ _ z => z
end

/-! ### references and outcomes -/
inductive Ref where
  | sl (i : Nat) | vl (x : Val)
def RefOk (K : PySem.W.Frag) (H : Hp) (σ : L2.St) (r : Ref) (v : V) (f : AS) : Prop := match r with
  | .sl i => σ[i]? = some (some v) ∧ ∀ a, ¬ f a
  | .vl x => RepV K H x v f
structure Exn where
  cls : Str
  fs : List (Str × D)
inductive Out (α : Type) where
  | ok (a : α) (η : Env) | err (x : Exn) (η : Env) | stuck
abbrev M (α : Type) := Env → Out α
def Out.bind {α β : Type} (o : Out α) (k : α → M β) : Out β := match o with
  | .ok a η => k a η
  | .err x η => .err x η
  | .stuck => .stuck
def M.bind {α β : Type} (m : M α) (k : α → M β) : M β := fun η => (m η).bind k
def M.ret {α : Type} (a : α) : M α := fun η => .ok a η
def M.of {α : Type} (o : Option α) : M α := fun η => match o with
  | some a => .ok a η
  | none => .stuck
instance : Monad M where
  pure := M.ret
  bind := M.bind
theorem bind_def {α β : Type} (m : M α) (k : α → M β) (η : Env) : (m >>= k) η = (m η).bind k := rfl
theorem pure_def {α : Type} (a : α) (η : Env) : (pure a : M α) η = .ok a η := rfl
def rd (η : Env) : Ref → Option Val
  | .sl i => match η[i]? with
    | some (some x) => some x.norm
    | _ => none
  | .vl x => some x
theorem repV_norm {K : PySem.W.Frag} {H : Hp} {x : Val} {v : V} {f : AS} (h : RepV K H x v f) : RepV K H x.norm v f := by cases x <;> exact h
theorem repV_keep {K : PySem.W.Frag} {H : Hp} {x : Val} {v : V} {f : AS} (h : RepV K H x.norm v f) : RepV K H x v f := by cases x <;> exact h
/-- plain data -/
def rdD (η : Env) (r : Ref) : Option D := match rd η r with
  | some (.d x) => some x
  | _ => none

/-- how an exception lies in the heap -/
def ExnOk (K : PySem.W.Frag) (mg : Str → Option Value) (H : Hp) (x : Exn) (cls : Value) (dx : Option Addr) : Prop :=
  mg x.cls = some cls ∧ (∃ C, cls = .ref C) ∧ ∃ d gs, dx = some d ∧ H d = some (.xd gs) ∧ gs.map (·.1) = x.fs.map (·.1) ∧ Rps K H (gs.map (·.2)) (x.fs.map (·.2))

section
variable (K : PySem.W.Frag) (ρ : Nat → Addr) (mg : Str → Option Value) (W : WX)
/-- what is wanted of an outcome, from the state (φ, H) on -/
def Post (σ : L2.St) (A : AS) (H : Hp) (Q : VK) : Out Ref → Prop
  | .ok r η' => ∀ v H' φ' f, RepE K ρ H' σ η' φ' → RefOk K H' σ r v f → dis f (foot φ') → Ext A H H' → New A H (uni f (foot φ')) → Q v H'
  | .err x η' => ∀ cls dx H' φ', RepE K ρ H' σ η' φ' → Ext A H H' → New A H (foot φ') → ExnOk K mg H' x cls dx → W cls dx σ H'
  | .stuck => False
def tE (m : M Ref) : TE := fun σ H Q => ∃ ρ η φ, RepE K ρ H σ η φ ∧ Post K ρ mg W σ (foot φ) H Q (m η)
def PostT (σ : L2.St) (A : AS) (H : Hp) (Q : Bool → Hp → Prop) : Out Bool → Prop
  | .ok b η' => ∀ H' φ', RepE K ρ H' σ η' φ' → Ext A H H' → New A H (foot φ') → Q b H'
  | .err x η' => ∀ cls dx H' φ', RepE K ρ H' σ η' φ' → Ext A H H' → New A H (foot φ') → ExnOk K mg H' x cls dx → W cls dx σ H'
  | .stuck => False
def tT (m : M Bool) : TT := fun σ H Q => ∃ ρ η φ, RepE K ρ H σ η φ ∧ PostT K ρ mg W σ (foot φ) H Q (m η)
end
inductive SOut where
  | nx (η : Env) | rt (r : Ref) (η : Env) | bk (η : Env) | ct (η : Env) | err (x : Exn) (η : Env) | stuck
abbrev MS := Env → SOut
section
variable (K : PySem.W.Frag) (ρ : Nat → Addr) (mg : Str → Option Value) (W : WX)
def PostS (A : AS) (H : Hp) (E : Ends) : SOut → Prop
  | .nx η' => ∀ σ' H' φ', RepE K ρ H' σ' η' φ' → Ext A H H' → New A H (foot φ') → E.nx σ' H'
  | .rt r η' => ∀ v σ' H' φ' f, RepE K ρ H' σ' η' φ' → RefOk K H' σ' r v f → dis f (foot φ') → Ext A H H' → New A H (uni f (foot φ')) → E.rt v H'
  | .bk η' => ∀ σ' H' φ', RepE K ρ H' σ' η' φ' → Ext A H H' → New A H (foot φ') → E.bk σ' H'
  | .ct η' => ∀ σ' H' φ', RepE K ρ H' σ' η' φ' → Ext A H H' → New A H (foot φ') → E.ct σ' H'
  | .err x η' => ∀ cls dx σ' H' φ', RepE K ρ H' σ' η' φ' → Ext A H H' → New A H (foot φ') → ExnOk K mg H' x cls dx → W cls dx σ' H'
  | .stuck => False
def tS (m : MS) : TS := fun E σ H => ∃ ρ η φ, RepE K ρ H σ η φ ∧ PostS K ρ mg W (foot φ) H E (m η)
end
abbrev DE (X : Cx) (W : WX) (e : Expr) (m : M Ref) : Prop := PE X e (tE X.K X.mg W m)
abbrev DT (X : Cx) (W : WX) (e : Expr) (m : M Bool) : Prop := PT X e (tT X.K X.mg W m)
abbrev DS (X : Cx) (W : WX) (st : Stmt) (m : MS) : Prop := PS X st (tS X.K X.mg W m)
abbrev DSs (X : Cx) (W : WX) (sts : List Stmt) (m : MS) : Prop := PSs X sts (tS X.K X.mg W m)

/-! ### weakening of the layer's judgements -/
theorem pe_mono {X : Cx} {e : Expr} {t t' : TE} (h : PE X e t) (k : ∀ σ H Q, t' σ H Q → t σ H Q) : PE X e t' := ⟨fun pins s σ H Q I q => h.run pins s σ H Q I (k _ _ _ q)⟩
theorem pt_mono {X : Cx} {e : Expr} {t t' : TT} (h : PT X e t) (k : ∀ σ H Q, t' σ H Q → t σ H Q) : PT X e t' := ⟨fun pins s σ H Q I q => h.run pins s σ H Q I (k _ _ _ q)⟩
theorem pw_mono {X : Cx} {e : Expr} {t t' : TT} (h : PW X e t) (k : ∀ σ H Q, t' σ H Q → t σ H Q) : PW X e t' := ⟨fun wh pins s σ H Q I q => h.run wh pins s σ H Q I (k _ _ _ q)⟩
theorem pa_mono {X : Cx} {es : List Expr} {t t' : TA} (h : PA X es t) (k : ∀ σ H Q, t' σ H Q → t σ H Q) : PA X es t' := ⟨fun pos pins s σ H Q I q => h.run pos pins s σ H Q I (k _ _ _ q)⟩
theorem ps_mono {X : Cx} {st : Stmt} {t t' : TS} (h : PS X st t) (k : ∀ E σ H, t' E σ H → t E σ H) : PS X st t' := ⟨fun pins s σ H E I q => h.run pins s σ H E I (k _ _ _ q)⟩
theorem pss_mono {X : Cx} {st : List Stmt} {t t' : TS} (h : PSs X st t) (k : ∀ E σ H, t' E σ H → t E σ H) : PSs X st t' := ⟨fun pins s σ H E I q => h.run pins s σ H E I (k _ _ _ q)⟩

/-! ### held values: what was evaluated and is not yet used -/
structure HeldI where
  r : Ref
  v : V
  f : AS
def gone (L : List HeldI) : AS := fun a => ∃ h ∈ L, h.f a
/-- from the state (A, H₀) on we have come to (φ, H), with L held -/
structure At (K : PySem.W.Frag) (ρ : Nat → Addr) (σ : L2.St) (A : AS) (H₀ : Hp) (L : List HeldI) (H : Hp) (η : Env) (φ : FS) : Prop where
  rep : RepE K ρ H σ η φ
  ext : Ext A H₀ H
  new : New A H₀ (uni (gone L) (foot φ))
  held : ∀ h ∈ L, RefOk K H σ h.r h.v h.f ∧ dis h.f (foot φ)
  dis : L.Pairwise fun h k => dis h.f k.f
section
variable {K : PySem.W.Frag} {ρ : Nat → Addr} {mg : Str → Option Value} {W : WX} {σ : L2.St} {A : AS} {H₀ H H' : Hp} {L : List HeldI} {η η' : Env} {φ φ' : FS} {Q : VK}
theorem At.start (r : RepE K ρ H σ η φ) : At K ρ σ (foot φ) H [] H η φ :=
  ⟨r, Ext.refl _ _, fun a h => h.elim (fun ⟨_, h, _⟩ => (nomatch h)) .inl, fun _ h => (nomatch h), .nil⟩
theorem refOk_ext {B : AS} (e : Ext B H H') {r : Ref} {v : V} {f : AS} (h : RefOk K H σ r v f) (d : DD.dis f B) : RefOk K H' σ r v f := by
  cases r with
  | sl i => exact h
  | vl x => exact repV_ext e h d
theorem refOk_there {r : Ref} {v : V} {f : AS} (h : RefOk K H σ r v f) {a : Addr} (k : f a) : ∃ o, H a = some o ∧ ¬ Imm o := by
  cases r with
  | sl i => exact (h.2 a k).elim
  | vl x => exact repV_there h k
theorem At.there (a : At K ρ σ A H₀ L H η φ) {b : Addr} (h : uni (gone L) (foot φ) b) : ∃ o, H b = some o ∧ ¬ Imm o := by
  rcases h with ⟨h, hm, k⟩ | h
  · exact refOk_there (a.held h hm).1 k
  · exact a.rep.there h
/-- one more value is held -/
theorem At.hold (a : At K ρ σ A H₀ L H η φ) {r : Ref} {v : V} {f : AS} (rep : RepE K ρ H' σ η' φ') (ok : RefOk K H' σ r v f) (d : DD.dis f (foot φ')) (e : Ext (foot φ) H H') (n : New (foot φ) H (uni f (foot φ'))) :
    At K ρ σ A H₀ (⟨r, v, f⟩ :: L) H' η' φ' := by
  have nf : New A H₀ (foot φ) := a.new.sub fun _ h => .inr h
  have ng : ∀ h ∈ L, ∀ b, h.f b → ¬ uni f (foot φ') b := fun h hm b hb hu => by
    rcases n b hu with z | z
    · exact (a.held h hm).2 b hb z
    · obtain ⟨o, ho, _⟩ := refOk_there (a.held h hm).1 hb
      rw [ho] at z; cases z
  refine ⟨rep, a.ext.trans nf e, fun b hb => ?_, fun h hm => ?_, ?_⟩
  · rcases hb with ⟨h, hm, hb⟩ | hb
    · rcases List.mem_cons.mp hm with q | q
      · subst q
        exact (New.trans a.ext nf n) b (.inl hb)
      · exact a.new b (.inl ⟨h, q, hb⟩)
    · exact (New.trans a.ext nf n) b (.inr hb)
  · rcases List.mem_cons.mp hm with q | q
    · subst q
      exact ⟨ok, d⟩
    · exact ⟨refOk_ext e (a.held h q).1 (a.held h q).2, fun b hb hf => ng h q b hb (.inr hf)⟩
  · refine List.pairwise_cons.mpr ⟨fun k hk b hb hk' => ng k hk b hk' (.inl hb), a.dis⟩
/-- the step: m is run, what it gives is held -/
theorem At.step {m : M Ref} {k : Ref → M Ref} (a : At K ρ σ A H₀ L H η φ) (p : Post K ρ mg W σ A H₀ Q ((m >>= k) η)) :
    tE K mg W m σ H fun v H' => ∃ r η' φ' f, At K ρ σ A H₀ (⟨r, v, f⟩ :: L) H' η' φ' ∧ Post K ρ mg W σ A H₀ Q (k r η') := by
  refine ⟨ρ, η, φ, a.rep, ?_⟩
  rw [bind_def] at p
  have nf : New A H₀ (foot φ) := a.new.sub fun _ h => .inr h
  cases e : m η with
  | ok r η' =>
    rw [e] at p
    exact fun v H' φ' f rep ok d ex n => ⟨r, η', φ', f, a.hold rep ok d ex n, p⟩
  | err x η' =>
    rw [e] at p
    exact fun cls dx H' φ' rep ex n xk => p cls dx H' φ' rep (a.ext.trans nf ex) (New.trans a.ext nf n) xk
  | stuck =>
    rw [e] at p
    exact p.elim
/-- what a held reference stands for -/
theorem At.get (a : At K ρ σ A H₀ L H η φ) {r : Ref} {v : V} {f : AS} (hm : ⟨r, v, f⟩ ∈ L) {x : Val} (hx : rd η r = some x) : ∃ g, RepV K H x v g ∧ ∀ b, g b → uni (gone L) (foot φ) b := by
  have ok := (a.held _ hm).1
  cases r with
  | sl i =>
    obtain ⟨h1, h2⟩ := ok
    obtain ⟨y, e, hy⟩ : ∃ y, η[i]? = some (some y) ∧ x = y.norm := by
      unfold rd at hx
      dsimp only at hx
      split at hx
      · rename_i y hy; cases hx; exact ⟨y, hy, rfl⟩
      · cases hx
    subst hy
    obtain ⟨v', e1, e2⟩ := a.rep.rep i y e
    have h1' : σ[i]? = some (some v) := h1
    rw [h1'] at e1
    cases e1
    exact ⟨φ i, repV_norm e2, fun b hb => .inr ⟨i, hb⟩⟩
  | vl y =>
    cases hx
    exact ⟨f, ok, fun b hb => .inl ⟨_, hm, hb⟩⟩
theorem At.getD (a : At K ρ σ A H₀ L H η φ) {r : Ref} {v : V} {f : AS} (hm : ⟨r, v, f⟩ ∈ L) {x : D} (hx : rdD η r = some x) : Rp K H v x := by
  unfold rdD at hx
  cases q : rd η r with
  | none => rw [q] at hx; cases hx
  | some y =>
    rw [q] at hx
    cases y with
    | d z => cases hx; obtain ⟨g, h, _⟩ := a.get hm q; exact h.1
    | l _ => cases hx
    | fz _ => cases hx
    | m _ => cases hx
    | mt _ => cases hx
    | bw _ => cases hx
    | pin _ _ => cases hx
/-- the end: plain data -/
theorem At.data (a : At K ρ σ A H₀ L H η φ) {x : D} {v : V} (p : Post K ρ mg W σ A H₀ Q (.ok (.vl (.d x)) η)) (h : Rp K H v x) : Q v H :=
  p v H φ none_ a.rep ⟨h, fun _ => id⟩ (fun _ z => z.elim) a.ext (New.none.uni (a.new.sub fun _ h => .inr h))
/-- the end: the state has changed by something new -/
theorem At.made (a : At K ρ σ A H₀ L H η φ) {x : Val} {p : Addr} {o : HO} {f : AS} (q : Post K ρ mg W σ A H₀ Q (.ok (.vl x) η)) (hp : H p = none) (h : RepV K (L2.upd H p o) x (.ref p) f) (hf : ∀ b, f b → b = p) : Q (.ref p) (L2.upd H p o) := by
  have nf : New A H₀ (foot φ) := a.new.sub fun _ h => .inr h
  refine q _ _ φ f (a.rep.fresh hp) h (fun b hb hφ => ?_) (a.ext.trans nf (Ext.new hp)) fun b hb => ?_
  · have := hf b hb
    subst this
    obtain ⟨o, e, _⟩ := a.rep.there hφ
    rw [hp] at e; cases e
  · rcases hb with hb | hb
    · have := hf b hb
      subst this
      exact a.ext.fresh hp
    · exact nf b hb
theorem At.madeL (a : At K ρ σ A H₀ L H η φ) {xs : List D} {vs : List V} {p : Addr} (q : Post K ρ mg W σ A H₀ Q (.ok (.vl (.l xs)) η)) (hp : H p = none) (h : Rps K H vs xs) : Q (.ref p) (L2.upd H p (.lst vs)) :=
  a.made (f := fun b => b = p) q hp ⟨p, vs, rfl, upd_same, dps_ext (Ext.new (A := none_) hp) _ _ h, fun _ => Iff.rfl⟩ fun _ h => h
theorem At.madeT (a : At K ρ σ A H₀ L H η φ) {xs : List D} {vs : List V} {p : Addr} {o : Obj} (q : Post K ρ mg W σ A H₀ Q (.ok (.vl (.d (.tup xs))) η)) (hp : H p = none) (ho : o.dict = none) (h : Rps K H vs xs) : Q (.ref p) (L2.upd H p (.frz o (.tup vs))) :=
  a.made (f := none_) q hp ⟨tup_dp (SqN.of upd_same ho) (dps_ext (Ext.new (A := none_) hp) _ _ h), fun _ => id⟩ fun _ h => h.elim
theorem At.madeP (a : At K ρ σ A H₀ L H η φ) {xs : List D} {vs : List V} {p : Addr} (q : Post K ρ mg W σ A H₀ Q (.ok (.vl (.d (.pt xs))) η)) (hp : H p = none) (h : Rps K H vs xs) : Q (.ref p) (L2.upd H p (.tup vs)) :=
  a.made (f := none_) q hp ⟨.pt (SqT.of upd_same) (dps_ext (Ext.new (A := none_) hp) _ _ h), fun _ => id⟩ fun _ h => h.elim
end
end DD


/-! New tuples of which one knows that they have no dict: they are tracked as objects that never change. -/
namespace DD
open PySem PySem.Spec PyProof.Rows L2
section
variable {X : Cx} {pins : List (Addr × Obj)} {σ : L2.St} {H : Hp} {s : Shared} {e a b : Expr} {es : List Expr} {ta : TE} {t : TA} {p pos p2 : Pos} {k : Nat}
abbrev tobj (us : List Value) : Obj := { cls := .type "tuple", data := .seq us.toArray }
/-- a tuple was laid at the heap's end -/
theorem laidT {us : List Value} {xs : List V} (I : Inv X pins σ H s) (r : Vals xs us) (z : xs.length ≤ sizeLine) {Q : VK} (q : ∀ p o, H p = none → o.dict = none → Q (.ref p) (L2.upd H p (.frz o (.tup xs)))) :
    EP X pins σ Q (.ref s.heap.objs.size) { s with heap := s.heap.push (tobj us) } := by
  have g : (s.heap.push (tobj us)).get? s.heap.objs.size = some (tobj us) := Heap.get?_push_size _ rfl
  refine ⟨.ref s.heap.objs.size, _, I.laid (t' := s.toks) (o := .frz (tobj us) (.tup xs)) (fun c u h => Heap.get?_push_of_some _ h) (Nat.le_refl _) ⟨g, z, us, r, ?_⟩, rfl, q _ _ (I.hok.fresh (Nat.le_refl _)) rfl⟩
  exact ⟨_, g, rfl, _, rfl⟩
def tTupF (t : TA) : TE := fun σ H Q => t σ H fun xs H1 => xs.length ≤ sizeLine ∧ ∀ p o, H1 p = none → o.dict = none → Q (.ref p) (L2.upd H1 p (.frz o (.tup xs)))
theorem pe_tupF {x1} (h : PA X es t) : PE X (.Tuple es x1 pos) (tTupF t) :=
  ⟨fun pins s σ H Q I hq => wpAny_Tuple_spliced (thn (h.run pos pins s σ H _ I hq) fun us s1 ⟨xs, H1, I1, r, z, q⟩ => ⟨by have := r.length; omega, laidT I1 r z q⟩)⟩
theorem call_tupleF : CallR X (.type "tuple") (fun xs H Q => ∃ p ys, xs = [.ref p] ∧ ((SqL X.K H p ys ∧ ∀ l o, H l = none → o.dict = none → Q (.ref l) (L2.upd H l (.frz o (.tup ys)))) ∨ (SqT X.K H p ys ∧ Q (.ref p) H))) := by
  rintro pins s σ H xs us Q I r ⟨l, ys, rfl, h⟩
  obtain ⟨u, rfl, rx⟩ := vals1 r
  cases rx
  rcases h with ⟨hq, q⟩ | ⟨hq, q⟩
  · obtain ⟨its, rv, pl, hz⟩ := I.list hq
    have hl := rv.length
    refine call_tuple_list pl.isList (fun h1 k1 => ?_) (by rw [List.size_toArray]; omega)
    exact laidT (s := { s with heap := h1 }) (I.kept (t' := s.toks) k1) rv hz q
  · obtain ⟨its, rv, pl, hz⟩ := I.tuple hq
    exact call_tuple_same pl ⟨.ref l, H, I, rfl, q⟩
def tTupRgF (te : L2.St → Hp → (Int → Int → Hp → Prop) → Prop) : TE := fun σ H Q => te σ H fun a b H1 => RgOk a b ∧ ∀ q o, H1 q = none → o.dict = none → Q (.ref q) (L2.upd H1 q (.frz o (.tup (rgV a b))))
theorem pe_tupRgF {te : L2.St → Hp → (Int → Int → Hp → Prop) → Prop} (hc : X.calm = true) (hg : Gl X "tuple") (hm : X.mg "tuple" = none) (he : PRg X e te) (na : starEach [e] X.env = (false, eval e X.env) :: starEach [] X.env := by rfl) :
    PE X (.Call (.Name "tuple" p) [e] [] pos) (tTupRgF te) := by
  refine ⟨fun pins s σ H Q I h => Call_ (ld_blt I hg hm boot_tuple (PyProof.Rows.callWith_type1 (args_cons (thn (he pins s σ H _ I h) fun x s1 hx => args_nil ?_) na) na))⟩
  obtain ⟨r, a, b, t, u, v, H1, rfl, hr, I1, ⟨b1, b2, b3, b4, b5⟩, q⟩ := hx
  refine call_tuple_range (n := (b - a).toNat) (I1.ok.hd hc) hr (small_one b1 b2 b3 b4) (rangeSize_nat a b) b5 fun h1 tk acc hk hi => ?_
  have hz : (rgV a b).length ≤ sizeLine := by rw [rgV_length, sizeLine_eq]; omega
  have g := laidT (s := { s1 with heap := h1, toks := tk }) (I1.kept hk) (vals_rg hi) hz q
  rwa [show tobj acc.toList = ({ cls := .type "tuple", data := .seq acc } : Obj) by unfold tobj; rw [Array.toArray_toList]] at g
/-- t + u -/
def rCatF (K : PySem.W.Frag) : R2 := fun x y H Q => ∃ a b xs ys, x = .ref a ∧ y = .ref b ∧ SqT K H a xs ∧ SqT K H b ys ∧ xs.length + ys.length ≤ sizeLine ∧
  (xs = [] → Q (.ref b) H) ∧ (xs ≠ [] → ys = [] → Q (.ref a) H) ∧ (xs ≠ [] → ys ≠ [] → ∀ p o, H p = none → o.dict = none → Q (.ref p) (L2.upd H p (.frz o (.tup (xs ++ ys)))))
theorem op_catF : OpR X (binaryOp .Add) (rCatF X.K) := by
  rintro pins s σ H x y v u Q I rx ry ⟨a, b, xs, ys, rfl, rfl, ha, hb, hz, q0, q1, q2⟩
  cases rx
  cases ry
  obtain ⟨us, r1, p1, _⟩ := I.tuple ha
  obtain ⟨ws, r2, p2, _⟩ := I.tuple hb
  have l1 := r1.length
  have l2 := r2.length
  by_cases hx : xs = []
  · have hu : us = [] := r1.nil_iff.mpr hx
    subst hu
    exact cat_tup0 p1 p2 ⟨.ref b, H, I, rfl, q0 hx⟩
  · refine HT.cat_tup p1 p2 (fun z => hx (r1.nil_iff.mp z)) (fun z => ⟨.ref a, H, I, rfl, q1 hx (r2.nil_iff.mp z)⟩) (fun z => ?_) (by omega)
    exact laidT I (r1.append r2) (by rw [List.length_append]; exact hz) (q2 hx fun w => z (r2.nil_iff.mpr w))
/-- t[lo:hi] -/
def rSlF (K : PySem.W.Frag) : V → Option Int → Option Int → Hp → VK → Prop := fun x lo hi H Q => ∃ a xs, x = .ref a ∧ SqT K H a xs ∧
  (HT.sIx xs.length 0 lo = 0 ∧ HT.sIx xs.length xs.length hi = xs.length → Q (.ref a) H) ∧
  (¬ (HT.sIx xs.length 0 lo = 0 ∧ HT.sIx xs.length xs.length hi = xs.length) → ∀ p o, H p = none → o.dict = none → Q (.ref p) (L2.upd H p (.frz o (.tup (cutV xs lo hi)))))
theorem sl_tupF : SlR X (rSlF X.K) := by
  rintro pins s σ H x v vl vu lo hi sl Q I rx hs pl pu ⟨a, xs, rfl, hx, q1, q2⟩
  cases rx
  obtain ⟨us, r, ht, hz⟩ := I.tuple hx
  have hl : us.toArray.size = xs.length := by rw [List.size_toArray]; exact r.length.symm
  refine ⟨"tuple", _, PyProof.Rows.slot_tuple_getitem.lookup, ht.typeIs, ?_⟩
  by_cases hw : HT.sIx xs.length 0 lo = 0 ∧ HT.sIx xs.length xs.length hi = xs.length
  · exact getItem_tuple_whole ht hs pl pu (by rw [hl]; exact hw) ⟨.ref a, H, I, rfl, q1 hw⟩
  · refine HT.getItem_tuple_cut ht hs pl pu (by rw [hl]; exact hw) ?_ (by rw [hl]; exact hz)
    rw [hl]
    exact laidT I ((r.drop _).take _) (Nat.le_trans (cutV_length xs lo hi) hz) (q2 hw)

/-! ### t[::-1] -/
theorem sliceApplied_back {prog : Program} {w : World} {A : Around} {E : Value → Shared → Prop} {s : Shared} {sl : Addr} {vl vu vs : Value} {n : Nat} {Q : Int × Int × Nat → Shared → Prop} (hs : s.heap.IsSliceOf sl vl vu vs) (pl : IsPart vl none) (pu : IsPart vu none)
    (ps : IsPart vs (some (-1))) (h : Q ((n : Int) - 1, -1, n) s) : wpAny (model prog w) A (Builtin.Slice.sliceApplied (.ref sl) (pure (n : Int))) Q E s := by
  obtain ⟨ob, ho, hc, hd⟩ := id hs
  unfold Builtin.Slice.sliceApplied Builtin.Slice.sliceFields
  refine wpAny_bind (wpAny_bind (wpAny_field ho hd (x := vl) rfl (wpAny_bind (wpAny_field ho hd (x := vu) rfl (wpAny_bind (wpAny_field ho hd (x := vs) rfl (wpAny_pure ?_)))))))
  refine wpAny_bind (HT.slicePart_ ps ?_)
  show wpAny _ _ (if ((-1 : Int) == 0) = true then _ else _) _ _ s
  rw [if_neg (by decide)]
  refine wpAny_bind (HT.slicePart_ pl (wpAny_bind (HT.slicePart_ pu (wpAny_bind (wpAny_pure ?_)))))
  have e : Builtin.Slice.sliceAdjust none none (-1) (n : Int) = ((n : Int) - 1, -1) := by
    unfold Builtin.Slice.sliceAdjust
    simp
  show wpAny _ _ (match Builtin.Slice.sliceAdjust none none (-1) (n : Int) with | (lo, hi) => pure (lo, (-1 : Int), Builtin.Slice.slicePlaces lo hi (-1))) _ _ s
  rw [e]
  have e2 : Builtin.Slice.slicePlaces ((n : Int) - 1) (-1) (-1) = n := by
    unfold Builtin.Slice.slicePlaces
    simp
    omega
  show wpAny _ _ (pure ((n : Int) - 1, (-1 : Int), Builtin.Slice.slicePlaces ((n : Int) - 1) (-1) (-1))) _ _ s
  rw [e2]
  exact wpAny_pure h
theorem fm_congr {α β : Type} {f g : α → Option β} : ∀ {l : List α}, (∀ x ∈ l, f x = g x) → l.filterMap f = l.filterMap g
  | [], _ => rfl
  | x :: l, h => by
    rw [List.filterMap_cons, List.filterMap_cons, h x List.mem_cons_self, fm_congr fun y hy => h y (List.mem_cons_of_mem _ hy)]
theorem pick_back (xs : Array Value) : ((List.range xs.size).filterMap fun (k : Nat) => xs[((xs.size : Int) - 1 + (k : Int) * -1).toNat]?).toArray = xs.toList.reverse.toArray := by
  have e1 : ∀ k ∈ List.range xs.size, (fun (k : Nat) => xs[((xs.size : Int) - 1 + (k : Int) * -1).toNat]?) k = (fun k => xs[xs.size - 1 - k]?) k := fun k hk => by
    have := List.mem_range.mp hk
    show xs[((xs.size : Int) - 1 + (k : Int) * -1).toNat]? = xs[xs.size - 1 - k]?
    rw [show ((xs.size : Int) - 1 + (k : Int) * -1).toNat = xs.size - 1 - k by omega]
  rw [fm_congr e1]
  have e2 := PySem.W.krv_all xs
  have e3 : (List.range xs.size).filterMap (fun k => xs[xs.size - 1 - k]?) = ((List.range xs.size).map fun k => xs.size - 1 - k).filterMap (xs[·]?) := by
    rw [List.filterMap_map]; rfl
  rw [e3, PySem.W.krv_range, List.filterMap_reverse, e2]
open PySem.AutoSeq1 in
theorem getItem_tuple_back {prog : Program} {w : World} {A : Around} {E : Value → Shared → Prop} {s : Shared} {t sl : Addr} {items : Array Value} {vl vu vs : Value} {Q : Value → Shared → Prop} (ht : IsTup s.heap t items) (hs : s.heap.IsSliceOf sl vl vu vs)
    (pl : IsPart vl none) (pu : IsPart vu none) (ps : IsPart vs (some (-1))) (hz : items.size ≤ sizeLine) (h : Q (.ref s.heap.objs.size) { s with heap := s.heap.push (tobj items.toList.reverse) }) :
    wpAny (model prog w) A (getItem (.ref t) (.ref sl)) Q E s := by
  have hTs : s.TypeIs (.ref sl) "slice" := by obtain ⟨ob, ho, hc, _⟩ := id hs; exact ⟨ob, ho, hc⟩
  have hok : sizeOk (.seq items.toList.reverse.toArray) := by
    show items.toList.reverse.toArray.size ≤ sizeLine
    simpa using hz
  unfold getItem
  try with_reducible refine wpAny_holding ?_
  first | refine wpAny_bind (wpAny_pure ?_) | skip
  refine wpAny_bind (wpAny_sequenceKey ht.typeIs (by decide) (wpAny_bind (wpAny_callSpecial?_slot (name := Str.ofString "__getitem__") ht.typeIs PyProof.Rows.slot_tuple_getitem
    (wpAny_call_entry PyProof.Rows.slot_tuple_getitem ht.typeIs entry_tuple_getitem ?_ (args_tuple_getitem _ _)))))
  show wpAny _ _ (Builtin.Tuple.tupleItemsOf (.ref t) >>= _) _ _ s
  refine wpAny_bind (tupleItemsOf_ ht (wpAny_bind (wpAny_typeOf hTs ?_)))
  rw [if_pos (by decide)]
  refine wpAny_bind (sliceApplied_back hs pl pu ps ?_)
  have hno : ¬ (((items.size : Int) - 1 == 0 && (-1 : Int) == 1 && items.size == items.size) = true) := by simp
  show wpAny _ _ (if ((items.size : Int) - 1 == 0 && (-1 : Int) == 1 && items.size == items.size) = true then _ else _) _ _ s
  rw [if_neg hno, pick_back]
  first
    | exact wpAny_bind (m := Builtin.Tuple.tupleExact _) (wpAny_newObj_type (wpAny_pure ⟨_, rfl, wpAny_pure h⟩) hok)
    | exact wpAny_bind (m := Builtin.Tuple.tupleExact _) (wpAny_newObj_type (wpAny_bind (wpAny_pure (wpAny_pure ⟨_, rfl, wpAny_pure h⟩))) hok)
    | exact wpAny_bind (wpAny_bind (m := Builtin.Tuple.tupleExact _) (wpAny_newObj_type (wpAny_pure (wpAny_pure ⟨_, rfl, wpAny_pure h⟩)) hok))
    | exact wpAny_bind (wpAny_bind (m := Builtin.Tuple.tupleExact _) (wpAny_newObj_type (wpAny_pure ⟨_, rfl, wpAny_pure h⟩) hok))
/-- x[::-1] of a tuple or a list -/
def rBack (K : PySem.W.Frag) (x : V) (H : Hp) (Q : VK) : Prop :=
  (∃ a xs, x = .ref a ∧ SqT K H a xs ∧ ∀ p o, H p = none → o.dict = none → Q (.ref p) (L2.upd H p (.frz o (.tup xs.reverse)))) ∨
    (∃ a xs, x = .ref a ∧ SqL K H a xs ∧ ∀ p, H p = none → Q (.ref p) (L2.upd H p (.lst xs.reverse)))
theorem pe_back {e : Expr} {te : TE} {k : Nat} {p1 p2 p3 pos : Pos} (he : PE X e te) : PE X (.Subscript e (.Slice none none (some (.UnaryOp .USub (.Constant (.int 1) k p1) p2)) p3) pos) (fun σ H Q => te σ H fun x H1 => rBack X.K x H1 Q) := by
  refine ⟨fun pins s σ H Q I h => Subscript_ (thn (he.run pins s σ H _ I h) fun v s1 ⟨x, H1, I1, r1, q1⟩ => ?_)⟩
  have hst : PO X (some (.UnaryOp .USub (.Constant (.int 1) k p1) p2)) (tPart (tUn (rU fun i => .int (-i)) (tC (.int 1)))) := po_some (pe_un un_neg pe_int)
  refine wpAny_Slice (thn (po_none.run pins s1 σ H1 (fun o H2 => o = none ∧ H2 = H1) I1 ⟨rfl, rfl⟩) ?_)
  rintro vl s2 ⟨l, H2, I2, pl, rfl, rfl⟩
  refine thn (po_none.run pins s2 σ H2 (fun o H3 => o = none ∧ H3 = H2) I2 ⟨rfl, rfl⟩) ?_
  rintro vu s3 ⟨u, H3, I3, pu, rfl, rfl⟩
  refine thn (hst.run pins s3 σ H3 (fun o H4 => o = some (-1) ∧ H4 = H3) I3 ⟨1, rfl, -1, rfl, rfl, rfl⟩) ?_
  rintro vs s4 ⟨o, H4, I4, ps, rfl, rfl⟩
  have I5 : Inv X pins σ H4 { s4 with heap := s4.heap.push { cls := .type "slice", data := .fields #[vl, vu, vs] } } := I4.kept (t' := s4.toks) fun b ob q => Heap.get?_push_of_some _ q
  rcases q1 with ⟨a, xs, rfl, hx, q⟩ | ⟨a, xs, rfl, hx, q⟩
  · cases r1
    obtain ⟨its, rv, ht, hz⟩ := I5.tuple hx
    have hl := rv.length
    show wpAny (model X.prog X.w) X.A (subscriptTail e (.Slice none none (some (.UnaryOp .USub (.Constant (.int 1) k p1) p2)) p3) (.ref a) (.ref s4.heap.objs.size)) (EP X pins σ Q) X.xe { s4 with heap := s4.heap.push { cls := .type "slice", data := .fields #[vl, vu, vs] } }
    refine tail_any (ops := [.ref a, .ref s4.heap.objs.size]) ht.typeIs (PyProof.Rows.slot_tuple_getitem.lookup) ?_ (by with_unfolding_all rfl)
    refine getItem_tuple_back ht (Heap.IsSliceOf.new _ vl vu vs) pl pu ps (by rw [List.size_toArray]; omega) ?_
    exact laidT I5 rv.reverse (by rw [List.length_reverse]; exact hz) q
  · cases r1
    obtain ⟨its, rv, ht, hz⟩ := I5.list hx
    have hl := rv.length
    show wpAny (model X.prog X.w) X.A (subscriptTail e (.Slice none none (some (.UnaryOp .USub (.Constant (.int 1) k p1) p2)) p3) (.ref a) (.ref s4.heap.objs.size)) (EP X pins σ Q) X.xe { s4 with heap := s4.heap.push { cls := .type "slice", data := .fields #[vl, vu, vs] } }
    refine tail_any (ops := [.ref a, .ref s4.heap.objs.size]) ht.isList.typeIs (PySem.slot_list_getitem.lookup) ?_ (by with_unfolding_all rfl)
    refine wpAny_getItem_list_slice ht.isList (Heap.IsSliceOf.new _ vl vu vs) pl pu ps (by decide) ?_ (by rw [List.size_toArray]; omega)
    rw [PySem.W.krv_pick]
    refine ⟨.ref _, _, I5.laid (t' := s4.toks) (o := .lst xs.reverse) (fun b ob q => Heap.get?_push_of_some _ q) (Nat.le_refl _) ?_, rfl, q _ (I5.hok.fresh (Nat.le_refl _))⟩
    exact ⟨by rw [List.length_reverse]; exact hz, _, 0, rv.reverse, Heap.get?_push_size _ rfl⟩

/-! ### methods of such tuples -/
theorem sqn_at {a : Addr} {vs : List V} (I : Inv X pins σ H s) (h : SqN X.K H a vs) : s.TypeIs (.ref a) "tuple" ∧ ∃ ob, s.heap.get? a = some ob ∧ ob.dict = none := by
  refine ⟨(I.tuple h.t).elim fun its z => z.2.1.typeIs, ?_⟩
  rcases h with ⟨o, h, d⟩ | ⟨o, its, n, hk, _, d, _⟩
  · exact ⟨o, (show ObjOk X.prog X.w H s.heap a (.frz o (.tup vs)) from I.hok a _ h).1, d⟩
  · exact ⟨o, I.kIn a o hk, d⟩
def tMT (K : PySem.W.Frag) (r : V → List V → Hp → VK → Prop) (to : TE) (t : TA) : TE := fun σ H Q => to σ H fun x H1 => (∃ a vs, x = .ref a ∧ SqN K H1 a vs) ∧ t σ H1 fun xs H2 => r x xs H2 Q
theorem pe_mt {o e : Expr} {es : List Expr} {to : TE} {t : TA} {name : Str} {apos cpos : Pos} {id : String} {r : V → List V → Hp → VK → Prop} (slot : Slot "tuple" name id) (hty : typeOf (.builtin id) = pure (.type "method_descriptor")) (hm : MtR X id r) (ho : PE X o to) (ha : PA X (e :: es) t)
    (hbase : attributeBase o name X.env (eval o X.env) = eval o X.env := by rfl)
    (hfew : ((backTo cpos (starEach (e :: es) X.env)).all (fun x => !x.1) && (backToKw cpos (keywordEach [] X.env)).all (fun x => x.1.isSome)
      && decide ((e :: es).length + ([] : List Keyword).length + (if ([] : List Keyword).isEmpty then 0 else 1) < 30)) = true := by rfl)
    (hline : (apos.endLine == cpos.line) = true := by rfl) (hs : starEach (e :: es) X.env = (false, eval e X.env) :: starEach es X.env := by rfl) (hplain : (backTo cpos (starEach es X.env)).any (·.1) = false := by rfl) :
    PE X (.Call (.Attribute o name apos) (e :: es) [] cpos) (tMT X.K r to t) := by
  refine ⟨fun pins s σ H Q I h => wpAny_Call_method_late hbase hfew hline rfl (thn (ho.run pins s σ H _ I h) ?_)⟩
  rintro v s1 ⟨x, H1, I1, r1, ⟨a, vs, rfl, hn⟩, q1⟩
  cases r1
  obtain ⟨hT, hd⟩ := sqn_at I1 hn
  refine ⟨"tuple", id, PySem.F.plainAttrs_tuple, slot, hty, hT, fun b hb => by cases hb; exact hd, ?_⟩
  have run := ha.run cpos pins s1 σ H1 _ I1 q1
  rw [hs] at run ⊢
  have hp : (false || (backTo cpos (starEach es X.env)).any (·.1)) = false := by rw [hplain]; rfl
  exact Calls.callWith_builtin hp (Calls.evalArgs_plain (thn run fun us s2 ⟨ws, H2, I2, r2, q2⟩ => hm pins s2 σ H2 (.ref a) ws _ us Q I2 rfl r2 q2))
end
end DD


/-! Expressions. -/
namespace DD
open PySem PySem.Spec PyProof.Rows L2

/-- where one stands: nothing is handled, there is room, what is raised is wished for by W -/
structure Cc (X : Cx) (W : WX) (k : Nat) : Prop where
  calm : X.calm = true
  room : Room k X.A
  grd : X.A.guards = some []
  nd : X.N.Nodup
  tk : Takes X W
theorem Cc.hu {X : Cx} {W : WX} {k : Nat} (c : Cc X W k) : X.A.units + 100 < cLine := by have := c.room.un; omega

section
variable {X : Cx} {W : WX} {k : Nat} {e a b c : Expr} {m1 m2 m3 : M Ref} {σ : L2.St} {H : Hp} {pos : Pos}
theorem tE_mono {K : PySem.W.Frag} {mg : Str → Option Value} {m : M Ref} {Q Q' : VK} (h : ∀ v H, Q v H → Q' v H) (t : tE K mg W m σ H Q) : tE K mg W m σ H Q' := by
  obtain ⟨ρ, η, φ, r, p⟩ := t
  refine ⟨ρ, η, φ, r, ?_⟩
  cases q : m η with
  | ok r η' =>
    rw [q] at p
    exact fun v H' φ' f a b c d e => h _ _ (p v H' φ' f a b c d e)
  | err x η' => rw [q] at p; exact p
  | stuck => rw [q] at p; exact p

/-! ### one, two, three operands -/
theorem in0 {α : Type} {x : α} {l : List α} : x ∈ x :: l := List.mem_cons_self
theorem in1 {α : Type} {x y : α} {l : List α} : x ∈ y :: x :: l := List.mem_cons_of_mem _ List.mem_cons_self
theorem in2 {α : Type} {x y z : α} {l : List α} : x ∈ y :: z :: x :: l := List.mem_cons_of_mem _ (List.mem_cons_of_mem _ List.mem_cons_self)

theorem de_un {rr : V → Hp → VK → Prop} {k : Ref → M Ref} (hr : ∀ ta, PE X a ta → PE X e (tUn rr ta)) (ha : DE X W a m1)
    (hk : ∀ ρ σ H Q η φ A H₀ r v f, At X.K ρ σ A H₀ [⟨r, v, f⟩] H η φ → Post X.K ρ X.mg W σ A H₀ Q (k r η) → rr v H Q) : DE X W e (m1 >>= k) :=
  pe_mono (hr _ ha) fun σ H Q ⟨ρ, η, φ, r, p⟩ => tE_mono (fun v H' ⟨r, η', φ', f, at_, q⟩ => hk ρ σ H' Q η' φ' _ _ r v f at_ q) ((At.start r).step p)
theorem de_two {rr : V → V → Hp → VK → Prop} {k : Ref → Ref → M Ref} (hr : ∀ ta tb, PE X a ta → PE X b tb → PE X e (fun σ H Q => ta σ H fun x H1 => tb σ H1 fun y H2 => rr x y H2 Q)) (ha : DE X W a m1) (hb : DE X W b m2)
    (hk : ∀ ρ σ H Q η φ A H₀ r1 v1 f1 r2 v2 f2, At X.K ρ σ A H₀ [⟨r2, v2, f2⟩, ⟨r1, v1, f1⟩] H η φ → Post X.K ρ X.mg W σ A H₀ Q (k r1 r2 η) → rr v1 v2 H Q) : DE X W e (m1 >>= fun r1 => m2 >>= k r1) :=
  pe_mono (hr _ _ ha hb) fun σ H Q ⟨ρ, η, φ, r, p⟩ => tE_mono (fun v1 H1 ⟨r1, η1, φ1, f1, at1, p1⟩ =>
    tE_mono (fun v2 H2 ⟨r2, η2, φ2, f2, at2, p2⟩ => hk ρ σ H2 Q η2 φ2 _ _ r1 v1 f1 r2 v2 f2 at2 p2) (at1.step p1)) ((At.start r).step p)
theorem de_three {rr : V → V → V → Hp → VK → Prop} {k : Ref → Ref → Ref → M Ref}
    (hr : ∀ ta tb tc, PE X a ta → PE X b tb → PE X c tc → PE X e (fun σ H Q => ta σ H fun x H1 => tb σ H1 fun y H2 => tc σ H2 fun z H3 => rr x y z H3 Q)) (ha : DE X W a m1) (hb : DE X W b m2) (hc : DE X W c m3)
    (hk : ∀ ρ σ H Q η φ A H₀ r1 v1 f1 r2 v2 f2 r3 v3 f3, At X.K ρ σ A H₀ [⟨r3, v3, f3⟩, ⟨r2, v2, f2⟩, ⟨r1, v1, f1⟩] H η φ → Post X.K ρ X.mg W σ A H₀ Q (k r1 r2 r3 η) → rr v1 v2 v3 H Q) :
    DE X W e (m1 >>= fun r1 => m2 >>= fun r2 => m3 >>= k r1 r2) :=
  pe_mono (hr _ _ _ ha hb hc) fun σ H Q ⟨ρ, η, φ, r, p⟩ => tE_mono (fun v1 H1 ⟨r1, η1, φ1, f1, at1, p1⟩ =>
    tE_mono (fun v2 H2 ⟨r2, η2, φ2, f2, at2, p2⟩ => tE_mono (fun v3 H3 ⟨r3, η3, φ3, f3, at3, p3⟩ => hk ρ σ H3 Q η3 φ3 _ _ r1 v1 f1 r2 v2 f2 r3 v3 f3 at3 p3) (at2.step p2)) (at1.step p1)) ((At.start r).step p)

/-! ### names and constants -/
def mVar (i : Nat) : M Ref := fun η => match η[i]? with
  | some (some _) => .ok (.sl i) η
  | _ => .stuck
def mC (x : D) : M Ref := fun η => .ok (.vl (.d x)) η
theorem de_var (i : Nat) {x : Str} (hN : X.N[i]? = some x := by rfl) (hv : Vis X.env.scope x := by first | exact Or.inl rfl | exact Or.inr (Or.inl rfl) | exact Or.inr (Or.inr rfl)) (hd : (x == ("__debug__" : Str)) = false := by decide)
    (hcd : (x == ("__classdict__" : Str)) = false := by decide) : DE X W (.Name x pos) (mVar i) :=
  pe_mono (pe_var hN hv hd hcd) fun σ H Q ⟨ρ, η, φ, r, p⟩ => by
    unfold mVar at p
    cases q : η[i]? with
    | none => rw [q] at p; exact p.elim
    | some o =>
      cases o with
      | none => rw [q] at p; exact p.elim
      | some x =>
        rw [q] at p
        obtain ⟨v, h1, h2⟩ := r.rep i x q
        exact ⟨v, h1, p v H φ none_ r ⟨h1, fun _ => id⟩ (fun _ z => z.elim) (Ext.refl _ _) (New.none.uni New.self)⟩
theorem de_c {x : D} {v : V} (h : ∀ K H, Rp K H v x) (hp : PE X e (tC v)) : DE X W e (mC x) :=
  pe_mono hp fun σ H Q ⟨ρ, η, φ, r, p⟩ => (At.start r).data p (h _ _)
theorem de_int {i : Int} {j} : DE X W (.Constant (.int i) j pos) (mC (.int i)) := de_c (fun _ _ => int_dp) pe_int
theorem de_str {x : Str} {j} : DE X W (.Constant (.str x) j pos) (mC (.str x)) := de_c (fun _ _ => str_dp) pe_str
theorem de_bl {b : Bool} {j} : DE X W (.Constant (.bool b) j pos) (mC (.bl b)) := de_c (fun _ _ => bl_dp) pe_bl
theorem de_non {j} : DE X W (.Constant .none j pos) (mC .non) := de_c (fun _ _ => non_dp) pe_non
/-- a module's constant int -/
theorem de_gint {x : Str} {i : Int} {t : Tok} (hg : Gl X x) (hm : X.mg x = some (.int i t)) (hd : (x == ("__debug__" : Str)) = false := by decide) : DE X W (.Name x pos) (mC (.int i)) :=
  de_c (fun _ _ => int_dp) (pe_glob hg hm ⟨t, rfl⟩ hd)

/-! ### operators upon ints -/
def fin2 (f : D → D → Option D) (r1 r2 : Ref) : M Ref := fun η => match rdD η r1, rdD η r2 with
  | some x, some y => match f x y with
    | some z => .ok (.vl (.d z)) η
    | none => .stuck
  | _, _ => .stuck
def fin1 (f : D → Option D) (r : Ref) : M Ref := fun η => match rdD η r with
  | some x => match f x with
    | some z => .ok (.vl (.d z)) η
    | none => .stuck
  | _ => .stuck
section
variable {K : PySem.W.Frag} {ρ : Nat → Addr} {mg : Str → Option Value} {A : AS} {H₀ : Hp} {η : Env} {φ : FS} {Q : VK} {r r1 r2 : Ref} {v v1 v2 : V} {g g1 g2 : AS}
theorem fin2_use {f : D → D → Option D} (at_ : At K ρ σ A H₀ [⟨r2, v2, g2⟩, ⟨r1, v1, g1⟩] H η φ) (p : Post K ρ mg W σ A H₀ Q (fin2 f r1 r2 η)) :
    ∃ x y z, Rp K H v1 x ∧ Rp K H v2 y ∧ f x y = some z ∧ ∀ u, Rp K H u z → Q u H := by
  unfold fin2 at p
  cases q1 : rdD η r1 with
  | none => rw [q1] at p; exact p.elim
  | some x =>
    cases q2 : rdD η r2 with
    | none => rw [q1, q2] at p; exact p.elim
    | some y =>
      rw [q1, q2] at p
      cases q3 : f x y with
      | none => simp only [q3] at p; exact p.elim
      | some z =>
        simp only [q3] at p
        exact ⟨x, y, z, at_.getD in1 q1, at_.getD in0 q2, q3, fun u h => at_.data p h⟩
theorem fin1_use {f : D → Option D} (at_ : At K ρ σ A H₀ [⟨r, v, g⟩] H η φ) (p : Post K ρ mg W σ A H₀ Q (fin1 f r η)) :
    ∃ x z, Rp K H v x ∧ f x = some z ∧ ∀ u, Rp K H u z → Q u H := by
  unfold fin1 at p
  cases q1 : rdD η r with
  | none => rw [q1] at p; exact p.elim
  | some x =>
    rw [q1] at p
    cases q3 : f x with
    | none => simp only [q3] at p; exact p.elim
    | some z =>
      simp only [q3] at p
      exact ⟨x, z, at_.getD in0 q1, q3, fun u h => at_.data p h⟩
end
def mOp2 (f : D → D → Option D) (m1 m2 : M Ref) : M Ref := m1 >>= fun r1 => m2 >>= fin2 f r1
def mOp1 (f : D → Option D) (m1 : M Ref) : M Ref := m1 >>= fin1 f
/-- ints in, under C, plain data out -/
def onI (C : Int → Int → Prop) [∀ i j, Decidable (C i j)] (g : Int → Int → D) : D → D → Option D
  | .int i, .int j => if C i j then some (g i j) else none
  | _, _ => none
theorem onI_some {C : Int → Int → Prop} [∀ i j, Decidable (C i j)] {g : Int → Int → D} {x y z : D} (h : onI C g x y = some z) : ∃ i j, x = .int i ∧ y = .int j ∧ C i j ∧ z = g i j := by
  unfold onI at h
  split at h
  · split at h
    · cases h; exact ⟨_, _, rfl, rfl, by assumption, rfl⟩
    · cases h
  · cases h
instance (i j : Int) : Decidable (CDiv i j) := by unfold CDiv; infer_instance
instance (i j : Int) : Decidable (CMul i j) := by unfold CMul; infer_instance
instance (i j : Int) : Decidable (CPow i j) := by unfold CPow; infer_instance
abbrev CT (_ _ : Int) : Prop := True
def fSub : D → D → Option D := onI CT fun i j => .int (i - j)
def fDiv : D → D → Option D := onI CDiv fun i j => .int (i / j)
def fMod : D → D → Option D := onI (fun _ j => 0 < j) fun i j => .int (i % j)
def fPow : D → D → Option D := onI CPow fun i j => .int (i ^ j.toNat)
theorem de_opI {op : Operator} {C : Int → Int → Prop} [∀ i j, Decidable (C i j)] {gd : Int → Int → D} {rr : R2} (ho : OpR X (binaryOp op) rr) (hr : ∀ i j H Q, C i j → (∀ u, Rp X.K H u (gd i j) → Q u H) → rr (.int i) (.int j) H Q)
    (ha : DE X W a m1) (hb : DE X W b m2) : DE X W (.BinOp a op b pos) (mOp2 (onI C gd) m1 m2) :=
  de_two (rr := rr) (fun _ _ p q => pe_op ho p q) ha hb fun ρ σ H Q η φ A H₀ r1 v1 f1 r2 v2 f2 at_ p => by
    obtain ⟨x, y, z, h1, h2, h3, h4⟩ := fin2_use at_ p
    obtain ⟨i, j, rfl, rfl, hc, rfl⟩ := onI_some h3
    rw [dp_int h1, dp_int h2]
    exact hr i j H Q hc h4
theorem de_sub (ha : DE X W a m1) (hb : DE X W b m2) : DE X W (.BinOp a .Sub b pos) (mOp2 fSub m1 m2) := de_opI op_sub (fun i j H Q _ q => ⟨i, j, rfl, rfl, q _ int_dp⟩) ha hb
theorem de_fdiv (ha : DE X W a m1) (hb : DE X W b m2) : DE X W (.BinOp a .FloorDiv b pos) (mOp2 fDiv m1 m2) := de_opI op_fdiv (fun i j H Q hc q => ⟨i, j, rfl, rfl, hc, q _ int_dp⟩) ha hb
theorem de_mod (ha : DE X W a m1) (hb : DE X W b m2) : DE X W (.BinOp a .Mod b pos) (mOp2 fMod m1 m2) := de_opI op_mod (fun i j H Q hc q => ⟨i, j, rfl, rfl, hc, q _ int_dp⟩) ha hb
theorem de_pow (ha : DE X W a m1) (hb : DE X W b m2) : DE X W (.BinOp a .Pow b pos) (mOp2 fPow m1 m2) := de_opI op_pow (fun i j H Q hc q => ⟨i, j, rfl, rfl, hc, q _ int_dp⟩) ha hb
def fNeg : D → Option D
  | .int i => some (.int (-i))
  | _ => none
theorem de_neg (ha : DE X W a m1) : DE X W (.UnaryOp .USub a pos) (mOp1 fNeg m1) :=
  de_un (rr := _) (fun _ p => pe_un un_neg p) ha fun ρ σ H Q η φ A H₀ r v f at_ p => by
    obtain ⟨x, z, h1, h3, h4⟩ := fin1_use at_ p
    cases x with
    | int i => cases h3; rw [dp_int h1]; exact ⟨i, rfl, h4 _ int_dp⟩
    | non => cases h3
    | bl _ => cases h3
    | str _ => cases h3
    | tup _ => cases h3
    | pt _ => cases h3

/-! ### + and * upon anything -/
def addV (η : Env) : Val → Val → Out Ref
  | .d (.int i), .d (.int j) => .ok (.vl (.d (.int (i + j)))) η
  | .d (.str x), .d (.str y) => if x.length + y.length ≤ sizeLine then .ok (.vl (.d (.str (x ++ y)))) η else .stuck
  | .d (.tup xs), .d (.tup ys) => if xs.length + ys.length ≤ sizeLine then .ok (.vl (.d (.tup (xs ++ ys)))) η else .stuck
  | .l xs, .l ys => if xs.length + ys.length ≤ sizeLine then .ok (.vl (.l (xs ++ ys))) η else .stuck
  | _, _ => .stuck
def mAdd (m1 m2 : M Ref) : M Ref := m1 >>= fun r1 => m2 >>= fun r2 => fun η => match rd η r1, rd η r2 with
  | some x, some y => addV η x y
  | _, _ => .stuck
theorem of_rd2 {K : PySem.W.Frag} {ρ : Nat → Addr} {mg : Str → Option Value} {A : AS} {H₀ : Hp} {η : Env} {Q : VK} {r1 r2 : Ref} {g : Val → Val → Out Ref}
    (p : Post K ρ mg W σ A H₀ Q (match rd η r1, rd η r2 with
      | some x, some y => g x y
      | _, _ => .stuck)) : ∃ x y, rd η r1 = some x ∧ rd η r2 = some y ∧ Post K ρ mg W σ A H₀ Q (g x y) := by
  cases q1 : rd η r1 with
  | none => rw [q1] at p; exact p.elim
  | some x =>
    cases q2 : rd η r2 with
    | none => rw [q1, q2] at p; exact p.elim
    | some y => rw [q1, q2] at p; exact ⟨x, y, rfl, rfl, p⟩
theorem of_rd1 {K : PySem.W.Frag} {ρ : Nat → Addr} {mg : Str → Option Value} {A : AS} {H₀ : Hp} {η : Env} {Q : VK} {r1 : Ref} {g : Val → Out Ref}
    (p : Post K ρ mg W σ A H₀ Q (match rd η r1 with
      | some x => g x
      | none => .stuck)) : ∃ x, rd η r1 = some x ∧ Post K ρ mg W σ A H₀ Q (g x) := by
  cases q1 : rd η r1 with
  | none => rw [q1] at p; exact p.elim
  | some x => rw [q1] at p; exact ⟨x, rfl, p⟩
theorem repV_d {K : PySem.W.Frag} {x : D} {v : V} {g : AS} (h : RepV K H (.d x) v g) : Rp K H v x := h.1
theorem repV_l {K : PySem.W.Frag} {xs : List D} {v : V} {g : AS} (h : RepV K H (.l xs) v g) : ∃ a vs, v = .ref a ∧ H a = some (.lst vs) ∧ Rps K H vs xs := by
  obtain ⟨a, vs, h1, h2, h3, _⟩ := h
  exact ⟨a, vs, h1, h2, h3⟩
theorem nil_of_dps {K : PySem.W.Frag} {xs : List D} {vs : List V} (h : Rps K H vs xs) : vs = [] ↔ xs = [] := by
  have e := dps_len h
  rw [← List.length_eq_zero_iff, ← List.length_eq_zero_iff, e]
theorem de_add (ha : DE X W a m1) (hb : DE X W b m2) : DE X W (.BinOp a .Add b pos) (mAdd m1 m2) :=
  de_two (rr := _) (fun _ _ p q => pe_op (((op_add.or op_add_str).or op_catF).or op_cat) p q) ha hb fun ρ σ H Q η φ A H₀ r1 v1 f1 r2 v2 f2 at_ p => by
    obtain ⟨x, y, q1, q2, p⟩ := of_rd2 p
    obtain ⟨g1, h1, _⟩ := at_.get in1 q1
    obtain ⟨g2, h2, _⟩ := at_.get in0 q2
    unfold addV at p
    split at p
    · rw [dp_int h1.1, dp_int h2.1]
      exact .inl (.inl (.inl ⟨_, _, rfl, rfl, at_.data p int_dp⟩))
    · split at p
      · rw [dp_str h1.1, dp_str h2.1]
        exact .inl (.inl (.inr ⟨_, _, rfl, rfl, by assumption, at_.data p str_dp⟩))
      · exact p.elim
    · rename_i xs ys
      split at p
      · rename_i hz
        obtain ⟨a1, vs, rfl, t1, d1⟩ := dp_tupN h1.1
        obtain ⟨a2, ws, rfl, t2, d2⟩ := dp_tupN h2.1
        refine .inl (.inr ⟨a1, a2, vs, ws, rfl, rfl, t1.t, t2.t, by rw [dps_len d1, dps_len d2]; exact hz, fun z => ?_, fun z z' => ?_, fun z z' l o hl ho => ?_⟩)
        · have := (nil_of_dps d1).mp z
          subst this
          exact at_.data p h2.1
        · have := (nil_of_dps d2).mp z'
          subst this
          rw [List.append_nil] at p
          exact at_.data p h1.1
        · exact at_.madeT p hl ho (dps_app d1 d2)
      · exact p.elim
    · rename_i xs ys
      split at p
      · rename_i hz
        obtain ⟨a1, vs, rfl, t1, d1⟩ := repV_l h1
        obtain ⟨a2, ws, rfl, t2, d2⟩ := repV_l h2
        exact .inr ⟨a1, a2, vs, ws, rfl, rfl, t1, t2, by rw [dps_len d1, dps_len d2]; exact hz, fun l hl => at_.madeL p hl (dps_app d1 d2)⟩
      · exact p.elim
    · exact p.elim
def mulV (η : Env) : Val → Val → Out Ref
  | .d (.int i), .d (.int j) => if CMul i j then .ok (.vl (.d (.int (i * j)))) η else .stuck
  | .l xs, .d (.int k) => if -(2 ^ 63) ≤ k ∧ k < 2 ^ 63 ∧ xs.length * k.toNat ≤ sizeLine then .ok (.vl (.l (List.replicate k.toNat xs).flatten)) η else .stuck
  | .d (.tup xs), .d (.int k) => if xs ≠ [] ∧ 2 ≤ k ∧ k ≤ 1000 ∧ xs.length ≤ 1000 then .ok (.vl (.d (.pt (List.replicate k.toNat xs).flatten))) η else .stuck
  | _, _ => .stuck
def mMul (m1 m2 : M Ref) : M Ref := m1 >>= fun r1 => m2 >>= fun r2 => fun η => match rd η r1, rd η r2 with
  | some x, some y => mulV η x y
  | _, _ => .stuck
theorem dps_rep {K : PySem.W.Frag} {xs : List D} {vs : List V} (h : Rps K H vs xs) : ∀ k : Nat, Rps K H (List.replicate k vs).flatten (List.replicate k xs).flatten
  | 0 => .nil
  | k + 1 => by
    rw [List.replicate_succ, List.replicate_succ, List.flatten_cons, List.flatten_cons]
    exact dps_app h (dps_rep h k)
theorem de_mul (ha : DE X W a m1) (hb : DE X W b m2) : DE X W (.BinOp a .Mult b pos) (mMul m1 m2) :=
  de_two (rr := _) (fun _ _ p q => pe_op ((op_mul.or op_rep).or op_repT) p q) ha hb fun ρ σ H Q η φ A H₀ r1 v1 f1 r2 v2 f2 at_ p => by
    obtain ⟨x, y, q1, q2, p⟩ := of_rd2 p
    obtain ⟨g1, h1, _⟩ := at_.get in1 q1
    obtain ⟨g2, h2, _⟩ := at_.get in0 q2
    unfold mulV at p
    split at p
    · split at p
      · rw [dp_int h1.1, dp_int h2.1]
        exact .inl (.inl ⟨_, _, rfl, rfl, by assumption, at_.data p int_dp⟩)
      · exact p.elim
    · split at p
      · rename_i hz
        obtain ⟨a1, vs, rfl, t1, d1⟩ := repV_l h1
        rw [dp_int h2.1]
        exact .inl (.inr ⟨a1, _, vs, rfl, rfl, t1, hz.1, hz.2.1, by rw [dps_len d1]; exact hz.2.2, fun l hl => at_.madeL p hl (dps_rep d1 _)⟩)
      · exact p.elim
    · split at p
      · rename_i hz
        obtain ⟨a1, vs, rfl, t1, d1⟩ := dp_tupN h1.1
        rw [dp_int h2.1]
        exact .inr ⟨a1, _, vs, rfl, rfl, t1.t, fun z => hz.1 ((nil_of_dps d1).mp z), hz.2.1, hz.2.2.1, by rw [dps_len d1]; exact hz.2.2.2, fun l hl => at_.madeP p hl (dps_rep d1 _)⟩
      · exact p.elim
    · exact p.elim

/-! ### comparisons -/
/-- a value as the model's data -/
def Val.py? : Val → Option PyData
  | .d x => some x.py
  | .l xs => some (.list (D.pys xs))
  | .fz xs => some (.list (D.pys xs))
  | _ => none
theorem repV_py {K : PySem.W.Frag} {x : Val} {v : V} {g : AS} {d : PyData} (h : RepV K H x v g) (e : x.py? = some d) : Dp K H v d := by
  cases x with
  | d x => cases e; exact rp_dp _ _ h.1
  | l xs =>
    cases e
    obtain ⟨a, vs, rfl, h2, h3, _⟩ := h
    exact .lst (SqL.of h2) (rps_dp _ _ h3)
  | fz xs =>
    cases e
    obtain ⟨⟨a, vs, rfl, h2, h3⟩, _⟩ := h
    exact .lst (fz_sq h2) (rps_dp _ _ h3)
  | m _ => cases e
  | mt _ => cases e
  | bw _ => cases e
  | pin _ _ => cases e
/-- scalars compared -/
def scalD : D → D → Option Bool
  | .int i, .int j => some (decide (i = j))
  | .str x, .str y => some (decide (x = y))
  | .bl x, .bl y => some (decide (x = y))
  | .non, .non => some true
  | .non, .int _ => some false
  | .int _, .non => some false
  | .non, .bl _ => some false
  | .bl _, .non => some false
  | .non, .str _ => some false
  | .str _, .non => some false
  | .int _, .str _ => some false
  | .str _, .int _ => some false
  | .bl _, .str _ => some false
  | .str _, .bl _ => some false
  | _, _ => none
def eqDeep (x y : Val) : Option Bool := match x.py?, y.py? with
  | some d, some e => if SeqAt.shaped d = true ∧ SeqAt.shaped e = true then some (PyData.eqv d e) else none
  | _, _ => none
def eqV2 (x y : Val) : Option Bool := match x, y with
  | .d a, .d b => (match scalD a b with
    | some r => some r
    | none => eqDeep (.d a) (.d b))
  | x, y => eqDeep x y
theorem scalD_ok {K : PySem.W.Frag} {a b : D} {v w : V} {r : Bool} (h : scalD a b = some r) (h1 : Rp K H v a) (h2 : Rp K H w b) : scal v w = true ∧ decide (v = w) = r := by
  cases a with
  | non =>
    have := dp_non h1
    subst this
    cases b with
    | non => have := dp_non h2; subst this; cases h; exact ⟨rfl, rfl⟩
    | bl _ => have := dp_bl h2; subst this; cases h; exact ⟨rfl, rfl⟩
    | int _ => have := dp_int h2; subst this; cases h; exact ⟨rfl, rfl⟩
    | str _ => have := dp_str h2; subst this; cases h; exact ⟨rfl, rfl⟩
    | tup _ => cases h
    | pt _ => cases h
  | bl x =>
    have := dp_bl h1
    subst this
    cases b with
    | non => have := dp_non h2; subst this; cases h; exact ⟨rfl, rfl⟩
    | bl y => have := dp_bl h2; subst this; cases h; refine ⟨rfl, ?_⟩; cases x <;> cases y <;> rfl
    | int _ => cases h
    | str _ => have := dp_str h2; subst this; cases h; exact ⟨rfl, rfl⟩
    | tup _ => cases h
    | pt _ => cases h
  | int x =>
    have := dp_int h1
    subst this
    cases b with
    | non => have := dp_non h2; subst this; cases h; exact ⟨rfl, rfl⟩
    | bl _ => cases h
    | int y => have := dp_int h2; subst this; cases h; exact ⟨rfl, decide_eq_decide.mpr ⟨fun e => V.int.inj e, fun e => e ▸ rfl⟩⟩
    | str _ => have := dp_str h2; subst this; cases h; exact ⟨rfl, rfl⟩
    | tup _ => cases h
    | pt _ => cases h
  | str x =>
    have := dp_str h1
    subst this
    cases b with
    | non => have := dp_non h2; subst this; cases h; exact ⟨rfl, rfl⟩
    | bl _ => have := dp_bl h2; subst this; cases h; exact ⟨rfl, rfl⟩
    | int _ => have := dp_int h2; subst this; cases h; exact ⟨rfl, rfl⟩
    | str y => have := dp_str h2; subst this; cases h; exact ⟨rfl, decide_eq_decide.mpr ⟨fun e => V.str.inj e, fun e => e ▸ rfl⟩⟩
    | tup _ => cases h
    | pt _ => cases h
  | pt _ => cases h
  | tup _ => cases h
def mCmpV (f : Val → Val → Option Bool) (m1 m2 : M Ref) : M Ref := m1 >>= fun r1 => m2 >>= fun r2 => fun η => match rd η r1, rd η r2 with
  | some x, some y => (match f x y with
    | some b => .ok (.vl (.d (.bl b))) η
    | none => .stuck)
  | _, _ => .stuck
def mEq := mCmpV eqV2
def mNe := mCmpV fun x y => (eqV2 x y).map (!·)
def isNonV : Val → Option Bool
  | .d .non => some true
  | .bw _ => none
  | .pin _ _ => none
  | _ => some false
def mIs := mCmpV fun x y => match y with
  | .d .non => isNonV x
  | _ => none
def mIsNot := mCmpV fun x y => match y with
  | .d .non => (isNonV x).map (!·)
  | _ => none
def onII (g : Int → Int → Bool) (x y : Val) : Option Bool := match x, y with
  | .d (.int i), .d (.int j) => some (g i j)
  | _, _ => none
def mLt := mCmpV (onII fun i j => decide (i < j))
def mLe := mCmpV (onII fun i j => decide (i ≤ j))
def mGt := mCmpV (onII fun i j => decide (j < i))
def mGe := mCmpV (onII fun i j => decide (j ≤ i))
/-- f is what the operator op tells -/
def CmpOk (X : Cx) (op : CmpOp) (f : Val → Val → Option Bool) : Prop := ∃ rr, OpR X (compareOp op) rr ∧
  ∀ H v w g h x y b Q, RepV X.K H x v g → RepV X.K H y w h → f x y = some b → Q (.bl b) H → rr v w H Q
theorem eqDeep_some {x y : Val} {b : Bool} (h : eqDeep x y = some b) : ∃ d e, x.py? = some d ∧ y.py? = some e ∧ SeqAt.shaped d = true ∧ SeqAt.shaped e = true ∧ b = PyData.eqv d e := by
  unfold eqDeep at h
  split at h
  · split at h
    · rename_i hd he hs
      cases h
      exact ⟨_, _, hd, he, hs.1, hs.2, rfl⟩
    · cases h
  · cases h
theorem eqV2_ok {K : PySem.W.Frag} {x y : Val} {v w : V} {g h : AS} {b : Bool} (h1 : RepV K H x v g) (h2 : RepV K H y w h) (e : eqV2 x y = some b) :
    (scal v w = true ∧ decide (v = w) = b) ∨ ∃ d e, Dp K H v d ∧ Dp K H w e ∧ SeqAt.shaped d = true ∧ SeqAt.shaped e = true ∧ b = PyData.eqv d e := by
  have deep : eqDeep x y = some b → ∃ d e, Dp K H v d ∧ Dp K H w e ∧ SeqAt.shaped d = true ∧ SeqAt.shaped e = true ∧ b = PyData.eqv d e := fun z => by
    obtain ⟨d, e', hd, he, sd, se, rfl⟩ := eqDeep_some z
    exact ⟨d, e', repV_py h1 hd, repV_py h2 he, sd, se, rfl⟩
  unfold eqV2 at e
  split at e
  · split at e
    · rename_i q
      cases e
      exact .inl (scalD_ok q h1.1 h2.1)
    · exact .inr (deep e)
  · exact .inr (deep e)
theorem cmp_eq (c : Cc X W k) : CmpOk X .Eq eqV2 := ⟨_, op_eq.or (op_eqD (by have := c.hu; omega)), fun H v w g h x y b Q h1 h2 e q => by
  rcases eqV2_ok h1 h2 e with ⟨s, z⟩ | ⟨d, e', hd, he, sd, se, rfl⟩
  · exact .inl ⟨s, by rw [z]; exact q⟩
  · exact .inr ⟨d, e', hd, he, sd, se, q⟩⟩
theorem cmp_ne (c : Cc X W k) : CmpOk X .NotEq (fun x y => (eqV2 x y).map (!·)) := ⟨_, op_ne.or (op_neD (by have := c.hu; omega)), fun H v w g h x y b Q h1 h2 e q => by
  dsimp only at e
  cases z : eqV2 x y with
  | none => simp [z] at e
  | some b' =>
    rw [z] at e
    cases e
    rcases eqV2_ok h1 h2 z with ⟨s, z⟩ | ⟨d, e', hd, he, sd, se, rfl⟩
    · exact .inl ⟨s, by rw [z]; exact q⟩
    · exact .inr ⟨d, e', hd, he, sd, se, q⟩⟩
theorem isNonV_ok {K : PySem.W.Frag} {x : Val} {v : V} {g : AS} {b : Bool} (h : RepV K H x v g) (e : isNonV x = some b) : b = decide (v = .non) := by
  cases x with
  | d x =>
    have h1 := h.1
    cases x with
    | non => cases e; rw [dp_non h1]; rfl
    | bl _ => cases e; rw [dp_bl h1]; rfl
    | int _ => cases e; rw [dp_int h1]; rfl
    | str _ => cases e; rw [dp_str h1]; rfl
    | tup _ => cases e; obtain ⟨a, vs, rfl, _⟩ := dp_tup h1 rfl; rfl
    | pt _ => cases e; obtain ⟨a, vs, rfl, _⟩ := dp_tup h1 rfl; rfl
  | l xs => cases e; obtain ⟨a, vs, rfl, _⟩ := h; rfl
  | fz xs => cases e; obtain ⟨⟨a, vs, rfl, _⟩, _⟩ := h; rfl
  | m xs => cases e; obtain ⟨a, vs, rfl, _⟩ := h; rfl
  | mt xs => cases e; obtain ⟨a, vs, rfl, _⟩ := h; rfl
  | bw _ => cases e
  | pin _ _ => cases e
theorem cmp_is : CmpOk X .Is (fun x y => match y with
  | .d .non => isNonV x
  | _ => none) := ⟨_, op_isN, fun H v w g h x y b Q h1 h2 e q => by
  dsimp only at e
  split at e
  · refine ⟨dp_non h2.1, ?_⟩
    rw [← isNonV_ok h1 e]
    exact q
  · cases e⟩
theorem cmp_isnot : CmpOk X .IsNot (fun x y => match y with
  | .d .non => (isNonV x).map (!·)
  | _ => none) := ⟨_, op_notN, fun H v w g h x y b Q h1 h2 e q => by
  dsimp only at e
  split at e
  · refine ⟨dp_non h2.1, ?_⟩
    cases z : isNonV x with
    | none => rw [z] at e; cases e
    | some b' =>
      rw [z] at e
      cases e
      rw [← isNonV_ok h1 z]
      exact q
  · cases e⟩
theorem cmp_ii {op : CmpOp} {gg : Int → Int → Bool} (h : OpR X (compareOp op) (rI0 fun i j => .bl (gg i j))) : CmpOk X op (onII gg) := ⟨_, h, fun H v w g h x y b Q h1 h2 e q => by
  unfold onII at e
  split at e
  · cases e
    rw [dp_int h1.1, dp_int h2.1]
    exact ⟨_, _, rfl, rfl, q⟩
  · cases e⟩
theorem cmp_lt : CmpOk X .Lt (onII fun i j => decide (i < j)) := cmp_ii op_lt
theorem cmp_le : CmpOk X .LtE (onII fun i j => decide (i ≤ j)) := cmp_ii op_le
theorem cmp_gt : CmpOk X .Gt (onII fun i j => decide (j < i)) := cmp_ii op_gt
theorem cmp_ge : CmpOk X .GtE (onII fun i j => decide (j ≤ i)) := cmp_ii op_ge
theorem de_cmp {op : CmpOp} {f : Val → Val → Option Bool} (h : CmpOk X op f) (ha : DE X W a m1) (hb : DE X W b m2) (hm : behindInMarks op b = false) : DE X W (.Compare a [op] [b] pos) (mCmpV f m1 m2) := by
  obtain ⟨rr, ho, h⟩ := h
  refine de_two (rr := rr) (fun _ _ p q => pe_cmpR ho p q hm) ha hb fun ρ σ H Q η φ A H₀ r1 v1 f1 r2 v2 f2 at_ p => ?_
  ·
    obtain ⟨x, y, q1, q2, p⟩ := of_rd2 p
    obtain ⟨g1, h1, _⟩ := at_.get in1 q1
    obtain ⟨g2, h2, _⟩ := at_.get in0 q2
    cases q3 : f x y with
    | none => rw [q3] at p; exact p.elim
    | some b => rw [q3] at p; exact h _ _ _ _ _ _ _ _ _ h1 h2 q3 (at_.data p bl_dp)
/-- a op b op' c -/
def mChain (f f' : Val → Val → Option Bool) (m1 m2 m3 : M Ref) : M Ref := m1 >>= fun r1 => m2 >>= fun r2 => fun η => match rd η r1, rd η r2 with
  | some x, some y => (match f x y with
    | some true => (m3 >>= fun r3 => fun η => match rd η r2, rd η r3 with
      | some y, some z => (match f' y z with
        | some b => .ok (.vl (.d (.bl b))) η
        | none => .stuck)
      | _, _ => .stuck) η
    | some false => .ok (.vl (.d (.bl false))) η
    | none => .stuck)
  | _, _ => .stuck
theorem de_chain {op op' : CmpOp} {f f' : Val → Val → Option Bool} (h : CmpOk X op f) (h' : CmpOk X op' f') (ha : DE X W a m1) (hb : DE X W b m2) (hc : DE X W c m3)
    (hm : lastMarks [op, op'] [b, c] = false := by with_unfolding_all rfl) : DE X W (.Compare a [op, op'] [b, c] pos) (mChain f f' m1 m2 m3) := by
  obtain ⟨rr, ho, h⟩ := h
  obtain ⟨rr', ho', h'⟩ := h'
  exact pe_mono (pe_chain ho ho' ha hb hc hm) fun σ H Q ⟨ρ, η, φ, r, p⟩ => tE_mono (fun v1 H1 ⟨r1, η1, φ1, f1, at1, p1⟩ =>
    tE_mono (fun v2 H2 ⟨r2, η2, φ2, f2, at2, p2⟩ => by
      obtain ⟨x, y, q1, q2, p⟩ := of_rd2 p2
      obtain ⟨g1, h1, _⟩ := at2.get in1 q1
      obtain ⟨g2, h2, _⟩ := at2.get in0 q2
      cases q3 : f x y with
      | none => rw [q3] at p; exact p.elim
      | some b =>
        rw [q3] at p
        refine h _ _ _ _ _ _ _ _ _ h1 h2 q3 ⟨b, rfl, ?_⟩
        cases b with
        | false => exact at2.data p bl_dp
        | true =>
          show tE X.K X.mg W m3 σ H2 _
          refine tE_mono (fun v3 H3 ⟨r3, η3, φ3, f3, at3, p3⟩ => ?_) (at2.step p)
          obtain ⟨y, z, q1, q2, p⟩ := of_rd2 p3
          obtain ⟨g1, h1, _⟩ := at3.get in1 q1
          obtain ⟨g2, h2, _⟩ := at3.get in0 q2
          cases q3 : f' y z with
          | none => rw [q3] at p; exact p.elim
          | some b => rw [q3] at p; exact h' _ _ _ _ _ _ _ _ _ h1 h2 q3 (at3.data p bl_dp)) (at1.step p1)) ((At.start r).step p)
end
end DD


/-! Tests, places, displays, calls of what is built in. -/
namespace DD
open PySem PySem.Spec PyProof.Rows L2

section
variable {X : Cx} {W : WX} {k : Nat} {e a b c : Expr} {m1 m2 m3 : M Ref} {σ : L2.St} {H : Hp} {pos : Pos}
theorem tT_mono {K : PySem.W.Frag} {mg : Str → Option Value} {m : M Bool} {Q Q' : Bool → Hp → Prop} (h : ∀ v H, Q v H → Q' v H) (t : tT K mg W m σ H Q) : tT K mg W m σ H Q' := by
  obtain ⟨ρ, η, φ, r, p⟩ := t
  refine ⟨ρ, η, φ, r, ?_⟩
  cases q : m η with
  | ok r η' => rw [q] at p; exact fun H' φ' a b c => h _ _ (p H' φ' a b c)
  | err x η' => rw [q] at p; exact p
  | stuck => rw [q] at p; exact p
/-- a test is run, then a test goes on -/
theorem tT_bind {K : PySem.W.Frag} {ρ : Nat → Addr} {mg : Str → Option Value} {m : M Bool} {kk : Bool → M Bool} {A : AS} {H₀ : Hp} {η : Env} {φ : FS} {Q : Bool → Hp → Prop} (at_ : At K ρ σ A H₀ [] H η φ) (p : PostT K ρ mg W σ A H₀ Q ((m >>= kk) η)) :
    tT K mg W m σ H fun b H' => ∃ η' φ', At K ρ σ A H₀ [] H' η' φ' ∧ PostT K ρ mg W σ A H₀ Q (kk b η') := by
  refine ⟨ρ, η, φ, at_.rep, ?_⟩
  rw [bind_def] at p
  have nf : New A H₀ (foot φ) := at_.new.sub fun _ h => .inr h
  cases e : m η with
  | ok b η' =>
    rw [e] at p
    exact fun H' φ' rep ex n => ⟨η', φ', ⟨rep, at_.ext.trans nf ex, (New.trans at_.ext nf n).sub (fun _ h => h.elim (fun ⟨_, h, _⟩ => (nomatch h)) id), fun _ h => (nomatch h), .nil⟩, p⟩
  | err x η' =>
    rw [e] at p
    exact fun cls dx H' φ' rep ex n xk => p cls dx H' φ' rep (at_.ext.trans nf ex) (New.trans at_.ext nf n) xk
  | stuck => rw [e] at p; exact p.elim
/-- a test is run, then an expression -/
theorem tT_bindE {K : PySem.W.Frag} {ρ : Nat → Addr} {mg : Str → Option Value} {m : M Bool} {kk : Bool → M Ref} {A : AS} {H₀ : Hp} {η : Env} {φ : FS} {Q : VK} (at_ : At K ρ σ A H₀ [] H η φ) (p : Post K ρ mg W σ A H₀ Q ((m >>= kk) η)) :
    tT K mg W m σ H fun b H' => ∃ η' φ', At K ρ σ A H₀ [] H' η' φ' ∧ Post K ρ mg W σ A H₀ Q (kk b η') := by
  refine ⟨ρ, η, φ, at_.rep, ?_⟩
  rw [bind_def] at p
  have nf : New A H₀ (foot φ) := at_.new.sub fun _ h => .inr h
  cases e : m η with
  | ok b η' =>
    rw [e] at p
    exact fun H' φ' rep ex n => ⟨η', φ', ⟨rep, at_.ext.trans nf ex, (New.trans at_.ext nf n).sub (fun _ h => h.elim (fun ⟨_, h, _⟩ => (nomatch h)) id), fun _ h => (nomatch h), .nil⟩, p⟩
  | err x η' =>
    rw [e] at p
    exact fun cls dx H' φ' rep ex n xk => p cls dx H' φ' rep (at_.ext.trans nf ex) (New.trans at_.ext nf n) xk
  | stuck => rw [e] at p; exact p.elim
/-- an expression is run, then a test -/
theorem tE_bindT {K : PySem.W.Frag} {ρ : Nat → Addr} {mg : Str → Option Value} {m : M Ref} {kk : Ref → M Bool} {A : AS} {H₀ : Hp} {η : Env} {φ : FS} {Q : Bool → Hp → Prop} (at_ : At K ρ σ A H₀ [] H η φ) (p : PostT K ρ mg W σ A H₀ Q ((m >>= kk) η)) :
    tE K mg W m σ H fun v H' => ∃ r η' φ' f, At K ρ σ A H₀ [⟨r, v, f⟩] H' η' φ' ∧ PostT K ρ mg W σ A H₀ Q (kk r η') := by
  refine ⟨ρ, η, φ, at_.rep, ?_⟩
  rw [bind_def] at p
  have nf : New A H₀ (foot φ) := at_.new.sub fun _ h => .inr h
  cases e : m η with
  | ok r η' =>
    rw [e] at p
    exact fun v H' φ' f rep ok d ex n => ⟨r, η', φ', f, at_.hold rep ok d ex n, p⟩
  | err x η' =>
    rw [e] at p
    exact fun cls dx H' φ' rep ex n xk => p cls dx H' φ' rep (at_.ext.trans nf ex) (New.trans at_.ext nf n) xk
  | stuck => rw [e] at p; exact p.elim
theorem At.bool {K : PySem.W.Frag} {ρ : Nat → Addr} {mg : Str → Option Value} {A : AS} {H₀ : Hp} {η : Env} {φ : FS} {L : List HeldI} {Q : Bool → Hp → Prop} {b : Bool} (at_ : At K ρ σ A H₀ L H η φ) (p : PostT K ρ mg W σ A H₀ Q (.ok b η)) : Q b H :=
  p H φ at_.rep at_.ext (at_.new.sub fun _ h => .inr h)

/-! ### truth -/
def truV : Val → Option Bool
  | .d .non => some false
  | .d (.bl b) => some b
  | .d (.int i) => some (i != 0)
  | .d (.str x) => if x.length ≤ sizeLine then some ((x.length : Int) != 0) else none
  | .d (.tup xs) => some (!xs.isEmpty)
  | .d (.pt xs) => some (!xs.isEmpty)
  | .l xs => some (!xs.isEmpty)
  | .fz xs => some (!xs.isEmpty)
  | .m kvs => some (!kvs.isEmpty)
  | .mt _ => none
  | .bw _ => none
  | .pin _ _ => none
theorem isEmpty_dps {K : PySem.W.Frag} {xs : List D} {vs : List V} (h : Rps K H vs xs) : (!vs.isEmpty) = !xs.isEmpty := by
  have e := dps_len h
  cases vs <;> cases xs <;> simp_all
theorem isEmpty_kvs {κ : Type} {K : PySem.W.Frag} {ks : List (κ × V)} {kvs : List (κ × D)} (h : KVs K H ks kvs) : (!ks.isEmpty) = !kvs.isEmpty := by
  cases h <;> rfl
theorem truV_ok {K : PySem.W.Frag} {x : Val} {v : V} {g : AS} {b : Bool} (h : RepV K H x v g) (e : truV x = some b) : TruV K v H b := by
  unfold truV at e
  split at e
  · cases e; rw [dp_non h.1]; rfl
  · cases e; rw [dp_bl h.1]; rfl
  · cases e; rw [dp_int h.1]; rfl
  · split at e
    · cases e; rw [dp_str h.1]; exact ⟨by assumption, rfl⟩
    · cases e
  · cases e
    obtain ⟨a, vs, rfl, h1, h2⟩ := dp_tup h.1 rfl
    exact .inr (.inl ⟨vs, h1, (isEmpty_dps h2).symm⟩)
  · cases e
    obtain ⟨a, vs, rfl, h1, h2⟩ := dp_tup h.1 rfl
    exact .inr (.inl ⟨vs, h1, (isEmpty_dps h2).symm⟩)
  · cases e
    obtain ⟨a, vs, rfl, h1, h2⟩ := repV_l h
    exact .inl ⟨vs, SqL.of h1, (isEmpty_dps h2).symm⟩
  · cases e
    obtain ⟨⟨a, vs, rfl, h1, h2⟩, _⟩ := h
    exact .inl ⟨vs, fz_sq h1, (isEmpty_dps h2).symm⟩
  · cases e
    obtain ⟨a, vs, rfl, h1, h2, _⟩ := h
    exact .inr (.inr ⟨vs, h1, (isEmpty_kvs h2).symm⟩)
  · cases e
  · cases e
  · cases e
def finT (r : Ref) : M Bool := fun η => match rd η r with
  | some x => (match truV x with
    | some b => .ok b η
    | none => .stuck)
  | none => .stuck
def mTru (m : M Ref) : M Bool := m >>= finT
theorem finT_use {K : PySem.W.Frag} {ρ : Nat → Addr} {mg : Str → Option Value} {A : AS} {H₀ : Hp} {η : Env} {φ : FS} {L : List HeldI} {r : Ref} {v : V} {g : AS} {Q : Bool → Hp → Prop} (at_ : At K ρ σ A H₀ L H η φ) (hm : ⟨r, v, g⟩ ∈ L)
    (p : PostT K ρ mg W σ A H₀ Q (finT r η)) : ∃ b, TruV K v H b ∧ Q b H := by
  unfold finT at p
  cases q1 : rd η r with
  | none => rw [q1] at p; exact p.elim
  | some x =>
    rw [q1] at p
    cases q2 : truV x with
    | none => simp only [q2] at p; exact p.elim
    | some b =>
      simp only [q2] at p
      obtain ⟨g', h, _⟩ := at_.get hm q1
      exact ⟨b, truV_ok h q2, at_.bool p⟩
theorem dt_val (ha : DE X W a m1) (he : ∀ whole, isTrue a X.env whole = (do let v ← whole; standAt a.pos; holding [v] (truthy v)) := by intro _; rfl) : DT X W a (mTru m1) :=
  pt_mono (pt_truth ha he) fun σ H Q ⟨ρ, η, φ, r, p⟩ => tE_mono (fun v H' ⟨r, η', φ', f, at_, q⟩ => finT_use at_ in0 q) (tE_bindT (At.start r) p)
def mTrue (m : M Ref) : M Bool := m >>= fun r => fun η => match rd η r with
  | some (.d (.bl b)) => .ok b η
  | _ => .stuck
/-- a bool that a comparison gives -/
theorem dt_of {t : TE} (hp : PT X a (tTest t)) (k : ∀ σ H Q, tE X.K X.mg W m1 σ H Q → t σ H Q) : DT X W a (mTrue m1) :=
  pt_mono hp fun σ H Q ⟨ρ, η, φ, r, p⟩ => k σ H _ (tE_mono (fun v H' ⟨r, η', φ', f, at_, q⟩ => by
    split at q
    · rename_i b hb
      obtain ⟨g, h, _⟩ := at_.get in0 hb
      exact ⟨b, dp_bl h.1, at_.bool q⟩
    · exact q.elim) (tE_bindT (At.start r) p))
theorem two_use {rr : R2} {kk : Ref → Ref → M Ref} (hk : ∀ ρ σ H Q η φ A H₀ r1 v1 f1 r2 v2 f2, At X.K ρ σ A H₀ [⟨r2, v2, f2⟩, ⟨r1, v1, f1⟩] H η φ → Post X.K ρ X.mg W σ A H₀ Q (kk r1 r2 η) → rr v1 v2 H Q) :
    ∀ σ H Q, tE X.K X.mg W (m1 >>= fun r1 => m2 >>= kk r1) σ H Q → tOp rr (tE X.K X.mg W m1) (tE X.K X.mg W m2) σ H Q := fun σ H Q ⟨ρ, η, φ, r, p⟩ =>
  tE_mono (fun v1 H1 ⟨r1, η1, φ1, f1, at1, p1⟩ => tE_mono (fun v2 H2 ⟨r2, η2, φ2, f2, at2, p2⟩ => hk ρ σ H2 Q η2 φ2 _ _ r1 v1 f1 r2 v2 f2 at2 p2) (at1.step p1)) ((At.start r).step p)
theorem dt_cmp {op : CmpOp} {f : Val → Val → Option Bool} (h : CmpOk X op f) (ha : DE X W a m1) (hb : DE X W b m2) (hm : behindInMarks op b = false) : DT X W (.Compare a [op] [b] pos) (mTrue (mCmpV f m1 m2)) := by
  obtain ⟨rr, ho, h⟩ := h
  refine dt_of (pt_cmpR ho ha hb hm) (two_use fun ρ σ H Q η φ A H₀ r1 v1 f1 r2 v2 f2 at_ p => ?_)
  obtain ⟨x, y, q1, q2, p⟩ := of_rd2 p
  obtain ⟨g1, h1, _⟩ := at_.get in1 q1
  obtain ⟨g2, h2, _⟩ := at_.get in0 q2
  cases q3 : f x y with
  | none => rw [q3] at p; exact p.elim
  | some b => rw [q3] at p; exact h _ _ _ _ _ _ _ _ _ h1 h2 q3 (at_.data p bl_dp)
theorem chain_use {f f' : Val → Val → Option Bool} {rr rr' : R2}
    (h : ∀ H v w g h x y b Q, RepV X.K H x v g → RepV X.K H y w h → f x y = some b → Q (.bl b) H → rr v w H Q) (h' : ∀ H v w g h x y b Q, RepV X.K H x v g → RepV X.K H y w h → f' x y = some b → Q (.bl b) H → rr' v w H Q) :
    ∀ σ H Q, tE X.K X.mg W (mChain f f' m1 m2 m3) σ H Q → tChain rr rr' (tE X.K X.mg W m1) (tE X.K X.mg W m2) (tE X.K X.mg W m3) σ H Q := fun σ H Q ⟨ρ, η, φ, r, p⟩ => tE_mono (fun v1 H1 ⟨r1, η1, φ1, f1, at1, p1⟩ =>
    tE_mono (fun v2 H2 ⟨r2, η2, φ2, f2, at2, p2⟩ => by
      obtain ⟨x, y, q1, q2, p⟩ := of_rd2 p2
      obtain ⟨g1, h1, _⟩ := at2.get in1 q1
      obtain ⟨g2, h2, _⟩ := at2.get in0 q2
      cases q3 : f x y with
      | none => rw [q3] at p; exact p.elim
      | some b =>
        rw [q3] at p
        refine h _ _ _ _ _ _ _ _ _ h1 h2 q3 ⟨b, rfl, ?_⟩
        cases b with
        | false => exact at2.data p bl_dp
        | true =>
          show tE X.K X.mg W m3 σ H2 _
          refine tE_mono (fun v3 H3 ⟨r3, η3, φ3, f3, at3, p3⟩ => ?_) (at2.step p)
          obtain ⟨y, z, q1, q2, p⟩ := of_rd2 p3
          obtain ⟨g1, h1, _⟩ := at3.get in1 q1
          obtain ⟨g2, h2, _⟩ := at3.get in0 q2
          cases q3 : f' y z with
          | none => rw [q3] at p; exact p.elim
          | some b => rw [q3] at p; exact h' _ _ _ _ _ _ _ _ _ h1 h2 q3 (at3.data p bl_dp)) (at1.step p1)) ((At.start r).step p)
theorem dt_chain {op op' : CmpOp} {f f' : Val → Val → Option Bool} (h : CmpOk X op f) (h' : CmpOk X op' f') (ha : DE X W a m1) (hb : DE X W b m2) (hc : DE X W c m3)
    (hm : lastMarks [op, op'] [b, c] = false := by with_unfolding_all rfl) : DT X W (.Compare a [op, op'] [b, c] pos) (mTrue (mChain f f' m1 m2 m3)) := by
  obtain ⟨rr, ho, h⟩ := h
  obtain ⟨rr', ho', h'⟩ := h'
  exact dt_of (pt_chain ho ho' ha hb hc hm) (chain_use h h')
def mNot (m : M Bool) : M Bool := m >>= fun b => M.ret (!b)
theorem dt_not {mb : M Bool} (ha : DT X W a mb) : DT X W (.UnaryOp .Not a pos) (mNot mb) :=
  pt_mono (pt_not ha) fun σ H Q ⟨ρ, η, φ, r, p⟩ => tT_mono (fun b H' ⟨η', φ', at_, q⟩ => at_.bool q) (tT_bind (At.start r) p)
def mAndT (m n : M Bool) : M Bool := m >>= fun b => if b then n else M.ret false
def mOrT (m n : M Bool) : M Bool := m >>= fun b => if b then M.ret true else n
abbrev DW (X : Cx) (W : WX) (e : Expr) (m : M Bool) : Prop := PW X e (tT X.K X.mg W m)
theorem tT_of {K : PySem.W.Frag} {ρ : Nat → Addr} {mg : Str → Option Value} {m : M Bool} {A : AS} {H₀ : Hp} {η : Env} {φ : FS} {Q : Bool → Hp → Prop} (at_ : At K ρ σ A H₀ [] H η φ) (p : PostT K ρ mg W σ A H₀ Q (m η)) : tT K mg W m σ H Q := by
  have nf : New A H₀ (foot φ) := at_.new.sub fun _ h => .inr h
  refine ⟨ρ, η, φ, at_.rep, ?_⟩
  cases e : m η with
  | ok b η' => rw [e] at p; exact fun H' φ' rep ex n => p H' φ' rep (at_.ext.trans nf ex) (New.trans at_.ext nf n)
  | err x η' => rw [e] at p; exact fun cls dx H' φ' rep ex n xk => p cls dx H' φ' rep (at_.ext.trans nf ex) (New.trans at_.ext nf n) xk
  | stuck => rw [e] at p; exact p.elim
theorem tE_of {K : PySem.W.Frag} {ρ : Nat → Addr} {mg : Str → Option Value} {m : M Ref} {A : AS} {H₀ : Hp} {η : Env} {φ : FS} {Q : VK} (at_ : At K ρ σ A H₀ [] H η φ) (p : Post K ρ mg W σ A H₀ Q (m η)) : tE K mg W m σ H Q := by
  have nf : New A H₀ (foot φ) := at_.new.sub fun _ h => .inr h
  refine ⟨ρ, η, φ, at_.rep, ?_⟩
  cases e : m η with
  | ok r η' => rw [e] at p; exact fun v H' φ' f rep ok d ex n => p v H' φ' f rep ok d (at_.ext.trans nf ex) (New.trans at_.ext nf n)
  | err x η' => rw [e] at p; exact fun cls dx H' φ' rep ex n xk => p cls dx H' φ' rep (at_.ext.trans nf ex) (New.trans at_.ext nf n) xk
  | stuck => rw [e] at p; exact p.elim
theorem dw_and1 {mb : M Bool} (ha : DT X W a mb) : DW X W (.BoolOp .And [a] pos) mb := pw_and1 ha
theorem dw_or1 {mb : M Bool} (ha : DT X W a mb) : DW X W (.BoolOp .Or [a] pos) mb := pw_or1 ha
theorem dw_and {mb nb : M Bool} {rest : List Expr} (ha : DT X W a mb) (hb : DW X W (.BoolOp .And (b :: rest) pos) nb) : DW X W (.BoolOp .And (a :: b :: rest) pos) (mAndT mb nb) :=
  pw_mono (pw_and ha hb) fun σ H Q ⟨ρ, η, φ, r, p⟩ => tT_mono (fun b H' ⟨η', φ', at_, q⟩ => by
    cases b with
    | false => rw [if_neg Bool.false_ne_true]; exact at_.bool q
    | true => rw [if_pos rfl]; exact tT_of at_ q) (tT_bind (At.start r) p)
theorem dw_or {mb nb : M Bool} {rest : List Expr} (ha : DT X W a mb) (hb : DW X W (.BoolOp .Or (b :: rest) pos) nb) : DW X W (.BoolOp .Or (a :: b :: rest) pos) (mOrT mb nb) :=
  pw_mono (pw_or ha hb) fun σ H Q ⟨ρ, η, φ, r, p⟩ => tT_mono (fun b H' ⟨η', φ', at_, q⟩ => by
    cases b with
    | false => rw [if_neg Bool.false_ne_true]; exact tT_of at_ q
    | true => rw [if_pos rfl]; exact at_.bool q) (tT_bind (At.start r) p)
theorem dt_w {mb : M Bool} (h : DW X W a mb) : DT X W a mb := PW.pt h

/-! ### and, or, not as values -/
def mNotV (m : M Ref) : M Ref := m >>= fun r => fun η => match rd η r with
  | some x => (match truV x with
    | some b => .ok (.vl (.d (.bl (!b)))) η
    | none => .stuck)
  | none => .stuck
theorem of_tru {K : PySem.W.Frag} {ρ : Nat → Addr} {mg : Str → Option Value} {A : AS} {H₀ : Hp} {η : Env} {Q : VK} {r1 : Ref} {g : Bool → Out Ref}
    (p : Post K ρ mg W σ A H₀ Q (match rd η r1 with
      | some x => (match truV x with
        | some b => g b
        | none => .stuck)
      | none => .stuck)) : ∃ x b, rd η r1 = some x ∧ truV x = some b ∧ Post K ρ mg W σ A H₀ Q (g b) := by
  cases q1 : rd η r1 with
  | none => rw [q1] at p; exact p.elim
  | some x =>
    rw [q1] at p
    cases q2 : truV x with
    | none => simp only [q2] at p; exact p.elim
    | some b => simp only [q2] at p; exact ⟨x, b, rfl, q2, p⟩
theorem de_not (ha : DE X W a m1) : DE X W (.UnaryOp .Not a pos) (mNotV m1) :=
  pe_mono (pe_notT ha) fun σ H Q ⟨ρ, η, φ, r, p⟩ => tE_mono (fun v H' ⟨r, η', φ', f, at_, q⟩ => by
    obtain ⟨x, b, q1, q2, q⟩ := of_tru q
    obtain ⟨g, h, _⟩ := at_.get in0 q1
    exact ⟨b, truV_ok h q2, at_.data q bl_dp⟩) ((At.start r).step p)
def mAndV (m n : M Ref) : M Ref := m >>= fun r => fun η => match rd η r with
  | some x => (match truV x with
    | some b => if b then n η else .ok r η
    | none => .stuck)
  | none => .stuck
def mOrV (m n : M Ref) : M Ref := m >>= fun r => fun η => match rd η r with
  | some x => (match truV x with
    | some b => if b then .ok r η else n η
    | none => .stuck)
  | none => .stuck
/-- the end: a held value -/
theorem At.give {K : PySem.W.Frag} {ρ : Nat → Addr} {mg : Str → Option Value} {A : AS} {H₀ : Hp} {η : Env} {φ : FS} {L : List HeldI} {r : Ref} {v : V} {g : AS} {Q : VK} (at_ : At K ρ σ A H₀ L H η φ) (hm : ⟨r, v, g⟩ ∈ L)
    (p : Post K ρ mg W σ A H₀ Q (.ok r η)) : Q v H :=
  p v H φ g at_.rep (at_.held _ hm).1 (at_.held _ hm).2 at_.ext (at_.new.sub fun _ h => h.elim (fun h => .inl ⟨_, hm, h⟩) .inr)
theorem At.drop {K : PySem.W.Frag} {ρ : Nat → Addr} {A : AS} {H₀ : Hp} {η : Env} {φ : FS} {L : List HeldI} (at_ : At K ρ σ A H₀ L H η φ) : At K ρ σ A H₀ [] H η φ :=
  ⟨at_.rep, at_.ext, at_.new.sub fun _ h => h.elim (fun ⟨_, h, _⟩ => (nomatch h)) .inr, fun _ h => (nomatch h), .nil⟩
theorem de_one {op : BoolOp} (ha : DE X W a m1) : DE X W (.BoolOp op [a] pos) m1 := pe_one ha
theorem de_and {rest : List Expr} (ha : DE X W a m1) (hb : DE X W (.BoolOp .And (b :: rest) pos) m2) : DE X W (.BoolOp .And (a :: b :: rest) pos) (mAndV m1 m2) :=
  pe_mono (pe_andT ha hb) fun σ H Q ⟨ρ, η, φ, r, p⟩ => tE_mono (fun v H' ⟨r, η', φ', f, at_, q⟩ => by
    obtain ⟨x, b, q1, q2, q⟩ := of_tru q
    obtain ⟨g, h, _⟩ := at_.get in0 q1
    refine ⟨b, truV_ok h q2, ?_⟩
    cases b with
    | false => rw [if_neg Bool.false_ne_true]; exact at_.give in0 q
    | true => rw [if_pos rfl]; exact tE_of at_.drop q) ((At.start r).step p)
theorem de_or {rest : List Expr} (ha : DE X W a m1) (hb : DE X W (.BoolOp .Or (b :: rest) pos) m2) : DE X W (.BoolOp .Or (a :: b :: rest) pos) (mOrV m1 m2) :=
  pe_mono (pe_orT ha hb) fun σ H Q ⟨ρ, η, φ, r, p⟩ => tE_mono (fun v H' ⟨r, η', φ', f, at_, q⟩ => by
    obtain ⟨x, b, q1, q2, q⟩ := of_tru q
    obtain ⟨g, h, _⟩ := at_.get in0 q1
    refine ⟨b, truV_ok h q2, ?_⟩
    cases b with
    | false => rw [if_neg Bool.false_ne_true]; exact tE_of at_.drop q
    | true => rw [if_pos rfl]; exact at_.give in0 q) ((At.start r).step p)
def mIf (t : M Bool) (m n : M Ref) : M Ref := t >>= fun b => if b then m else n
theorem de_if {mb : M Bool} (hc : DT X W c mb) (ha : DE X W a m1) (hb : DE X W b m2) : DE X W (.IfExp c a b pos) (mIf mb m1 m2) :=
  pe_mono (pe_ifExp hc ha hb) fun σ H Q ⟨ρ, η, φ, r, p⟩ => tT_mono (fun b H' ⟨η', φ', at_, q⟩ => by
    cases b with
    | false => rw [if_neg Bool.false_ne_true]; exact tE_of at_ q
    | true => rw [if_pos rfl]; exact tE_of at_ q) (tT_bindE (At.start r) p)

/-! ### places -/
def ixD (x : Val) (i : Int) : Option D := match x with
  | .d (.tup xs) => atI xs i
  | .d (.pt xs) => atI xs i
  | .d (.str z) => if z.length ≤ sizeLine then (atI z.cps.toList i).map fun c => .str ⟨#[c]⟩ else none
  | .l xs => atI xs i
  | .fz xs => atI xs i
  | _ => none
def mIx (m1 m2 : M Ref) : M Ref := m1 >>= fun r1 => m2 >>= fun r2 => fun η => match rd η r1, rd η r2 with
  | some x, some y => (match y with
    | .d (.int i) => (match ixD x i with
      | some z => .ok (.vl (.d z)) η
      | none => .stuck)
    | _ => .stuck)
  | _, _ => .stuck
theorem atI_dps {K : PySem.W.Frag} {xs : List D} {vs : List V} {i : Int} {z : D} (h : Rps K H vs xs) (e : atI xs i = some z) : ∃ v, atI vs i = some v ∧ Rp K H v z := by
  unfold atI at e ⊢
  rw [dps_len h]
  cases q : ixN xs.length i with
  | none => rw [q] at e; cases e
  | some j =>
    rw [q] at e
    exact dps_at h e
theorem de_ix (hs : PlainIx b) (ha : DE X W a m1) (hb : DE X W b m2) : DE X W (.Subscript a b pos) (mIx m1 m2) :=
  de_two (rr := _) (fun _ _ p q => pe_ix ix_seq p q hs) ha hb fun ρ σ H Q η φ A H₀ r1 v1 f1 r2 v2 f2 at_ p => by
    obtain ⟨x, y, q1, q2, p⟩ := of_rd2 p
    obtain ⟨g1, h1, _⟩ := at_.get in1 q1
    obtain ⟨g2, h2, _⟩ := at_.get in0 q2
    split at p
    · rename_i i
      rw [dp_int h2.1]
      cases q3 : ixD x i with
      | none => rw [q3] at p; exact p.elim
      | some z =>
        rw [q3] at p
        unfold ixD at q3
        split at q3
        · obtain ⟨a1, vs, rfl, t1, d1⟩ := dp_tup h1.1 rfl
          obtain ⟨v, e1, e2⟩ := atI_dps d1 q3
          exact .inr (.inl ⟨a1, vs, i, v, rfl, rfl, t1, e1, at_.data p e2⟩)
        · obtain ⟨a1, vs, rfl, t1, d1⟩ := dp_tup h1.1 rfl
          obtain ⟨v, e1, e2⟩ := atI_dps d1 q3
          exact .inr (.inl ⟨a1, vs, i, v, rfl, rfl, t1, e1, at_.data p e2⟩)
        · rename_i z'
          rw [dp_str h1.1]
          split at q3
          · cases q4 : atI z'.cps.toList i with
            | none => rw [q4] at q3; cases q3
            | some c =>
              rw [q4] at q3
              cases q3
              exact .inr (.inr ⟨z', i, c, rfl, rfl, by assumption, q4, at_.data p str_dp⟩)
          · cases q3
        · obtain ⟨a1, vs, rfl, t1, d1⟩ := repV_l h1
          obtain ⟨v, e1, e2⟩ := atI_dps d1 q3
          exact .inl ⟨a1, vs, i, v, rfl, rfl, SqL.of t1, e1, at_.data p e2⟩
        · obtain ⟨⟨a1, vs, rfl, t1, d1⟩, _⟩ := h1
          obtain ⟨v, e1, e2⟩ := atI_dps d1 q3
          exact .inl ⟨a1, vs, i, v, rfl, rfl, fz_sq t1, e1, at_.data p e2⟩
        · cases q3
    · exact p.elim
def cutD (xs : List D) (lo hi : Option Int) : List D := (xs.drop (HT.sIx xs.length 0 lo)).take (HT.sIx xs.length xs.length hi - HT.sIx xs.length 0 lo)
theorem dps_cut {K : PySem.W.Frag} {xs : List D} {vs : List V} (lo hi : Option Int) (h : Rps K H vs xs) : Rps K H (cutV vs lo hi) (cutD xs lo hi) := by
  unfold cutV cutD
  rw [dps_len h]
  exact dps_take _ (dps_drop _ h)
def sliceV (η : Env) (x : Val) (lo hi : Option Int) : Out Ref := match x with
  | .d (.tup xs) => .ok (.vl (.d (.tup (cutD xs lo hi)))) η
  | .l xs => .ok (.vl (.l (cutD xs lo hi))) η
  | .fz xs => .ok (.vl (.l (cutD xs lo hi))) η
  | .d (.str z) => if z.length ≤ sizeLine then .ok (.vl (.d (.str (cutS z lo hi)))) η else .stuck
  | _ => .stuck
/-- an int, at once -/
def asI (r : Ref) : M Int := fun η => match rdD η r with
  | some (.int i) => .ok i η
  | _ => .stuck
def mInt (m : M Ref) : M Int := m >>= asI
theorem At.stepI {K : PySem.W.Frag} {ρ : Nat → Addr} {mg : Str → Option Value} {A : AS} {H₀ : Hp} {L : List HeldI} {η : Env} {φ : FS} {Q : VK} {m : M Ref} {kk : Int → M Ref} (at_ : At K ρ σ A H₀ L H η φ) (p : Post K ρ mg W σ A H₀ Q ((mInt m >>= kk) η)) :
    tE K mg W m σ H fun v H' => ∃ i η' φ', v = .int i ∧ At K ρ σ A H₀ L H' η' φ' ∧ Post K ρ mg W σ A H₀ Q (kk i η') := by
  have e : (mInt m >>= kk) = (m >>= fun r => asI r >>= kk) := by
    funext η
    unfold mInt
    rw [bind_def, bind_def, bind_def]
    cases m η <;> rfl
  rw [e] at p
  refine tE_mono (fun v H' ⟨r, η', φ', f, at1, q⟩ => ?_) (at_.step p)
  rw [bind_def] at q
  unfold asI at q
  split at q
  · rename_i i hi
    refine ⟨i, η', φ', dp_int (at1.getD in0 hi), ⟨at1.rep, at1.ext, at1.new.sub fun b hb => ?_, fun h hm => at1.held h (List.mem_cons_of_mem _ hm), (List.pairwise_cons.mp at1.dis).2⟩, q⟩
    exact hb.imp (fun ⟨h, hm, z⟩ => ⟨h, List.mem_cons_of_mem _ hm, z⟩) id
  · exact q.elim
def mSlice0 (m : M Ref) : M Ref := m >>= fun r => fun η => match rd η r with
  | some x => sliceV η x none none
  | none => .stuck
def mSliceL (m ml : M Ref) : M Ref := m >>= fun r => mInt ml >>= fun i => fun η => match rd η r with
  | some x => sliceV η x (some i) none
  | none => .stuck
def mSliceH (m mh : M Ref) : M Ref := m >>= fun r => mInt mh >>= fun i => fun η => match rd η r with
  | some x => sliceV η x none (some i)
  | none => .stuck
def mSliceLH (m ml mh : M Ref) : M Ref := m >>= fun r => mInt ml >>= fun i => mInt mh >>= fun j => fun η => match rd η r with
  | some x => sliceV η x (some i) (some j)
  | none => .stuck
theorem cut_whole {xs : List D} {lo hi : Option Int} (h : HT.sIx xs.length 0 lo = 0 ∧ HT.sIx xs.length xs.length hi = xs.length) : cutD xs lo hi = xs := by
  unfold cutD
  rw [h.1, h.2]
  simp
theorem slice_use {K : PySem.W.Frag} {ρ : Nat → Addr} {mg : Str → Option Value} {A : AS} {H₀ : Hp} {η : Env} {φ : FS} {L : List HeldI} {r : Ref} {v : V} {g : AS} {Q : VK} {x : Val} {lo hi : Option Int} (at_ : At K ρ σ A H₀ L H η φ) (hm : ⟨r, v, g⟩ ∈ L)
    (q : rd η r = some x) (p : Post K ρ mg W σ A H₀ Q (sliceV η x lo hi)) : (rSlL K v lo hi H Q ∨ rSlF K v lo hi H Q) ∨ (∃ z, v = .str z ∧ z.length ≤ sizeLine ∧ Q (.str (cutS z lo hi)) H) := by
  obtain ⟨g1, h1, _⟩ := at_.get hm q
  unfold sliceV at p
  split at p
  · rename_i xs
    obtain ⟨a1, vs, rfl, t1, d1⟩ := dp_tupN h1.1
    refine .inl (.inr ⟨a1, vs, rfl, t1.t, fun z => ?_, fun z l o hl ho => ?_⟩)
    · rw [dps_len d1] at z
      rw [cut_whole z] at p
      exact at_.data p h1.1
    · exact at_.madeT p hl ho (dps_cut _ _ d1)
  · obtain ⟨a1, vs, rfl, t1, d1⟩ := repV_l h1
    exact .inl (.inl ⟨a1, vs, rfl, SqL.of t1, fun l hl => at_.madeL p hl (dps_cut _ _ d1)⟩)
  · obtain ⟨⟨a1, vs, rfl, t1, d1⟩, _⟩ := h1
    exact .inl (.inl ⟨a1, vs, rfl, fz_sq t1, fun l hl => at_.madeL p hl (dps_cut _ _ d1)⟩)
  · split at p
    · rw [dp_str h1.1]
      exact .inr ⟨_, rfl, by assumption, at_.data p str_dp⟩
    · exact p.elim
  · exact p.elim
end
end DD


/-! Slices, displays, calls of what is built in, methods. -/
namespace DD
open PySem PySem.Spec PyProof.Rows L2

section
variable {X : Cx} {W : WX} {k : Nat} {e a b c : Expr} {m1 m2 m3 : M Ref} {σ : L2.St} {H : Hp} {pos p2 : Pos}
theorem slR (X : Cx) : SlR X (fun x lo hi H Q => (rSlL X.K x lo hi H Q ∨ rSlF X.K x lo hi H Q) ∨ rSlS x lo hi H Q) := (sl_list.or sl_tupF).or sl_str
theorem de_slice0 (ha : DE X W a m1) : DE X W (.Subscript a (.Slice none none none p2) pos) (mSlice0 m1) :=
  pe_mono (pe_slice (slR X) ha po_none po_none) fun σ H Q ⟨ρ, η, φ, r, p⟩ => tE_mono (fun v H' ⟨r, η', φ', f, at_, q⟩ => by
    obtain ⟨x, q1, q⟩ := of_rd1 q
    exact slice_use at_ in0 q1 q) ((At.start r).step p)
theorem de_sliceL (ha : DE X W a m1) (hb : DE X W b m2) : DE X W (.Subscript a (.Slice (some b) none none p2) pos) (mSliceL m1 m2) :=
  pe_mono (pe_slice (slR X) ha (po_some hb) po_none) fun σ H Q ⟨ρ, η, φ, r, p⟩ => tE_mono (fun v1 H1 ⟨r1, η1, φ1, f1, at1, p1⟩ =>
    tE_mono (fun v2 H2 ⟨i, η2, φ2, e, at2, p2⟩ => by
      obtain ⟨x, q1, p⟩ := of_rd1 p2
      exact ⟨i, e, slice_use at2 in0 q1 p⟩) (at1.stepI p1)) ((At.start r).step p)
theorem de_sliceH (ha : DE X W a m1) (hb : DE X W b m2) : DE X W (.Subscript a (.Slice none (some b) none p2) pos) (mSliceH m1 m2) :=
  pe_mono (pe_slice (slR X) ha po_none (po_some hb)) fun σ H Q ⟨ρ, η, φ, r, p⟩ => tE_mono (fun v1 H1 ⟨r1, η1, φ1, f1, at1, p1⟩ =>
    tE_mono (fun v2 H2 ⟨i, η2, φ2, e, at2, p2⟩ => by
      obtain ⟨x, q1, p⟩ := of_rd1 p2
      exact ⟨i, e, slice_use at2 in0 q1 p⟩) (at1.stepI p1)) ((At.start r).step p)
theorem de_sliceLH (ha : DE X W a m1) (hb : DE X W b m2) (hc : DE X W c m3) : DE X W (.Subscript a (.Slice (some b) (some c) none p2) pos) (mSliceLH m1 m2 m3) :=
  pe_mono (pe_slice (slR X) ha (po_some hb) (po_some hc)) fun σ H Q ⟨ρ, η, φ, r, p⟩ => tE_mono (fun v1 H1 ⟨r1, η1, φ1, f1, at1, p1⟩ =>
    tE_mono (fun v2 H2 ⟨i, η2, φ2, e, at2, p2⟩ => ⟨i, e, tE_mono (fun v3 H3 ⟨j, η3, φ3, e3, at3, p3⟩ => by
      obtain ⟨x, q1, p⟩ := of_rd1 p3
      exact ⟨j, e3, slice_use at3 in0 q1 p⟩) (at2.stepI p2)⟩) (at1.stepI p1)) ((At.start r).step p)

/-! ### argument lists, displays -/
def rds (η : Env) : List Ref → Option (List Val)
  | [] => some []
  | r :: rs => match rd η r, rds η rs with
    | some x, some xs => some (x :: xs)
    | _, _ => none
def rdDs (η : Env) : List Ref → Option (List D)
  | [] => some []
  | r :: rs => match rdD η r, rdDs η rs with
    | some x, some xs => some (x :: xs)
    | _, _ => none
def mArgs : List (M Ref) → M (List Ref)
  | [] => M.ret []
  | m :: ms => m >>= fun r => mArgs ms >>= fun rs => M.ret (r :: rs)
def PostA (K : PySem.W.Frag) (ρ : Nat → Addr) (mg : Str → Option Value) (W : WX) (σ : L2.St) (A : AS) (H : Hp) (Q : List V → Hp → Prop) : Out (List Ref) → Prop
  | .ok rs η' => ∀ H' φ' L, At K ρ σ A H L H' η' φ' → L.map (·.r) = rs → Q (L.map (·.v)) H'
  | .err x η' => ∀ cls dx H' φ', RepE K ρ H' σ η' φ' → Ext A H H' → New A H (foot φ') → ExnOk K mg H' x cls dx → W cls dx σ H'
  | .stuck => False
def tA (K : PySem.W.Frag) (mg : Str → Option Value) (W : WX) (m : M (List Ref)) : TA := fun σ H Q => ∃ ρ η φ, RepE K ρ H σ η φ ∧ PostA K ρ mg W σ (foot φ) H Q (m η)
abbrev DA (X : Cx) (W : WX) (es : List Expr) (ms : List (M Ref)) : Prop := PA X es (tA X.K X.mg W (mArgs ms))
/-- from a held state on, another one -/
theorem At.comp {K : PySem.W.Frag} {ρ : Nat → Addr} {A : AS} {H₀ H1 H2 : Hp} {L L2 : List HeldI} {η1 η2 : Env} {φ1 φ2 : FS} (a : At K ρ σ A H₀ L H1 η1 φ1) (b : At K ρ σ (foot φ1) H1 L2 H2 η2 φ2) : At K ρ σ A H₀ (L ++ L2) H2 η2 φ2 := by
  have nf : New A H₀ (foot φ1) := a.new.sub fun _ h => .inr h
  have ng : ∀ h ∈ L, ∀ x, h.f x → ¬ uni (gone L2) (foot φ2) x := fun h hm x hx hu => by
    rcases b.new x hu with z | z
    · exact (a.held h hm).2 x hx z
    · obtain ⟨o, ho, _⟩ := refOk_there (a.held h hm).1 hx
      rw [ho] at z; cases z
  refine ⟨b.rep, a.ext.trans nf b.ext, fun x hx => ?_, fun h hm => ?_, ?_⟩
  · rcases hx with ⟨h, hm, hx⟩ | hx
    · rcases List.mem_append.mp hm with q | q
      · exact a.new x (.inl ⟨h, q, hx⟩)
      · exact (New.trans a.ext nf b.new) x (.inl ⟨h, q, hx⟩)
    · exact (New.trans a.ext nf b.new) x (.inr hx)
  · rcases List.mem_append.mp hm with q | q
    · exact ⟨refOk_ext b.ext (a.held h q).1 (a.held h q).2, fun x hx hf => ng h q x hx (.inr hf)⟩
    · exact b.held h q
  · exact List.pairwise_append.mpr ⟨a.dis, b.dis, fun h hh k hk x hx hx' => ng h hh x hx (.inl ⟨k, hk, hx'⟩)⟩
theorem tA_mono {K : PySem.W.Frag} {mg : Str → Option Value} {m : M (List Ref)} {Q Q' : List V → Hp → Prop} (h : ∀ v H, Q v H → Q' v H) (t : tA K mg W m σ H Q) : tA K mg W m σ H Q' := by
  obtain ⟨ρ, η, φ, r, p⟩ := t
  refine ⟨ρ, η, φ, r, ?_⟩
  cases q : m η with
  | ok r η' => rw [q] at p; exact fun H' φ' L a b => h _ _ (p H' φ' L a b)
  | err x η' => rw [q] at p; exact p
  | stuck => rw [q] at p; exact p
theorem da_nil : DA X W [] [] :=
  pa_mono pa_nil fun σ H Q ⟨ρ, η, φ, r, p⟩ => p H φ [] (At.start r) rfl
theorem At.stepAA {K : PySem.W.Frag} {ρ : Nat → Addr} {mg : Str → Option Value} {A : AS} {H₀ : Hp} {L : List HeldI} {η : Env} {φ : FS} {Q : List V → Hp → Prop} {m : M Ref} {kk : Ref → M (List Ref)} (a : At K ρ σ A H₀ L H η φ) (p : PostA K ρ mg W σ A H₀ Q ((m >>= kk) η)) :
    tE K mg W m σ H fun v H' => ∃ r η' φ' f, At K ρ σ A H₀ (⟨r, v, f⟩ :: L) H' η' φ' ∧ PostA K ρ mg W σ A H₀ Q (kk r η') := by
  refine ⟨ρ, η, φ, a.rep, ?_⟩
  rw [bind_def] at p
  have nf : New A H₀ (foot φ) := a.new.sub fun _ h => .inr h
  cases e : m η with
  | ok r η' =>
    rw [e] at p
    exact fun v H' φ' f rep ok d ex n => ⟨r, η', φ', f, a.hold rep ok d ex n, p⟩
  | err x η' =>
    rw [e] at p
    exact fun cls dx H' φ' rep ex n xk => p cls dx H' φ' rep (a.ext.trans nf ex) (New.trans a.ext nf n) xk
  | stuck =>
    rw [e] at p
    exact p.elim
theorem da_cons {es : List Expr} {ms : List (M Ref)} (ha : DE X W e m1) (hb : DA X W es ms) (hs : starEach (e :: es) X.env = (false, eval e X.env) :: starEach es X.env := by rfl) : DA X W (e :: es) (m1 :: ms) :=
  pa_mono (pa_cons ha hb hs) fun σ H Q ⟨ρ, η, φ, r, p⟩ => tE_mono (fun v H' ⟨r, η', φ', f, at_, q⟩ => by
    refine ⟨ρ, η', φ', at_.rep, ?_⟩
    have nf : New (foot φ) H (foot φ') := at_.new.sub fun _ h => .inr h
    rw [bind_def] at q
    cases e : mArgs ms η' with
    | ok rs η2 =>
      rw [e] at q
      exact fun H2 φ2 L at2 eL => q H2 φ2 (⟨r, v, f⟩ :: L) (at_.comp at2) (by show r :: L.map (·.r) = _; rw [eL])
    | err x η2 =>
      rw [e] at q
      exact fun cls dx H' φ' rep ex n xk => q cls dx H' φ' rep (at_.ext.trans nf ex) (New.trans at_.ext nf n) xk
    | stuck => rw [e] at q; exact q.elim) ((At.start r).stepAA p)
/-- arguments, then what is done with them -/
theorem At.stepA {K : PySem.W.Frag} {ρ : Nat → Addr} {mg : Str → Option Value} {η : Env} {φ : FS} {Q : VK} {m : M (List Ref)} {kk : List Ref → M Ref} (r : RepE K ρ H σ η φ) (p : Post K ρ mg W σ (foot φ) H Q ((m >>= kk) η)) :
    tA K mg W m σ H fun vs H' => ∃ η' φ' L, At K ρ σ (foot φ) H L H' η' φ' ∧ L.map (·.v) = vs ∧ Post K ρ mg W σ (foot φ) H Q (kk (L.map (·.r)) η') := by
  refine ⟨ρ, η, φ, r, ?_⟩
  rw [bind_def] at p
  cases e : m η with
  | ok rs η' =>
    rw [e] at p
    exact fun H' φ' L at_ eL => ⟨η', φ', L, at_, rfl, by rw [eL]; exact p⟩
  | err x η' => rw [e] at p; exact p
  | stuck => rw [e] at p; exact p.elim
theorem At.getDs {K : PySem.W.Frag} {ρ : Nat → Addr} {A : AS} {H₀ : Hp} {η : Env} {φ : FS} {L0 : List HeldI} (a : At K ρ σ A H₀ L0 H η φ) : ∀ {L : List HeldI} {xs : List D}, (∀ h ∈ L, h ∈ L0) → rdDs η (L.map (·.r)) = some xs → Rps K H (L.map (·.v)) xs
  | [], xs, hs, e => by cases e; exact .nil
  | h :: L, xs, hs, e => by
    simp only [List.map_cons, rdDs] at e
    cases q1 : rdD η h.r with
    | none => rw [q1] at e; cases e
    | some x =>
      cases q2 : rdDs η (L.map (·.r)) with
      | none => rw [q1, q2] at e; cases e
      | some ys =>
        rw [q1, q2] at e
        cases e
        exact .cons (a.getD (hs h List.mem_cons_self) q1) (a.getDs (fun k hk => hs k (List.mem_cons_of_mem _ hk)) q2)
def mTup (ms : List (M Ref)) : M Ref := mArgs ms >>= fun rs => fun η => match rdDs η rs with
  | some xs => if xs.length ≤ sizeLine then .ok (.vl (.d (.tup xs))) η else .stuck
  | none => .stuck
def mLst (ms : List (M Ref)) : M Ref := mArgs ms >>= fun rs => fun η => match rdDs η rs with
  | some xs => if xs.length ≤ sizeLine then .ok (.vl (.l xs)) η else .stuck
  | none => .stuck
theorem de_tup {es : List Expr} {ms : List (M Ref)} {x1} (h : DA X W es ms) : DE X W (.Tuple es x1 pos) (mTup ms) :=
  pe_mono (pe_tupF h) fun σ H Q ⟨ρ, η, φ, r, p⟩ => tA_mono (fun vs H' ⟨η', φ', L, at_, eL, q⟩ => by
    cases q1 : rdDs η' (L.map (·.r)) with
    | none => rw [q1] at q; exact q.elim
    | some xs =>
      have hd := at_.getDs (fun _ h => h) q1
      rw [q1] at q
      dsimp only at q
      split at q
      · rw [eL] at hd
        exact ⟨by rw [dps_len hd]; assumption, fun l o hl ho => at_.madeT q hl ho hd⟩
      · exact q.elim) (At.stepA r p)
theorem de_lst {es : List Expr} {ms : List (M Ref)} {x1} (h : DA X W es ms) : DE X W (.List es x1) (mLst ms) :=
  pe_mono (pe_lst h) fun σ H Q ⟨ρ, η, φ, r, p⟩ => tA_mono (fun vs H' ⟨η', φ', L, at_, eL, q⟩ => by
    cases q1 : rdDs η' (L.map (·.r)) with
    | none => rw [q1] at q; exact q.elim
    | some xs =>
      have hd := at_.getDs (fun _ h => h) q1
      rw [q1] at q
      dsimp only at q
      split at q
      · rw [eL] at hd
        exact ⟨by rw [dps_len hd]; assumption, fun l hl => at_.madeL q hl hd⟩
      · exact q.elim) (At.stepA r p)
/-- x[::-1] -/
def mBack (m : M Ref) : M Ref := m >>= fun r => fun η => match rd η r with
  | some (.d (.tup xs)) => .ok (.vl (.d (.tup xs.reverse))) η
  | some (.l xs) => .ok (.vl (.l xs.reverse)) η
  | some (.fz xs) => .ok (.vl (.l xs.reverse)) η
  | _ => .stuck
theorem de_back {kk : Nat} {q1 q2 q3 : Pos} (ha : DE X W a m1) : DE X W (.Subscript a (.Slice none none (some (.UnaryOp .USub (.Constant (.int 1) kk q1) q2)) q3) pos) (mBack m1) :=
  pe_mono (pe_back ha) fun σ H Q ⟨ρ, η, φ, r, p⟩ => tE_mono (fun v H' ⟨r, η', φ', f, at_, q⟩ => by
    split at q
    · rename_i xs hx
      obtain ⟨g, h, _⟩ := at_.get in0 hx
      obtain ⟨a1, vs, rfl, t1, d1⟩ := dp_tupN h.1
      exact .inl ⟨a1, vs, rfl, t1.t, fun l o hl ho => at_.madeT q hl ho (dps_rev d1)⟩
    · rename_i xs hx
      obtain ⟨g, h, _⟩ := at_.get in0 hx
      obtain ⟨a1, vs, rfl, t1, d1, _⟩ := h
      exact .inr ⟨a1, vs, rfl, SqL.of t1, fun l hl => at_.madeL q hl (dps_rev d1)⟩
    · rename_i xs hx
      obtain ⟨g, h, _⟩ := at_.get in0 hx
      obtain ⟨⟨a1, vs, rfl, t1, d1⟩, _⟩ := h
      exact .inr ⟨a1, vs, rfl, fz_sq t1, fun l hl => at_.madeL q hl (dps_rev d1)⟩
    · exact q.elim) ((At.start r).step p)
end
end DD


/-! Calls of what is built in; methods. -/
namespace DD
open PySem PySem.Spec PyProof.Rows L2

section
variable {X : Cx} {W : WX} {k : Nat} {e a b c : Expr} {m1 m2 m3 : M Ref} {σ : L2.St} {H : Hp} {pos p p2 : Pos} {x : Str}

/-! ### calls with one, two arguments -/
def mCall1 (g : Val → Option Val) (m : M Ref) : M Ref := mArgs [m] >>= fun rs => fun η => match rs with
  | [r] => (match rd η r with
    | some x => (match g x with
      | some z => .ok (.vl z) η
      | none => .stuck)
    | none => .stuck)
  | _ => .stuck
def mCall2 (g : Val → Val → Option Val) (m n : M Ref) : M Ref := mArgs [m, n] >>= fun rs => fun η => match rs with
  | [r, r'] => (match rd η r, rd η r' with
    | some x, some y => (match g x y with
      | some z => .ok (.vl z) η
      | none => .stuck)
    | _, _ => .stuck)
  | _ => .stuck
theorem call1_use {K : PySem.W.Frag} {ρ : Nat → Addr} {mg : Str → Option Value} {A : AS} {H₀ : Hp} {η : Env} {φ : FS} {L : List HeldI} {Q : VK} {g : Val → Option Val} (at_ : At K ρ σ A H₀ L H η φ)
    (q : Post K ρ mg W σ A H₀ Q (match L.map (·.r) with
      | [r] => (match rd η r with
        | some x => (match g x with
          | some z => .ok (.vl z) η
          | none => .stuck)
        | none => .stuck)
      | _ => .stuck)) : ∃ h x z gg, L = [h] ∧ RepV K H x h.v gg ∧ g x = some z ∧ Post K ρ mg W σ A H₀ Q (.ok (.vl z) η) := by
  match L with
  | [] => exact q.elim
  | [h] =>
    simp only [List.map_cons, List.map_nil] at q
    cases q1 : rd η h.r with
    | none => rw [q1] at q; exact q.elim
    | some x =>
      rw [q1] at q
      dsimp only at q
      cases q2 : g x with
      | none => rw [q2] at q; exact q.elim
      | some z =>
        rw [q2] at q
        obtain ⟨gg, h1, _⟩ := at_.get (r := h.r) (v := h.v) (f := h.f) in0 q1
        exact ⟨h, x, z, gg, rfl, h1, q2, q⟩
  | _ :: _ :: _ => exact q.elim
theorem call2_use {K : PySem.W.Frag} {ρ : Nat → Addr} {mg : Str → Option Value} {A : AS} {H₀ : Hp} {η : Env} {φ : FS} {L : List HeldI} {Q : VK} {g : Val → Val → Option Val} (at_ : At K ρ σ A H₀ L H η φ)
    (q : Post K ρ mg W σ A H₀ Q (match L.map (·.r) with
      | [r, r'] => (match rd η r, rd η r' with
        | some x, some y => (match g x y with
          | some z => .ok (.vl z) η
          | none => .stuck)
        | _, _ => .stuck)
      | _ => .stuck)) : ∃ h h' x y z gg gg', L = [h, h'] ∧ RepV K H x h.v gg ∧ RepV K H y h'.v gg' ∧ g x y = some z ∧ Post K ρ mg W σ A H₀ Q (.ok (.vl z) η) := by
  match L with
  | [] => exact q.elim
  | [_] => exact q.elim
  | [h, h'] =>
    simp only [List.map_cons, List.map_nil] at q
    obtain ⟨x, y, q1, q2, q⟩ := of_rd2 q
    cases q3 : g x y with
    | none => rw [q3] at q; exact q.elim
    | some z =>
      rw [q3] at q
      obtain ⟨gg, h1, _⟩ := at_.get (r := h.r) (v := h.v) (f := h.f) in0 q1
      obtain ⟨gg', h2, _⟩ := at_.get (r := h'.r) (v := h'.v) (f := h'.f) in1 q2
      exact ⟨h, h', x, y, z, gg, gg', rfl, h1, h2, q3, q⟩
  | _ :: _ :: _ :: _ => exact q.elim
/-- what is wanted of a call's value: data, a new list, a new tuple -/
theorem de_call1 {r : List V → Hp → VK → Prop} {g : Val → Option Val} (hp : ∀ t, PA X [a] t → PE X e (tCB r t)) (ha : DE X W a m1)
    (hk : ∀ ρ σ H Q η φ A H₀ L x z v gg, At X.K ρ σ A H₀ L H η φ → RepV X.K H x v gg → g x = some z → Post X.K ρ X.mg W σ A H₀ Q (.ok (.vl z) η) → r [v] H Q)
    (hs : starEach [a] X.env = (false, eval a X.env) :: starEach [] X.env := by rfl) : DE X W e (mCall1 g m1) :=
  pe_mono (hp _ (da_cons ha da_nil hs)) fun σ H Q ⟨ρ, η, φ, r, p⟩ => tA_mono (fun vs H' ⟨η', φ', L, at_, eL, q⟩ => by
    obtain ⟨h, x, z, gg, rfl, h1, h2, q⟩ := call1_use at_ q
    subst eL
    exact hk _ _ _ _ _ _ _ _ _ _ _ _ _ at_ h1 h2 q) (At.stepA r p)
theorem de_call2 {r : List V → Hp → VK → Prop} {g : Val → Val → Option Val} (hp : ∀ t, PA X [a, b] t → PE X e (tCB r t)) (ha : DE X W a m1) (hb : DE X W b m2)
    (hk : ∀ ρ σ H Q η φ A H₀ L x y z v w gg gg', At X.K ρ σ A H₀ L H η φ → RepV X.K H x v gg → RepV X.K H y w gg' → g x y = some z → Post X.K ρ X.mg W σ A H₀ Q (.ok (.vl z) η) → r [v, w] H Q)
    (hs : starEach [a, b] X.env = (false, eval a X.env) :: starEach [b] X.env := by rfl) (hs2 : starEach [b] X.env = (false, eval b X.env) :: starEach [] X.env := by rfl) : DE X W e (mCall2 g m1 m2) :=
  pe_mono (hp _ (da_cons ha (da_cons hb da_nil hs2) hs)) fun σ H Q ⟨ρ, η, φ, r, p⟩ => tA_mono (fun vs H' ⟨η', φ', L, at_, eL, q⟩ => by
    obtain ⟨h, h', x, y, z, gg, gg', rfl, h1, h2, h3, q⟩ := call2_use at_ q
    subst eL
    exact hk _ _ _ _ _ _ _ _ _ _ _ _ _ _ _ _ at_ h1 h2 h3 q) (At.stepA r p)

def gAbs : Val → Option Val
  | .d (.int i) => some (.d (.int (if i < 0 then -i else i)))
  | _ => none
theorem de_abs (hg : Gl X "abs") (hm : X.mg "abs" = none) (ha : DE X W a m1) (he : starEach [a] X.env = (false, eval a X.env) :: starEach [] X.env := by rfl) : DE X W (.Call (.Name "abs" p) [a] [] pos) (mCall1 gAbs m1) :=
  de_call1 (fun t h => pe_callB call_abs hg hm (by decide +kernel) h (by decide) (by decide) he) ha (fun ρ σ H Q η φ A H₀ L x z v gg at_ h1 h2 q => by
    unfold gAbs at h2
    split at h2
    · cases h2
      rw [dp_int h1.1]
      exact ⟨_, rfl, at_.data q int_dp⟩
    · cases h2) he
def gInt : Val → Option Val
  | .d (.int i) => some (.d (.int i))
  | .d (.bl b) => some (.d (.int (if b then 1 else 0)))
  | _ => none
theorem de_intOf (hg : Gl X "int") (hm : X.mg "int" = none) (ha : DE X W a m1) (he : starEach [a] X.env = (false, eval a X.env) :: starEach [] X.env := by rfl) : DE X W (.Call (.Name "int" p) [a] [] pos) (mCall1 gInt m1) :=
  de_call1 (fun t h => pe_callTy call_int1 hg hm (by decide +kernel) h (by decide) (by decide) he) ha (fun ρ σ H Q η φ A H₀ L x z v gg at_ h1 h2 q => by
    unfold gInt at h2
    split at h2
    · cases h2
      rw [dp_int h1.1]
      exact .inl ⟨_, rfl, at_.data q int_dp⟩
    · cases h2
      rw [dp_bl h1.1]
      exact .inr ⟨_, rfl, at_.data q int_dp⟩
    · cases h2) he
def lenV : Val → Option Nat
  | .d (.str z) => if z.length ≤ sizeLine then some z.length else none
  | .d (.tup xs) => some xs.length
  | .d (.pt xs) => some xs.length
  | .l xs => some xs.length
  | .fz xs => some xs.length
  | .m kvs => some kvs.length
  | _ => none
def gLen (x : Val) : Option Val := (lenV x).map fun n => .d (.int n)
theorem call_lenA : CallR X (.builtin "len") (fun xs H Q => (∃ x n, xs = [x] ∧ LenV X.K x H n ∧ Q (.int n) H) ∨ ∃ a kvs, xs = [V.ref a] ∧ H a = some (.dK kvs) ∧ Q (.int kvs.length) H) := CallR.or call_len call_lenD
theorem kvs_len {κ : Type} {K : PySem.W.Frag} : ∀ {ks : List (κ × V)} {kvs : List (κ × D)}, KVs K H ks kvs → ks.length = kvs.length
  | _, _, .nil => rfl
  | _, _, .cons _ t => by simp [kvs_len t]
theorem de_len (hg : Gl X "len") (hm : X.mg "len" = none) (ha : DE X W a m1) (he : starEach [a] X.env = (false, eval a X.env) :: starEach [] X.env := by rfl) : DE X W (.Call (.Name "len" p) [a] [] pos) (mCall1 gLen m1) :=
  de_call1 (fun t h => pe_callB call_lenA hg hm (by decide +kernel) h (by decide) (by decide) he) ha (fun ρ σ H Q η φ A H₀ L x z v gg at_ h1 h2 q => by
    unfold gLen at h2
    cases q3 : lenV x with
    | none => rw [q3] at h2; cases h2
    | some n =>
      rw [q3] at h2
      cases h2
      have hq := at_.data q int_dp
      unfold lenV at q3
      split at q3
      · split at q3
        · cases q3
          rw [dp_str h1.1]
          exact .inl ⟨_, _, rfl, ⟨by assumption, rfl⟩, hq⟩
        · cases q3
      · cases q3
        obtain ⟨a1, vs, rfl, t1, d1⟩ := dp_tup h1.1 rfl
        exact .inl ⟨_, _, rfl, .inr ⟨vs, t1, (dps_len d1).symm⟩, hq⟩
      · cases q3
        obtain ⟨a1, vs, rfl, t1, d1⟩ := dp_tup h1.1 rfl
        exact .inl ⟨_, _, rfl, .inr ⟨vs, t1, (dps_len d1).symm⟩, hq⟩
      · cases q3
        obtain ⟨a1, vs, rfl, t1, d1⟩ := repV_l h1
        exact .inl ⟨_, _, rfl, .inl ⟨vs, SqL.of t1, (dps_len d1).symm⟩, hq⟩
      · cases q3
        obtain ⟨⟨a1, vs, rfl, t1, d1⟩, _⟩ := h1
        exact .inl ⟨_, _, rfl, .inl ⟨vs, fz_sq t1, (dps_len d1).symm⟩, hq⟩
      · cases q3
        obtain ⟨a1, ks, rfl, t1, d1, _⟩ := h1
        refine .inr ⟨a1, ks, rfl, t1, ?_⟩
        rw [kvs_len d1]
        exact hq
      · cases q3) he
def gMax (x y : Val) : Option Val := match x, y with
  | .d (.int i), .d (.int j) => some (.d (.int (if j > i then j else i)))
  | _, _ => none
def gMin (x y : Val) : Option Val := match x, y with
  | .d (.int i), .d (.int j) => some (.d (.int (if j < i then j else i)))
  | _, _ => none
theorem de_max2 (cc : Cc X W k) (hg : Gl X "max") (hm : X.mg "max" = none) (ha : DE X W a m1) (hb : DE X W b m2) (he : starEach [a, b] X.env = (false, eval a X.env) :: starEach [b] X.env := by rfl) (he2 : starEach [b] X.env = (false, eval b X.env) :: starEach [] X.env := by rfl)
    (hpl : (backTo pos (starEach [b] X.env)).any (·.1) = false := by rfl) : DE X W (.Call (.Name "max" p) [a, b] [] pos) (mCall2 gMax m1 m2) :=
  de_call2 (fun t h => pe_callB (call_max2 cc.calm) hg hm (by decide +kernel) h (by decide) (by decide) he hpl) ha hb (fun ρ σ H Q η φ A H₀ L x y z v w gg gg' at_ h1 h2 h3 q => by
    unfold gMax at h3
    split at h3
    · cases h3
      rw [dp_int h1.1, dp_int h2.1]
      exact ⟨_, _, rfl, at_.data q int_dp⟩
    · cases h3) he he2
theorem de_min2 (cc : Cc X W k) (hg : Gl X "min") (hm : X.mg "min" = none) (ha : DE X W a m1) (hb : DE X W b m2) (he : starEach [a, b] X.env = (false, eval a X.env) :: starEach [b] X.env := by rfl) (he2 : starEach [b] X.env = (false, eval b X.env) :: starEach [] X.env := by rfl)
    (hpl : (backTo pos (starEach [b] X.env)).any (·.1) = false := by rfl) : DE X W (.Call (.Name "min" p) [a, b] [] pos) (mCall2 gMin m1 m2) :=
  de_call2 (fun t h => pe_callB (call_min2 cc.calm) hg hm (by decide +kernel) h (by decide) (by decide) he hpl) ha hb (fun ρ σ H Q η φ A H₀ L x y z v w gg gg' at_ h1 h2 h3 q => by
    unfold gMin at h3
    split at h3
    · cases h3
      rw [dp_int h1.1, dp_int h2.1]
      exact ⟨_, _, rfl, at_.data q int_dp⟩
    · cases h3) he he2
def gTuple : Val → Option Val
  | .d (.tup xs) => some (.d (.tup xs))
  | .d (.pt xs) => some (.d (.pt xs))
  | .l xs => some (.d (.tup xs))
  | .fz xs => some (.d (.tup xs))
  | _ => none
theorem de_tupleOf (hg : Gl X "tuple") (hm : X.mg "tuple" = none) (ha : DE X W a m1) (he : starEach [a] X.env = (false, eval a X.env) :: starEach [] X.env := by rfl) : DE X W (.Call (.Name "tuple" p) [a] [] pos) (mCall1 gTuple m1) :=
  de_call1 (fun t h => pe_callTy call_tupleF hg hm (by decide +kernel) h (by decide) (by decide) he) ha (fun ρ σ H Q η φ A H₀ L x z v gg at_ h1 h2 q => by
    unfold gTuple at h2
    split at h2
    · cases h2
      obtain ⟨a1, vs, rfl, t1, d1⟩ := dp_tup h1.1 rfl
      exact ⟨a1, vs, rfl, .inr ⟨t1, at_.data q h1.1⟩⟩
    · cases h2
      obtain ⟨a1, vs, rfl, t1, d1⟩ := dp_tup h1.1 rfl
      exact ⟨a1, vs, rfl, .inr ⟨t1, at_.data q h1.1⟩⟩
    · cases h2
      obtain ⟨a1, vs, rfl, t1, d1⟩ := repV_l h1
      exact ⟨a1, vs, rfl, .inl ⟨SqL.of t1, fun l o hl ho => at_.madeT q hl ho d1⟩⟩
    · cases h2
      obtain ⟨⟨a1, vs, rfl, t1, d1⟩, _⟩ := h1
      exact ⟨a1, vs, rfl, .inl ⟨fz_sq t1, fun l o hl ho => at_.madeT q hl ho d1⟩⟩
    · cases h2) he
def gList : Val → Option Val
  | .d (.tup xs) => some (.l xs)
  | .d (.pt xs) => some (.l xs)
  | .l xs => some (.l xs)
  | .fz xs => some (.l xs)
  | _ => none
theorem de_listOf (hg : Gl X "list") (hm : X.mg "list" = none) (ha : DE X W a m1) (he : starEach [a] X.env = (false, eval a X.env) :: starEach [] X.env := by rfl) : DE X W (.Call (.Name "list" p) [a] [] pos) (mCall1 gList m1) :=
  de_call1 (fun t h => pe_callTy call_list_of hg hm (by decide +kernel) h (by decide) (by decide) he) ha (fun ρ σ H Q η φ A H₀ L x z v gg at_ h1 h2 q => by
    unfold gList at h2
    split at h2
    · cases h2
      obtain ⟨a1, vs, rfl, t1, d1⟩ := dp_tup h1.1 rfl
      exact ⟨a1, vs, rfl, .inr t1, fun l hl => at_.madeL q hl d1⟩
    · cases h2
      obtain ⟨a1, vs, rfl, t1, d1⟩ := dp_tup h1.1 rfl
      exact ⟨a1, vs, rfl, .inr t1, fun l hl => at_.madeL q hl d1⟩
    · cases h2
      obtain ⟨a1, vs, rfl, t1, d1⟩ := repV_l h1
      exact ⟨a1, vs, rfl, .inl (SqL.of t1), fun l hl => at_.madeL q hl d1⟩
    · cases h2
      obtain ⟨⟨a1, vs, rfl, t1, d1⟩, _⟩ := h1
      exact ⟨a1, vs, rfl, .inl (fz_sq t1), fun l hl => at_.madeL q hl d1⟩
    · cases h2) he
/-! ### all, any, sum -/
def asBools : List D → Option (List Bool)
  | [] => some []
  | .bl b :: xs => (asBools xs).map (b :: ·)
  | _ => none
def asInts : List D → Option (List Int)
  | [] => some []
  | .int b :: xs => (asInts xs).map (b :: ·)
  | _ => none
theorem asBools_ok {K : PySem.W.Frag} : ∀ {xs : List D} {bs : List Bool} {vs : List V}, asBools xs = some bs → Rps K H vs xs → vs = bs.map V.bl
  | [], bs, vs, e, h => by
    cases e
    cases h
    rfl
  | .bl b :: xs, bs, vs, e, h => by
    simp only [asBools] at e
    cases q : asBools xs with
    | none => rw [q] at e; cases e
    | some cs =>
      rw [q] at e
      cases e
      cases h with
      | cons h1 h2 => rw [dp_bl h1, asBools_ok q h2]; rfl
  | .non :: _, _, _, e, _ => by cases e
  | .int _ :: _, _, _, e, _ => by cases e
  | .str _ :: _, _, _, e, _ => by cases e
  | .tup _ :: _, _, _, e, _ => by cases e
  | .pt _ :: _, _, _, e, _ => by cases e
theorem asInts_ok {K : PySem.W.Frag} : ∀ {xs : List D} {bs : List Int} {vs : List V}, asInts xs = some bs → Rps K H vs xs → vs = bs.map V.int
  | [], bs, vs, e, h => by
    cases e
    cases h
    rfl
  | .int b :: xs, bs, vs, e, h => by
    simp only [asInts] at e
    cases q : asInts xs with
    | none => rw [q] at e; cases e
    | some cs =>
      rw [q] at e
      cases e
      cases h with
      | cons h1 h2 => rw [dp_int h1, asInts_ok q h2]; rfl
  | .non :: _, _, _, e, _ => by cases e
  | .bl _ :: _, _, _, e, _ => by cases e
  | .str _ :: _, _, _, e, _ => by cases e
  | .tup _ :: _, _, _, e, _ => by cases e
  | .pt _ :: _, _, _, e, _ => by cases e
theorem asInts_map : ∀ ns : List Int, asInts (ns.map D.int) = some ns
  | [] => rfl
  | n :: ns => by simp [asInts, asInts_map ns]
theorem asBools_map : ∀ ns : List Bool, asBools (ns.map D.bl) = some ns
  | [] => rfl
  | n :: ns => by simp [asBools, asBools_map ns]
def listOf : Val → Option (List D)
  | .l xs => some xs
  | .fz xs => some xs
  | _ => none
theorem listOf_ok {K : PySem.W.Frag} {x : Val} {xs : List D} {v : V} {g : AS} (h : RepV K H x v g) (e : listOf x = some xs) : ∃ a vs, v = .ref a ∧ SqL K H a vs ∧ Rps K H vs xs := by
  cases x with
  | l _ => cases e; obtain ⟨a1, vs, rfl, t1, d1⟩ := repV_l h; exact ⟨a1, vs, rfl, SqL.of t1, d1⟩
  | fz _ => cases e; obtain ⟨⟨a1, vs, rfl, t1, d1⟩, _⟩ := h; exact ⟨a1, vs, rfl, fz_sq t1, d1⟩
  | d _ => cases e
  | m _ => cases e
  | mt _ => cases e
  | bw _ => cases e
  | pin _ _ => cases e
def gAll (x : Val) : Option Val := (listOf x).bind fun xs => (asBools xs).map fun bs => .d (.bl (bs.all id))
def gAny (x : Val) : Option Val := (listOf x).bind fun xs => (asBools xs).map fun bs => .d (.bl (bs.any id))
def gSum (x : Val) : Option Val := (listOf x).bind fun xs => (asInts xs).map fun ns => .d (.int ns.sum)
theorem bind_some {α β : Type} {o : Option α} {f : α → Option β} {z : β} (h : o.bind f = some z) : ∃ x, o = some x ∧ f x = some z := by
  cases o with
  | none => cases h
  | some x => exact ⟨x, rfl, h⟩
theorem map_some {α β : Type} {o : Option α} {f : α → β} {z : β} (h : o.map f = some z) : ∃ x, o = some x ∧ f x = z := by
  cases o with
  | none => cases h
  | some x => cases h; exact ⟨x, rfl, rfl⟩
theorem de_all (cc : Cc X W k) (hg : Gl X "all") (hm : X.mg "all" = none) (ha : DE X W a m1) (he : starEach [a] X.env = (false, eval a X.env) :: starEach [] X.env := by rfl) : DE X W (.Call (.Name "all" p) [a] [] pos) (mCall1 gAll m1) :=
  de_call1 (fun t h => pe_callB (cr_all cc.calm) hg hm (by decide +kernel) h (by decide) (by decide) he) ha (fun ρ σ H Q η φ A H₀ L x z v gg at_ h1 h2 q => by
    obtain ⟨xs, e1, e2⟩ := bind_some h2
    obtain ⟨bs, e3, rfl⟩ := map_some e2
    obtain ⟨a1, vs, rfl, t1, d1⟩ := listOf_ok h1 e1
    rw [asBools_ok e3 d1] at t1
    exact ⟨a1, bs, rfl, t1, at_.data q bl_dp⟩) he
theorem de_any (cc : Cc X W k) (hg : Gl X "any") (hm : X.mg "any" = none) (ha : DE X W a m1) (he : starEach [a] X.env = (false, eval a X.env) :: starEach [] X.env := by rfl) : DE X W (.Call (.Name "any" p) [a] [] pos) (mCall1 gAny m1) :=
  de_call1 (fun t h => pe_callB (cr_any cc.calm) hg hm (by decide +kernel) h (by decide) (by decide) he) ha (fun ρ σ H Q η φ A H₀ L x z v gg at_ h1 h2 q => by
    obtain ⟨xs, e1, e2⟩ := bind_some h2
    obtain ⟨bs, e3, rfl⟩ := map_some e2
    obtain ⟨a1, vs, rfl, t1, d1⟩ := listOf_ok h1 e1
    rw [asBools_ok e3 d1] at t1
    exact ⟨a1, bs, rfl, t1, at_.data q bl_dp⟩) he
theorem de_sum (cc : Cc X W k) (hg : Gl X "sum") (hm : X.mg "sum" = none) (ha : DE X W a m1) (he : starEach [a] X.env = (false, eval a X.env) :: starEach [] X.env := by rfl) : DE X W (.Call (.Name "sum" p) [a] [] pos) (mCall1 gSum m1) :=
  de_call1 (fun t h => pe_callB (cr_sum cc.calm) hg hm (by decide +kernel) h (by decide) (by decide) he) ha (fun ρ σ H Q η φ A H₀ L x z v gg at_ h1 h2 q => by
    obtain ⟨xs, e1, e2⟩ := bind_some h2
    obtain ⟨bs, e3, rfl⟩ := map_some e2
    obtain ⟨a1, vs, rfl, t1, d1⟩ := listOf_ok h1 e1
    rw [asInts_ok e3 d1] at t1
    exact ⟨a1, bs, rfl, t1, at_.data q int_dp⟩) he

/-! ### repr -/
theorem py_noDict : ∀ x : D, x.py.hasDict = false := by
  intro x
  exact go x
where
  go : ∀ x : D, x.py.hasDict = false
    | .non => by simp [D.py, PyData.hasDict]
    | .bl _ => by simp [D.py, PyData.hasDict]
    | .int _ => by simp [D.py, PyData.hasDict]
    | .str _ => by simp [D.py, PyData.hasDict]
    | .tup xs => by simp only [D.py, PyData.hasDict]; exact gos xs
    | .pt xs => by simp only [D.py, PyData.hasDict]; exact gos xs
  gos : ∀ xs : List D, PyData.hasDictAll (D.pys xs) = false
    | [] => by simp [D.pys, PyData.hasDictAll]
    | x :: xs => by simp only [D.pys, PyData.hasDictAll, go x, gos xs]; rfl
theorem pys_noDict (xs : List D) : PyData.hasDictAll (D.pys xs) = false := py_noDict.gos xs
/-- what repr asks -/
def Shows (d : PyData) : Prop := d.showable = true ∧ d.depth ≤ 60 ∧ d.shown.length ≤ sizeLine
instance (d : PyData) : Decidable (Shows d) := by unfold Shows; infer_instance
theorem call_reprD (cc : Cc X W k) : CallR X (.builtin "repr") (fun xs H Q => ∃ x d, xs = [x] ∧ Dp X.K H x d ∧ d.hasDict = false ∧ Shows d ∧ Q (.str d.shown) H) := by
  intro pins s σ H xs us Q I r h
  obtain ⟨x, d, rfl, hd, hn, hs, q⟩ := h
  obtain ⟨u, rfl, ru⟩ := vals1 r
  obtain ⟨as, hr⟩ := Dp.reads I d x u hd ru
  have hu := cc.hu
  cases hd with
  | non =>
    cases ru
    refine PySem.P.repr_of_none ⟨.str _, H, I.tok _, ⟨_, rfl⟩, ?_⟩
    simpa only [PyData.shown] using q
  | bl b =>
    cases ru
    refine PySem.P.repr_of_bool ⟨.str _, H, I.tok _, ⟨_, rfl⟩, ?_⟩
    simpa only [PyData.shown] using q
  | int i =>
    obtain ⟨t, rfl⟩ := ru
    refine PySem.P.repr_of_int (by simpa [PyData.showable] using hs.1) ⟨.str _, H, I.tok _, ⟨_, rfl⟩, ?_⟩
    simpa only [PyData.shown] using q
  | str z =>
    obtain ⟨t, rfl⟩ := ru
    refine PySem.P.repr_of_str ⟨.str _, H, I.tok _, ⟨_, rfl⟩, ?_⟩ (by simpa only [PyData.shown] using hs.2.2)
    simpa only [PyData.shown] using q
  | lst h1 h2 =>
    cases ru
    refine PySem.repr_of_reads' hr hs.1 (fun z => by rw [hn] at z; cases z) cc.grd (by have := hs.2.1; omega) (fun _ _ e => e) (fun h' u tk hk => ?_) hs.2.2
    exact ⟨.str _, H, I.kept hk, ⟨_, rfl⟩, q⟩
  | tup h1 h2 =>
    cases ru
    refine PySem.repr_of_reads' hr hs.1 (fun z => by rw [hn] at z; cases z) cc.grd (by have := hs.2.1; omega) (fun _ _ e => e) (fun h' u tk hk => ?_) hs.2.2
    exact ⟨.str _, H, I.kept hk, ⟨_, rfl⟩, q⟩
def gRepr (x : Val) : Option Val := match x.py? with
  | some d => if Shows d then some (.d (.str d.shown)) else none
  | none => none
theorem val_noDict {x : Val} {d : PyData} (e : x.py? = some d) : d.hasDict = false := by
  cases x with
  | d x => cases e; exact py_noDict x
  | l xs => cases e; simp only [PyData.hasDict]; exact pys_noDict xs
  | fz xs => cases e; simp only [PyData.hasDict]; exact pys_noDict xs
  | m _ => cases e
  | mt _ => cases e
  | bw _ => cases e
  | pin _ _ => cases e
theorem de_repr (cc : Cc X W k) (hg : Gl X "repr") (hm : X.mg "repr" = none) (ha : DE X W a m1) (he : starEach [a] X.env = (false, eval a X.env) :: starEach [] X.env := by rfl) : DE X W (.Call (.Name "repr" p) [a] [] pos) (mCall1 gRepr m1) :=
  de_call1 (fun t h => pe_callB (call_reprD cc) hg hm (by decide +kernel) h (by decide) (by decide) he) ha (fun ρ σ H Q η φ A H₀ L x z v gg at_ h1 h2 q => by
    unfold gRepr at h2
    split at h2
    · rename_i d hd
      split at h2
      · cases h2
        exact ⟨v, d, rfl, repV_py h1 hd, val_noDict hd, by assumption, at_.data q str_dp⟩
      · cases h2
    · cases h2) he
end
end DD


/-! Statements. -/
namespace DD
open PySem PySem.Spec PyProof.Rows L2

section
variable {K : PySem.W.Frag} {ρ : Nat → Addr} {mg : Str → Option Value} {W : WX} {σ : L2.St} {A : AS} {H₀ H H' : Hp} {L : List HeldI} {η η' : Env} {φ φ' : FS}
theorem RepE.set (r : RepE K ρ H σ η φ) {x : Val} {v : V} {f : AS} (h : RepV K H x v f) (hx : x.kept = false) (d : DD.dis f (foot φ)) (i : Nat) :
    ∃ φ', RepE K ρ H (σ.set i (some v)) (η.set i (some x)) φ' ∧ ∀ a, foot φ' a → f a ∨ foot φ a := by
  by_cases hi : i < η.length
  · refine ⟨fun j a => if j = i then f a else φ j a, ⟨by simpa using r.len, fun j y e => ?_, fun j n a => ?_, fun j l a h1 h2 => ?_, fun j ys e hk => ?_⟩, fun a ⟨j, h⟩ => ?_⟩
    · by_cases hj : j = i
      · subst hj
        rw [List.getElem?_set_self hi] at e
        cases e
        refine ⟨v, List.getElem?_set_self (by rw [r.len]; exact hi), ?_⟩
        simpa using h
      · rw [List.getElem?_set_ne (Ne.symm hj)] at e
        obtain ⟨w, h1, h2⟩ := r.rep j y e
        refine ⟨w, by rw [List.getElem?_set_ne (Ne.symm hj)]; exact h1, ?_⟩
        simpa [hj] using h2
    · by_cases hj : j = i
      · subst hj
        exact (n x (List.getElem?_set_self hi)).elim
      · simp only [hj, if_false]
        exact r.emp j (fun y e => n y (by rw [List.getElem?_set_ne (Ne.symm hj)]; exact e)) a
    · by_cases hj : j = i <;> by_cases hl : l = i
      · rw [hj, hl]
      · simp only [hj, hl, if_true, if_false] at h1 h2
        exact (d a h1 ⟨l, h2⟩).elim
      · simp only [hj, hl, if_true, if_false] at h1 h2
        exact (d a h2 ⟨j, h1⟩).elim
      · simp only [hj, hl, if_false] at h1 h2
        exact r.dis j l a h1 h2
    · by_cases hj : j = i
      · subst hj
        rw [List.getElem?_set_self hi] at e
        cases e
        rw [hx] at hk; cases hk
      · rw [List.getElem?_set_ne (Ne.symm hj)] at e ⊢
        exact r.pin j ys e hk
    · by_cases hj : j = i
      · simp only [hj, if_true] at h
        exact .inl h
      · simp only [hj, if_false] at h
        exact .inr ⟨j, h⟩
  · have e1 : η.set i (some x) = η := List.set_eq_of_length_le (by omega)
    have e2 : σ.set i (some v) = σ := List.set_eq_of_length_le (by have := r.len; omega)
    rw [e1, e2]
    exact ⟨φ, r, fun a h => .inr h⟩
/-- a slot is forgotten -/
theorem RepE.unset (r : RepE K ρ H σ η φ) (i : Nat) (o : Option V) : ∃ φ', RepE K ρ H (σ.set i o) (η.set i none) φ' ∧ ∀ a, foot φ' a → foot φ a := by
  refine ⟨fun j a => if j = i then False else φ j a, ⟨by simpa using r.len, fun j y e => ?_, fun j n a => ?_, fun j l a h1 h2 => ?_, fun j ys e hk => ?_⟩, fun a ⟨j, h⟩ => ?_⟩
  · by_cases hj : j = i
    · subst hj
      by_cases hi : j < η.length
      · rw [List.getElem?_set_self hi] at e; cases e
      · rw [List.getElem?_eq_none (by simpa using hi)] at e; cases e
    · rw [List.getElem?_set_ne (Ne.symm hj)] at e
      obtain ⟨w, h1, h2⟩ := r.rep j y e
      refine ⟨w, by rw [List.getElem?_set_ne (Ne.symm hj)]; exact h1, ?_⟩
      simpa [hj] using h2
  · by_cases hj : j = i
    · simp [hj]
    · simp only [hj, if_false]
      exact r.emp j (fun y e => n y (by rw [List.getElem?_set_ne (Ne.symm hj)]; exact e)) a
  · by_cases hj : j = i
    · simp [hj] at h1
    · by_cases hl : l = i
      · simp [hl] at h2
      · simp only [hj, hl, if_false] at h1 h2
        exact r.dis j l a h1 h2
  · by_cases hj : j = i
    · subst hj
      by_cases hi : j < η.length
      · rw [List.getElem?_set_self hi] at e; cases e
      · rw [List.getElem?_eq_none (by simpa using hi)] at e; cases e
    · rw [List.getElem?_set_ne (Ne.symm hj)] at e ⊢
      exact r.pin j ys e hk
  · by_cases hj : j = i
    · simp [hj] at h
    · simp only [hj, if_false] at h
      exact ⟨j, h⟩
/-- the object of slot j changes -/
theorem RepE.mut (r : RepE K ρ H σ η φ) {j : Nat} {x y : Val} {a : Addr} {o : HO} (e : η[j]? = some (some x)) (ha : ∀ b, φ j b ↔ b = a) (hs : σ[j]? = some (some (.ref a))) (h : RepV K (L2.upd H a o) y (.ref a) (φ j)) (hy : y.kept = true → x.kept = true) :
    RepE K ρ (L2.upd H a o) σ (η.set j (some y)) φ := by
  have hj : j < η.length := (List.getElem?_eq_some_iff.mp e).1
  have hfa : φ j a := (ha a).mpr rfl
  obtain ⟨u, hu, hm⟩ := r.there ⟨j, hfa⟩
  have ex : Ext (fun b => b = a) H (L2.upd H a o) := Ext.upd (.inl rfl) fun u' hu' => by rw [hu] at hu'; cases hu'; exact hm
  refine ⟨by simpa using r.len, fun i z q => ?_, fun i n b => ?_, r.dis, fun i ys q hk => ?_⟩
  · by_cases hi : i = j
    · subst hi
      rw [List.getElem?_set_self hj] at q
      cases q
      exact ⟨.ref a, hs, h⟩
    · rw [List.getElem?_set_ne (Ne.symm hi)] at q
      obtain ⟨w, h1, h2⟩ := r.rep i z q
      exact ⟨w, h1, repV_ext ex h2 fun b hb z => hi (r.dis i j b hb (by rw [z]; exact hfa))⟩
  · by_cases hi : i = j
    · subst hi
      exact (n y (List.getElem?_set_self hj)).elim
    · exact r.emp i (fun z q => n z (by rw [List.getElem?_set_ne (Ne.symm hi)]; exact q)) b
  · by_cases hi : i = j
    · subst hi
      rw [List.getElem?_set_self hj] at q
      cases q
      exact r.pin i x e (hy hk)
    · rw [List.getElem?_set_ne (Ne.symm hi)] at q
      exact r.pin i ys q hk
end

/-! ### sequences of outcomes -/
def M.thenS {α : Type} (m : M α) (k : α → MS) : MS := fun η => match m η with
  | .ok a η' => k a η'
  | .err x η' => .err x η'
  | .stuck => .stuck
/-- what may be stored: plain data, or what is nobody's -/
def own (η : Env) : Ref → Option Val
  | .vl x => some x
  | .sl i => match η[i]? with
    | some (some (.d x)) => some (.d x)
    | some (some (.fz x)) => some (.fz x)
    | _ => none
section
variable {K : PySem.W.Frag} {ρ : Nat → Addr} {mg : Str → Option Value} {W : WX} {σ : L2.St} {A : AS} {H₀ H H' : Hp} {L : List HeldI} {η η' : Env} {φ φ' : FS} {E : Ends}
theorem At.stepS {m : M Ref} {k : Ref → MS} (a : At K ρ σ A H₀ L H η φ) (p : PostS K ρ mg W A H₀ E (m.thenS k η)) :
    tE K mg W m σ H fun v H' => ∃ r η' φ' f, At K ρ σ A H₀ (⟨r, v, f⟩ :: L) H' η' φ' ∧ PostS K ρ mg W A H₀ E (k r η') := by
  refine ⟨ρ, η, φ, a.rep, ?_⟩
  unfold M.thenS at p
  have nf : New A H₀ (foot φ) := a.new.sub fun _ h => .inr h
  cases e : m η with
  | ok r η' =>
    rw [e] at p
    exact fun v H' φ' f rep ok d ex n => ⟨r, η', φ', f, a.hold rep ok d ex n, p⟩
  | err x η' =>
    rw [e] at p
    exact fun cls dx H' φ' rep ex n xk => p cls dx σ H' φ' rep (a.ext.trans nf ex) (New.trans a.ext nf n) xk
  | stuck =>
    rw [e] at p
    exact p.elim
theorem At.stepST {m : M Bool} {k : Bool → MS} (a : At K ρ σ A H₀ [] H η φ) (p : PostS K ρ mg W A H₀ E (m.thenS k η)) :
    tT K mg W m σ H fun b H' => ∃ η' φ', At K ρ σ A H₀ [] H' η' φ' ∧ PostS K ρ mg W A H₀ E (k b η') := by
  refine ⟨ρ, η, φ, a.rep, ?_⟩
  unfold M.thenS at p
  have nf : New A H₀ (foot φ) := a.new.sub fun _ h => .inr h
  cases e : m η with
  | ok r η' =>
    rw [e] at p
    exact fun H' φ' rep ex n => ⟨η', φ', ⟨rep, a.ext.trans nf ex, (New.trans a.ext nf n).sub (fun _ h => h.elim (fun ⟨_, h, _⟩ => (nomatch h)) id), fun _ h => (nomatch h), .nil⟩, p⟩
  | err x η' =>
    rw [e] at p
    exact fun cls dx H' φ' rep ex n xk => p cls dx σ H' φ' rep (a.ext.trans nf ex) (New.trans a.ext nf n) xk
  | stuck =>
    rw [e] at p
    exact p.elim
/-- from further on -/
theorem PostS.from {o : SOut} {B : AS} {H1 : Hp} (e : Ext A H₀ H1) (n : New A H₀ B) (p : PostS K ρ mg W A H₀ E o) : PostS K ρ mg W B H1 E o := by
  cases o with
  | nx η' => exact fun σ' H' φ' r ex nn => p σ' H' φ' r (e.trans n ex) (New.trans e n nn)
  | rt r η' => exact fun v σ' H' φ' f rr ro d ex nn => p v σ' H' φ' f rr ro d (e.trans n ex) (New.trans e n nn)
  | bk η' => exact fun σ' H' φ' r ex nn => p σ' H' φ' r (e.trans n ex) (New.trans e n nn)
  | ct η' => exact fun σ' H' φ' r ex nn => p σ' H' φ' r (e.trans n ex) (New.trans e n nn)
  | err x η' => exact fun cls dx σ' H' φ' r ex nn => p cls dx σ' H' φ' r (e.trans n ex) (New.trans e n nn)
  | stuck => exact p
theorem tS_of {m : MS} (r : RepE K ρ H σ η φ) (e : Ext A H₀ H) (n : New A H₀ (foot φ)) (p : PostS K ρ mg W A H₀ E (m η)) : tS K mg W m E σ H := ⟨ρ, η, φ, r, p.from e n⟩
theorem tS_mono {m : MS} {E' : Ends} (h1 : ∀ σ H, E.nx σ H → E'.nx σ H) (h2 : ∀ v H, E.rt v H → E'.rt v H) (h3 : ∀ σ H, E.bk σ H → E'.bk σ H) (h4 : ∀ σ H, E.ct σ H → E'.ct σ H) (t : tS K mg W m E σ H) : tS K mg W m E' σ H := by
  obtain ⟨ρ, η, φ, r, p⟩ := t
  refine ⟨ρ, η, φ, r, ?_⟩
  cases q : m η with
  | nx η' => rw [q] at p; exact fun σ' H' φ' a b c => h1 _ _ (p σ' H' φ' a b c)
  | rt r η' => rw [q] at p; exact fun v σ' H' φ' f a b c d e => h2 _ _ (p v σ' H' φ' f a b c d e)
  | bk η' => rw [q] at p; exact fun σ' H' φ' a b c => h3 _ _ (p σ' H' φ' a b c)
  | ct η' => rw [q] at p; exact fun σ' H' φ' a b c => h4 _ _ (p σ' H' φ' a b c)
  | err x η' => rw [q] at p; exact p
  | stuck => rw [q] at p; exact p
/-- what is owned, and where it stands -/
theorem At.owned (a : At K ρ σ A H₀ L H η φ) {r : Ref} {v : V} {f : AS} (hm : ⟨r, v, f⟩ ∈ L) {x : Val} (e : own η r = some x) : ∃ g, RepV K H x v g ∧ DD.dis g (foot φ) ∧ ∀ b, g b → f b := by
  cases r with
  | vl y =>
    cases e
    exact ⟨f, (a.held _ hm).1, (a.held _ hm).2, fun _ h => h⟩
  | sl i =>
    unfold own at e
    dsimp only at e
    split at e
    · rename_i y hy
      cases e
      obtain ⟨g, h, _⟩ := a.get hm (x := .d y) (by simp only [rd, hy]; rfl)
      exact ⟨none_, ⟨h.1, fun _ => id⟩, fun _ z => z.elim, fun _ z => z.elim⟩
    · rename_i y hy
      cases e
      obtain ⟨g, h, _⟩ := a.get hm (x := .fz y) (by simp only [rd, hy]; rfl)
      exact ⟨none_, ⟨h.1, fun _ => id⟩, fun _ z => z.elim, fun _ z => z.elim⟩
    · cases e
end

/-! ### targets -/
abbrev Tg := Val → MS
def SOut.tgt : SOut → Prop
  | .nx _ => True
  | .err _ _ => True
  | .stuck => True
  | _ => False
def PostG (K : PySem.W.Frag) (ρ : Nat → Addr) (mg : Str → Option Value) (W : WX) (A : AS) (H : Hp) (Q : L2.St → Hp → Prop) : SOut → Prop
  | .nx η' => ∀ σ' H' φ', RepE K ρ H' σ' η' φ' → Ext A H H' → New A H (foot φ') → Q σ' H'
  | .err x η' => ∀ cls dx σ' H' φ', RepE K ρ H' σ' η' φ' → Ext A H H' → New A H (foot φ') → ExnOk K mg H' x cls dx → W cls dx σ' H'
  | _ => False
def gD (K : PySem.W.Frag) (mg : Str → Option Value) (W : WX) (t : Tg) : TG := fun v σ H Q => ∃ ρ x f η φ, RepE K ρ H σ η φ ∧ RepV K H x v f ∧ dis f (foot φ) ∧ PostG K ρ mg W (uni f (foot φ)) H Q (t x η)
abbrev DGt (X : Cx) (W : WX) (tg : Expr) (t : Tg) : Prop := PG X tg (gD X.K X.mg W t)
theorem pg_mono {X : Cx} {e : Expr} {t t' : TG} (h : PG X e t) (k : ∀ v σ H Q, t' v σ H Q → t v σ H Q) : PG X e t' := ⟨fun pins s σ H v u Q I r q => h.run pins s σ H v u Q I r (k _ _ _ _ q)⟩
theorem pgs_mono {X : Cx} {e : List Expr} {t t' : TGs} (h : PGs X e t) (k : ∀ v σ H Q, t' v σ H Q → t v σ H Q) : PGs X e t' := ⟨fun pins s σ H v u Q I r q => h.run pins s σ H v u Q I r (k _ _ _ _ q)⟩
def gSet (i : Nat) : Tg := fun x η => match x with
  | .bw _ => .stuck
  | .pin _ _ => .stuck
  | .d x => .nx (η.set i (some (.d x)))
  | .l x => .nx (η.set i (some (.l x)))
  | .fz x => .nx (η.set i (some (.fz x)))
  | .m x => .nx (η.set i (some (.m x)))
  | .mt x => .nx (η.set i (some (.mt x)))
theorem gSet_ne {i : Nat} {x : Val} {η : Env} {P : SOut → Prop} (h : P .stuck → False) (p : P (gSet i x η)) : x.kept = false ∧ P (.nx (η.set i (some x))) := by
  cases x <;> first
    | exact (h p).elim
    | exact ⟨rfl, p⟩
section
variable {X : Cx} {W : WX} {k : Nat} {e a b c tg : Expr} {m m1 m2 m3 : M Ref} {σ : L2.St} {H : Hp} {pos p p2 : Pos} {x : Str} {i : Nat}
theorem dg_name {i : Nat} {x : Str} (hN : X.N.Nodup) (hi : X.N[i]? = some x) (hx : Loc X.env.scope x) (hf : X.fn x = true ∨ X.env.scope.names.lookup x = some .local := by first | exact .inl rfl | exact .inr rfl | assumption) : DGt X W (.Name x pos) (gSet i) :=
  pg_mono (pg_name hN hi hx hf) fun v σ H Q ⟨ρ, x, f, η, φ, r, h, d, p⟩ => by
    obtain ⟨hx, p⟩ := gSet_ne (P := PostG _ _ _ _ _ _ _) id p
    obtain ⟨φ', r', n⟩ := r.set h hx d i
    exact p _ _ φ' r' (Ext.refl _ _) fun a ha => .inl (n a ha)
/-- target = value -/
def sAsg (m : M Ref) (t : Tg) : MS := m.thenS fun r η => match own η r with
  | some x => t x η
  | none => .stuck
theorem asg_use {E : Ends} {t : Tg} {g : TG} (hg : ∀ v σ H Q, gD X.K X.mg W t v σ H Q → g v σ H Q) (ht : ∀ x η, (t x η).tgt) :
    tS X.K X.mg W (sAsg m t) E σ H → tE X.K X.mg W m σ H fun v H1 => g v σ H1 E.nx := fun ⟨ρ, η, φ, r, p⟩ =>
  tE_mono (fun v H1 ⟨r1, η1, φ1, f1, at1, p1⟩ => by
    cases q : own η1 r1 with
    | none => rw [q] at p1; exact p1.elim
    | some x =>
      rw [q] at p1
      obtain ⟨g', h1, h2, h3⟩ := at1.owned in0 q
      refine hg _ _ _ _ ⟨ρ, x, g', η1, φ1, at1.rep, h1, h2, ?_⟩
      have nn : New (foot φ) H (uni g' (foot φ1)) := at1.new.sub fun b hb => hb.imp (fun z => ⟨_, in0, h3 b z⟩) id
      have p2 := p1.from at1.ext nn
      have hh := ht x η1
      dsimp only at p2 ⊢
      cases z : t x η1 with
      | nx η' => rw [z] at p2; exact p2
      | err y η' => rw [z] at p2; exact p2
      | rt _ _ => rw [z] at hh; exact hh.elim
      | bk _ => rw [z] at hh; exact hh.elim
      | ct _ => rw [z] at hh; exact hh.elim
      | stuck => rw [z] at p2; exact p2.elim) ((At.start r).stepS p)
abbrev TgOk (t : Tg) : Prop := ∀ x η, (t x η).tgt
theorem tgok_set (i : Nat) : TgOk (gSet i) := fun x _ => by cases x <;> trivial
theorem ds_asg {t : Tg} (he : DE X W e m) (hg : DGt X W tg t) (ht : TgOk t) (hs : swapsWithSole [tg] e pos.line X.env = pure false := by rfl) (hw : swappedStores [tg] e X.env = pure none := by rfl)
    (h1 : (assignEach [tg] X.env).map (·.2) = [assign tg X.env] := by rfl) : DS X W (.Assign [tg] e pos) (sAsg m t) :=
  ps_mono (ps_asg he hg hs hw h1) fun E σ H t' => asg_use (g := gD X.K X.mg W t) (fun _ _ _ _ q => q) ht t'
theorem ds_set {pos' : Pos} (hN : X.N.Nodup) (hi : X.N[i]? = some x) (hx : Loc X.env.scope x) (he : DE X W e m) (hs : swapsWith e (some (.Name x pos')) pos.line X.env = pure false := by rfl) (hf : X.fn x = true ∨ X.env.scope.names.lookup x = some .local := by first | exact .inl rfl | exact .inr rfl | assumption) :
    DS X W (.Assign [.Name x pos'] e pos) (sAsg m (gSet i)) :=
  ps_mono (ps_set hN hi hx he hs hf) fun E σ H t' => asg_use (g := gName i) (fun v σ H Q ⟨ρ, x, f, η, φ, r, h, d, p⟩ => by
    obtain ⟨hx, p⟩ := gSet_ne (P := PostG _ _ _ _ _ _ _) id p
    obtain ⟨φ', r', n⟩ := r.set h hx d i
    exact p _ _ φ' r' (Ext.refl _ _) fun a ha => .inl (n a ha)) (tgok_set i) t'
/-! ### several targets of a tuple -/
def gTupD (ts : List Tg) : Tg := fun x η => match x with
  | .d (.tup xs) => if xs.length = ts.length then gEach ts xs η else .stuck
  | .d (.pt xs) => if xs.length = ts.length then gEach ts xs η else .stuck
  | _ => .stuck
where
  gEach : List Tg → List D → MS
    | t :: ts, x :: xs, η => (match t (.d x) η with
      | .nx η' => gEach ts xs η'
      | o => o)
    | _, _, η => .nx η
def PostGs (K : PySem.W.Frag) (mg : Str → Option Value) (W : WX) (ts : List Tg) : TGs := fun vs σ H Q => ∃ ρ xs η φ, RepE K ρ H σ η φ ∧ Rps K H vs xs ∧ xs.length = ts.length ∧ PostG K ρ mg W (foot φ) H Q (gTupD.gEach ts xs η)
theorem PostG.from {K : PySem.W.Frag} {ρ : Nat → Addr} {mg : Str → Option Value} {A B : AS} {H₀ H1 : Hp} {Q : L2.St → Hp → Prop} {o : SOut} (e : Ext A H₀ H1) (n : New A H₀ B) (p : PostG K ρ mg W A H₀ Q o) : PostG K ρ mg W B H1 Q o := by
  cases o with
  | nx η' => exact fun σ' H' φ' r ex nn => p σ' H' φ' r (e.trans n ex) (New.trans e n nn)
  | err x η' => exact fun cls dx σ' H' φ' r ex nn => p cls dx σ' H' φ' r (e.trans n ex) (New.trans e n nn)
  | rt _ _ => exact p
  | bk _ => exact p
  | ct _ => exact p
  | stuck => exact p
theorem dgs_nil : PGs X [] (PostGs X.K X.mg W []) :=
  pgs_mono pgs_nil fun vs σ H Q ⟨ρ, xs, η, φ, r, h, hl, p⟩ => by
    cases xs with
    | nil =>
      cases h
      exact ⟨rfl, p σ H φ r (Ext.refl _ _) New.self⟩
    | cons _ _ => simp at hl
theorem gD_mono {K : PySem.W.Frag} {mg : Str → Option Value} {t : Tg} {v : V} {Q Q' : L2.St → Hp → Prop} (h : ∀ σ H, Q σ H → Q' σ H) (g : gD K mg W t v σ H Q) : gD K mg W t v σ H Q' := by
  obtain ⟨ρ, x, f, η, φ, r, rv, d, p⟩ := g
  refine ⟨ρ, x, f, η, φ, r, rv, d, ?_⟩
  cases q : t x η with
  | nx η' => rw [q] at p; exact fun σ' H' φ' a b c => h _ _ (p σ' H' φ' a b c)
  | err x η' => rw [q] at p; exact p
  | rt _ _ => rw [q] at p; exact p.elim
  | bk _ => rw [q] at p; exact p.elim
  | ct _ => rw [q] at p; exact p.elim
  | stuck => rw [q] at p; exact p
theorem dgs_cons {t : Tg} {ts : List Tg} {es : List Expr} (h1 : DGt X W e t) (h2 : PGs X es (PostGs X.K X.mg W ts)) (hs : (assignEach (e :: es) X.env).map (·.2) = assign e X.env :: (assignEach es X.env).map (·.2) := by rfl) : PGs X (e :: es) (PostGs X.K X.mg W (t :: ts)) :=
  pgs_mono (pgs_cons h1 h2 hs) fun vs σ H Q ⟨ρ, xs, η, φ, r, h, hl, p⟩ => by
    cases xs with
    | nil => simp at hl
    | cons x xs =>
      cases h with
      | @cons v0 vs0 _ _ hd ht =>
        refine ⟨v0, vs0, rfl, ρ, .d x, none_, η, φ, r, ⟨hd, fun _ => id⟩, fun _ z => z.elim, ?_⟩
        unfold gTupD.gEach at p
        have ne : New (uni none_ (foot φ)) H (foot φ) := fun b hb => .inl (.inr hb)
        cases q : t (.d x) η with
        | nx η' =>
          rw [q] at p
          intro σ' H' φ' r' ex nn
          have ex' : Ext (foot φ) H H' := ex.weak fun b hb => hb.elim (fun z => z.elim) id
          have nn' : New (foot φ) H (foot φ') := fun b hb => (nn b hb).imp (fun z => z.elim (fun z => z.elim) id) id
          exact ⟨ρ, xs, η', φ', r', dps_ext ex' _ _ ht, by simpa using hl, p.from ex' nn'⟩
        | err y η' =>
          rw [q] at p
          intro cls dx σ' H' φ' r' ex nn xk
          exact p cls dx σ' H' φ' r' (ex.weak fun b hb => hb.elim (fun z => z.elim) id) (fun b hb => (nn b hb).imp (fun z => z.elim (fun z => z.elim) id) id) xk
        | rt _ _ => rw [q] at p; exact p.elim
        | bk _ => rw [q] at p; exact p.elim
        | ct _ => rw [q] at p; exact p.elim
        | stuck => rw [q] at p; exact p.elim
theorem dg_tup {es : List Expr} {kk : Nat} {ts : List Tg} (hc : X.calm = true) (h : PGs X es (PostGs X.K X.mg W ts)) (hn : (assignEach es X.env).length = ts.length := by rfl) (hst : (assignEach es X.env).findIdx? (·.1) = none := by rfl) :
    DGt X W (.Tuple es kk pos) (gTupD ts) :=
  pg_mono (pg_tup hc h hn hst) fun v σ H Q ⟨ρ, x, f, η, φ, r, rv, d, p⟩ => by
    unfold gTupD at p
    split at p
    · split at p
      · rename_i xs hl
        obtain ⟨a1, vs, rfl, t1, d1⟩ := dp_tup rv.1 rfl
        exact ⟨a1, vs, rfl, t1, by rw [dps_len d1]; exact hl, ρ, xs, η, φ, r, d1, hl, p.from (Ext.refl _ _) fun b hb => .inl (.inr hb)⟩
      · exact p.elim
    · split at p
      · rename_i xs hl
        obtain ⟨a1, vs, rfl, t1, d1⟩ := dp_tup rv.1 rfl
        exact ⟨a1, vs, rfl, t1, by rw [dps_len d1]; exact hl, ρ, xs, η, φ, r, d1, hl, p.from (Ext.refl _ _) fun b hb => .inl (.inr hb)⟩
      · exact p.elim
    · exact p.elim
/-! ### o[i] = v -/
/-- a list's item is stored; the list is what slot j holds -/
def mutL (η : Env) (j : Nat) : Option (Bool × List D) := match η[j]? with
  | some (some (.l xs)) => some (false, xs)
  | some (some (.bw xs)) => some (true, xs)
  | _ => none
def mkL : Bool → List D → Val
  | false, xs => .l xs
  | true, xs => .bw xs
theorem mutL_get {η : Env} {j : Nat} {b : Bool} {xs : List D} (e : mutL η j = some (b, xs)) : η[j]? = some (some (mkL b xs)) := by
  unfold mutL at e
  split at e <;> first
    | (cases e; assumption)
    | cases e
theorem mkL_rep {K : PySem.W.Frag} {H : Hp} {b : Bool} {xs : List D} {v : V} {f : AS} : RepV K H (mkL b xs) v f ↔ RepV K H (.l xs) v f := by cases b <;> exact Iff.rfl
def gStore (j : Nat) (mi : M Ref) : Tg := fun x η => match x, η[j]? with
  | .d z, some (some _) => (mi.thenS fun r η => match rdD η r, mutL η j with
    | some (.int n), some (b, xs) => (match ixN xs.length n with
      | some t => .nx (η.set j (some (mkL b (xs.set t z))))
      | none => .stuck)
    | _, _ => .stuck) η
  | _, _ => .stuck
theorem PostG.toS {K : PySem.W.Frag} {ρ : Nat → Addr} {mg : Str → Option Value} {A : AS} {Q : L2.St → Hp → Prop} {o : SOut} (p : PostG K ρ mg W A H Q o) : PostS K ρ mg W A H { nx := Q, rt := fun _ _ => False } o := by
  cases o with
  | nx _ => exact p
  | err _ _ => exact p
  | rt _ _ => exact p.elim
  | bk _ => exact p.elim
  | ct _ => exact p.elim
  | stuck => exact p
/-- the list of slot j is changed -/
theorem At.putL {K : PySem.W.Frag} {ρ : Nat → Addr} {A : AS} {H₀ : Hp} {L : List HeldI} {η : Env} {φ : FS} {j : Nat} {b : Bool} {xs ys : List D} (a : At K ρ σ A H₀ L H η φ) (e : mutL η j = some (b, xs)) :
    ∃ l vs, σ[j]? = some (some (.ref l)) ∧ H l = some (.lst vs) ∧ Rps K H vs xs ∧ ∀ ws, Rps K H ws ys → At K ρ σ A H₀ L (L2.upd H l (.lst ws)) (η.set j (some (mkL b ys))) φ := by
  obtain ⟨v, h1, h0⟩ := a.rep.rep j _ (mutL_get e)
  obtain ⟨l, vs, rfl, h2, h3, h4⟩ := mkL_rep.mp h0
  refine ⟨l, vs, h1, h2, h3, fun ws hw => ?_⟩
  have hl : φ j l := (h4 l).mpr rfl
  have ex : Ext (foot φ) H (L2.upd H l (.lst ws)) := Ext.upd (.inl ⟨j, hl⟩) fun u hu => by rw [h2] at hu; cases hu; exact id
  have nf : New A H₀ (foot φ) := a.new.sub fun _ h => .inr h
  refine ⟨a.rep.mut (y := mkL b ys) (mutL_get e) h4 h1 (mkL_rep.mpr ⟨l, ws, rfl, upd_same, ?_, h4⟩) (by cases b <;> exact id), a.ext.trans nf ex, a.new, fun h hm => ⟨refOk_ext ex (a.held h hm).1 (a.held h hm).2, (a.held h hm).2⟩, a.dis⟩
  exact dps_ext ex _ _ hw
theorem At.nx {K : PySem.W.Frag} {ρ : Nat → Addr} {mg : Str → Option Value} {A : AS} {H₀ : Hp} {L : List HeldI} {η : Env} {φ : FS} {E : Ends} (a : At K ρ σ A H₀ L H η φ) (p : PostS K ρ mg W A H₀ E (.nx η)) : E.nx σ H :=
  p σ H φ a.rep a.ext (a.new.sub fun _ h => .inr h)
theorem dg_store {j : Nat} {pn : Pos} (hN : X.N[j]? = some x) (hv : Vis X.env.scope x) (hb : DE X W b m2)
    (ha : ∀ v, assign (.Subscript (.Name x pn) b pos) X.env v = (do
      let ov ← holding [v] (eval (.Name x pn) X.env)
      let iv ← holding [v, ov] (eval b X.env)
      standAt pos
      holding [v, ov, iv] (setItem ov iv v)
      release [v, ov, iv] []) := by intro _; rfl) (hd : (x == ("__debug__" : Str)) = false := by decide) (hcd : (x == ("__classdict__" : Str)) = false := by decide) :
    DGt X W (.Subscript (.Name x pn) b pos) (gStore j m2) :=
  pg_mono (pg_sub (pe_var (i := j) hN hv hd hcd) hb set_list ha) fun v σ H Q ⟨ρ, x, f, η, φ, r, rv, d, p⟩ => by
    unfold gStore at p
    split at p
    · rename_i z y hy
      obtain ⟨v', h1, h2⟩ := r.rep j y hy
      refine ⟨v', h1, ?_⟩
      have p2 := PostG.toS (p.from (B := foot φ) (Ext.refl _ _) fun b hb => .inl (.inr hb))
      refine tE_mono (fun iv H2 ⟨r2, η2, φ2, f2, at2, q⟩ => ?_) ((At.start r).stepS p2)
      split at q
      · rename_i n b xs hn hx
        split at q
        · rename_i t ht
          obtain ⟨l, vs, s1, s2, s3, s4⟩ := at2.putL (ys := xs.set t z) hx
          rw [h1] at s1
          cases s1
          rw [dp_int (at2.getD in0 hn)]
          refine ⟨l, vs, n, t, rfl, rfl, s2, by rw [dps_len s3]; exact ht, ?_⟩
          exact (s4 _ (dps_set t s3 (dp_ext at2.ext _ _ rv.1))).nx q
        · exact q.elim
      · exact q.elim
    · exact p.elim
theorem tgok_thenS {m : M Ref} {kk : Ref → MS} {η : Env} (h : ∀ r η, (kk r η).tgt) : (m.thenS kk η).tgt := by
  unfold M.thenS
  cases m η with
  | ok r η' => exact h r η'
  | err _ _ => trivial
  | stuck => trivial
theorem tgok_store (j : Nat) (mi : M Ref) : TgOk (gStore j mi) := fun x η => by
  unfold gStore
  split
  · refine tgok_thenS fun r η => ?_
    split
    · split <;> trivial
    · trivial
  · trivial
theorem tgok_each : ∀ {ts : List Tg} (h : ∀ t ∈ ts, TgOk t) (xs : List D) (η : Env), (gTupD.gEach ts xs η).tgt
  | [], _, xs, η => by unfold gTupD.gEach; trivial
  | t :: ts, h, [], η => by unfold gTupD.gEach; trivial
  | t :: ts, h, x :: xs, η => by
    unfold gTupD.gEach
    have := h t in0 (.d x) η
    cases q : t (.d x) η with
    | nx η' => exact tgok_each (fun t' ht => h t' (List.mem_cons_of_mem _ ht)) xs η'
    | err _ _ => trivial
    | stuck => trivial
    | rt _ _ => rw [q] at this; exact this.elim
    | bk _ => rw [q] at this; exact this.elim
    | ct _ => rw [q] at this; exact this.elim
theorem tgok_tup {ts : List Tg} (h : ∀ t ∈ ts, TgOk t) : TgOk (gTupD ts) := fun x η => by
  unfold gTupD
  split
  · split
    · exact tgok_each h _ _
    · trivial
  · split
    · exact tgok_each h _ _
    · trivial
  · trivial

/-! ### plain statements -/
def sExpr (m : M Ref) : MS := m.thenS fun _ η => .nx η
def sRet (m : M Ref) : MS := m.thenS fun r η => .rt r η
def sRetN : MS := fun η => .rt (.vl (.d .non)) η
def sPass : MS := fun η => .nx η
def sBreak : MS := fun η => .bk η
def sCont : MS := fun η => .ct η
def sNo : MS := fun _ => .stuck
def sSeq (m n : MS) : MS := fun η => match m η with
  | .nx η' => n η'
  | o => o
def sIf (c : M Bool) (m n : MS) : MS := c.thenS fun b η => if b then m η else n η
theorem ds_expr (he : DE X W e m) (hs : swapsWith e none pos.line X.env = pure false := by rfl) : DS X W (.Expr e pos) (sExpr m) :=
  ps_mono (ps_expr he hs) fun E σ H ⟨ρ, η, φ, r, p⟩ => tE_mono (fun v H1 ⟨r1, η1, φ1, f1, at1, p1⟩ => at1.nx p1) ((At.start r).stepS p)
theorem ds_ret (he : DE X W e m) : DS X W (.Return (some e) pos) (sRet m) :=
  ps_mono (ps_ret he) fun E σ H ⟨ρ, η, φ, r, p⟩ => tE_mono (fun v H1 ⟨r1, η1, φ1, f1, at1, p1⟩ =>
    p1 v σ H1 φ1 f1 at1.rep (at1.held _ in0).1 (at1.held _ in0).2 at1.ext (at1.new.sub fun b hb => hb.imp (fun z => ⟨_, in0, z⟩) id)) ((At.start r).stepS p)
theorem ds_retN : DS X W (.Return none pos) sRetN :=
  ps_mono ps_retN fun E σ H ⟨ρ, η, φ, r, p⟩ => p .non σ H φ none_ r ⟨non_dp, fun _ => id⟩ (fun _ z => z.elim) (Ext.refl _ _) (New.none.uni New.self)
theorem nx_use {K : PySem.W.Frag} {ρ : Nat → Addr} {mg : Str → Option Value} {E : Ends} {η : Env} {φ : FS} (r : RepE K ρ H σ η φ) (p : PostS K ρ mg W (foot φ) H E (.nx η)) : E.nx σ H := p σ H φ r (Ext.refl _ _) New.self
theorem ds_pass : DS X W (.Pass pos) sPass := ps_mono ps_pass fun E σ H ⟨ρ, η, φ, r, p⟩ => p σ H φ r (Ext.refl _ _) New.self
theorem ds_break : DS X W (.Break pos) sBreak := ps_mono ps_break fun E σ H ⟨ρ, η, φ, r, p⟩ => p σ H φ r (Ext.refl _ _) New.self
theorem ds_cont : DS X W (.Continue pos) sCont := ps_mono ps_continue fun E σ H ⟨ρ, η, φ, r, p⟩ => p σ H φ r (Ext.refl _ _) New.self
theorem ds_no {st : Stmt} : DS X W st sNo := ps_mono ps_never fun E σ H ⟨ρ, η, φ, r, p⟩ => p
theorem dss_nil : DSs X W [] sPass := pss_mono pss_nil fun E σ H ⟨ρ, η, φ, r, p⟩ => p σ H φ r (Ext.refl _ _) New.self
theorem dss_cons {st : Stmt} {sts : List Stmt} {n1 n2 : MS} (h1 : DS X W st n1) (h2 : DSs X W sts n2) : DSs X W (st :: sts) (sSeq n1 n2) :=
  pss_mono (pss_cons h1 h2) fun E σ H ⟨ρ, η, φ, r, p⟩ => by
    refine ⟨ρ, η, φ, r, ?_⟩
    unfold sSeq at p
    cases q : n1 η with
    | nx η' => rw [q] at p; exact fun σ' H' φ' r' ex nn => tS_of r' ex nn p
    | rt _ _ => rw [q] at p; exact p
    | bk _ => rw [q] at p; exact p
    | ct _ => rw [q] at p; exact p
    | err _ _ => rw [q] at p; exact p
    | stuck => rw [q] at p; exact p
theorem dss_one {st : Stmt} {n1 : MS} (h1 : DS X W st n1) : DSs X W [st] n1 := pss_one h1
theorem ds_if {mb : M Bool} {n1 n2 : MS} {s1 s2 : List Stmt} (hc : DT X W c mb) (h1 : DSs X W s1 n1) (h2 : DSs X W s2 n2) : DS X W (.If c s1 s2 pos) (sIf mb n1 n2) :=
  ps_mono (ps_if hc h1 h2) fun E σ H ⟨ρ, η, φ, r, p⟩ => tT_mono (fun b H' ⟨η', φ', at_, q⟩ => by
    cases b with
    | false => rw [if_neg Bool.false_ne_true]; exact tS_of at_.rep at_.ext (at_.new.sub fun _ h => .inr h) q
    | true => rw [if_pos rfl]; exact tS_of at_.rep at_.ext (at_.new.sub fun _ h => .inr h) q) ((At.start r).stepST p)
/-- a, b = e, e' (two names) -/
def sPar (i j : Nat) (m1 m2 : M Ref) : MS := (mArgs [m1, m2]).thenS fun rs η => match rdDs η rs with
  | some [x, y] => .nx ((η.set i (some (.d x))).set j (some (.d y)))
  | _ => .stuck
end
end DD


/-! Augmented assignment, methods of lists and tuples, loops. -/
namespace DD
open PySem PySem.Spec PyProof.Rows L2

section
variable {X : Cx} {W : WX} {k : Nat} {e a b c tg : Expr} {m m1 m2 m3 : M Ref} {σ : L2.St} {H : Hp} {pos p p2 apos cpos : Pos} {x : Str} {i j : Nat}

/-! ### name op= e -/
def sAug (f : D → D → Option D) (i : Nat) (m : M Ref) : MS := fun η => match η[i]? with
  | some (some _) => (m.thenS fun r η => match η[i]?, rdD η r with
    | some (some (.d x)), some y => (match f x y with
      | some z => .nx (η.set i (some (.d z)))
      | none => .stuck)
    | _, _ => .stuck) η
  | _ => .stuck
theorem ds_aug {op : Operator} {f : D → D → Option D} {rr : R2} {pos' : Pos} (ho : OpR X (inplaceOp op) rr) (hk : ∀ H v w x y z Q, Rp X.K H v x → Rp X.K H w y → f x y = some z → (∀ u, Rp X.K H u z → Q u H) → rr v w H Q)
    (hN : X.N.Nodup) (hi : X.N[i]? = some x) (hx : Loc X.env.scope x) (he : DE X W e m) (hf : X.fn x = true ∨ X.env.scope.names.lookup x = some .local := by first | exact .inl rfl | exact .inr rfl | assumption) :
    DS X W (.AugAssign (.Name x pos') op e pos) (sAug f i m) :=
  ps_mono (ps_aug (ti := rr) hN hi hx he (fun pins s σ H x y v u Q I rx ry q => ho pins s σ H x y v u Q I rx ry q) hf) fun E σ H ⟨ρ, η, φ, r, p⟩ => by
    unfold sAug at p
    split at p
    · rename_i y hy
      obtain ⟨v, h1, h2⟩ := r.rep i y hy
      refine ⟨v, h1, tE_mono (fun w H1 ⟨r1, η1, φ1, f1, at1, q⟩ => ?_) ((At.start r).stepS p)⟩
      split at q
      · rename_i x y hx hy'
        cases q3 : f x y with
        | none => rw [q3] at q; exact q.elim
        | some z =>
          rw [q3] at q
          obtain ⟨v', e1, e2⟩ := at1.rep.rep i _ hx
          rw [h1] at e1
          cases e1
          refine hk _ _ _ _ _ _ _ e2.1 (at1.getD in0 hy') q3 fun u hu => ?_
          obtain ⟨φ', r', n⟩ := at1.rep.set (x := .d z) (v := u) (f := none_) ⟨hu, fun _ => id⟩ (by rfl) (fun _ z => z.elim) i
          exact q _ _ φ' r' at1.ext ((at1.new.sub fun _ h => .inr h).sub fun b hb => (n b hb).elim (fun z => z.elim) id)
      · exact q.elim
    · exact p.elim
def fAdd : D → D → Option D
  | .int i, .int j => some (.int (i + j))
  | .str x, .str y => if x.length + y.length ≤ sizeLine then some (.str (x ++ y)) else none
  | _, _ => none
theorem ds_augAdd {pos' : Pos} (hN : X.N.Nodup) (hi : X.N[i]? = some x) (hx : Loc X.env.scope x) (he : DE X W e m) (hf : X.fn x = true ∨ X.env.scope.names.lookup x = some .local := by first | exact .inl rfl | exact .inr rfl | assumption) :
    DS X W (.AugAssign (.Name x pos') .Add e pos) (sAug fAdd i m) :=
  ds_aug (iop_add.or iop_add_str) (fun H v w x y z Q h1 h2 h3 q => by
    unfold fAdd at h3
    split at h3
    · cases h3
      rw [dp_int h1, dp_int h2]
      exact .inl ⟨_, _, rfl, rfl, q _ int_dp⟩
    · split at h3
      · cases h3
        rw [dp_str h1, dp_str h2]
        exact .inr ⟨_, _, rfl, rfl, by assumption, q _ str_dp⟩
      · cases h3
    · cases h3) hN hi hx he hf
theorem ds_augI {op : Operator} {C : Int → Int → Prop} [∀ i j, Decidable (C i j)] {gd : Int → Int → Int} {pos' : Pos} (ho : OpR X (inplaceOp op) (rI C fun i j => .int (gd i j)))
    (hN : X.N.Nodup) (hi : X.N[i]? = some x) (hx : Loc X.env.scope x) (he : DE X W e m) (hf : X.fn x = true ∨ X.env.scope.names.lookup x = some .local := by first | exact .inl rfl | exact .inr rfl | assumption) :
    DS X W (.AugAssign (.Name x pos') op e pos) (sAug (onI C fun i j => .int (gd i j)) i m) :=
  ds_aug ho (fun H v w x y z Q h1 h2 h3 q => by
    obtain ⟨i, j, rfl, rfl, hc, rfl⟩ := onI_some h3
    rw [dp_int h1, dp_int h2]
    exact ⟨i, j, rfl, rfl, hc, q _ int_dp⟩) hN hi hx he hf
theorem iop_subC : OpR X (inplaceOp .Sub) (rI CT fun i j => .int (i - j)) := fun pins s σ H x y v u Q I rx ry ⟨i, j, e1, e2, _, q⟩ => iop_sub pins s σ H x y v u Q I rx ry ⟨i, j, e1, e2, q⟩

/-! ### a, b = e, e' upon plain names -/
theorem ds_par {y : Str} {px py pt : Pos} {kt k2 pt2} (cc : Cc X W k) (hi : X.N[i]? = some x) (hj : X.N[j]? = some y) (hij : i ≠ j)
    (hx : X.env.scope.names.lookup x = some .local) (hy : X.env.scope.names.lookup y = some .local) (h1 : DE X W a m1) (h2 : DE X W b m2)
    (hw : swappedStores [.Tuple [.Name x px, .Name y py] kt pt] (.Tuple [a, b] k2 pt2) X.env = pure (some [x, y]))
    (hs : swapsWithSole [.Tuple [.Name x px, .Name y py] kt pt] (.Tuple [a, b] k2 pt2) pos.line X.env = pure false := by rfl)
    (he : starEach [a, b] X.env = (false, eval a X.env) :: starEach [b] X.env := by rfl) (he2 : starEach [b] X.env = (false, eval b X.env) :: starEach [] X.env := by rfl) :
    DS X W (.Assign [.Tuple [.Name x px, .Name y py] kt pt] (.Tuple [a, b] k2 pt2) pos) (sPar i j m1 m2) :=
  ps_mono (ps_par cc.calm cc.nd hi hj hij hx hy (da_cons h1 (da_cons h2 da_nil he2) he) hw hs) fun E σ H ⟨ρ, η, φ, r, p⟩ => by
    refine ⟨ρ, η, φ, r, ?_⟩
    unfold sPar M.thenS at p
    cases q : mArgs [m1, m2] η with
    | err x η' => rw [q] at p; exact fun cls dx H' φ' r' ex nn xk => p cls dx σ H' φ' r' ex nn xk
    | stuck => rw [q] at p; exact p.elim
    | ok rs η' =>
      rw [q] at p
      intro H' φ' L at_ eL
      dsimp only at p
      split at p
      · rename_i x y hh
        rw [← eL] at hh
        have hd := at_.getDs (fun _ h => h) hh
        match L, hd with
        | [h1, h2], hd =>
          simp only [List.map_cons, List.map_nil] at hd
          cases hd with
          | cons d1 d2 =>
            cases d2 with
            | cons d2 _ =>
              refine ⟨h1.v, h2.v, rfl, ?_⟩
              obtain ⟨φ1, r1, n1⟩ := at_.rep.set (x := .d x) (v := h1.v) (f := none_) ⟨d1, fun _ => id⟩ (by rfl) (fun _ z => z.elim) i
              obtain ⟨φ2, r2, n2⟩ := r1.set (x := .d y) (v := h2.v) (f := none_) ⟨d2, fun _ => id⟩ (by rfl) (fun _ z => z.elim) j
              exact p _ _ φ2 r2 at_.ext ((at_.new.sub fun _ h => .inr h).sub fun b hb => (n2 b hb).elim (fun z => z.elim) fun z => (n1 b z).elim (fun z => z.elim) id)
        | [], hd => cases hd
        | [_], hd => simp only [List.map_cons, List.map_nil] at hd; cases hd with | cons _ t => cases t
        | _ :: _ :: _ :: _, hd => simp only [List.map_cons] at hd; cases hd with | cons _ t => cases t with | cons _ t => cases t
      · exact p.elim

/-! ### methods of lists -/
/-- xs.append(e), the list that slot j holds -/
def mAppend (j : Nat) (m : M Ref) : M Ref := fun η => match mutL η j with
  | some _ => (mArgs [m] >>= fun rs => fun η => match rs with
    | [r] => (match mutL η j, rdD η r with
      | some (b, xs), some z => if xs.length < sizeLine then .ok (.vl (.d .non)) (η.set j (some (mkL b (xs ++ [z])))) else .stuck
      | _, _ => .stuck)
    | _ => .stuck) η
  | _ => .stuck
theorem de_append {pn : Pos} (hN : X.N[j]? = some x) (hv : Vis X.env.scope x) (ha : DE X W a m) (hd : (x == ("__debug__" : Str)) = false := by decide) (hcd : (x == ("__classdict__" : Str)) = false := by decide)
    (hbase : attributeBase (.Name x pn) "append" X.env (eval (.Name x pn) X.env) = eval (.Name x pn) X.env := by rfl)
    (hfew : ((backTo cpos (starEach [a] X.env)).all (fun x => !x.1) && (backToKw cpos (keywordEach [] X.env)).all (fun x => x.1.isSome)
      && decide ([a].length + ([] : List Keyword).length + (if ([] : List Keyword).isEmpty then 0 else 1) < 30)) = true := by rfl)
    (hline : (apos.endLine == cpos.line) = true := by rfl) (hs : starEach [a] X.env = (false, eval a X.env) :: starEach [] X.env := by rfl) (hplain : (backTo cpos (starEach [] X.env)).any (·.1) = false := by rfl) :
    DE X W (.Call (.Attribute (.Name x pn) "append" apos) [a] [] cpos) (mAppend j m) :=
  pe_mono (pe_bm PySem.F.plainAttrs_list PySem.F.slot_list_append PySem.F.type_list_append mt_append (pe_var (i := j) hN hv hd hcd) (da_cons ha da_nil hs) hbase hfew hline hs hplain) fun σ H Q ⟨ρ, η, φ, r, p⟩ => by
    unfold mAppend at p
    split at p
    · rename_i bx0 hx0
      obtain ⟨v, h1, h0⟩ := r.rep j _ (mutL_get (b := bx0.1) (xs := bx0.2) hx0)
      obtain ⟨l, vs, rfl, h2, h3, h4⟩ := mkL_rep.mp h0
      refine ⟨_, h1, .inl ⟨rfl, vs, SqL.of h2⟩, tA_mono (fun ws H' ⟨η', φ', L, at_, eL, q⟩ => ?_) (At.stepA r p)⟩
      match L, eL, q, at_ with
      | [], _, q, _ => exact q.elim
      | _ :: _ :: _, _, q, _ => exact q.elim
      | [h], eL, q, at_ =>
        simp only [List.map_cons, List.map_nil] at q eL
        subst eL
        split at q
        · rename_i b xs z hx hz
          split at q
          · rename_i hlt
            obtain ⟨l', vs', s1, s2, s3, s4⟩ := at_.putL (ys := xs ++ [z]) hx
            rw [h1] at s1
            cases s1
            have hdz := at_.getD (r := h.r) (v := h.v) (f := h.f) in0 hz
            refine ⟨l, vs', h.v, rfl, rfl, s2, by rw [dps_len s3]; exact hlt, ?_⟩
            exact (s4 _ (dps_app s3 (dps_one hdz))).data q non_dp
          · exact q.elim
        · exact q.elim
    · exact p.elim
/-- xs.pop() -/
def mPop (j : Nat) : M Ref := fun η => match mutL η j with
  | some (b, xs) => (match xs[xs.length - 1]? with
    | some y => .ok (.vl (.d y)) (η.set j (some (mkL b xs.dropLast)))
    | none => .stuck)
  | _ => .stuck
theorem dps_dropLast {K : PySem.W.Frag} {xs : List D} {vs : List V} (h : Rps K H vs xs) : Rps K H vs.dropLast xs.dropLast := by
  rw [List.dropLast_eq_take, List.dropLast_eq_take, dps_len h]
  exact dps_take _ h
theorem de_pop {pn : Pos} (hN : X.N[j]? = some x) (hv : Vis X.env.scope x) (hd : (x == ("__debug__" : Str)) = false := by decide) (hcd : (x == ("__classdict__" : Str)) = false := by decide)
    (hbase : attributeBase (.Name x pn) "pop" X.env (eval (.Name x pn) X.env) = eval (.Name x pn) X.env := by rfl) (hline : (apos.endLine == cpos.line) = true := by rfl) :
    DE X W (.Call (.Attribute (.Name x pn) "pop" apos) [] [] cpos) (mPop j) :=
  pe_mono (pe_bm0 PySem.F.plainAttrs_list PySem.F.slot_list_pop PySem.F.type_list_pop mt_pop (pe_var (i := j) hN hv hd hcd) hbase hline) fun σ H Q ⟨ρ, η, φ, r, p⟩ => by
    unfold mPop at p
    split at p
    · rename_i b xs hx
      split at p
      · rename_i y hy
        obtain ⟨l, vs, s1, s2, s3, s4⟩ := (At.start r).putL (ys := xs.dropLast) hx
        obtain ⟨w, e1, e2⟩ := dps_at s3 hy
        refine ⟨_, s1, .inl ⟨rfl, vs, SqL.of s2⟩, l, vs, w, rfl, rfl, s2, by rw [dps_len s3]; exact e1, ?_⟩
        have at2 := s4 _ (dps_dropLast s3)
        refine at2.data p ?_
        exact dp_ext (Ext.upd (A := fun b => b = l) (.inl rfl) fun u hu => by rw [s2] at hu; cases hu; exact id) _ _ e2
      · exact p.elim
    · exact p.elim

/-! ### t.index(x) upon flat things -/
def flatD : D → Bool
  | .tup _ => false
  | .pt _ => false
  | _ => true
def vD : D → V
  | .non => .non
  | .bl b => .bl b
  | .int i => .int i
  | .str x => .str x
  | .tup _ => .non
  | .pt _ => .non
def eqF (x y : D) : Bool := eqV (vD x) (vD y)
theorem flat_vD {K : PySem.W.Frag} {x : D} {v : V} (h : Rp K H v x) (f : flatD x = true) : v = vD x ∧ flatV v = true := by
  cases x with
  | non => have := dp_non h; subst this; exact ⟨rfl, rfl⟩
  | bl _ => have := dp_bl h; subst this; exact ⟨rfl, rfl⟩
  | int _ => have := dp_int h; subst this; exact ⟨rfl, rfl⟩
  | str _ => have := dp_str h; subst this; exact ⟨rfl, rfl⟩
  | tup _ => cases f
  | pt _ => cases f
theorem flats_vD {K : PySem.W.Frag} : ∀ {xs : List D} {vs : List V}, Rps K H vs xs → xs.all flatD = true → vs = xs.map vD ∧ vs.all flatV = true
  | [], vs, h, _ => by cases h; exact ⟨rfl, rfl⟩
  | x :: xs, vs, h, f => by
    simp only [List.all_cons, Bool.and_eq_true] at f
    cases h with
    | cons h1 h2 =>
      obtain ⟨e1, e2⟩ := flat_vD h1 f.1
      obtain ⟨e3, e4⟩ := flats_vD h2 f.2
      subst e1 e3
      exact ⟨rfl, by simp [e2, e4]⟩
def idxD (xs : List D) (y : D) : Option Nat := if flatD y = true ∧ xs.all flatD = true then xs.findIdx? fun z => eqF z y else none
/-- as the layer's rule upon texts, upon flat things -/
def rTIdx (K : PySem.W.Frag) : V → List V → Hp → VK → Prop := fun x xs H Q => ∃ (p : Addr) (ys : List V) (y : V) (j : Nat) (z : V), x = .ref p ∧ xs = [y] ∧ SqT K H p ys ∧ flatV y = true ∧ ys.all flatV = true ∧ ys[j]? = some z ∧ eqV z y = true ∧
  (∀ (m : Nat) (z' : V), m < j → ys[m]? = some z' → eqV z' y = false) ∧ Q (.int (j : Nat)) H
theorem mt_tidx : MtR X "tuple.index" (rTIdx X.K) := by
  rintro pins s σ H x xs v us Q I rx rs ⟨q, ys, y, j, z, rfl, rfl, hq, fy, fys, hz, hzy, hno, kq⟩
  cases rx
  obtain ⟨u, rfl, ru⟩ := vals1 rs
  obtain ⟨its, rv, ⟨⟨cls, dd, dt, sl⟩, ho, hc, n, hd⟩, hlen⟩ := I.tuple hq
  dsimp only at hc hd
  subst hc hd
  have hvl := rv.length
  have look : ∀ (m : Nat) (hm : m < its.toArray.size), ∃ w, ys[m]? = some w ∧ RelV w its.toArray[m] := fun m hm => by
    have hm' : m < ys.length := by rw [hvl]; simpa using hm
    obtain ⟨w', hw, rw'⟩ := rv.get (List.getElem?_eq_getElem hm')
    refine ⟨ys[m], List.getElem?_eq_getElem hm', ?_⟩
    obtain ⟨_, e⟩ := List.getElem?_eq_some_iff.mp hw
    have : its.toArray[m] = w' := by simpa using e
    rw [this]
    exact rw'
  have hj : j < its.toArray.size := by
    have := (List.getElem?_eq_some_iff.mp hz).1
    simpa [hvl] using this
  refine call_meets PySem.F.slot_tuple_index ⟨_, ho, rfl⟩ PySem.F.entry_tuple_index (PySem.F.args_tuple_index_2 _ _) (TI.tuple_indexAt q its.toArray n dd sl u (eqU y) j hj ?_ ?_)
    ⟨ho, fun w hw => mem_eqAt ru fy rv fys w (by simpa using hw), ⟨.int (j : Nat), H, I.tok _, ⟨_, rfl⟩, kq⟩⟩
  · obtain ⟨w, e1, e2⟩ := look j hj
    rw [hz] at e1
    cases e1
    rw [eqU_of e2 (flat_at fys hz)]
    exact hzy
  · intro m hm hmj
    obtain ⟨w, e1, e2⟩ := look m hm
    rw [eqU_of e2 (flat_at fys e1)]
    exact hno m w hmj e1
/-- o.index(e): o a name's tuple or list -/
def gIndex (x : Val) (y : D) : Option Nat := match x with
  | .d (.tup xs) => idxD xs y
  | .l xs => idxD xs y
  | .fz xs => idxD xs y
  | _ => none
theorem idx_use {K : PySem.W.Frag} {xs : List D} {vs : List V} {y : D} {w : V} {n : Nat} (h : Rps K H vs xs) (hy : Rp K H w y) (e : idxD xs y = some n) :
    ∃ z, flatV w = true ∧ vs.all flatV = true ∧ vs[n]? = some z ∧ eqV z w = true ∧ ∀ (m : Nat) (z' : V), m < n → vs[m]? = some z' → eqV z' w = false := by
  unfold idxD at e
  split at e
  · rename_i hf
    obtain ⟨e1, e2⟩ := flats_vD h hf.2
    obtain ⟨e3, e4⟩ := flat_vD hy hf.1
    obtain ⟨hn, hp, hq⟩ := List.findIdx?_eq_some_iff_getElem.mp e
    subst e1 e3
    refine ⟨vD xs[n], e4, e2, by simp [hn], hp, fun m z' hm hz => ?_⟩
    have hm' : m < xs.length := by omega
    simp [hm'] at hz
    subst hz
    have := hq m hm
    simpa [eqF] using this
  · cases e
def mIndex (j : Nat) (m : M Ref) : M Ref := fun η => match η[j]? with
  | some (some (.d (.tup _))) => (mArgs [m] >>= fun rs => fun η => match rs with
    | [r] => (match η[j]?, rdD η r with
      | some (some (.d (.tup xs))), some y => (match idxD xs y with
        | some n => .ok (.vl (.d (.int n))) η
        | none => .stuck)
      | _, _ => .stuck)
    | _ => .stuck) η
  | _ => .stuck
theorem de_index {pn : Pos} (hN : X.N[j]? = some x) (hv : Vis X.env.scope x) (ha : DE X W a m) (hd : (x == ("__debug__" : Str)) = false := by decide) (hcd : (x == ("__classdict__" : Str)) = false := by decide)
    (hbase : attributeBase (.Name x pn) "index" X.env (eval (.Name x pn) X.env) = eval (.Name x pn) X.env := by rfl)
    (hfew : ((backTo cpos (starEach [a] X.env)).all (fun x => !x.1) && (backToKw cpos (keywordEach [] X.env)).all (fun x => x.1.isSome)
      && decide ([a].length + ([] : List Keyword).length + (if ([] : List Keyword).isEmpty then 0 else 1) < 30)) = true := by rfl)
    (hline : (apos.endLine == cpos.line) = true := by rfl) (hs : starEach [a] X.env = (false, eval a X.env) :: starEach [] X.env := by rfl) (hplain : (backTo cpos (starEach [] X.env)).any (·.1) = false := by rfl) :
    DE X W (.Call (.Attribute (.Name x pn) "index" apos) [a] [] cpos) (mIndex j m) :=
  pe_mono (pe_mt PySem.F.slot_tuple_index PySem.F.type_tuple_index mt_tidx (pe_var (i := j) hN hv hd hcd) (da_cons ha da_nil hs) hbase hfew hline hs hplain) fun σ H Q ⟨ρ, η, φ, r, p⟩ => by
    unfold mIndex at p
    split at p
    · rename_i xs0 hx0
      obtain ⟨v, h1, h2⟩ := r.rep j _ hx0
      obtain ⟨l, vs, rfl, t1, d1⟩ := dp_tupN h2.1
      refine ⟨_, h1, ⟨l, vs, rfl, t1⟩, tA_mono (fun ws H' ⟨η', φ', L, at_, eL, q⟩ => ?_) (At.stepA r p)⟩
      match L, eL, q, at_ with
      | [], _, q, _ => exact q.elim
      | _ :: _ :: _, _, q, _ => exact q.elim
      | [h], eL, q, at_ =>
        simp only [List.map_cons, List.map_nil] at q eL
        subst eL
        split at q
        · rename_i b xs z hx hz
          split at q
          · rename_i n hn
            obtain ⟨v', s1, s2⟩ := at_.rep.rep j _ hx
            rw [h1] at s1
            cases s1
            obtain ⟨l', vs', e0, t2, d2⟩ := dp_tup s2.1 rfl
            cases e0
            have hdz := at_.getD (r := h.r) (v := h.v) (f := h.f) in0 hz
            obtain ⟨z', f1, f2, f3, f4, f5⟩ := idx_use d2 hdz hn
            exact ⟨l, vs', h.v, n, z', rfl, rfl, t2, f1, f2, f3, f4, f5, at_.data q int_dp⟩
          · exact q.elim
        · exact q.elim
    · exact p.elim
end
end DD


/-! Loops and comprehensions. -/
namespace DD
open PySem PySem.Spec PyProof.Rows L2
open Classical

/-! ### what is walked -/
structure Walks (J : It) (K : PySem.W.Frag) (inv : Hp → Prop) (xs : List D) : Prop where
  go : ∀ i H, inv H → i < xs.length → J.go i H
  stop : ∀ i H, inv H → xs.length ≤ i → J.stop i H
  yld : ∀ i H x H', inv H → i < xs.length → J.yld i H x H' → ∃ d, xs[i]? = some d ∧ Rp K H' x d ∧ Ext none_ H H'
/-- the items of a walk; the slot whose list is walked, and whether it is to be freed behind the loop -/
structure ItD where
  items : List D
  pin : Option Nat := none
  undo : Bool := false
  bor : Bool := false
  src : List D := []
  tup : Bool := false
def ItD.ok (it : ItD) (η : Env) : Prop := match it.pin with
  | some j => η[j]? = some (some (.pin it.bor it.src))
  | none => True
def ItD.free (it : ItD) (η : Env) : Option Env := match it.pin with
  | some j => if it.undo = true then (match η[j]? with
    | some (some (.pin b xs)) => if b = it.bor then some (η.set j (some (mkL b xs))) else none
    | _ => none) else some η
  | none => some η
def Same (it : ItD) (ρ ρ' : Nat → Addr) : Prop := ∀ i, (it.undo = true ∧ it.pin = some i ∧ it.bor = false) ∨ ρ' i = ρ i
section
variable {K : PySem.W.Frag} {ρ ρ' : Nat → Addr} {mg : Str → Option Value} {W : WX} {σ : L2.St} {A : AS} {H₀ H H' : Hp} {L : List HeldI} {η η' : Env} {φ φ' : FS}
theorem RepE.re (r : RepE K ρ' H σ η φ) (h : ∀ i x, η[i]? = some (some x) → x.kept = true → ρ' i = ρ i) : RepE K ρ H σ η φ :=
  ⟨r.len, r.rep, r.emp, r.dis, fun i x e hk => by rw [r.pin i x e hk, h i x e hk]⟩
theorem RepE.free {it : ItD} (r : RepE K ρ' H σ η φ) (s : Same it ρ ρ') (e : it.free η = some η') : RepE K ρ H σ η' φ := by
  unfold ItD.free at e
  cases hp : it.pin with
  | none =>
    rw [hp] at e
    cases e
    exact r.re fun i _ _ _ => (s i).elim (fun z => by rw [hp] at z; cases z.2.1) id
  | some j =>
    rw [hp] at e
    dsimp only at e
    split at e
    · rename_i hu
      split at e
      · rename_i b xs hj
        split at e
        rotate_left
        · cases e
        rename_i hb
        cases e
        have hl : j < η.length := (List.getElem?_eq_some_iff.mp hj).1
        refine ⟨by simpa using r.len, fun i y q => ?_, fun i n a => ?_, r.dis, fun i ys q hk => ?_⟩
        · by_cases hi : i = j
          · subst hi
            rw [List.getElem?_set_self hl] at q
            cases q
            obtain ⟨w, q1, q2⟩ := r.rep i _ hj
            exact ⟨w, q1, mkL_rep.mpr q2⟩
          · rw [List.getElem?_set_ne (Ne.symm hi)] at q
            exact r.rep i y q
        · by_cases hi : i = j
          · subst hi
            exact (n _ (List.getElem?_set_self hl)).elim
          · exact r.emp i (fun z q => n z (by rw [List.getElem?_set_ne (Ne.symm hi)]; exact q)) a
        · by_cases hi : i = j
          · subst hi
            rw [List.getElem?_set_self hl] at q
            cases q
            rw [r.pin i _ hj rfl]
            rcases s i with z | z
            · rw [hb, z.2.2] at hk; cases hk
            · rw [z]
          · rw [List.getElem?_set_ne (Ne.symm hi)] at q
            rw [r.pin i ys q hk]
            rcases s i with z | z
            · rw [hp] at z; cases z.2.1; exact (hi rfl).elim
            · rw [z]
      · cases e
    · rename_i hu
      cases e
      exact r.re fun i _ _ _ => (s i).elim (fun z => (hu z.1).elim) id
/-- slot j's list is pinned -/
theorem RepE.pinned {b : Bool} {j : Nat} {xs : List D} (r : RepE K ρ H σ η φ) (e : mutL η j = some (b, xs)) :
    ∃ a, σ[j]? = some (some (.ref a)) ∧ (∃ vs, H a = some (.lst vs) ∧ Rps K H vs xs) ∧ ∃ ρ', RepE K ρ' H σ (η.set j (some (.pin b xs))) φ ∧ ∀ i, (i = j ∧ b = false) ∨ ρ' i = ρ i := by
  have e := mutL_get e
  obtain ⟨v, h1, h2⟩ := r.rep j _ e
  obtain ⟨a, vs, rfl, h3, h4, h5⟩ := mkL_rep.mp (id h2)
  have hl : j < η.length := (List.getElem?_eq_some_iff.mp e).1
  refine ⟨a, h1, ⟨vs, h3, h4⟩, fun i => if i = j ∧ b = false then a else ρ i, ⟨by simpa using r.len, fun i y q => ?_, fun i n b => ?_, r.dis, fun i ys q hk => ?_⟩, fun i => ?_⟩
  · by_cases hi : i = j
    · subst hi
      rw [List.getElem?_set_self hl] at q
      cases q
      exact ⟨_, h1, mkL_rep.mp h2⟩
    · rw [List.getElem?_set_ne (Ne.symm hi)] at q
      exact r.rep i y q
  · by_cases hi : i = j
    · subst hi
      exact (n _ (List.getElem?_set_self hl)).elim
    · exact r.emp i (fun z q => n z (by rw [List.getElem?_set_ne (Ne.symm hi)]; exact q)) b
  · by_cases hi : i = j
    · subst hi
      cases b with
      | false => simpa using h1
      | true =>
        have := r.pin i _ e rfl
        simpa using this
    · rw [List.getElem?_set_ne (Ne.symm hi)] at q
      simpa [hi] using r.pin i ys q hk
  · by_cases hi : i = j ∧ b = false
    · exact .inl hi
    · exact .inr (by simp [hi])
end
def PostI (K : PySem.W.Frag) (ρ : Nat → Addr) (mg : Str → Option Value) (W : WX) (σ : L2.St) (A : AS) (H : Hp) (R : It → Hp → Prop) : Out ItD → Prop
  | .ok it η' => ∀ J H' ρ' φ' (inv : Hp → Prop), RepE K ρ' H' σ η' φ' → Ext A H H' → New A H (foot φ') → Same it ρ ρ' →
      (∀ H2 σ2 η2 φ2, RepE K ρ' H2 σ2 η2 φ2 → Ext (foot φ') H' H2 → it.ok η2 → inv H2) → Walks J K inv it.items → R J H'
  | .err x η' => ∀ cls dx H' φ', RepE K ρ H' σ η' φ' → Ext A H H' → New A H (foot φ') → ExnOk K mg H' x cls dx → W cls dx σ H'
  | .stuck => False
def tI (K : PySem.W.Frag) (mg : Str → Option Value) (W : WX) (m : M ItD) : TI := fun σ H R => ∃ ρ η φ, RepE K ρ H σ η φ ∧ PostI K ρ mg W σ (foot φ) H R (m η)
abbrev DIt (X : Cx) (W : WX) (tg e : Expr) (m : M ItD) : Prop := PI X tg e (tI X.K X.mg W m)
theorem pi_mono {X : Cx} {tg e : Expr} {t t' : TI} (h : PI X tg e t) (k : ∀ σ H R, t' σ H R → t σ H R) : PI X tg e t' := ⟨fun pins s σ H R I q => h.run pins s σ H R I (k _ _ _ q)⟩

/-! ### the kinds of walks -/
theorem walks_l {K : PySem.W.Frag} {a : Addr} {inv : Hp → Prop} {xs : List D} (h : ∀ H, inv H → ∃ vs, SqL K H a vs ∧ Rps K H vs xs) : Walks (Itl K a) K inv xs where
  go := fun i H hi hl => by
    obtain ⟨vs, h1, h2⟩ := h H hi
    obtain ⟨v, e, _⟩ := dps_at h2 (List.getElem?_eq_getElem hl)
    exact ⟨vs, v, h1, e⟩
  stop := fun i H hi hl => by
    obtain ⟨vs, h1, h2⟩ := h H hi
    exact ⟨vs, h1, by rw [dps_len h2]; exact hl⟩
  yld := fun i H x H' hi _ ⟨e, y⟩ => by
    obtain ⟨vs, h1, h2⟩ := h H hi
    subst e
    obtain ⟨d, q1, q2⟩ := dps_get h2 (y vs h1)
    exact ⟨d, q1, q2, Ext.refl _ _⟩
theorem walks_t {K : PySem.W.Frag} {a : Addr} {inv : Hp → Prop} {xs : List D} (h : ∀ H, inv H → ∃ vs, SqT K H a vs ∧ Rps K H vs xs) : Walks (Itt K a) K inv xs where
  go := fun i H hi hl => by
    obtain ⟨vs, h1, h2⟩ := h H hi
    obtain ⟨v, e, _⟩ := dps_at h2 (List.getElem?_eq_getElem hl)
    exact ⟨vs, v, h1, e⟩
  stop := fun i H hi hl => by
    obtain ⟨vs, h1, h2⟩ := h H hi
    exact ⟨vs, h1, by rw [dps_len h2]; exact hl⟩
  yld := fun i H x H' hi _ ⟨e, y⟩ => by
    obtain ⟨vs, h1, h2⟩ := h H hi
    subst e
    obtain ⟨d, q1, q2⟩ := dps_get h2 (y vs h1)
    exact ⟨d, q1, q2, Ext.refl _ _⟩
def rgD (lo : Int) (n : Nat) : List D := (List.range n).map fun (i : Nat) => D.int (lo + i)
theorem rgD_get {lo : Int} {n i : Nat} (h : i < n) : (rgD lo n)[i]? = some (.int (lo + i)) := by
  unfold rgD; rw [List.getElem?_map, List.getElem?_range h]; rfl
theorem rgD_len {lo : Int} {n : Nat} : (rgD lo n).length = n := by unfold rgD; simp
theorem walks_r {K : PySem.W.Frag} {lo : Int} {n : Nat} : Walks (Itr lo n) K (fun _ => True) (rgD lo n) where
  go := fun i H _ hl => by rw [rgD_len] at hl; exact hl
  stop := fun i H _ hl => by rw [rgD_len] at hl; exact hl
  yld := fun i H x H' _ hl y => by
    obtain ⟨rfl, rfl⟩ := y
    rw [rgD_len] at hl
    exact ⟨_, rgD_get hl, int_dp, Ext.refl _ _⟩
/-- a list or a tuple is walked -/
def iSeq (K : PySem.W.Frag) (tl : TE) : TI := fun σ H R => tl σ H fun x H1 => ∃ a, x = .ref a ∧ (((∃ xs, SqL K H1 a xs) ∧ R (Itl K a) H1) ∨ ((∃ xs, SqT K H1 a xs) ∧ R (Itt K a) H1))
theorem pi_seq {X : Cx} {tg l : Expr} {tl : TE} (hl : PE X l tl) : PI X tg l (iSeq X.K tl) := by
  refine ⟨fun pins s σ H R I h => ?_⟩
  refine thn (hl.run pins s σ H _ I h) fun v s1 ⟨x, H1, I1, r1, a, e, q1⟩ => ?_
  subst e
  cases r1
  rcases q1 with ⟨⟨xs, hq⟩, q⟩ | ⟨⟨xs, hq⟩, q⟩
  · obtain ⟨us, _, p, _⟩ := I1.list hq
    refine wpAny_pyIter_list p.isList ⟨s1.heap.objs.size, [s1.heap.objs.size], _, _, H1, rfl, I1.kept (t' := s1.toks) fun b o k => Heap.get?_push_of_some _ k, turn_list a _, ⟨_, Heap.get?_push_size _ rfl, rfl, rfl⟩, fun b hb => ?_, q⟩
    cases List.mem_singleton.mp hb
    exact I1.fpOk (Nat.le_refl _) (I1.hok.fresh (Nat.le_refl _))
  · obtain ⟨us, _, p, _⟩ := I1.tuple hq
    refine wpAny_pyIter_tuple (show s1.heap.IsTuple a us.toArray from p) ⟨s1.heap.objs.size, [s1.heap.objs.size], _, _, H1, rfl, I1.kept (t' := s1.toks) fun b o k => Heap.get?_push_of_some _ k, turn_tuple a _, ⟨_, Heap.get?_push_size _ rfl, rfl, rfl⟩, fun b hb => ?_, q⟩
    cases List.mem_singleton.mp hb
    exact I1.fpOk (Nat.le_refl _) (I1.hok.fresh (Nat.le_refl _))
def itOf (r : Ref) : M ItD := fun η => match r with
  | .vl (.d (.tup xs)) => .ok { items := xs, src := xs, tup := true } η
  | .vl (.d (.pt xs)) => .ok { items := xs, src := xs, tup := true } η
  | .vl (.l xs) => .ok { items := xs, src := xs } η
  | .vl (.fz xs) => .ok { items := xs, src := xs } η
  | .sl j => (match η[j]? with
    | some (some (.d (.tup xs))) => .ok { items := xs, src := xs, tup := true } η
    | some (some (.d (.pt xs))) => .ok { items := xs, src := xs, tup := true } η
    | some (some (.fz xs)) => .ok { items := xs, src := xs } η
    | some (some (.l xs)) => .ok { items := xs, pin := some j, undo := true, src := xs } (η.set j (some (.pin false xs)))
    | some (some (.bw xs)) => .ok { items := xs, pin := some j, undo := true, bor := true, src := xs } (η.set j (some (.pin true xs)))
    | some (some (.pin b xs)) => .ok { items := xs, pin := some j, bor := b, src := xs } η
    | _ => .stuck)
  | _ => .stuck
theorem same_refl {it : ItD} {ρ : Nat → Addr} : Same it ρ ρ := fun _ => .inr rfl
section
variable {K : PySem.W.Frag} {ρ : Nat → Addr} {mg : Str → Option Value} {W : WX} {σ : L2.St} {A : AS} {H₀ H : Hp} {η : Env} {φ : FS} {R : It → Hp → Prop}
/-- v is walked: the list or the tuple at a, whose items stay so while inv holds -/
structure Wk (K : PySem.W.Frag) (ρ : Nat → Addr) (σ : L2.St) (H : Hp) (it : ItD) (φ : FS) (η' : Env) (v : V) where
  a : Addr
  ρ' : Nat → Addr
  inv : Hp → Prop
  e : v = .ref a
  rep : RepE K ρ' H σ η' φ
  same : Same it ρ ρ'
  keep : ∀ H2 σ2 η2 φ2, RepE K ρ' H2 σ2 η2 φ2 → Ext (foot φ) H H2 → it.ok η2 → inv H2
  now : inv H
  kind : (it.tup = false ∧ ∀ H, inv H → ∃ vs, SqL K H a vs ∧ Rps K H vs it.src) ∨ (it.tup = true ∧ ∀ H, inv H → ∃ vs, SqT K H a vs ∧ Rps K H vs it.src)
theorem seq_t {v : V} {f : AS} {r : Ref} {xs : List D} {x : D} (at_ : At K ρ σ A H₀ [⟨r, v, f⟩] H η φ) (h : Rp K H v x) (hx : x.tup? = some xs) : Nonempty (Wk K ρ σ H { items := xs, src := xs, tup := true } φ η v) := by
  obtain ⟨a, vs, rfl, h1, h2⟩ := dp_tup h hx
  exact ⟨⟨a, ρ, fun H' => SqT K H' a vs ∧ Rps K H' vs xs, rfl, at_.rep, same_refl, fun H2 σ2 η2 φ2 _ e _ => ⟨rd_ext e h1, dps_ext e _ _ h2⟩, ⟨h1, h2⟩, .inr ⟨rfl, fun H' h => ⟨vs, h⟩⟩⟩⟩
theorem seq_fz {v : V} {f : AS} {r : Ref} {xs : List D} {g : AS} (at_ : At K ρ σ A H₀ [⟨r, v, f⟩] H η φ) (h : RepV K H (.fz xs) v g) : Nonempty (Wk K ρ σ H { items := xs, src := xs } φ η v) := by
  obtain ⟨⟨a, vs, rfl, h1, h2⟩, _⟩ := h
  exact ⟨⟨a, ρ, fun H' => SqL K H' a vs ∧ Rps K H' vs xs, rfl, at_.rep, same_refl, fun H2 σ2 η2 φ2 _ e _ => ⟨fz_sq (fz_ext e h1), dps_ext e _ _ h2⟩, ⟨fz_sq h1, h2⟩, .inl ⟨rfl, fun H' h => ⟨vs, h⟩⟩⟩⟩
theorem seq_pin {v : V} {f : AS} {j : Nat} {b : Bool} {xs : List D} (at_ : At K ρ σ A H₀ [⟨.sl j, v, f⟩] H η φ) (hj : mutL η j = some (b, xs)) :
    xs = xs ∧ Nonempty (Wk K ρ σ H { items := xs, pin := some j, undo := true, bor := b, src := xs } φ (η.set j (some (.pin b xs))) v) := by
  obtain ⟨a, h1, ⟨vs, h2, h3⟩, ρ', r', hρ⟩ := at_.rep.pinned hj
  have hv := (at_.held _ in0).1.1
  have hv : σ[j]? = some (some v) := hv
  rw [h1] at hv
  cases hv
  refine ⟨rfl, ⟨⟨a, ρ', fun H' => ∃ vs, SqL K H' a vs ∧ Rps K H' vs xs, rfl, r', fun i => (hρ i).imp (fun z => ⟨rfl, by rw [z.1], z.2⟩) id, fun H2 σ2 η2 φ2 r2 e ok => ?_, ⟨vs, .inl (.inl h2), h3⟩, .inl ⟨rfl, fun H' h => h⟩⟩⟩⟩
  have ok : η2[j]? = some (some (.pin b xs)) := ok
  have hl : j < η.length := (List.getElem?_eq_some_iff.mp (mutL_get hj)).1
  have e4 := r'.pin j _ (List.getElem?_set_self hl) rfl
  rw [h1] at e4
  simp at e4
  obtain ⟨v2, e2, b, ws, rfl, k2, k3, k4⟩ := r2.rep j _ ok
  have e3 := r2.pin j _ ok rfl
  rw [e2] at e3
  simp at e3
  rw [e3, ← e4] at k2
  exact ⟨ws, .inl (.inl k2), k3⟩
theorem itOf_wk {v : V} {f : AS} {r : Ref} {it : ItD} {η' : Env} (at_ : At K ρ σ A H₀ [⟨r, v, f⟩] H η φ) (p : itOf r η = .ok it η') : it.items = it.src ∧ Nonempty (Wk K ρ σ H it φ η' v) := by
  have nf : New A H₀ (foot φ) := at_.new.sub fun _ h => .inr h
  unfold itOf at p
  split at p
  · cases p
    exact ⟨rfl, seq_t at_ (at_.getD in0 (by rfl)) (by rfl)⟩
  · cases p
    exact ⟨rfl, seq_t at_ (at_.getD in0 (by rfl)) (by rfl)⟩
  · rename_i xs
    cases p
    obtain ⟨a, vs, rfl, h1, h2, h3⟩ := (at_.held _ in0).1
    have hd := (at_.held _ in0).2
    have ha : ¬ foot φ a := fun z => hd a ((h3 a).mpr rfl) z
    exact ⟨rfl, ⟨⟨a, ρ, fun H' => SqL K H' a vs ∧ Rps K H' vs xs, rfl, at_.rep, same_refl, fun H2 σ2 η2 φ2 _ e _ => ⟨.inl (.inl (e _ _ h1 (.inl ha))), dps_ext e _ _ h2⟩, ⟨.inl (.inl h1), h2⟩, .inl ⟨rfl, fun H' h => ⟨vs, h⟩⟩⟩⟩⟩
  · cases p
    exact ⟨rfl, seq_fz at_ (at_.held _ in0).1⟩
  · rename_i j
    split at p
    · rename_i xs hj
      cases p
      exact ⟨rfl, seq_t at_ (x := .tup xs) (at_.getD in0 (by simp only [rdD, rd, hj, Val.norm])) (by rfl)⟩
    · rename_i xs hj
      cases p
      exact ⟨rfl, seq_t at_ (x := .pt xs) (at_.getD in0 (by simp only [rdD, rd, hj, Val.norm])) (by rfl)⟩
    · rename_i xs hj
      cases p
      obtain ⟨g, h, _⟩ := at_.get in0 (x := .fz xs) (by simp only [rd, hj, Val.norm])
      exact ⟨rfl, seq_fz at_ h⟩
    · rename_i xs hj
      cases p
      exact seq_pin at_ (b := false) (by unfold mutL; rw [hj])
    · rename_i xs hj
      cases p
      exact seq_pin at_ (b := true) (by unfold mutL; rw [hj])
    · rename_i b xs hj
      cases p
      have hv : σ[j]? = some (some v) := (at_.held _ in0).1.1
      obtain ⟨v', e1, a, vs, rfl, h2, h3, h4⟩ := at_.rep.rep j _ hj
      rw [hv] at e1
      cases e1
      have h5 := at_.rep.pin j _ hj rfl
      rw [hv] at h5
      simp at h5
      refine ⟨rfl, ⟨⟨a, ρ, fun H' => ∃ vs, SqL K H' a vs ∧ Rps K H' vs xs, rfl, at_.rep, same_refl, fun H2 σ2 η2 φ2 r2 e ok => ?_, ⟨vs, .inl (.inl h2), h3⟩, .inl ⟨rfl, fun H' h => h⟩⟩⟩⟩
      have ok : η2[j]? = some (some (.pin b xs)) := ok
      obtain ⟨v2, e2, b, ws, rfl, k2, k3, k4⟩ := r2.rep j _ ok
      have e3 := r2.pin j _ ok rfl
      rw [e2] at e3
      simp at e3
      rw [e3, ← h5] at k2
      exact ⟨ws, .inl (.inl k2), k3⟩
    · cases p
  · cases p
theorem itOf_use {v : V} {f : AS} {r : Ref} (at_ : At K ρ σ A H₀ [⟨r, v, f⟩] H η φ) (p : PostI K ρ mg W σ A H₀ R (itOf r η)) : ∃ a, v = .ref a ∧ (((∃ xs, SqL K H a xs) ∧ R (Itl K a) H) ∨ ((∃ xs, SqT K H a xs) ∧ R (Itt K a) H)) := by
  have nf : New A H₀ (foot φ) := at_.new.sub fun _ h => .inr h
  cases q : itOf r η with
  | stuck => rw [q] at p; exact p.elim
  | err x η' =>
    exfalso
    unfold itOf at q
    repeat' split at q
    all_goals cases q
  | ok it η' =>
    rw [q] at p
    obtain ⟨e1, ⟨w⟩⟩ := itOf_wk at_ q
    refine ⟨w.a, w.e, ?_⟩
    rcases w.kind with ⟨_, kd⟩ | ⟨_, kd⟩
    · obtain ⟨vs, h1, _⟩ := kd H w.now
      exact .inl ⟨⟨vs, h1⟩, p _ H w.ρ' φ w.inv w.rep at_.ext nf w.same w.keep (e1 ▸ walks_l kd)⟩
    · obtain ⟨vs, h1, _⟩ := kd H w.now
      exact .inr ⟨⟨vs, h1⟩, p _ H w.ρ' φ w.inv w.rep at_.ext nf w.same w.keep (e1 ▸ walks_t kd)⟩
end
section
variable {X : Cx} {W : WX} {k : Nat} {e a b c tg : Expr} {m m1 m2 : M Ref} {pos p p2 : Pos}
theorem At.stepI1 {K : PySem.W.Frag} {ρ : Nat → Addr} {mg : Str → Option Value} {σ : L2.St} {A : AS} {H₀ H : Hp} {L : List HeldI} {η : Env} {φ : FS} {R : It → Hp → Prop} {m : M Ref} {kk : Ref → M ItD} (at_ : At K ρ σ A H₀ L H η φ) (p : PostI K ρ mg W σ A H₀ R ((m >>= kk) η)) :
    tE K mg W m σ H fun v H' => ∃ r η' φ' f, At K ρ σ A H₀ (⟨r, v, f⟩ :: L) H' η' φ' ∧ PostI K ρ mg W σ A H₀ R (kk r η') := by
  refine ⟨ρ, η, φ, at_.rep, ?_⟩
  rw [bind_def] at p
  have nf : New A H₀ (foot φ) := at_.new.sub fun _ h => .inr h
  cases e : m η with
  | ok r η' =>
    rw [e] at p
    exact fun v H' φ' f rep ok d ex n => ⟨r, η', φ', f, at_.hold rep ok d ex n, p⟩
  | err x η' =>
    rw [e] at p
    exact fun cls dx H' φ' rep ex n xk => p cls dx H' φ' rep (at_.ext.trans nf ex) (New.trans at_.ext nf n) xk
  | stuck =>
    rw [e] at p
    exact p.elim
/-- for .. in a list or a tuple -/
theorem dit_seq (he : DE X W e m) : DIt X W tg e (m >>= itOf) :=
  pi_mono (pi_seq he) fun σ H R ⟨ρ, η, φ, r, p⟩ => tE_mono (fun v H' ⟨r1, η', φ', f, at_, q⟩ => itOf_use at_ q) ((At.start r).stepI1 p)
/-! ### ranges -/
def rgIt (lo hi : Int) : M ItD := fun η => if -(2 ^ 62) ≤ lo ∧ lo < 2 ^ 62 ∧ -(2 ^ 62) ≤ hi ∧ hi < 2 ^ 62 then .ok { items := rgD lo (hi - lo).toNat } η else .stuck
def rgIt1 (rs : List Ref) : M ItD := fun η => match rdDs η rs with
  | some [.int hi] => rgIt 0 hi η
  | _ => .stuck
def rgIt2 (rs : List Ref) : M ItD := fun η => match rdDs η rs with
  | some [.int lo, .int hi] => rgIt lo hi η
  | _ => .stuck
theorem At.stepAI {K : PySem.W.Frag} {ρ : Nat → Addr} {mg : Str → Option Value} {σ : L2.St} {H : Hp} {η : Env} {φ : FS} {R : It → Hp → Prop} {m : M (List Ref)} {kk : List Ref → M ItD} (r : RepE K ρ H σ η φ) (p : PostI K ρ mg W σ (foot φ) H R ((m >>= kk) η)) :
    tA K mg W m σ H fun vs H' => ∃ η' φ' L, At K ρ σ (foot φ) H L H' η' φ' ∧ L.map (·.v) = vs ∧ PostI K ρ mg W σ (foot φ) H R (kk (L.map (·.r)) η') := by
  refine ⟨ρ, η, φ, r, ?_⟩
  rw [bind_def] at p
  cases e : m η with
  | ok rs η' =>
    rw [e] at p
    exact fun H' φ' L at_ eL => ⟨η', φ', L, at_, rfl, by rw [eL]; exact p⟩
  | err x η' => rw [e] at p; exact p
  | stuck => rw [e] at p; exact p.elim
theorem rgIt_use {K : PySem.W.Frag} {ρ : Nat → Addr} {mg : Str → Option Value} {σ : L2.St} {A : AS} {H₀ H : Hp} {L : List HeldI} {η : Env} {φ : FS} {R : It → Hp → Prop} {lo hi : Int} (at_ : At K ρ σ A H₀ L H η φ) (p : PostI K ρ mg W σ A H₀ R (rgIt lo hi η)) :
    (-(2 ^ 62) ≤ lo ∧ lo < 2 ^ 62 ∧ -(2 ^ 62) ≤ hi ∧ hi < 2 ^ 62) ∧ R (Itr lo (hi - lo).toNat) H := by
  unfold rgIt at p
  split at p
  · rename_i h
    exact ⟨h, p _ H ρ φ (fun _ => True) at_.rep at_.ext (at_.new.sub fun _ h => .inr h) same_refl (fun _ _ _ _ _ _ _ => trivial) walks_r⟩
  · exact p.elim
theorem dit_range1 (hg : Gl X "range") (hm : X.mg "range" = none) (ha : DE X W a m1) (hs : starEach [a] X.env = (false, eval a X.env) :: starEach [] X.env := by rfl) : DIt X W tg (.Call (.Name "range" p) [a] [] pos) (mArgs [m1] >>= rgIt1) :=
  pi_mono (pi_range1 hg hm (da_cons ha da_nil hs) hs) fun σ H R ⟨ρ, η, φ, r, p⟩ => tA_mono (fun vs H' ⟨η', φ', L, at_, eL, q⟩ => by
    unfold rgIt1 at q
    split at q
    · rename_i hi hq
      have h := at_.getDs (L := L) (fun _ h => h) hq
      obtain ⟨h1, h2⟩ := rgIt_use at_ q
      rw [eL] at h
      cases h with
      | cons d t =>
        cases t
        cases dp_int d
        exact ⟨hi, rfl, h1.2.2.1, h1.2.2.2, by simpa using h2⟩
    · exact q.elim) (At.stepAI r p)
theorem dit_range2 (hg : Gl X "range") (hm : X.mg "range" = none) (ha : DE X W a m1) (hb : DE X W b m2) (hs : starEach [a, b] X.env = (false, eval a X.env) :: starEach [b] X.env := by rfl) (hs2 : starEach [b] X.env = (false, eval b X.env) :: starEach [] X.env := by rfl) :
    DIt X W tg (.Call (.Name "range" p) [a, b] [] pos) (mArgs [m1, m2] >>= rgIt2) :=
  pi_mono (pi_range2 hg hm (da_cons ha (da_cons hb da_nil hs2) hs) (by rw [hs, hs2]; rfl) hs2) fun σ H R ⟨ρ, η, φ, r, p⟩ => tA_mono (fun vs H' ⟨η', φ', L, at_, eL, q⟩ => by
    unfold rgIt2 at q
    split at q
    · rename_i lo hi hq
      have h := at_.getDs (L := L) (fun _ h => h) hq
      obtain ⟨h1, h2⟩ := rgIt_use at_ q
      rw [eL] at h
      cases h with
      | cons d t =>
        cases t with
        | cons d2 t =>
          cases t
          cases dp_int d
          cases dp_int d2
          exact ⟨lo, hi, rfl, h1, h2⟩
    · exact q.elim) (At.stepAI r p)
end

/-! ### for -/
def SOut.freed (it : ItD) : SOut → SOut
  | .nx η => (match it.free η with | some η' => .nx η' | none => .stuck)
  | .rt r η => (match it.free η with | some η' => .rt r η' | none => .stuck)
  | .bk η => (match it.free η with | some η' => .bk η' | none => .stuck)
  | .ct η => (match it.free η with | some η' => .ct η' | none => .stuck)
  | .err x η => (match it.free η with | some η' => .err x η' | none => .stuck)
  | .stuck => .stuck
noncomputable def forGo (it : ItD) (t : Tg) (body : MS) : List D → Env → SOut
  | [], η => if it.ok η then .nx η else .stuck
  | x :: xs, η => if it.ok η then (match t (.d x) η with
      | .nx η1 => (match body η1 with
        | .nx η2 => forGo it t body xs η2
        | .ct η2 => forGo it t body xs η2
        | .bk η2 => .nx η2
        | .rt r η2 => .rt r η2
        | .err y η2 => .err y η2
        | .stuck => .stuck)
      | .err y η1 => .err y η1
      | _ => .stuck) else .stuck
noncomputable def sFor (mi : M ItD) (t : Tg) (body : MS) : MS := fun η => match mi η with
  | .ok it η1 => (forGo it t body it.items η1).freed it
  | .err x η1 => .err x η1
  | .stuck => .stuck
section
variable {X : Cx} {W : WX} {k : Nat} {e a b c tg : Expr} {m m1 m2 : M Ref} {pos p p2 : Pos}
theorem for_core {K : PySem.W.Frag} {ρ : Nat → Addr} {mg : Str → Option Value} {E : Ends} {σ : L2.St} {H : Hp} {mi : M ItD} {t : Tg} {body : MS} (r : ∃ η φ, RepE K ρ H σ η φ ∧ PostS K ρ mg W (foot φ) H E (sFor mi t body η)) :
    tFor (tI K mg W mi) (gD K mg W t) (tS K mg W body) E σ H := by
  obtain ⟨η, φ, r, p⟩ := r
  refine ⟨ρ, η, φ, r, ?_⟩
  unfold sFor at p
  cases q : mi η with
  | stuck => rw [q] at p; exact p.elim
  | err x η1 =>
    rw [q] at p
    exact fun cls dx H' φ' rep ex n xk => p cls dx σ H' φ' rep ex n xk
  | ok it η1 =>
    rw [q] at p
    intro J H1 ρ' φ1 inv rep1 ex1 n1 same hinv wk
    refine ⟨fun i m σ2 H2 => m = it.items.length - i ∧ i ≤ it.items.length ∧ ∃ η2 φ2, RepE K ρ' H2 σ2 η2 φ2 ∧ Ext (foot φ1) H1 H2 ∧ New (foot φ1) H1 (foot φ2) ∧ PostS K ρ mg W (foot φ) H E ((forGo it t body (it.items.drop i) η2).freed it),
      ⟨_, rfl, Nat.zero_le _, η1, φ1, rep1, Ext.refl _ _, New.self, by rw [List.drop_zero]; exact p⟩, ?_⟩
    rintro i mm σ2 H2 ⟨rfl, hi, η2, φ2, rep2, ex2, n2, p2⟩
    have E2 : Ext (foot φ) H H2 := ex1.trans n1 ex2
    have N2 : New (foot φ) H (foot φ2) := New.trans ex1 n1 n2
    by_cases hlt : i < it.items.length
    · have hd : it.items.drop i = it.items[i] :: it.items.drop (i + 1) := List.drop_eq_getElem_cons hlt
      rw [hd] at p2
      unfold forGo at p2
      split at p2
      · rename_i ok
        have hv := hinv H2 σ2 η2 φ2 rep2 ex2 ok
        refine .inr ⟨wk.go i H2 hv hlt, fun σ3 H3 => ∃ η3 φ3, RepE K ρ' H3 σ3 η3 φ3 ∧ Ext (foot φ1) H1 H3 ∧ New (foot φ1) H1 (foot φ3) ∧ PostS K ρ mg W (foot φ) H E ((forGo it t body (it.items.drop (i + 1)) η3).freed it), fun σ3 H3 ⟨η3, φ3, a1, a2, a3, a4⟩ => ⟨it.items.length - (i + 1), by omega, rfl, hlt, η3, φ3, a1, a2, a3, a4⟩, fun x H' y => ?_⟩
        obtain ⟨d, hd1, hd2, hd3⟩ := wk.yld i H2 x H' hv hlt y
        have hd4 : it.items[i] = d := by
          rw [List.getElem?_eq_getElem hlt] at hd1
          exact Option.some.inj hd1
        rw [hd4] at p2
        have repY : RepE K ρ' H' σ2 η2 φ2 := rep2.ext hd3 fun _ _ z => z
        have exY : Ext (foot φ1) H1 H' := ex2.trans n2 (hd3.weak fun _ z => z.elim)
        have EY : Ext (foot φ) H H' := ex1.trans n1 exY
        refine ⟨ρ', .d d, none_, η2, φ2, repY, ⟨hd2, fun _ => id⟩, fun _ z => z.elim, ?_⟩
        have ni : ∀ {φ3 : FS} {H3 : Hp}, New (uni none_ (foot φ2)) H' (foot φ3) → New (foot φ1) H1 (foot φ3) := fun {φ3 H3} n3 => New.trans exY (n2.sub fun _ h => h.elim (fun z => z.elim) id) n3
        have ei : ∀ {H3 : Hp}, Ext (uni none_ (foot φ2)) H' H3 → Ext (foot φ1) H1 H3 := fun {H3} e3 => exY.trans (n2.sub fun _ h => h.elim (fun z => z.elim) id) e3
        cases ht : t (.d d) η2 with
        | nx η3 =>
          rw [ht] at p2
          intro σ3 H3 φ3 rep3 ex3 n3
          have nn3 := ni (H3 := H3) n3
          have ee3 := ei ex3
          refine ⟨ρ', η3, φ3, rep3, ?_⟩
          cases hb : body η3 with
          | nx η4 =>
            simp only [hb] at p2
            intro σ4 H4 φ4 rep4 ex4 n4
            exact ⟨η4, φ4, rep4, ee3.trans nn3 ex4, New.trans ee3 nn3 n4, p2⟩
          | ct η4 =>
            simp only [hb] at p2
            intro σ4 H4 φ4 rep4 ex4 n4
            exact ⟨η4, φ4, rep4, ee3.trans nn3 ex4, New.trans ee3 nn3 n4, p2⟩
          | bk η4 =>
            simp only [hb, SOut.freed] at p2
            intro σ4 H4 φ4 rep4 ex4 n4
            cases hf : it.free η4 with
            | none => rw [hf] at p2; exact p2.elim
            | some η5 =>
              rw [hf] at p2
              exact p2 σ4 H4 φ4 (rep4.free same hf) (ex1.trans n1 (ee3.trans nn3 ex4)) (New.trans ex1 n1 (New.trans ee3 nn3 n4))
          | rt r4 η4 =>
            simp only [hb, SOut.freed] at p2
            intro v σ4 H4 φ4 f4 rep4 ok4 d4 ex4 n4
            cases hf : it.free η4 with
            | none => rw [hf] at p2; exact p2.elim
            | some η5 =>
              rw [hf] at p2
              exact p2 v σ4 H4 φ4 f4 (rep4.free same hf) ok4 d4 (ex1.trans n1 (ee3.trans nn3 ex4)) (New.trans ex1 n1 (New.trans ee3 nn3 n4))
          | err x4 η4 =>
            simp only [hb, SOut.freed] at p2
            intro cls dx σ4 H4 φ4 rep4 ex4 n4 xk
            cases hf : it.free η4 with
            | none => rw [hf] at p2; exact p2.elim
            | some η5 =>
              rw [hf] at p2
              exact p2 cls dx σ4 H4 φ4 (rep4.free same hf) (ex1.trans n1 (ee3.trans nn3 ex4)) (New.trans ex1 n1 (New.trans ee3 nn3 n4)) xk
          | stuck => simp only [hb, SOut.freed] at p2; exact p2.elim
        | err x3 η3 =>
          rw [ht] at p2
          simp only [SOut.freed] at p2
          intro cls dx σ3 H3 φ3 rep3 ex3 n3 xk
          cases hf : it.free η3 with
          | none => rw [hf] at p2; exact p2.elim
          | some η5 =>
            rw [hf] at p2
            exact p2 cls dx σ3 H3 φ3 (rep3.free same hf) (ex1.trans n1 (ei ex3)) (New.trans ex1 n1 (ni (H3 := H3) n3)) xk
        | rt _ _ => rw [ht] at p2; simp only [SOut.freed] at p2; exact p2.elim
        | bk _ => rw [ht] at p2; simp only [SOut.freed] at p2; exact p2.elim
        | ct _ => rw [ht] at p2; simp only [SOut.freed] at p2; exact p2.elim
        | stuck => rw [ht] at p2; simp only [SOut.freed] at p2; exact p2.elim
      · simp only [SOut.freed] at p2; exact p2.elim
    · have hi : it.items.length ≤ i := by omega
      rw [List.drop_eq_nil_of_le hi] at p2
      unfold forGo at p2
      split at p2
      · rename_i ok
        refine .inl ⟨wk.stop i H2 (hinv H2 σ2 η2 φ2 rep2 ex2 ok) hi, ?_⟩
        simp only [SOut.freed] at p2
        cases hf : it.free η2 with
        | none => rw [hf] at p2; exact p2.elim
        | some η5 =>
          rw [hf] at p2
          exact p2 σ2 H2 φ2 (rep2.free same hf) E2 N2
      · simp only [SOut.freed] at p2; exact p2.elim
theorem ds_for {iter : Expr} {body : List Stmt} {mi : M ItD} {t : Tg} {mb : MS} (hp : PassesOwn (model X.prog X.w) X.A X.env X.xe) (hc : X.calm = true) (hi : DIt X W tg iter mi) (hg : DGt X W tg t) (hb : DSs X W body mb)
    (hs : ∀ x, foldedSetIterable iter X.env x = pure x := by intro _; rfl) : DS X W (.For tg iter body [] pos) (sFor mi t mb) :=
  ps_mono (ps_for hp hc hi hg hb hs) fun E σ H ⟨ρ, η, φ, r, p⟩ => for_core ⟨η, φ, r, p⟩

/-! ### while -/
def whileN (c : M Bool) (body : MS) : Nat → MS
  | 0, _ => .stuck
  | n + 1, η => match c η with
    | .ok true η1 => (match body η1 with
      | .nx η2 => whileN c body n η2
      | .ct η2 => whileN c body n η2
      | .bk η2 => .nx η2
      | .rt r η2 => .rt r η2
      | .err x η2 => .err x η2
      | .stuck => .stuck)
    | .ok false η1 => .nx η1
    | .err x η1 => .err x η1
    | .stuck => .stuck
noncomputable def sWhile (c : M Bool) (body : MS) : MS := fun η => if h : ∃ n, whileN c body n η ≠ .stuck then whileN c body (choose h) η else .stuck
theorem whileN_up {c : M Bool} {body : MS} : ∀ {n j : Nat} {η : Env}, whileN c body n η ≠ .stuck → whileN c body (n + j) η = whileN c body n η
  | 0, j, η, h => (h rfl).elim
  | n + 1, j, η, h => by
    have e : n + 1 + j = (n + j) + 1 := by omega
    rw [e]
    unfold whileN at h ⊢
    cases q : c η with
    | ok b η1 =>
      cases b with
      | true =>
        simp only [q] at h ⊢
        cases q2 : body η1 with
        | nx η2 => simp only [q2] at h ⊢; exact whileN_up h
        | ct η2 => simp only [q2] at h ⊢; exact whileN_up h
        | bk η2 => rfl
        | rt r η2 => rfl
        | err x η2 => rfl
        | stuck => rfl
      | false => rfl
    | err x η1 => rfl
    | stuck => rfl
theorem sWhile_eq {c : M Bool} {body : MS} {n : Nat} {η : Env} {o : SOut} (h : whileN c body n η = o) (ho : o ≠ .stuck) : sWhile c body η = o := by
  have hx : ∃ n, whileN c body n η ≠ .stuck := ⟨n, by rw [h]; exact ho⟩
  unfold sWhile
  rw [dif_pos hx]
  have h1 := choose_spec hx
  have h2 := whileN_up (j := n) h1
  have h3 := whileN_up (n := n) (j := choose hx) (η := η) (c := c) (body := body) (by rw [h]; exact ho)
  rw [← h, ← h3, Nat.add_comm, h2]
theorem ds_while {body : List Stmt} {mc : M Bool} {mb : MS} (hp : PassesOwn (model X.prog X.w) X.A X.env X.xe) (hc : DT X W c mc) (hb : DSs X W body mb) : DS X W (.While c body [] pos) (sWhile mc mb) :=
  ps_mono (ps_while hp hc hb) fun E σ H ⟨ρ, η, φ, r, p⟩ => by
    unfold sWhile at p
    split at p
    · rename_i hx
      generalize choose hx = n0 at p
      refine ⟨fun n σ2 H2 => ∃ η2 φ2, RepE X.K ρ H2 σ2 η2 φ2 ∧ Ext (foot φ) H H2 ∧ New (foot φ) H (foot φ2) ∧ PostS X.K ρ X.mg W (foot φ) H E (whileN mc mb n η2), ⟨n0, η, φ, r, Ext.refl _ _, New.self, p⟩, ?_⟩
      rintro n σ2 H2 ⟨η2, φ2, rep2, ex2, n2, p2⟩
      cases n with
      | zero => exact p2.elim
      | succ n =>
        unfold whileN at p2
        refine ⟨ρ, η2, φ2, rep2, ?_⟩
        cases q : mc η2 with
        | stuck => simp only [q] at p2; exact p2.elim
        | err x η3 =>
          simp only [q] at p2
          exact fun cls dx H' φ' rep ex nn xk => p2 cls dx σ2 H' φ' rep (ex2.trans n2 ex) (New.trans ex2 n2 nn) xk
        | ok b η3 =>
          cases b with
          | false =>
            simp only [q] at p2
            intro H' φ' rep ex nn
            exact p2 σ2 H' φ' rep (ex2.trans n2 ex) (New.trans ex2 n2 nn)
          | true =>
            simp only [q] at p2
            intro H3 φ3 rep3 ex3 nn3
            have E3 := ex2.trans n2 ex3
            have N3 := New.trans ex2 n2 nn3
            refine ⟨fun σ4 H4 => ∃ η4 φ4, RepE X.K ρ H4 σ4 η4 φ4 ∧ Ext (foot φ) H H4 ∧ New (foot φ) H (foot φ4) ∧ PostS X.K ρ X.mg W (foot φ) H E (whileN mc mb n η4), fun σ4 H4 z => ⟨n, Nat.lt_succ_self _, z⟩, ρ, η3, φ3, rep3, ?_⟩
            cases hb : mb η3 with
            | nx η4 =>
              simp only [hb] at p2
              exact fun σ4 H4 φ4 rep4 ex4 n4 => ⟨η4, φ4, rep4, E3.trans N3 ex4, New.trans E3 N3 n4, p2⟩
            | ct η4 =>
              simp only [hb] at p2
              exact fun σ4 H4 φ4 rep4 ex4 n4 => ⟨η4, φ4, rep4, E3.trans N3 ex4, New.trans E3 N3 n4, p2⟩
            | bk η4 =>
              simp only [hb] at p2
              exact fun σ4 H4 φ4 rep4 ex4 n4 => p2 σ4 H4 φ4 rep4 (E3.trans N3 ex4) (New.trans E3 N3 n4)
            | rt r4 η4 =>
              simp only [hb] at p2
              exact fun v σ4 H4 φ4 f4 rep4 ok4 d4 ex4 n4 => p2 v σ4 H4 φ4 f4 rep4 ok4 d4 (E3.trans N3 ex4) (New.trans E3 N3 n4)
            | err x4 η4 =>
              simp only [hb] at p2
              exact fun cls dx σ4 H4 φ4 rep4 ex4 n4 xk => p2 cls dx σ4 H4 φ4 rep4 (E3.trans N3 ex4) (New.trans E3 N3 n4) xk
            | stuck => simp only [hb] at p2; exact p2.elim
    · exact p.elim
end
end DD


/-! Comprehensions; isinstance; list(range(..)); enumerate. -/
namespace DD
open PySem PySem.Spec PyProof.Rows L2
open Classical

/-! ### targets that store plain data in the slots vs -/
def gC (K : PySem.W.Frag) (vs : List Nat) (t : Tg) : TG := fun v σ H Q => ∃ ρ x η φ η', RepE K ρ H σ η φ ∧ Rp K H v x ∧ t (.d x) η = .nx η' ∧
  ∀ σ' φ', RepE K ρ H σ' η' φ' → (∀ a, foot φ' a → foot φ a) → wipe σ' vs = wipe σ vs → Q σ' H
abbrev TgC (X : Cx) (vs : List Nat) (tg : Expr) (t : Tg) : Prop := PG X tg (gC X.K vs t)
def gCs (K : PySem.W.Frag) (vs : List Nat) (ts : List Tg) : TGs := fun ws σ H Q => ∃ ρ xs η φ η', RepE K ρ H σ η φ ∧ Rps K H ws xs ∧ xs.length = ts.length ∧ gTupD.gEach ts xs η = .nx η' ∧
  ∀ σ' φ', RepE K ρ H σ' η' φ' → (∀ a, foot φ' a → foot φ a) → wipe σ' vs = wipe σ vs → Q σ' H
theorem wipe_set {σ : L2.St} {i : Nat} {v : Option V} : ∀ {vs : List Nat}, i ∈ vs → wipe (σ.set i v) vs = wipe σ vs
  | j :: vs, h => by
    unfold wipe
    by_cases hi : i ∈ vs
    · rw [wipe_set hi]
    · have e : j = i := by
        rcases List.mem_cons.mp h with z | z
        · exact z.symm
        · exact (hi z).elim
      subst e
      rw [wipe_comm hi, List.set_set]
where
  wipe_comm {σ : L2.St} {i : Nat} {v : Option V} : ∀ {vs : List Nat}, i ∉ vs → wipe (σ.set i v) vs = (wipe σ vs).set i v
    | [], _ => rfl
    | j :: vs, h => by
      unfold wipe
      have h1 : i ≠ j := fun e => h (by rw [e]; exact List.mem_cons_self)
      have h2 : i ∉ vs := fun z => h (List.mem_cons_of_mem _ z)
      rw [wipe_comm h2, List.set_comm _ _ h1]
theorem wipe_wipe {σ : L2.St} {vs : List Nat} : wipe (wipe σ vs) vs = wipe σ vs := go vs fun _ h => h
where
  go {σ : L2.St} {vs : List Nat} : ∀ ws : List Nat, (∀ i ∈ ws, i ∈ vs) → wipe (wipe σ ws) vs = wipe σ vs
    | [], _ => rfl
    | i :: ws, h => by
      show wipe ((wipe σ ws).set i none) vs = _
      rw [wipe_set (h i List.mem_cons_self)]
      exact go ws fun j hj => h j (List.mem_cons_of_mem _ hj)
theorem rdD_rp {K : PySem.W.Frag} {ρ : Nat → Addr} {H : Hp} {σ : L2.St} {η : Env} {φ : FS} {r : Ref} {v : V} {f : AS} {y : D} (rep : RepE K ρ H σ η φ) (ok : RefOk K H σ r v f) (h : rdD η r = some y) : Rp K H v y := by
  cases r with
  | vl x =>
    cases x with
    | d z => cases h; exact ok.1
    | _ => cases h
  | sl i =>
    have ok : σ[i]? = some (some v) := ok.1
    unfold rdD at h
    cases q : rd η (.sl i) with
    | none => rw [q] at h; cases h
    | some x =>
      rw [q] at h
      cases x with
      | d z =>
        cases h
        obtain ⟨x, e, hx⟩ : ∃ x, η[i]? = some (some x) ∧ x.norm = .d y := by
          unfold rd at q
          dsimp only at q
          split at q
          · rename_i x hx; exact ⟨x, hx, Option.some.inj q⟩
          · cases q
        obtain ⟨v', e1, e2⟩ := rep.rep i _ e
        rw [ok] at e1
        cases e1
        have e3 := repV_norm e2
        rw [hx] at e3
        exact e3.1
      | _ => cases h
section
variable {X : Cx} {W : WX} {k : Nat} {e a b c tg : Expr} {m m1 m2 : M Ref} {pos p p2 p3 : Pos} {x : Str} {vs : List Nat}
theorem tgc_name {i : Nat} (hN : X.N.Nodup) (hi : X.N[i]? = some x) (hx : Loc X.env.scope x) (hv : i ∈ vs) (hf : X.fn x = true ∨ X.env.scope.names.lookup x = some .local := by first | exact .inl rfl | exact .inr rfl | assumption) : TgC X vs (.Name x pos) (gSet i) :=
  pg_mono (pg_name hN hi hx hf) fun v σ H Q ⟨ρ, x, η, φ, η', r, h, q, kk⟩ => by
    obtain ⟨φ', r', n⟩ := r.set (x := .d x) (f := none_) ⟨h, fun _ => id⟩ rfl (fun _ z => z.elim) i
    cases q
    exact kk _ φ' r' (fun a ha => (n a ha).elim (fun z => z.elim) id) (wipe_set hv)
theorem tgcs_nil : PGs X [] (gCs X.K vs []) :=
  pgs_mono pgs_nil fun ws σ H Q ⟨ρ, xs, η, φ, η', r, h, hl, q, kk⟩ => by
    cases xs with
    | nil =>
      cases h
      cases q
      exact ⟨rfl, kk σ φ r (fun _ h => h) rfl⟩
    | cons _ _ => simp at hl
theorem tgcs_cons {t : Tg} {ts : List Tg} {es : List Expr} (h1 : TgC X vs e t) (h2 : PGs X es (gCs X.K vs ts)) (hs : (assignEach (e :: es) X.env).map (·.2) = assign e X.env :: (assignEach es X.env).map (·.2) := by rfl) : PGs X (e :: es) (gCs X.K vs (t :: ts)) :=
  pgs_mono (pgs_cons h1 h2 hs) fun ws σ H Q ⟨ρ, xs, η, φ, η', r, h, hl, q, kk⟩ => by
    cases xs with
    | nil => simp at hl
    | cons x xs =>
      cases h with
      | @cons v0 vs0 _ _ hd ht =>
        unfold gTupD.gEach at q
        cases q1 : t (.d x) η with
        | nx η1 =>
          rw [q1] at q
          refine ⟨v0, vs0, rfl, ρ, x, η, φ, η1, r, hd, q1, fun σ1 φ1 r1 n1 w1 => ?_⟩
          exact ⟨ρ, xs, η1, φ1, η', r1, ht, by simpa using hl, q, fun σ2 φ2 r2 n2 w2 => kk σ2 φ2 r2 (fun a ha => n1 a (n2 a ha)) (w2.trans w1)⟩
        | _ => rw [q1] at q; cases q
theorem tgc_tup {es : List Expr} {kk : Nat} {ts : List Tg} (hc : X.calm = true) (h : PGs X es (gCs X.K vs ts)) (hn : (assignEach es X.env).length = ts.length := by rfl) (hst : (assignEach es X.env).findIdx? (·.1) = none := by rfl) :
    TgC X vs (.Tuple es kk pos) (gTupD ts) :=
  pg_mono (pg_tup hc h hn hst) fun v σ H Q ⟨ρ, x, η, φ, η', r, rv, q, k2⟩ => by
    unfold gTupD at q
    split at q
    · split at q
      · rename_i xs he hl
        cases he
        obtain ⟨a1, ws, rfl, t1, d1⟩ := dp_tup rv rfl
        exact ⟨a1, ws, rfl, t1, by rw [dps_len d1]; exact hl, ρ, xs, η, φ, η', r, d1, hl, q, k2⟩
      · cases q
    · split at q
      · rename_i xs he hl
        cases he
        obtain ⟨a1, ws, rfl, t1, d1⟩ := dp_tup rv rfl
        exact ⟨a1, ws, rfl, t1, by rw [dps_len d1]; exact hl, ρ, xs, η, φ, η', r, d1, hl, q, k2⟩
      · cases q
    · cases q
end

/-! ### the block of a comprehension -/
abbrev WF : WX := fun _ _ _ _ => False
def wipeE (η : Env) : List Nat → Env
  | [] => η
  | v :: vs => (wipeE η vs).set v none
section
variable {K : PySem.W.Frag} {ρ : Nat → Addr} {mg : Str → Option Value} {W : WX} {σ : L2.St} {A : AS} {H₀ H H' : Hp} {η η' : Env} {φ φ' : FS}
theorem RepE.wipe (r : RepE K ρ H σ η φ) : ∀ vs : List Nat, ∃ φ', RepE K ρ H (L2.wipe σ vs) (wipeE η vs) φ' ∧ ∀ a, foot φ' a → foot φ a
  | [] => ⟨φ, r, fun _ h => h⟩
  | v :: vs => by
    obtain ⟨φ1, r1, n1⟩ := r.wipe vs
    obtain ⟨φ2, r2, n2⟩ := r1.unset v none
    exact ⟨φ2, r2, fun a h => n1 a (n2 a h)⟩
/-- back to the slots as they stood -/
theorem RepE.unwipe {vs : List Nat} {σ2 : L2.St} (r : RepE K ρ H (L2.wipe σ2 vs) η φ) (e : L2.wipe σ2 vs = L2.wipe σ vs) : RepE K ρ H σ η φ := by
  rw [e] at r
  refine ⟨by rw [← r.len, wipe_length], fun i x h => ?_, r.emp, r.dis, fun i xs h hk => ?_⟩
  · obtain ⟨v, h1, h2⟩ := r.rep i x h
    exact ⟨v, (wipe_some h1).1, h2⟩
  · exact (wipe_some (r.pin i xs h hk)).1
end
/-- the items, one by one: the target, the test, the value; what is had so far -/
noncomputable def lcGo (it : ItD) (vs : List Nat) (t : Tg) (c : M Bool) (el : M Ref) : List D → List D → Env → Out (List D)
  | [], acc, η => if it.ok η then .ok acc η else .stuck
  | x :: xs, acc, η => if it.ok η then (match t (.d x) (wipeE η vs) with
      | .nx η1 => (match c η1 with
        | .ok true η2 => (match el η2 with
          | .ok r η3 => (match rdD η3 r with
            | some y => if acc.length < sizeLine then lcGo it vs t c el xs (acc ++ [y]) (wipeE η3 vs) else .stuck
            | none => .stuck)
          | _ => .stuck)
        | .ok false η2 => lcGo it vs t c el xs acc (wipeE η2 vs)
        | _ => .stuck)
      | _ => .stuck) else .stuck
def lcEnd (it : ItD) : Out (List D) → Out Ref
  | .ok acc η2 => (match it.free η2 with
      | some η3 => .ok (.vl (.l acc)) η3
      | none => .stuck)
  | _ => .stuck
noncomputable def mLc (mi : M ItD) (vs : List Nat) (t : Tg) (c : M Bool) (el : M Ref) : M Ref := fun η => match mi η with
  | .ok it η1 => lcEnd it (lcGo it vs t c el it.items [] (wipeE η1 vs))
  | .err x η1 => .err x η1
  | .stuck => .stuck
def mYes : M Bool := fun η => .ok true η
section
variable {X : Cx} {W : WX} {k : Nat} {e a b c tg : Expr} {m m1 m2 : M Ref} {pos p p2 p3 : Pos} {x : Str} {vs : List Nat}
theorem tT_yes {K : PySem.W.Frag} {mg : Str → Option Value} {σ : L2.St} {H : Hp} {Q : Bool → Hp → Prop} (t : tT K mg W mYes σ H Q) : tYes σ H Q := by
  obtain ⟨ρ, η, φ, r, p⟩ := t
  exact p H φ r (Ext.refl _ _) New.self
theorem dts_nil : PTs X [] (tT X.K X.mg W mYes) := ⟨fun pins s σ H Q I h => pts_nil.run pins s σ H Q I (tT_yes h)⟩
theorem dts_one {mc : M Bool} (h : DT X W c mc) : PTs X [c] (tT X.K X.mg W mc) := pts_one h
theorem takesF {X : Cx} : Takes X WF := fun _ _ ⟨_, _, _, _, _, _, _, _, _, _, _, _, _, _, _, _, z⟩ => z.elim
theorem Cc.blk (cc : Cc X W k) (s : Shared) (H : Hp) (scope : Scope) (cl : List (Str × Addr)) (C : Addr) (fp : List Addr) : Cc (X.blk s H scope (compEnvC scope cl C X.env) fp) WF k :=
  ⟨cc.calm, cc.room, cc.grd, cc.nd, takesF⟩
theorem lc_core {K : PySem.W.Frag} {mg : Str → Option Value} {σ : L2.St} {H : Hp} {Q : VK} {mi : M ItD} {t : Tg} {mc : M Bool} {el : M Ref} (h : tE K mg W (mLc mi vs t mc el) σ H Q) : tLc (tI K mg W mi) (gC K vs t) (tT K mg WF mc) (tE K mg WF el) vs σ H Q := by
  obtain ⟨ρ, η, φ, r, p⟩ := h
  refine ⟨ρ, η, φ, r, ?_⟩
  unfold mLc at p
  cases q : mi η with
  | stuck => rw [q] at p; exact p.elim
  | err x η1 => rw [q] at p; exact p
  | ok it η1 =>
    rw [q] at p
    dsimp only at p
    intro J H1 ρ' φ1 inv rep1 ex1 n1 same hinv wk L hL
    obtain ⟨φw, repw, nw⟩ := rep1.wipe vs
    have exL : Ext (foot φ1) H1 (L2.upd H1 L (.lst [])) := Ext.new hL
    have nL : ¬ foot φ1 L := fun z => by
      obtain ⟨o, e, _⟩ := rep1.there z
      rw [hL] at e; cases e
    refine ⟨fun i mm H2 => mm = it.items.length - i ∧ i ≤ it.items.length ∧ ∃ η2 φ2 acc as, RepE K ρ' H2 (wipe σ vs) η2 φ2 ∧ Ext (foot φ1) H1 H2 ∧ New (foot φ1) H1 (foot φ2) ∧ ¬ foot φ2 L ∧ H2 L = some (.lst as) ∧ Rps K H2 as acc ∧
      Post K ρ mg W σ (foot φ) H Q (lcEnd it (lcGo it vs t mc el (it.items.drop i) acc η2)), ⟨_, rfl, Nat.zero_le _, wipeE η1 vs, φw, [], [], repw.ext (A := none_) (Ext.new hL) (fun _ _ z => z), exL, (New.self (A := foot φ1)).sub nw, fun z => nL (nw _ z), upd_same, .nil, by rw [List.drop_zero]; exact p⟩, ?_⟩
    rintro i mm H2 ⟨rfl, hi, η2, φ2, acc, as, rep2, ex2, n2, nL2, hL2, hacc, p2⟩
    by_cases hlt : i < it.items.length
    · have hd : it.items.drop i = it.items[i] :: it.items.drop (i + 1) := List.drop_eq_getElem_cons hlt
      rw [hd] at p2
      unfold lcGo at p2
      by_cases ok : it.ok η2
      · rw [if_pos ok] at p2
        have hv := hinv H2 _ η2 φ2 rep2 ex2 ok
        refine .inr ⟨wk.go i H2 hv hlt, fun H3 => ∃ η3 φ3 acc as, RepE K ρ' H3 (wipe σ vs) η3 φ3 ∧ Ext (foot φ1) H1 H3 ∧ New (foot φ1) H1 (foot φ3) ∧ ¬ foot φ3 L ∧ H3 L = some (.lst as) ∧ Rps K H3 as acc ∧
          Post K ρ mg W σ (foot φ) H Q (lcEnd it (lcGo it vs t mc el (it.items.drop (i + 1)) acc η3)), fun H3 z => ⟨it.items.length - (i + 1), by omega, rfl, hlt, z⟩, fun x H' y => ?_⟩
        obtain ⟨d, hd1, hd2, hd3⟩ := wk.yld i H2 x H' hv hlt y
        have hd4 : it.items[i] = d := by
          rw [List.getElem?_eq_getElem hlt] at hd1
          exact Option.some.inj hd1
        rw [hd4] at p2
        have repY : RepE K ρ' H' (wipe σ vs) η2 φ2 := rep2.ext hd3 fun _ _ z => z
        have exY : Ext (foot φ1) H1 H' := ex2.trans n2 (hd3.weak fun _ z => z.elim)
        have hLY : H' L = some (.lst as) := hd3 _ _ hL2 (.inl id)
        have haccY : Rps K H' as acc := dps_ext hd3 _ _ hacc
        obtain ⟨φ3, rep3, n3⟩ := repY.wipe vs
        have ww : wipe (wipe σ vs) vs = wipe σ vs := wipe_wipe
        rw [ww] at rep3
        cases ht : t (.d d) (wipeE η2 vs) with
        | nx η3 =>
          rw [ht] at p2
          dsimp only at p2
          refine ⟨ρ', d, wipeE η2 vs, φ3, η3, rep3, hd2, ht, fun σ4 φ4 rep4 n4 w4 => ⟨by rw [w4, ww], ρ', η3, φ4, rep4, ?_⟩⟩
          have n14 : New (foot φ1) H1 (foot φ4) := n2.sub fun a ha => n3 a (n4 a ha)
          have nL4 : ¬ foot φ4 L := fun z => nL2 (n3 _ (n4 _ z))
          -- the turn's end, from the heap H5 on
          have fin : ∀ {H5 : Hp} {φ5 : FS} {η5 : Env}, RepE K ρ' H5 σ4 η5 φ5 → Ext (foot φ4) H' H5 → New (foot φ4) H' (foot φ5) → ∃ φ6, RepE K ρ' H5 (wipe σ vs) (wipeE η5 vs) φ6 ∧ Ext (foot φ1) H1 H5 ∧ New (foot φ1) H1 (foot φ6) ∧ ¬ foot φ6 L ∧ H5 L = some (.lst as) ∧ Rps K H5 as acc := fun {H5 φ5 η5} rep5 ex5 n5 => by
            obtain ⟨φ6, rep6, n6⟩ := rep5.wipe vs
            rw [w4, ww] at rep6
            refine ⟨φ6, rep6, exY.trans n14 ex5, (New.trans exY n14 n5).sub n6, fun z => ?_, ex5 _ _ hLY (.inl nL4), dps_ext ex5 _ _ haccY⟩
            rcases n5 L (n6 L z) with z | z
            · exact nL4 z
            · rw [hLY] at z; cases z
          cases hc : mc η3 with
          | stuck => simp only [hc] at p2; exact p2.elim
          | err x5 η5 => simp only [hc] at p2; exact p2.elim
          | ok bb η5 =>
            cases bb with
            | false =>
              simp only [hc] at p2
              intro H5 φ5 rep5 ex5 n5
              obtain ⟨φ6, a1, a2, a3, a4, a5, a6⟩ := fin rep5 ex5 n5
              rw [if_neg Bool.false_ne_true]
              exact ⟨wipeE η5 vs, φ6, acc, as, a1, a2, a3, a4, a5, a6, p2⟩
            | true =>
              simp only [hc] at p2
              intro H5 φ5 rep5 ex5 n5
              rw [if_pos rfl]
              refine ⟨ρ', η5, φ5, rep5, ?_⟩
              cases he : el η5 with
              | stuck => simp only [he] at p2; exact p2.elim
              | err x6 η6 => simp only [he] at p2; exact p2.elim
              | ok r6 η6 =>
                simp only [he] at p2
                cases hy : rdD η6 r6 with
                | none => simp only [hy] at p2; exact p2.elim
                | some y6 =>
                  simp only [hy] at p2
                  by_cases hz : acc.length < sizeLine
                  · rw [if_pos hz] at p2
                    intro v H7 φ7 f7 rep7 ok7 d7 ex7 n7
                    have ex57 := ex5.trans n5 ex7
                    have n57 : New (foot φ4) H' (foot φ7) := (New.trans ex5 n5 n7).sub fun _ h => .inr h
                    obtain ⟨φ8, a1, a2, a3, a4, a5, a6⟩ := fin rep7 ex57 n57
                    have hv7 : Rp K H7 v y6 := rdD_rp rep7 ok7 hy
                    refine ⟨as, a5, by rw [dps_len a6]; exact hz, ?_⟩
                    have exA : Ext (fun a => a = L) H7 (L2.upd H7 L (.lst (as ++ [v]))) := Ext.upd (.inl rfl) fun u hu => by rw [a5] at hu; cases hu; exact id
                    refine ⟨wipeE η6 vs, φ8, acc ++ [y6], as ++ [v], a1.ext exA fun a ha hb => a4 (by rw [← hb]; exact ha), ?_, a3, a4, upd_same, ?_, p2⟩
                    · refine fun a o h k => ?_
                      by_cases hq : a = L
                      · subst hq
                        rw [hL] at h; cases h
                      · rw [upd_ne hq]
                        exact a2 a o h k
                    · exact dps_ext exA _ _ (dps_app a6 (dps_one hv7))
                  · rw [if_neg hz] at p2; exact p2.elim
        | err _ _ => simp only [ht] at p2; exact p2.elim
        | rt _ _ => simp only [ht] at p2; exact p2.elim
        | bk _ => simp only [ht] at p2; exact p2.elim
        | ct _ => simp only [ht] at p2; exact p2.elim
        | stuck => simp only [ht] at p2; exact p2.elim
      · rw [if_neg ok] at p2; exact p2.elim
    · have hi : it.items.length ≤ i := by omega
      rw [List.drop_eq_nil_of_le hi] at p2
      unfold lcGo at p2
      by_cases ok : it.ok η2
      · rw [if_pos ok] at p2
        refine .inl ⟨wk.stop i H2 (hinv H2 _ η2 φ2 rep2 ex2 ok) hi, ?_⟩
        simp only [lcEnd] at p2
        cases hf : it.free η2 with
        | none => rw [hf] at p2; exact p2.elim
        | some η5 =>
          rw [hf] at p2
          have rep3 : RepE K ρ' H2 σ η2 φ2 := RepE.unwipe (σ2 := σ) rep2 rfl
          refine p2 (.ref L) H2 φ2 (fun a => a = L) (rep3.free same hf) ⟨L, as, rfl, hL2, hacc, fun _ => Iff.rfl⟩ (fun a ha hb => nL2 (by rw [← ha]; exact hb)) (ex1.trans n1 ex2) ?_
          refine fun a ha => ?_
          rcases ha with ha | ha
          · have ha : a = L := ha
            rw [ha]
            exact ex1.fresh hL
          · exact (New.trans ex1 n1 n2) a ha
      · rw [if_neg ok] at p2; exact p2.elim
end
end DD


/-! Rules that use the comprehension's core; isinstance; ranges; enumerate. -/
namespace DD
open PySem PySem.Spec PyProof.Rows L2
open Classical
section
variable {X : Cx} {W : WX} {k : Nat} {e a b c tg : Expr} {m m1 m2 : M Ref} {pos spos p p2 p3 : Pos} {x : Str} {vs : List Nat}
theorem de_lc {elt iter : Expr} {ifs : List Expr} {scope : Scope} {own : List (Str × Nat)} {mi : M ItD} {t : Tg} {mc : M Bool} {el : M Ref} (cc : Cc X W k) (hi : DIt X W tg iter mi) (ok : blkC X.N X.env.scope scope own = true)
    (hg : ∀ (s : Shared) (H : Hp) (C : Addr) (cl : List (Str × Addr)) (fp : List Addr), TgC (X.blk s H scope (compEnvC scope cl C X.env) fp) (own.map (·.2)) tg t)
    (ht : ∀ (s : Shared) (H : Hp) (C : Addr) (cl : List (Str × Addr)) (fp : List Addr), Cc (X.blk s H scope (compEnvC scope cl C X.env) fp) WF k → PTs (X.blk s H scope (compEnvC scope cl C X.env) fp) ifs (tT X.K X.mg WF mc))
    (he : ∀ (s : Shared) (H : Hp) (C : Addr) (cl : List (Str × Addr)) (fp : List Addr), Cc (X.blk s H scope (compEnvC scope cl C X.env) fp) WF k → DE (X.blk s H scope (compEnvC scope cl C X.env) fp) WF elt el)
    (hs : ∀ x, foldedSetIterable iter X.env x = pure x := by intro _; rfl) : DE X W (.ListComp elt [⟨tg, iter, ifs, 0⟩] scope pos) (mLc mi (own.map (·.2)) t mc el) :=
  pe_mono (pe_lc cc.calm cc.nd hi (blkOk_by ok) hg (fun s H C cl fp => ht s H C cl fp (cc.blk s H scope cl C fp)) (fun s H C cl fp => he s H C cl fp (cc.blk s H scope cl C fp)) hs) fun σ H Q h => lc_core h
theorem ds_setLc {i : Nat} {y : Str} {py : Pos} {elt iter : Expr} {ifs : List Expr} {scope : Scope} {own : List (Str × Nat)} {mi : M ItD} {t : Tg} {mc : M Bool} {el : M Ref} (cc : Cc X W k) (hy : X.N[i]? = some y) (hyl : X.env.scope.names.lookup y = some .local)
    (hsw : swapsWith (.ListComp elt [⟨tg, iter, ifs, 0⟩] scope pos) (some (.Name y py)) spos.line X.env = pure true) (hi : DIt X W tg iter mi) (ok : blkC X.N X.env.scope scope own = true)
    (hg : ∀ (s : Shared) (H : Hp) (C : Addr) (cl : List (Str × Addr)) (fp : List Addr), TgC (X.blk s H scope (compEnvC scope cl C X.env) fp) (own.map (·.2)) tg t)
    (ht : ∀ (s : Shared) (H : Hp) (C : Addr) (cl : List (Str × Addr)) (fp : List Addr), Cc (X.blk s H scope (compEnvC scope cl C X.env) fp) WF k → PTs (X.blk s H scope (compEnvC scope cl C X.env) fp) ifs (tT X.K X.mg WF mc))
    (he : ∀ (s : Shared) (H : Hp) (C : Addr) (cl : List (Str × Addr)) (fp : List Addr), Cc (X.blk s H scope (compEnvC scope cl C X.env) fp) WF k → DE (X.blk s H scope (compEnvC scope cl C X.env) fp) WF elt el)
    (hs : ∀ x, foldedSetIterable iter X.env x = pure x := by intro _; rfl) : DS X W (.Assign [.Name y py] (.ListComp elt [⟨tg, iter, ifs, 0⟩] scope pos) spos) (sAsg (mLc mi (own.map (·.2)) t mc el) (gSet i)) :=
  ps_mono (ps_setLc cc.calm cc.nd hy hyl hsw hi (blkOk_by ok) hg (fun s H C cl fp => ht s H C cl fp (cc.blk s H scope cl C fp)) (fun s H C cl fp => he s H C cl fp (cc.blk s H scope cl C fp)) hs) fun E σ H h =>
    have h2 := asg_use (g := gName i) (fun v σ H Q ⟨ρ, x, f, η, φ, r, h, d, p⟩ => by
      obtain ⟨hx, p⟩ := gSet_ne (P := PostG _ _ _ _ _ _ _) id p
      obtain ⟨φ', r', n⟩ := r.set h hx d i
      exact p _ _ φ' r' (Ext.refl _ _) fun a ha => .inl (n a ha)) (tgok_set i) h
    lc_core h2

/-! ### isinstance(x, T) -/
def tyD : D → String
  | .non => "NoneType" | .bl _ => "bool" | .int _ => "int" | .str _ => "str" | .tup _ => "tuple" | .pt _ => "tuple"
theorem rp_ty {K : PySem.W.Frag} {H : Hp} {v : V} {x : D} (h : Rp K H v x) : TyX K H v (.type (tyD x)) := by
  cases h with
  | non => exact .base .non
  | bl b => exact .base (.bl b)
  | int i => exact .base (.int i)
  | str s => exact .base (.str s)
  | tup h _ =>
    rcases h with ⟨o, h, _⟩ | ⟨o, its, n, h1, h2, _⟩
    · exact .fTuple h
    · exact .kTuple h1 h2
  | pt h _ =>
    rcases h with (h | ⟨o, h⟩) | ⟨o, its, n, h1, h2, _⟩
    · exact .base (.tup h)
    · exact .fTuple h
    · exact .kTuple h1 h2
def isaB (n T : String) : Bool := n == T || (n == "bool" && T == "int")
def bltTys : List String := ["int", "bool", "str", "tuple"]
theorem isa_kit {K : PySem.W.Frag} {x : D} {T : String} (hT : T ∈ bltTys) : PySem.W.kitOne K (.type (tyD x)) (.type T) = some (isaB (tyD x) T) := by
  simp only [bltTys, List.mem_cons, List.mem_nil_iff, or_false] at hT
  rcases hT with rfl | rfl | rfl | rfl <;> cases x <;> rfl
def gIsa (T : String) : Val → Option Val
  | .d x => some (.d (.bl (isaB (tyD x) T)))
  | .l _ => some (.d (.bl false))
  | _ => none
theorem isa_list {K : PySem.W.Frag} {T : String} (hT : T ∈ bltTys) : PySem.W.kitOne K (.type "list") (.type T) = some false := by
  simp only [bltTys, List.mem_cons, List.mem_nil_iff, or_false] at hT
  rcases hT with rfl | rfl | rfl | rfl <;> rfl
def finV (g : Val → Option Val) (r : Ref) : M Ref := fun η => match rd η r with
  | some x => (match g x with
    | some z => .ok (.vl z) η
    | none => .stuck)
  | none => .stuck
def mIsa (T : String) (m : M Ref) : M Ref := m >>= finV (gIsa T)
theorem de_isa {T : String} {y : Str} (hT : T ∈ bltTys) (hg : Gl X "isinstance") (hm : X.mg "isinstance" = none) (hgy : Gl X y) (hmy : X.mg y = none) (hv : bootBuiltins y = some (.type T)) (ha : DE X W a m1)
    (hn : y ≠ "__name__" := by decide) (hdb : (y == ("__debug__" : Str)) = false := by decide)
    (hs : starEach [a, .Name y p2] X.env = (false, eval a X.env) :: starEach [.Name y p2] X.env := by rfl) (hs2 : starEach [.Name y p2] X.env = (false, eval (.Name y p2) X.env) :: starEach [] X.env := by rfl) :
    DE X W (.Call (.Name "isinstance" p) [a, .Name y p2] [] pos) (mIsa T m1) :=
  pe_mono (pe_callB call_isi hg hm (by decide +kernel) (pa_cons ha (pa_cons (pe_bltn (v := .ty T) hgy hmy hv (by rfl) hn hdb) pa_nil hs2) hs) (by decide) (by decide) hs) fun σ H Q ⟨ρ, η, φ, r, p⟩ =>
    tE_mono (fun v H1 ⟨r1, η1, φ1, f1, at_, q⟩ => by
      unfold finV at q
      cases q1 : rd η1 r1 with
      | none => rw [q1] at q; exact q.elim
      | some x =>
        rw [q1] at q
        cases q2 : gIsa T x with
        | none => simp only [q2] at q; exact q.elim
        | some z =>
          simp only [q2] at q
          obtain ⟨g, h, _⟩ := at_.get in0 q1
          cases x with
          | d x => cases q2; exact ⟨v, .ty T, _, _, _, rfl, .ty T, rp_ty h.1, isa_kit hT, at_.data q bl_dp⟩
          | l xs =>
            cases q2
            obtain ⟨a, vs, rfl, h1, h2, h3⟩ := h
            exact ⟨_, .ty T, _, _, _, rfl, .ty T, .base (.lst h1), isa_list hT, at_.data q bl_dp⟩
          | _ => cases q2) ((At.start r).step p)

/-! ### list(range(..)), tuple(range(..)) -/
def PostR (K : PySem.W.Frag) (ρ : Nat → Addr) (mg : Str → Option Value) (W : WX) (σ : L2.St) (A : AS) (H : Hp) (Q : Int → Int → Hp → Prop) : Out (Int × Int) → Prop
  | .ok p η' => ∀ H' φ', RepE K ρ H' σ η' φ' → Ext A H H' → New A H (foot φ') → Q p.1 p.2 H'
  | .err x η' => ∀ cls dx H' φ', RepE K ρ H' σ η' φ' → Ext A H H' → New A H (foot φ') → ExnOk K mg H' x cls dx → W cls dx σ H'
  | .stuck => False
def tR (K : PySem.W.Frag) (mg : Str → Option Value) (W : WX) (m : M (Int × Int)) : L2.St → Hp → (Int → Int → Hp → Prop) → Prop := fun σ H Q => ∃ ρ η φ, RepE K ρ H σ η φ ∧ PostR K ρ mg W σ (foot φ) H Q (m η)
abbrev DR (X : Cx) (W : WX) (e : Expr) (m : M (Int × Int)) : Prop := PRg X e (tR X.K X.mg W m)
theorem prg_mono {X : Cx} {e : Expr} {t t' : L2.St → Hp → (Int → Int → Hp → Prop) → Prop} (h : PRg X e t) (k : ∀ σ H Q, t' σ H Q → t σ H Q) : PRg X e t' := fun pins s σ H Q I q => h pins s σ H Q I (k _ _ _ q)
theorem At.stepR {K : PySem.W.Frag} {ρ : Nat → Addr} {mg : Str → Option Value} {σ : L2.St} {A : AS} {H₀ H : Hp} {L : List HeldI} {η : Env} {φ : FS} {Q : Int → Int → Hp → Prop} {m : M Ref} {kk : Int → M (Int × Int)} (at_ : At K ρ σ A H₀ L H η φ) (p : PostR K ρ mg W σ A H₀ Q ((mInt m >>= kk) η)) :
    tE K mg W m σ H fun v H' => ∃ i η' φ', v = .int i ∧ At K ρ σ A H₀ L H' η' φ' ∧ PostR K ρ mg W σ A H₀ Q (kk i η') := by
  refine ⟨ρ, η, φ, at_.rep, ?_⟩
  rw [bind_def] at p
  unfold mInt at p
  rw [bind_def] at p
  have nf : New A H₀ (foot φ) := at_.new.sub fun _ h => .inr h
  cases e : m η with
  | ok r η' =>
    rw [e] at p
    intro v H' φ' f rep ok d ex n
    have at2 := at_.hold rep ok d ex n
    simp only [Out.bind] at p
    unfold asI at p
    cases q : rdD η' r with
    | none => simp only [q] at p; exact p.elim
    | some y =>
      cases y with
      | int i =>
        simp only [q] at p
        cases dp_int (at2.getD in0 q)
        refine ⟨i, η', φ', rfl, ⟨rep, at2.ext, at2.new.sub fun _ h => h.imp (fun ⟨h, hm, z⟩ => ⟨h, List.mem_cons_of_mem _ hm, z⟩) id, fun h hm => at2.held h (List.mem_cons_of_mem _ hm), (List.pairwise_cons.mp at2.dis).2⟩, p⟩
      | _ => simp only [q] at p; exact p.elim
  | err x η' =>
    rw [e] at p
    exact fun cls dx H' φ' rep ex n xk => p cls dx H' φ' rep (at_.ext.trans nf ex) (New.trans at_.ext nf n) xk
  | stuck => rw [e] at p; exact p.elim
def mRg1 (m : M Ref) : M (Int × Int) := mInt m >>= fun n => M.ret (0, n)
def mRg2 (m n : M Ref) : M (Int × Int) := mInt m >>= fun i => mInt n >>= fun j => M.ret (i, j)
theorem At.ranged {K : PySem.W.Frag} {ρ : Nat → Addr} {mg : Str → Option Value} {σ : L2.St} {A : AS} {H₀ H : Hp} {L : List HeldI} {η : Env} {φ : FS} {Q : Int → Int → Hp → Prop} {i j : Int} (at_ : At K ρ σ A H₀ L H η φ) (p : PostR K ρ mg W σ A H₀ Q (.ok (i, j) η)) : Q i j H :=
  p H φ at_.rep at_.ext (at_.new.sub fun _ h => .inr h)
theorem drg_1 (hg : Gl X "range") (hm : X.mg "range" = none) (ha : DE X W a m1) (na : starEach [a] X.env = (false, eval a X.env) :: starEach [] X.env := by rfl) : DR X W (.Call (.Name "range" p) [a] [] pos) (mRg1 m1) :=
  prg_mono (prg_1 hg hm ha na) fun σ H Q ⟨ρ, η, φ, r, p⟩ => tE_mono (fun v H1 ⟨i, η1, φ1, e, at_, q⟩ => ⟨i, e, at_.ranged q⟩) ((At.start r).stepR p)
theorem drg_2 (hg : Gl X "range") (hm : X.mg "range" = none) (ha : DE X W a m1) (hb : DE X W b m2) (na : starEach [a, b] X.env = (false, eval a X.env) :: starEach [b] X.env := by rfl)
    (nb : starEach [b] X.env = (false, eval b X.env) :: starEach [] X.env := by rfl) (hp : (backTo pos (starEach [b] X.env)).any (·.1) = false := by rfl) : DR X W (.Call (.Name "range" p) [a, b] [] pos) (mRg2 m1 m2) :=
  prg_mono (prg_2 hg hm ha hb na nb hp) fun σ H Q ⟨ρ, η, φ, r, p⟩ => tE_mono (fun v H1 ⟨i, η1, φ1, e, at_, q⟩ => tE_mono (fun v2 H2 ⟨j, η2, φ2, e2, at2, q2⟩ => ⟨i, j, e, e2, at2.ranged q2⟩) (at_.stepR q)) ((At.start r).stepR p)
def rgC (i j : Int) : Prop := -(2 ^ 62) ≤ i ∧ i < 2 ^ 62 ∧ -(2 ^ 62) ≤ j ∧ j < 2 ^ 62 ∧ (j - i).toNat ≤ 2 ^ 24
instance (i j : Int) : Decidable (rgC i j) := by unfold rgC; infer_instance
def mListRg (m : M (Int × Int)) : M Ref := m >>= fun p => fun η => if rgC p.1 p.2 then .ok (.vl (.l (rgD p.1 (p.2 - p.1).toNat))) η else .stuck
def mTupRg (m : M (Int × Int)) : M Ref := m >>= fun p => fun η => if rgC p.1 p.2 then .ok (.vl (.d (.tup (rgD p.1 (p.2 - p.1).toNat)))) η else .stuck
theorem rgV_rp {K : PySem.W.Frag} {H : Hp} {i j : Int} : Rps K H (rgV i j) (rgD i (j - i).toNat) := by
  unfold rgV rgD
  generalize List.range (j - i).toNat = l
  induction l with
  | nil => exact .nil
  | cons a l ih => exact .cons int_dp ih
theorem tR_use {K : PySem.W.Frag} {mg : Str → Option Value} {σ : L2.St} {H : Hp} {Q : VK} {m : M (Int × Int)} {kk : Int × Int → M Ref} (t : tE K mg W (m >>= kk) σ H Q) :
    tR K mg W m σ H fun i j H1 => ∃ ρ A H₀ η φ, At K ρ σ A H₀ [] H1 η φ ∧ Post K ρ mg W σ A H₀ Q (kk (i, j) η) := by
  obtain ⟨ρ, η, φ, r, p⟩ := t
  refine ⟨ρ, η, φ, r, ?_⟩
  rw [bind_def] at p
  cases e : m η with
  | ok ij η' =>
    rw [e] at p
    exact fun H' φ' rep ex n => ⟨ρ, foot φ, H, η', φ', ⟨rep, ex, n.sub fun _ h => h.elim (fun ⟨_, z, _⟩ => (nomatch z)) id, fun _ z => (nomatch z), .nil⟩, p⟩
  | err x η' => rw [e] at p; exact p
  | stuck => rw [e] at p; exact p
theorem de_listRg {mr : M (Int × Int)} (cc : Cc X W k) (hg : Gl X "list") (hm : X.mg "list" = none) (he : DR X W e mr) (na : starEach [e] X.env = (false, eval e X.env) :: starEach [] X.env := by rfl) : DE X W (.Call (.Name "list" p) [e] [] pos) (mListRg mr) :=
  pe_mono (pe_listRg cc.calm hg hm he na) fun σ H Q t => by
    obtain ⟨ρ, η, φ, r, q⟩ := tR_use t
    refine ⟨ρ, η, φ, r, ?_⟩
    cases e : mr η with
    | ok ij η' =>
      rw [e] at q
      intro H' φ' rep ex n
      obtain ⟨ρ2, A, H₀, η2, φ2, at_, p⟩ := q H' φ' rep ex n
      split at p
      · rename_i h
        exact ⟨h, fun l hl => at_.madeL p hl rgV_rp⟩
      · exact p.elim
    | err x η' => rw [e] at q; exact q
    | stuck => rw [e] at q; exact q
theorem de_tupRg {mr : M (Int × Int)} (cc : Cc X W k) (hg : Gl X "tuple") (hm : X.mg "tuple" = none) (he : DR X W e mr) (na : starEach [e] X.env = (false, eval e X.env) :: starEach [] X.env := by rfl) : DE X W (.Call (.Name "tuple" p) [e] [] pos) (mTupRg mr) :=
  pe_mono (pe_tupRgF cc.calm hg hm he na) fun σ H Q t => by
    obtain ⟨ρ, η, φ, r, q⟩ := tR_use t
    refine ⟨ρ, η, φ, r, ?_⟩
    cases e : mr η with
    | ok ij η' =>
      rw [e] at q
      intro H' φ' rep ex n
      obtain ⟨ρ2, A, H₀, η2, φ2, at_, p⟩ := q H' φ' rep ex n
      split at p
      · rename_i h
        exact ⟨h, fun l o hl ho => at_.madeT p hl ho rgV_rp⟩
      · exact p.elim
    | err x η' => rw [e] at q; exact q
    | stuck => rw [e] at q; exact q

/-! ### enumerate(list) -/
def enD : Nat → List D → List D
  | _, [] => []
  | n, x :: xs => .pt [.int n, x] :: enD (n + 1) xs
theorem enD_get : ∀ {xs : List D} {n i : Nat} {x : D}, xs[i]? = some x → (enD n xs)[i]? = some (.pt [.int ((n + i : Nat) : Int), x])
  | [], _, _, _, h => by simp at h
  | y :: ys, n, 0, x, h => by cases h; rfl
  | y :: ys, n, i + 1, x, h => by
    have := @enD_get ys (n + 1) i x h
    show (enD (n + 1) ys)[i]? = _
    rw [this]
    have e : n + 1 + i = n + (i + 1) := by omega
    rw [e]
theorem enD_len : ∀ {xs : List D} {n : Nat}, (enD n xs).length = xs.length
  | [], _ => rfl
  | _ :: xs, n => by show _ + 1 = _ + 1; rw [enD_len]
theorem walks_e {K : PySem.W.Frag} {a : Addr} {inv : Hp → Prop} {xs : List D} (h : ∀ H, inv H → ∃ vs, SqL K H a vs ∧ Rps K H vs xs) : Walks (Ite K a) K inv (enD 0 xs) where
  go := fun i H hi hl => by
    rw [enD_len] at hl
    obtain ⟨vs, h1, h2⟩ := h H hi
    obtain ⟨v, e, _⟩ := dps_at h2 (List.getElem?_eq_getElem hl)
    exact ⟨vs, v, h1, e⟩
  stop := fun i H hi hl => by
    rw [enD_len] at hl
    obtain ⟨vs, h1, h2⟩ := h H hi
    exact ⟨vs, h1, by rw [dps_len h2]; exact hl⟩
  yld := fun i H x H' hi _ ⟨T, y, e, hT, eH, hy⟩ => by
    obtain ⟨vs, h1, h2⟩ := h H hi
    obtain ⟨d, q1, q2⟩ := dps_get h2 (hy vs h1)
    subst e eH
    refine ⟨_, enD_get q1, .pt (SqT.of upd_same) (.cons ?_ (.cons (dp_ext (Ext.new (A := none_) hT) _ _ q2) .nil)), Ext.new hT⟩
    rw [Nat.zero_add]
    exact int_dp
def enIt (r : Ref) : M ItD := fun η => match itOf r η with
  | .ok it η' => if it.tup = true then .stuck else .ok { it with items := enD 0 it.src } η'
  | _ => .stuck
theorem enIt_use {K : PySem.W.Frag} {ρ : Nat → Addr} {mg : Str → Option Value} {σ : L2.St} {A : AS} {H₀ H : Hp} {η : Env} {φ : FS} {R : It → Hp → Prop} {v : V} {f : AS} {r : Ref} (at_ : At K ρ σ A H₀ [⟨r, v, f⟩] H η φ) (p : PostI K ρ mg W σ A H₀ R (enIt r η)) :
    ∃ a xs, [v] = [V.ref a] ∧ SqL K H a xs ∧ R (Ite K a) H := by
  have nf : New A H₀ (foot φ) := at_.new.sub fun _ h => .inr h
  unfold enIt at p
  cases q : itOf r η with
  | stuck => rw [q] at p; exact p.elim
  | err x η' => rw [q] at p; exact p.elim
  | ok it η' =>
    rw [q] at p
    dsimp only at p
    split at p
    · exact p.elim
    · rename_i hnd
      obtain ⟨e1, ⟨w⟩⟩ := itOf_wk at_ q
      have kd : ∀ H, w.inv H → ∃ vs, SqL K H w.a vs ∧ Rps K H vs it.src := w.kind.elim (fun z => z.2) fun z => (hnd z.1).elim
      obtain ⟨vs, h1, _⟩ := kd H w.now
      exact ⟨w.a, vs, congrArg (fun z => [z]) w.e, h1, p _ H w.ρ' φ w.inv w.rep at_.ext nf w.same w.keep (walks_e kd)⟩
theorem dit_enum {elts : List Expr} {kk : Nat} {tpos : Pos} (hg : Gl X "enumerate") (hm : X.mg "enumerate" = none) (ha : DE X W a m1) (hs : starEach [a] X.env = (false, eval a X.env) :: starEach [] X.env := by rfl) :
    DIt X W (.Tuple elts kk tpos) (.Call (.Name "enumerate" p) [a] [] pos) (m1 >>= enIt) :=
  pi_mono (pi_enum hg hm (pa_cons ha pa_nil hs) hs) fun σ H R ⟨ρ, η, φ, r, q⟩ => tE_mono (fun v H' ⟨r1, η', φ', f, at_, q⟩ => enIt_use at_ q) ((At.start r).stepI1 q)
end
end DD


/-! Defs: what a def does to data; calls of defs. -/
namespace DD
open PySem PySem.Spec PyProof.Rows L2
open Classical

/-! ### defs that are entered with no guard on -/
structure FnG (P : Program) (w : World) (K : PySem.W.Frag) (mg : Str → Option Value) (base : Heap) (k : Nat) (f : Addr) (fd : FuncData) (ps : List Str) (sp : Sp) : Prop where
  len : ∀ vs H Q E, sp vs H Q E → vs.length = ps.length
  run : ∀ (A : Around) (outer : List PySem.Env) (s : Shared) (H : Hp) (args : Args) (us : List Value) (vs : List V) (Q : VK) (E : XK), Room k A → A.guards = some [] → Env0 P w K mg base A outer s H → BindsTo s fd args (ps.zip us) → Vals vs us → sp vs H Q E →
    codeAny (model P w) A (.call (.ref f) args) (CR (L2.CX P w) outer P w H s Q E) s
theorem FnG.ok {P : Program} {w : World} {K : PySem.W.Frag} {mg : Str → Option Value} {base : Heap} {k : Nat} {f : Addr} {fd : FuncData} {ps : List Str} {sp sp' : Sp} (F : FnG P w K mg base k f fd ps sp) (h : ∀ vs H Q E, sp' vs H Q E → sp vs H Q E) : FnG P w K mg base k f fd ps sp' :=
  ⟨fun vs H Q E q => F.len vs H Q E (h _ _ _ _ q), fun A outer s H args us vs Q E hr hg he hb hv hs => F.run A outer s H args us vs Q E hr hg he hb hv (h _ _ _ _ hs)⟩
theorem FnG.mono {P : Program} {w : World} {K : PySem.W.Frag} {mg : Str → Option Value} {base : Heap} {j k : Nat} {f : Addr} {fd : FuncData} {ps : List Str} {sp : Sp} (F : FnG P w K mg base j f fd ps sp) (h : j ≤ k) : FnG P w K mg base k f fd ps sp :=
  ⟨F.len, fun A outer s H args us vs Q E hr => F.run A outer s H args us vs Q E (hr.mono h)⟩
/-- a def by its body, guards included: the promise at one A is one of FnOk's -/
theorem fnG_of {P : Program} {w : World} {K : PySem.W.Frag} {mg : Str → Option Value} {base : Heap} {k : Nat} {x qual : Str} {params : Arguments} {body : List Stmt} {scope : Scope} {dvs : List V} {kws : List (Str × V)} {f : Addr} {fd : FuncData} {N ps : List Str} {sp : Sp}
    (F : FunD K x qual params body scope dvs kws f fd) (S : FnScope N ps scope) (len : ∀ vs H Q E, sp vs H Q E → vs.length = ps.length)
    (hbody : ∀ (cdv : Value) (A : Around) (outer : List PySem.Env) (s : Shared) (H : Hp) (vs : List V) (Q : VK) (E : XK), Room k (A.deeper (envOfC qual scope s.heap.objs.size f cdv)) → A.guards = some [] → sp vs H Q E →
      ∃ t, PSs (cxOf (L2.CX P w) P w K mg base N qual scope f cdv A outer s H E) body t ∧ t { nx := fun _ H' => Q .non H', rt := Q } (L2.start N vs) H) : FnG P w K mg base (k + 1) f fd ps sp := by
  obtain ⟨oc, od, dV, kV, doc, pm, an, cdv, ct, osl, rfl, lk, hcd, _, _⟩ := F.ex
  refine ⟨len, fun A outer s H args us vs Q E hr hgd e0 hb r hsp => ?_⟩
  have hl := len _ _ _ _ hsp
  have KX : K.In s.heap := e0.mod.kin.keeps fun b o e => (e0.bs b o e).1
  have lim : s.heap.NoLimit := e0.mod.nolimit.keeps fun b o e => (e0.bs b o e).1
  have kd : ∀ y ∈ ps.zip us, scope.names.lookup y.1 = some .local ∨ (scope.names.lookup y.1 = some .cell ∧ ((cellsFrom (s.heap.objs.size + 1) scope.names []).lookup y.1).isSome = true) := by
    rintro ⟨n, v⟩ hy
    exact (S.par n (List.of_mem_zip hy).1).imp id fun q => ⟨q, PySem.W.cellsFrom_some _ _ _ (.inl q)⟩
  refine codeAny_call_function hr.depth (KX _ _ lk) rfl S.co S.gen rfl (PySem.W.codeRec_of KX hcd) (hb _ _ _ _ (wpAny_newFunctionEnv_cells S.kind kd fun env he s1 x => ?_))
  subst he
  obtain ⟨t, ht, hq⟩ := hbody cdv A outer s H vs Q E (hr.deeper _) hgd hsp
  refine ⟨lim.keeps x.toInCall.keep, codeAny_func (wpAny_mono (ht.run [] s1 (L2.start N vs) H _ (inv_start S hr.hd e0 hl r x) hq) (fun fl s' hs => ?_) fun e s' hs => hs)⟩
  cases fl with
  | ret u =>
    obtain ⟨v, σ', H', J, rv, q⟩ := hs
    exact ⟨v, H', J.os, J.bare, J.base, J.hok, rv, q⟩
  | next =>
    obtain ⟨σ', H', J, q⟩ := hs
    exact ⟨V.non, H', J.os, J.bare, J.base, J.hok, rfl, q⟩
  | brk => exact hs.choose_spec.choose_spec.2.elim
  | cont => exact hs.choose_spec.choose_spec.2.elim
section
variable {X : Cx} {k : Nat} {f : Addr} {fd : FuncData} {ps : List Str} {sp : Sp} {dvs : List V} {ds : List Value} {E : L2.St → XK} {x : Str} {p pos : Pos} {e : Expr} {es : List Expr} {t : TA}
theorem run_fnG {pins : List (Addr × Obj)} {σ : L2.St} {H : Hp} {s : Shared} {Q : VK} {us : List Value} {vs : List V} (F : FnG X.prog X.w X.K X.mg X.base k f fd ps sp) (hr : Room k X.A) (hgd : X.A.guards = some []) (hb : Binds X.K fd ps ds) (hd : Vals dvs ds) (hx : PassesAt (L2.CX X.prog X.w) X σ (E σ))
    (I : Inv X pins σ H s) (r : Vals vs us) (h : sp (vs ++ dvs) H Q (E σ)) : wpAny (model X.prog X.w) X.A (call (.ref f) us) (EP X pins σ Q) X.xe s := by
  have r2 : Vals (vs ++ dvs) (us ++ ds) := r.append hd
  have hl : (us ++ ds).length = ps.length := r2.length ▸ F.len _ _ _ _ h
  refine wpAny_call (codeAny_mono (F.run X.A X.stack s H ⟨us, []⟩ (us ++ ds) (vs ++ dvs) Q (E σ) hr hgd I.env0 (hb s us I.kIn hl) r2 h) fun q s' hq => ?_)
  match q, hq with
  | .error e, hq => exact hx pins H s e s' I hq
  | .ok (.ret u), hq => exact I.after hq
  | .ok .next, hq => exact hq.elim
  | .ok .brk, hq => exact hq.elim
  | .ok .cont, hq => exact hq.elim
theorem pe_callG (F : FnG X.prog X.w X.K X.mg X.base k f fd ps sp) (hr : Room k X.A) (hgd : X.A.guards = some []) (hg : Gl X x) (hm : X.mg x = some (.ref f)) (hk : PySem.W.keepIn X.K (.ref f) = true) (hb : Binds X.K fd ps ds) (hd : Vals dvs ds) (hx : ∀ σ, PassesAt (L2.CX X.prog X.w) X σ (E σ))
    (ha : PA X (e :: es) t) (hdb : (x == ("__debug__" : Str)) = false := by decide) (he : starEach (e :: es) X.env = (false, eval e X.env) :: starEach es X.env := by rfl) (hpl : (backTo pos (starEach es X.env)).any (·.1) = false := by rfl) :
    PE X (.Call (.Name x p) (e :: es) [] pos) (tCallSD sp dvs E t) :=
  ⟨fun pins s σ H Q I h => wpAny_Call_Name_kw (ld_glob I hg hm (PySem.W.callWith_K (h₀ := X.base) I.ok.mod.kin hk (thn (ha.run pos pins s σ H _ I h) fun us s1 ⟨vs, H1, I1, r, q⟩ => ⟨I1.kIn, run_fnG F hr hgd hb hd (hx σ) I1 r q⟩) he hpl) hdb)⟩
end

/-! ### what a def does -/
inductive FRes where
  | ok (x : Val) (bs : List (Option Val)) | err (e : Exn) (bs : List (Option Val)) | stuck
/-- the arguments: values, data, places -/
inductive ArgsIn (K : PySem.W.Frag) (H : Hp) : List V → List Val → List AS → Prop
  | nil : ArgsIn K H [] [] []
  | cons {v : V} {x : Val} {f : AS} {vs : List V} {xs : List Val} {fs : List AS} : RepV K H x v f → (x.kept = true → ∃ a, v = .ref a) → ArgsIn K H vs xs fs → ArgsIn K H (v :: vs) (x :: xs) (f :: fs)
def alls (fs : List AS) : AS := fun a => ∃ f ∈ fs, f a
/-- what has become of them: those that are the caller's -/
inductive Back (K : PySem.W.Frag) (H : Hp) : List V → List (Option Val) → List AS → Prop
  | nil : Back K H [] [] []
  | cons {v : V} {b : Option Val} {g : AS} {vs : List V} {bs : List (Option Val)} {gs : List AS} : (∀ ys, b = some (.bw ys) → RepV K H (.bw ys) v g) → ((∀ ys, b ≠ some (.bw ys)) → ∀ a, ¬ g a) → Back K H vs bs gs → Back K H (v :: vs) (b :: bs) (g :: gs)
def PostF (K : PySem.W.Frag) (mg : Str → Option Value) (vs : List V) (A : AS) (H : Hp) (Q : VK) (E : XK) : FRes → Prop
  | .ok x bs => ∀ v H' f gs, RepV K H' x v f → Back K H' vs bs gs → (f :: gs).Pairwise dis → Ext A H H' → New A H (alls (f :: gs)) → Q v H'
  | .err y bs => ∀ cls dx H' gs, Back K H' vs bs gs → gs.Pairwise dis → Ext A H H' → New A H (alls gs) → ExnOk K mg H' y cls dx → E cls dx H'
  | .stuck => False
def spD (K : PySem.W.Frag) (mg : Str → Option Value) (n : Nat) (F : List Val → FRes) : Sp := fun vs H Q E => ∃ xs fs, ArgsIn K H vs xs fs ∧ fs.Pairwise dis ∧ xs.length = n ∧ PostF K mg vs (alls fs) H Q E (F xs)
theorem ArgsIn.len {K : PySem.W.Frag} {H : Hp} : ∀ {vs : List V} {xs : List Val} {fs : List AS}, ArgsIn K H vs xs fs → vs.length = xs.length ∧ fs.length = xs.length
  | _, _, _, .nil => ⟨rfl, rfl⟩
  | _, _, _, .cons _ _ t => ⟨congrArg Nat.succ t.len.1, congrArg Nat.succ t.len.2⟩
theorem spD_len {K : PySem.W.Frag} {mg : Str → Option Value} {n : Nat} {F : List Val → FRes} {vs : List V} {H : Hp} {Q : VK} {E : XK} (h : spD K mg n F vs H Q E) : vs.length = n := by
  obtain ⟨xs, fs, h1, _, h3, _⟩ := h
  rw [h1.len.1, h3]
theorem ArgsIn.get {K : PySem.W.Frag} {H : Hp} : ∀ {vs : List V} {xs : List Val} {fs : List AS}, ArgsIn K H vs xs fs → ∀ {i : Nat} {x : Val}, xs[i]? = some x → ∃ v f, vs[i]? = some v ∧ fs[i]? = some f ∧ RepV K H x v f ∧ (x.kept = true → ∃ a, v = .ref a)
  | _, _, _, .nil, i, x, h => by simp at h
  | _, _, _, .cons r k t, 0, x, h => by cases h; exact ⟨_, _, rfl, rfl, r, k⟩
  | _, _, _, .cons r k t, i + 1, x, h => t.get (i := i) h

/-! ### a body's outcome as a def's -/
def bk1 : Val → Option (Option Val) → Option Val
  | .bw _, some (some (.bw ys)) => some (.bw ys)
  | _, _ => none
def backs : List Val → Env → List (Option Val)
  | [], _ => []
  | x :: xs, η => bk1 x η[0]? :: backs xs (η.drop 1)
def SOut.fin (xs : List Val) : SOut → FRes
  | .rt (.vl x) η => .ok x (backs xs η)
  | .rt (.sl i) η => (match η[i]? with
    | some (some (.d x)) => .ok (.d x) (backs xs η)
    | some (some (.fz x)) => .ok (.fz x) (backs xs η)
    | some (some (.l x)) => .ok (.l x) (backs xs η)
    | some (some (.m x)) => .ok (.m x) (backs xs η)
    | some (some (.mt x)) => .ok (.mt x) (backs xs η)
    | _ => .stuck)
  | .nx η => .ok (.d .non) (backs xs η)
  | .err x η => .err x (backs xs η)
  | _ => .stuck
def fnD (n N : Nat) (mb : MS) : List Val → FRes := fun xs => (mb (xs.map some ++ List.replicate (N - n) none)).fin xs
def rhoOf (vs : List V) : Nat → Addr := fun i => match vs[i]? with
  | some (.ref a) => a
  | _ => 0
def phiOf (fs : List AS) : FS := fun i a => ∃ f, fs[i]? = some f ∧ f a
theorem phi_eq {fs : List AS} {i : Nat} {f : AS} (e : fs[i]? = some f) : phiOf fs i = f :=
  funext fun a => propext ⟨fun ⟨g, e', h⟩ => by rw [e] at e'; cases e'; exact h, fun h => ⟨f, e, h⟩⟩
section
variable {K : PySem.W.Frag} {mg : Str → Option Value} {H H' : Hp} {vs : List V} {xs : List Val} {fs : List AS} {N : List Str} {η η' : Env} {φ : FS} {ρ : Nat → Addr} {σ' : L2.St}
theorem foot_phi {a : Addr} : foot (phiOf fs) a ↔ alls fs a := by
  constructor
  · rintro ⟨i, f, e, h⟩
    exact ⟨f, List.mem_of_getElem? e, h⟩
  · rintro ⟨f, hm, h⟩
    obtain ⟨i, e⟩ := List.getElem?_of_mem hm
    exact ⟨i, f, e, h⟩
theorem pair_get {R : AS → AS → Prop} (h : fs.Pairwise R) {i j : Nat} {f g : AS} (e1 : fs[i]? = some f) (e2 : fs[j]? = some g) (hij : i < j) : R f g := by
  obtain ⟨h1, rfl⟩ := List.getElem?_eq_some_iff.mp e1
  obtain ⟨h2, rfl⟩ := List.getElem?_eq_some_iff.mp e2
  exact List.pairwise_iff_getElem.mp h i j h1 h2 hij
theorem repE_start (h : ArgsIn K H vs xs fs) (d : fs.Pairwise dis) (hN : xs.length ≤ N.length) : RepE K (rhoOf vs) H (L2.start N vs) (xs.map some ++ List.replicate (N.length - xs.length) none) (phiOf fs) := by
  have hl := h.len
  have get : ∀ {i : Nat} {x : Val}, (xs.map some ++ List.replicate (N.length - xs.length) (none : Option Val))[i]? = some (some x) → xs[i]? = some x := fun {i x} e => by
    by_cases hi : i < xs.length
    · rw [List.getElem?_append_left (by simpa using hi), List.getElem?_map] at e
      cases q : xs[i]? with
      | none => rw [q] at e; cases e
      | some y => rw [q] at e; cases e; rfl
    · rw [List.getElem?_append_right (by simpa using hi), List.getElem?_replicate] at e
      split at e <;> cases e
  have put : ∀ {i : Nat} {v : V}, vs[i]? = some v → (L2.start N vs)[i]? = some (some v) := fun {i v} e => by
    have hi : i < vs.length := (List.getElem?_eq_some_iff.mp e).1
    unfold L2.start
    rw [List.getElem?_append_left (by simpa using hi), List.getElem?_map, e]
    rfl
  refine ⟨?_, fun i x e => ?_, fun i n a hp => ?_, fun i j a h1 h2 => ?_, fun i x e hk => ?_⟩
  · unfold L2.start
    simp [hl.1]
  · obtain ⟨v, f, e1, e2, r, _⟩ := h.get (get e)
    exact ⟨v, put e1, by rw [phi_eq e2]; exact r⟩
  · obtain ⟨f, e, _⟩ := hp
    have hi : i < xs.length := by rw [← hl.2]; exact (List.getElem?_eq_some_iff.mp e).1
    refine n xs[i] ?_
    rw [List.getElem?_append_left (by simpa using hi), List.getElem?_map, List.getElem?_eq_getElem hi]
    rfl
  · obtain ⟨f, e1, h1⟩ := h1
    obtain ⟨g, e2, h2⟩ := h2
    by_cases hij : i = j
    · exact hij
    · rcases Nat.lt_or_gt_of_ne hij with z | z
      · exact (pair_get d e1 e2 z a h1 h2).elim
      · exact (pair_get d e2 e1 z a h2 h1).elim
  · obtain ⟨v, f, e1, e2, r, q⟩ := h.get (get e)
    obtain ⟨a, rfl⟩ := q hk
    rw [put e1]
    unfold rhoOf
    rw [e1]
theorem bk1_some {x : Val} {o : Option (Option Val)} {y : Val} (h : bk1 x o = some y) : ∃ us ys, x = .bw us ∧ o = some (some (.bw ys)) ∧ y = .bw ys := by
  unfold bk1 at h
  split at h
  · cases h; exact ⟨_, _, rfl, rfl, rfl⟩
  · cases h
/-- the caller's things behind a body -/
theorem back_of (h : ArgsIn K H vs xs fs) (r : RepE K (rhoOf vs) H' σ' η' φ) : ∃ gs, Back K H' vs (backs xs η') gs ∧ ∀ i g, gs[i]? = some g → ∀ a, g a → φ i a ∧ ∃ ys, η'[i]? = some (some (.bw ys)) := by
  have key : ∀ (ws : List V) (ys : List Val) (ks : List AS) (off : Nat), ArgsIn K H ws ys ks → (∀ i v, ws[i]? = some v → vs[off + i]? = some v) →
      ∃ gs, Back K H' ws (backs ys (η'.drop off)) gs ∧ ∀ i g, gs[i]? = some g → ∀ a, g a → φ (off + i) a ∧ ∃ zs, η'[off + i]? = some (some (.bw zs)) := by
    intro ws ys ks off hA
    induction hA generalizing off with
    | nil => exact fun _ => ⟨[], .nil, fun i g e => by simp at e⟩
    | @cons v x f ws ys ks rv kv t ih =>
      intro hv
      obtain ⟨gs, b1, b2⟩ := ih (off + 1) (fun i w e => by have := hv (i + 1) w e; rw [show off + 1 + i = off + (i + 1) by omega]; exact this)
      have hb : backs (x :: ys) (η'.drop off) = bk1 x η'[off]? :: backs ys (η'.drop (off + 1)) := by
        show bk1 x (η'.drop off)[0]? :: backs ys ((η'.drop off).drop 1) = _
        rw [List.getElem?_drop, Nat.add_zero, List.drop_drop]
      rw [hb]
      refine ⟨(fun a => φ off a ∧ ∃ zs, bk1 x η'[off]? = some (.bw zs)) :: gs, .cons (fun zs ez => ?_) (fun hn a ⟨_, zs, ez⟩ => hn zs ez) b1, ?_⟩
      · obtain ⟨us, zs', ex, eo, ey⟩ := bk1_some ez
        cases ey
        obtain ⟨w, w1, w2⟩ := r.rep off (.bw zs) eo
        have w3 := r.pin off (.bw zs) eo rfl
        have hv0 := hv 0 v rfl
        rw [Nat.add_zero] at hv0
        rw [w1] at w3
        have w4 : w = .ref (rhoOf vs off) := by simpa using w3
        obtain ⟨a0, ea⟩ := kv (by rw [ex]; rfl)
        have w5 : w = v := by
          rw [w4]
          unfold rhoOf
          rw [hv0, ea]
        rw [← w5]
        obtain ⟨a, us, e1, e2, e3, e4⟩ := w2
        exact ⟨a, us, e1, e2, e3, fun b => ⟨fun z => (e4 b).mp z.1, fun z => ⟨(e4 b).mpr z, zs, ez⟩⟩⟩
      · intro i g e a ga
        cases i with
        | zero =>
          cases e
          obtain ⟨zs, ez⟩ := ga.2
          obtain ⟨us, zs', ex, eo, ey⟩ := bk1_some ez
          rw [Nat.add_zero]
          exact ⟨ga.1, zs', eo⟩
        | succ i =>
          have := b2 i g e a ga
          rw [show off + 1 + i = off + (i + 1) by omega] at this
          exact this
  obtain ⟨gs, b1, b2⟩ := key vs xs fs 0 h (fun i v e => by rw [Nat.zero_add]; exact e)
  exact ⟨gs, by simpa using b1, fun i g e a ga => by simpa using b2 i g e a ga⟩
/-- the places of what is given back lie apart -/
theorem back_dis {gs : List AS} (r : RepE K ρ H' σ' η' φ) (h : ∀ i g, gs[i]? = some g → ∀ a, g a → φ i a ∧ ∃ ys, η'[i]? = some (some (.bw ys))) : gs.Pairwise dis :=
  List.pairwise_iff_getElem.mpr fun i j h1 h2 hij a ha hb => by
    have q1 := h i _ (List.getElem?_eq_getElem h1) a ha
    have q2 := h j _ (List.getElem?_eq_getElem h2) a hb
    have := r.dis i j a q1.1 q2.1
    omega
theorem back_foot {gs : List AS} (h : ∀ i g, gs[i]? = some g → ∀ a, g a → φ i a ∧ ∃ ys, η'[i]? = some (some (.bw ys))) {a : Addr} (ha : alls gs a) : foot φ a := by
  obtain ⟨g, hm, ga⟩ := ha
  obtain ⟨i, e⟩ := List.getElem?_of_mem hm
  exact ⟨i, (h i g e a ga).1⟩
/-- a body that does mb, as a def -/
theorem body_def {n : Nat} {mb : MS} {Q : VK} {E : XK} (hs : spD K mg n (fnD n N.length mb) vs H Q E) (hn : n ≤ N.length) :
    tS K mg (fun cls d _ H => E cls d H) mb { nx := fun _ H' => Q .non H', rt := Q } (L2.start N vs) H := by
  obtain ⟨xs, fs, h1, h2, h3, p⟩ := hs
  subst h3
  have r0 := repE_start (N := N) h1 h2 hn
  refine ⟨_, _, _, r0, ?_⟩
  have eA : foot (phiOf fs) = alls fs := funext fun a => propext foot_phi
  rw [eA]
  unfold fnD at p
  generalize xs.map some ++ List.replicate (N.length - xs.length) none = η0 at p ⊢
  cases q : mb η0 with
  | stuck => rw [q] at p; exact p.elim
  | bk η1 => rw [q] at p; exact p.elim
  | ct η1 => rw [q] at p; exact p.elim
  | nx η1 =>
    rw [q] at p
    intro σ1 H1 φ1 r1 ex1 n1
    obtain ⟨gs, b1, b2⟩ := back_of h1 r1
    exact p .non H1 none_ gs ⟨non_dp, fun _ => id⟩ b1 (List.pairwise_cons.mpr ⟨fun _ _ _ z => z.elim, back_dis r1 b2⟩) ex1 fun a ⟨g, hg, ga⟩ => by
      rcases List.mem_cons.mp hg with z | z
      · subst z; exact ga.elim
      · exact n1 a (back_foot b2 ⟨g, z, ga⟩)
  | err x η1 =>
    rw [q] at p
    intro cls dx σ1 H1 φ1 r1 ex1 n1 xk
    obtain ⟨gs, b1, b2⟩ := back_of h1 r1
    exact p cls dx H1 gs b1 (back_dis r1 b2) ex1 (fun a ha => n1 a (back_foot b2 ha)) xk
  | rt r η1 =>
    rw [q] at p
    intro v σ1 H1 φ1 f r1 ok1 d1 ex1 n1
    obtain ⟨gs, b1, b2⟩ := back_of h1 r1
    have end1 : ∀ (x : Val) (f : AS), RepV K H1 x v f → (∀ g ∈ gs, dis f g) → (∀ a, f a → alls fs a ∨ H a = none) → FRes.ok x (backs xs η1) = (SOut.rt r η1).fin xs → Q v H1 := fun x f hx hd hf he => by
      rw [← he] at p
      exact p v H1 f gs hx b1 (List.pairwise_cons.mpr ⟨hd, back_dis r1 b2⟩) ex1 fun a ⟨g, hg, ga⟩ => by
        rcases List.mem_cons.mp hg with z | z
        · subst z; exact hf a ga
        · exact n1 a (.inr (back_foot b2 ⟨g, z, ga⟩))
    cases r with
    | vl x => exact end1 x f ok1 (fun g hg a ha hb => d1 a ha (back_foot b2 ⟨g, hg, hb⟩)) (fun a ha => n1 a (.inl ha)) rfl
    | sl i =>
      have ok2 : σ1[i]? = some (some v) := ok1.1
      have at2 : ∀ x, η1[i]? = some (some x) → RepV K H1 x v (φ1 i) := fun x e => by
        obtain ⟨w, w1, w2⟩ := r1.rep i x e
        rw [ok2] at w1; cases w1
        exact w2
      have dd : ∀ x, η1[i]? = some (some x) → (∀ ys, x ≠ .bw ys) → ∀ g ∈ gs, dis (φ1 i) g := fun x e hx g hg a ha hb => by
        obtain ⟨j, ej⟩ := List.getElem?_of_mem hg
        obtain ⟨q1, ys, q2⟩ := b2 j g ej a hb
        have := r1.dis i j a ha q1
        subst this
        rw [e] at q2
        cases q2
        exact hx ys rfl
      have nn : ∀ a, φ1 i a → alls fs a ∨ H a = none := fun a ha => n1 a (.inr ⟨i, ha⟩)
      cases z : η1[i]? with
      | none => simp only [SOut.fin, z] at p; exact p.elim
      | some o =>
        cases o with
        | none => simp only [SOut.fin, z] at p; exact p.elim
        | some x =>
          cases x with
          | d x => exact end1 _ _ (at2 _ z) (dd _ z (fun _ => Val.noConfusion)) nn (by simp only [SOut.fin, z])
          | l x => exact end1 _ _ (at2 _ z) (dd _ z (fun _ => Val.noConfusion)) nn (by simp only [SOut.fin, z])
          | fz x => exact end1 _ _ (at2 _ z) (dd _ z (fun _ => Val.noConfusion)) nn (by simp only [SOut.fin, z])
          | m x => exact end1 _ _ (at2 _ z) (dd _ z (fun _ => Val.noConfusion)) nn (by simp only [SOut.fin, z])
          | mt x => exact end1 _ _ (at2 _ z) (dd _ z (fun _ => Val.noConfusion)) nn (by simp only [SOut.fin, z])
          | bw x => simp only [SOut.fin, z] at p; exact p.elim
          | pin b x => simp only [SOut.fin, z] at p; exact p.elim
end
end DD


/-! Calls of defs. -/
namespace DD
open PySem PySem.Spec PyProof.Rows L2
open Classical

def argIn (η : Env) : Ref → Option Val
  | .vl (.d x) => some (.d x)
  | .vl (.l x) => some (.l x)
  | .vl (.fz x) => some (.fz x)
  | .sl j => (match η[j]? with
    | some (some (.d x)) => some (.d x)
    | some (some (.fz x)) => some (.fz x)
    | some (some (.l x)) => some (.bw x)
    | some (some (.bw x)) => some (.bw x)
    | some (some (.pin _ x)) => some (.bw x)
    | _ => none)
  | _ => none
def argsIn (η : Env) : List Ref → Option (List Val)
  | [] => some []
  | r :: rs => match argIn η r, argsIn η rs with
    | some x, some xs => some (x :: xs)
    | _, _ => none
/-- the slot whose list is given away -/
def lsl (η : Env) : Ref → Option Nat
  | .sl j => (match η[j]? with
    | some (some (.d _)) => none
    | some (some (.fz _)) => none
    | _ => some j)
  | _ => none
def takeE (η : Env) : List Nat → Env
  | [] => η
  | j :: js => (takeE η js).set j none
noncomputable def give1 (η0 η : Env) (r : Ref) (b : Option Val) : Option Env := match lsl η0 r with
  | none => some η
  | some j => (match η0[j]?, b with
    | some (some (.l _)), some (.bw ys) => some (η.set j (some (.l ys)))
    | some (some (.bw _)), some (.bw ys) => some (η.set j (some (.bw ys)))
    | some (some (.pin q xs)), some (.bw ys) => if ys = xs then some (η.set j (some (.pin q xs))) else none
    | some (some (.pin _ _)), _ => none
    | _, _ => some η)
noncomputable def giveE (η0 : Env) : Env → List Ref → List (Option Val) → Option Env
  | η, r :: rs, b :: bs => (match give1 η0 η r b with
    | some η' => giveE η0 η' rs bs
    | none => none)
  | η, _, _ => some η
noncomputable def mCallD (F : List Val → FRes) (ds : List D) (ms : List (M Ref)) : M Ref := mArgs ms >>= fun rs => fun η => match argsIn η rs with
  | some xs => if (rs.filterMap (lsl η)).Nodup then (match F (xs ++ ds.map Val.d) with
      | .ok x bs => (match giveE η (takeE η (rs.filterMap (lsl η))) rs bs with
        | some η' => .ok (.vl x) η'
        | none => .stuck)
      | .err y bs => (match giveE η (takeE η (rs.filterMap (lsl η))) rs bs with
        | some η' => .err y η'
        | none => .stuck)
      | .stuck => .stuck) else .stuck
  | none => .stuck
section
variable {K : PySem.W.Frag} {ρ : Nat → Addr} {mg : Str → Option Value} {W : WX} {σ : L2.St} {A : AS} {H₀ H H' : Hp} {L : List HeldI} {η η' η0 : Env} {φ φ' φ0 : FS} {vs : List V} {gs : List AS}
def argF (φ : FS) (h : HeldI) : AS := match h.r with
  | .vl _ => h.f
  | .sl j => φ j
theorem arg_rep (a : At K ρ σ A H₀ L H η φ) {h : HeldI} (hm : h ∈ L) {x : Val} (e : argIn η h.r = some x) : RepV K H x h.v (argF φ h) ∧ (x.kept = true → ∃ b, h.v = .ref b) := by
  obtain ⟨r, v, f⟩ := h
  have ok := (a.held _ hm).1
  cases r with
  | vl y =>
    cases y <;> first
      | (cases e; exact ⟨ok, fun z => by cases z⟩)
      | cases e
  | sl j =>
    have ok : σ[j]? = some (some v) := ok.1
    have get : ∀ y, η[j]? = some (some y) → RepV K H y v (φ j) := fun y q => by
      obtain ⟨w, w1, w2⟩ := a.rep.rep j y q
      rw [ok] at w1; cases w1
      exact w2
    unfold argIn at e
    dsimp only at e
    split at e
    · cases e; exact ⟨get _ (by assumption), fun z => by cases z⟩
    · cases e; exact ⟨get _ (by assumption), fun z => by cases z⟩
    · rename_i q
      cases e
      obtain ⟨b, us, e1, e2⟩ := get _ q
      exact ⟨⟨b, us, e1, e2⟩, fun _ => ⟨b, e1⟩⟩
    · rename_i q
      cases e
      obtain ⟨b, us, e1, e2⟩ := get _ q
      exact ⟨⟨b, us, e1, e2⟩, fun _ => ⟨b, e1⟩⟩
    · rename_i q
      cases e
      obtain ⟨b, us, e1, e2⟩ := get _ q
      exact ⟨⟨b, us, e1, e2⟩, fun _ => ⟨b, e1⟩⟩
    · cases e
theorem args_rep (a : At K ρ σ A H₀ L H η φ) : ∀ {L' : List HeldI} {xs : List Val}, (∀ h ∈ L', h ∈ L) → argsIn η (L'.map (·.r)) = some xs → ArgsIn K H (L'.map (·.v)) xs (L'.map (argF φ))
  | [], xs, _, e => by cases e; exact .nil
  | h :: L', xs, hm, e => by
    simp only [List.map_cons, argsIn] at e
    cases q1 : argIn η h.r with
    | none => rw [q1] at e; cases e
    | some x =>
      cases q2 : argsIn η (L'.map (·.r)) with
      | none => rw [q1, q2] at e; cases e
      | some ys =>
        rw [q1, q2] at e
        cases e
        have := arg_rep a (hm h List.mem_cons_self) q1
        exact .cons this.1 this.2 (args_rep a (fun k hk => hm k (List.mem_cons_of_mem _ hk)) q2)
/-- a place of an argument is a held one's, or a slot's whose list is given away -/
theorem argF_in (a : At K ρ σ A H₀ L H η φ) {h : HeldI} (hm : h ∈ L) {b : Addr} (hb : argF φ h b) : (∃ y, h.r = .vl y ∧ h.f b) ∨ ∃ j, h.r = .sl j ∧ lsl η h.r = some j ∧ φ j b := by
  obtain ⟨r, v, f⟩ := h
  cases r with
  | vl y => exact .inl ⟨y, rfl, hb⟩
  | sl j =>
    have hb : φ j b := hb
    refine .inr ⟨j, rfl, ?_, hb⟩
    unfold lsl
    dsimp only
    split
    · rename_i q
      obtain ⟨w, w1, w2⟩ := a.rep.rep j _ q
      exact (w2.2 b hb).elim
    · rename_i q
      obtain ⟨w, w1, w2⟩ := a.rep.rep j _ q
      exact (w2.2 b hb).elim
    · rfl
theorem args_dis (a : At K ρ σ A H₀ L H η φ) : ∀ {L' : List HeldI}, (∀ h ∈ L', h ∈ L) → L'.Pairwise (fun h k => dis h.f k.f) → ((L'.map (·.r)).filterMap (lsl η)).Nodup → (L'.map (argF φ)).Pairwise dis
  | [], _, _, _ => .nil
  | h :: L', hm, hd, hn => by
    obtain ⟨d1, d2⟩ := List.pairwise_cons.mp hd
    have hn2 : ((L'.map (·.r)).filterMap (lsl η)).Nodup := by
      rw [List.map_cons, List.filterMap_cons] at hn
      split at hn
      · exact hn
      · exact (List.nodup_cons.mp hn).2
    refine List.pairwise_cons.mpr ⟨fun g hg b hb hb' => ?_, args_dis a (fun k hk => hm k (List.mem_cons_of_mem _ hk)) d2 hn2⟩
    obtain ⟨k, hk, rfl⟩ := List.mem_map.mp hg
    have h1 := argF_in a (hm h List.mem_cons_self) hb
    have h2 := argF_in a (hm k (List.mem_cons_of_mem _ hk)) hb'
    rcases h1 with ⟨y, e1, f1⟩ | ⟨j, e1, l1, f1⟩ <;> rcases h2 with ⟨y2, e2, f2⟩ | ⟨j2, e2, l2, f2⟩
    · exact d1 k hk b f1 f2
    · exact (a.held h (hm h List.mem_cons_self)).2 b f1 ⟨j2, f2⟩
    · exact (a.held k (hm k (List.mem_cons_of_mem _ hk))).2 b f2 ⟨j, f1⟩
    · have := a.rep.dis j j2 b f1 f2
      subst this
      rw [List.map_cons, List.filterMap_cons, l1] at hn
      refine (List.nodup_cons.mp hn).1 (List.mem_filterMap.mpr ⟨k.r, List.mem_map_of_mem hk, l2⟩)
theorem take_get : ∀ {js : List Nat} {i : Nat} {x : Val}, (takeE η js)[i]? = some (some x) → η[i]? = some (some x) ∧ i ∉ js
  | [], i, x, h => ⟨h, by simp⟩
  | j :: js, i, x, h => by
    unfold takeE at h
    by_cases hi : j = i
    · subst hi
      by_cases hv : j < (takeE η js).length
      · rw [List.getElem?_set_self hv] at h; cases h
      · rw [List.getElem?_eq_none (by simpa using hv)] at h; cases h
    · rw [List.getElem?_set_ne hi] at h
      obtain ⟨h1, h2⟩ := take_get h
      exact ⟨h1, by simp only [List.mem_cons, not_or]; exact ⟨fun e => hi e.symm, h2⟩⟩
theorem take_len : ∀ {js : List Nat}, (takeE η js).length = η.length
  | [] => rfl
  | j :: js => by unfold takeE; rw [List.length_set, take_len]
theorem take_out : ∀ {js : List Nat} {i : Nat}, i ∈ js → i < η.length → (takeE η js)[i]? = some none
  | j :: js, i, h, hl => by
    unfold takeE
    by_cases hi : j = i
    · subst hi
      exact List.getElem?_set_self (by rw [take_len]; exact hl)
    · rw [List.getElem?_set_ne hi]
      exact take_out ((List.mem_cons.mp h).resolve_left fun e => hi e.symm) hl
theorem RepE.take (r : RepE K ρ H σ η φ) (js : List Nat) : RepE K ρ H σ (takeE η js) (fun i a => φ i a ∧ i ∉ js) := by
  refine ⟨by rw [take_len]; exact r.len, fun i x e => ?_, fun i n a h => ?_, fun i j a h1 h2 => r.dis i j a h1.1 h2.1, fun i x e hk => r.pin i x (take_get e).1 hk⟩
  · obtain ⟨e1, e2⟩ := take_get e
    obtain ⟨v, h1, h2⟩ := r.rep i x e1
    refine ⟨v, h1, ?_⟩
    have : (fun a => φ i a ∧ i ∉ js) = φ i := funext fun a => propext ⟨fun z => z.1, fun z => ⟨z, e2⟩⟩
    rw [this]
    exact h2
  · by_cases q : ∃ x, η[i]? = some (some x)
    · obtain ⟨x, q⟩ := q
      have : ∀ {js : List Nat}, i ∉ js → (takeE η js)[i]? = η[i]? := fun {js} => by
        induction js with
        | nil => exact fun _ => rfl
        | cons j js ih =>
          intro hj
          simp only [List.mem_cons, not_or] at hj
          unfold takeE
          rw [List.getElem?_set_ne (Ne.symm hj.1)]
          exact ih hj.2
      exact n x (by rw [this h.2]; exact q)
    · exact r.emp i (fun x e => q ⟨x, e⟩) a h.1
/-- a slot gets back what it held -/
theorem RepE.fill (r : RepE K ρ H σ η φ) {j : Nat} {x : Val} {v : V} {g : AS} (hj : η[j]? = some none) (hs : σ[j]? = some (some v)) (h : RepV K H x v g) (d : DD.dis g (foot φ)) (hk : x.kept = true → v = .ref (ρ j)) :
    RepE K ρ H σ (η.set j (some x)) (fun i => if i = j then g else φ i) := by
  have hl : j < η.length := (List.getElem?_eq_some_iff.mp hj).1
  refine ⟨by simpa using r.len, fun i y q => ?_, fun i n b => ?_, fun i l b h1 h2 => ?_, fun i y q hq => ?_⟩
  · by_cases hi : i = j
    · subst hi
      rw [List.getElem?_set_self hl] at q
      cases q
      exact ⟨v, hs, by simpa using h⟩
    · rw [List.getElem?_set_ne (Ne.symm hi)] at q
      obtain ⟨w, w1, w2⟩ := r.rep i y q
      exact ⟨w, w1, by simpa [hi] using w2⟩
  · by_cases hi : i = j
    · subst hi
      exact (n _ (List.getElem?_set_self hl)).elim
    · simp only [hi, if_false]
      exact r.emp i (fun z q => n z (by rw [List.getElem?_set_ne (Ne.symm hi)]; exact q)) b
  · by_cases hi : i = j <;> by_cases hq : l = j
    · rw [hi, hq]
    · simp only [hi, hq, if_true, if_false] at h1 h2
      exact (d b h1 ⟨l, h2⟩).elim
    · simp only [hi, hq, if_true, if_false] at h1 h2
      exact (d b h2 ⟨i, h1⟩).elim
    · simp only [hi, hq, if_false] at h1 h2
      exact r.dis i l b h1 h2
  · by_cases hi : i = j
    · subst hi
      rw [List.getElem?_set_self hl] at q
      cases q
      rw [hs, hk hq]
    · rw [List.getElem?_set_ne (Ne.symm hi)] at q
      exact r.pin i y q hq
/-- the caller's slots behind a call -/
theorem give_rep (r0 : RepE K ρ H σ η0 φ0) : ∀ {L' : List HeldI} {bs : List (Option Val)} {gs : List AS} {η η' : Env} {φ : FS}, (∀ h ∈ L', ∀ j, h.r = .sl j → σ[j]? = some (some h.v)) → ((L'.map (·.r)).filterMap (lsl η0)).Nodup →
    (∀ j ∈ (L'.map (·.r)).filterMap (lsl η0), j < η0.length → η[j]? = some none) → RepE K ρ H' σ η φ → Back K H' (L'.map (·.v)) bs gs → gs.Pairwise dis → (∀ g ∈ gs, dis g (foot φ)) → giveE η0 η (L'.map (·.r)) bs = some η' →
    ∃ φ', RepE K ρ H' σ η' φ' ∧ ∀ a, foot φ' a → foot φ a ∨ alls gs a
  | [], bs, gs, η, η', φ, hs, hn, ho, r, hb, hd, hg, e => by
    cases hb
    unfold giveE at e
    cases e
    exact ⟨φ, r, fun a h => .inl h⟩
  | h :: L', _, _, η, η', φ, hs, hn, ho, r, hb, hd, hg, e => by
    cases hb with
    | @cons _ b g _ bs gs hb1 hb2 hb3 =>
      obtain ⟨d1, d2⟩ := List.pairwise_cons.mp hd
      have hsub : ∀ j ∈ (L'.map (·.r)).filterMap (lsl η0), j ∈ ((h :: L').map (·.r)).filterMap (lsl η0) := fun j hj => by
        rw [List.map_cons, List.filterMap_cons]
        split
        · exact hj
        · exact List.mem_cons_of_mem _ hj
      have hn2 : ((L'.map (·.r)).filterMap (lsl η0)).Nodup := by
        rw [List.map_cons, List.filterMap_cons] at hn
        split at hn
        · exact hn
        · exact (List.nodup_cons.mp hn).2
      simp only [List.map_cons, giveE] at e
      cases q : give1 η0 η h.r b with
      | none => rw [q] at e; cases e
      | some η1 =>
        rw [q] at e
        dsimp only at e
        have skip : η1 = η → ∃ φ', RepE K ρ H' σ η' φ' ∧ ∀ a, foot φ' a → foot φ a ∨ alls (g :: gs) a := fun eq => by
          subst eq
          obtain ⟨φ', r', n'⟩ := give_rep r0 (fun k hk => hs k (List.mem_cons_of_mem _ hk)) hn2 (fun j hj => ho j (hsub j hj)) r hb3 d2 (fun k hk => hg k (List.mem_cons_of_mem _ hk)) e
          exact ⟨φ', r', fun a ha => (n' a ha).imp id fun ⟨k, hk, ka⟩ => ⟨k, List.mem_cons_of_mem _ hk, ka⟩⟩
        unfold give1 at q
        cases ql : lsl η0 h.r with
        | none => rw [ql] at q; cases q; exact skip rfl
        | some j =>
          rw [ql] at q
          dsimp only at q
          have hr : h.r = .sl j := by
            unfold lsl at ql
            split at ql
            · rename_i i er
              split at ql
              · cases ql
              · cases ql
              · cases ql; exact er
            · cases ql
          have hσ := hs h List.mem_cons_self j hr
          have hnj : j ∉ (L'.map (·.r)).filterMap (lsl η0) := by
            rw [List.map_cons, List.filterMap_cons, ql] at hn
            exact (List.nodup_cons.mp hn).1
          have hjin : j ∈ ((h :: L').map (·.r)).filterMap (lsl η0) := by
            rw [List.map_cons, List.filterMap_cons, ql]
            exact List.mem_cons_self
          have put : ∀ (x0 x : Val), η0[j]? = some (some x0) → η1 = η.set j (some x) → RepV K H' x h.v g → (x.kept = true → x0.kept = true) → ∃ φ', RepE K ρ H' σ η' φ' ∧ ∀ a, foot φ' a → foot φ a ∨ alls (g :: gs) a := fun x0 x e0 e1 hx hk => by
            subst e1
            have hl : j < η0.length := (List.getElem?_eq_some_iff.mp e0).1
            have r1 := r.fill (ho j hjin hl) hσ hx (hg g List.mem_cons_self) fun z => by
              have := r0.pin j x0 e0 (hk z)
              rw [hσ] at this
              simpa using this
            obtain ⟨φ', r', n'⟩ := give_rep r0 (fun k hk => hs k (List.mem_cons_of_mem _ hk)) hn2 (fun i hi hl => by
              rw [List.getElem?_set_ne (fun z => hnj (by rw [z]; exact hi))]
              exact ho i (hsub i hi) hl) r1 hb3 d2 (fun k hk a ka ⟨i, fa⟩ => by
                by_cases hi : i = j
                · simp only [hi, if_true] at fa
                  exact d1 k hk a fa ka
                · simp only [hi, if_false] at fa
                  exact hg k (List.mem_cons_of_mem _ hk) a ka ⟨i, fa⟩) e
            refine ⟨φ', r', fun a ha => ?_⟩
            rcases n' a ha with ⟨i, fa⟩ | ⟨k, hk, ka⟩
            · by_cases hi : i = j
              · simp only [hi, if_true] at fa
                exact .inr ⟨g, List.mem_cons_self, fa⟩
              · simp only [hi, if_false] at fa
                exact .inl ⟨i, fa⟩
            · exact .inr ⟨k, List.mem_cons_of_mem _ hk, ka⟩
          split at q
          · rename_i ys e0
            cases q
            exact put _ _ e0 rfl (hb1 _ rfl) (fun z => by cases z)
          · rename_i ys e0
            cases q
            exact put _ _ e0 rfl (hb1 _ rfl) (fun z => rfl)
          · rename_i p xs ys e0
            split at q
            · rename_i exy
              cases q
              subst exy
              exact put _ _ e0 rfl (hb1 _ rfl) (fun z => rfl)
            · cases q
          · cases q
          · cases q; exact skip rfl
end
section
variable {X : Cx} {W : WX} {k : Nat} {e : Expr} {es : List Expr} {ms : List (M Ref)} {pos p : Pos} {x : Str} {f : Addr} {fd : FuncData} {ps : List Str} {n : Nat} {F : List Val → FRes} {ds : List D} {dvs : List V} {dus : List Value}
/-- the defaults, as they stand in what is written -/
def KeptD (K : PySem.W.Frag) (dvs : List V) (ds : List D) : Prop := ∀ H, Rps K H dvs ds
theorem kept_args {K : PySem.W.Frag} {H : Hp} : ∀ {vs : List V} {ds : List D}, Rps K H vs ds → ArgsIn K H vs (ds.map Val.d) (ds.map fun _ => none_)
  | _, _, .nil => .nil
  | _, _, .cons h t => .cons ⟨h, fun _ => id⟩ (fun z => by cases z) (kept_args t)
theorem ArgsIn.app {K : PySem.W.Frag} {H : Hp} {vs ws : List V} {xs ys : List Val} {fs gs : List AS} : ArgsIn K H vs xs fs → ArgsIn K H ws ys gs → ArgsIn K H (vs ++ ws) (xs ++ ys) (fs ++ gs)
  | .nil, h => h
  | .cons a b t, h => .cons a b (t.app h)
theorem Back.cut {K : PySem.W.Frag} {H : Hp} : ∀ {vs ws : List V} {bs : List (Option Val)} {gs : List AS}, Back K H (vs ++ ws) bs gs → ∃ b1 b2 g1 g2, bs = b1 ++ b2 ∧ gs = g1 ++ g2 ∧ Back K H vs b1 g1 ∧ Back K H ws b2 g2
  | [], ws, bs, gs, h => ⟨[], bs, [], gs, rfl, rfl, .nil, h⟩
  | v :: vs, ws, _, _, .cons (b := b) (g := g) a c t => by
    obtain ⟨b1, b2, g1, g2, e1, e2, h1, h2⟩ := Back.cut t
    exact ⟨b :: b1, b2, g :: g1, g2, by rw [e1]; rfl, by rw [e2]; rfl, .cons a c h1, h2⟩
theorem Back.len {K : PySem.W.Frag} {H : Hp} : ∀ {vs : List V} {bs : List (Option Val)} {gs : List AS}, Back K H vs bs gs → vs.length = bs.length
  | _, _, _, .nil => rfl
  | _, _, _, .cons _ _ t => congrArg Nat.succ t.len
theorem give_app {η0 : Env} : ∀ {rs : List Ref} {bs cs : List (Option Val)} {η : Env}, rs.length = bs.length → giveE η0 η rs (bs ++ cs) = giveE η0 η rs bs
  | [], [], cs, η, _ => by cases cs <;> rfl
  | r :: rs, b :: bs, cs, η, h => by
    simp only [List.cons_append, giveE]
    cases give1 η0 η r b with
    | none => rfl
    | some η' => exact give_app (Nat.succ.inj h)
  | [], _ :: _, _, _, h => by simp at h
  | _ :: _, [], _, _, h => by simp at h
theorem call_core {K : PySem.W.Frag} {ρ : Nat → Addr} {mg : Str → Option Value} {σ : L2.St} {A : AS} {H₀ H : Hp} {L : List HeldI} {η : Env} {φ : FS} {Q : VK} (hk : KeptD K dvs ds) (hn : L.length + ds.length = n) (at_ : At K ρ σ A H₀ L H η φ)
    (p : Post K ρ mg W σ A H₀ Q (match argsIn η (L.map (·.r)) with
      | some xs => if ((L.map (·.r)).filterMap (lsl η)).Nodup then (match F (xs ++ ds.map Val.d) with
          | .ok x bs => (match giveE η (takeE η ((L.map (·.r)).filterMap (lsl η))) (L.map (·.r)) bs with
            | some η' => .ok (.vl x) η'
            | none => .stuck)
          | .err y bs => (match giveE η (takeE η ((L.map (·.r)).filterMap (lsl η))) (L.map (·.r)) bs with
            | some η' => .err y η'
            | none => .stuck)
          | .stuck => .stuck) else .stuck
      | none => .stuck)) : spD K mg n F (L.map (·.v) ++ dvs) H Q (fun cls d H' => W cls d σ H') := by
  cases q : argsIn η (L.map (·.r)) with
  | none => rw [q] at p; exact p.elim
  | some xs =>
    rw [q] at p
    dsimp only at p
    by_cases hnd : ((L.map (·.r)).filterMap (lsl η)).Nodup
    · rw [if_pos hnd] at p
      have aIn := args_rep at_ (L' := L) (fun _ h => h) q
      have aD := args_dis at_ (L' := L) (fun _ h => h) at_.dis hnd
      have aDs := kept_args (hk H)
      have len1 := aIn.len.1
      rw [List.length_map] at len1
      have nf : New A H₀ (foot φ) := at_.new.sub fun _ h => .inr h
      have eN : alls (L.map (argF φ) ++ ds.map fun _ => none_) = alls (L.map (argF φ)) := funext fun b => propext ⟨fun ⟨g, hg, gb⟩ => by
        rcases List.mem_append.mp hg with z | z
        · exact ⟨g, z, gb⟩
        · obtain ⟨_, _, e⟩ := List.mem_map.mp z
          subst e
          exact gb.elim, fun ⟨g, hg, gb⟩ => ⟨g, List.mem_append_left _ hg, gb⟩⟩
      refine ⟨xs ++ ds.map Val.d, L.map (argF φ) ++ ds.map fun _ => none_, aIn.app aDs, List.pairwise_append.mpr ⟨aD, ?_, fun f hf g hg b _ gb => ?_⟩, by simp [← len1]; exact hn, ?_⟩
      · clear aDs eN hn p hk
        induction ds with
        | nil => exact .nil
        | cons d ds ih => exact List.pairwise_cons.mpr ⟨fun _ _ _ z => z.elim, ih⟩
      · obtain ⟨_, _, e⟩ := List.mem_map.mp hg
        subst e
        exact gb.elim
      rw [eN]
      -- the arguments' places
      have aA : ∀ b, alls (L.map (argF φ)) b → uni (gone L) (foot φ) b := fun b ⟨g, hg, gb⟩ => by
        obtain ⟨h, hm, rfl⟩ := List.mem_map.mp hg
        rcases argF_in at_ hm gb with ⟨y, e1, f1⟩ | ⟨j, e1, l1, f1⟩
        · exact .inl ⟨h, hm, f1⟩
        · exact .inr ⟨j, f1⟩
      have aN : New A H₀ (alls (L.map (argF φ))) := at_.new.sub aA
      -- what stays with the caller
      have rT := at_.rep.take ((L.map (·.r)).filterMap (lsl η))
      have tA : ∀ b, alls (L.map (argF φ)) b → ¬ foot (fun i a => φ i a ∧ i ∉ (L.map (·.r)).filterMap (lsl η)) b := fun b ⟨g, hg, gb⟩ ⟨i, fb, hi⟩ => by
        obtain ⟨h, hm, rfl⟩ := List.mem_map.mp hg
        rcases argF_in at_ hm gb with ⟨y, e1, f1⟩ | ⟨j, e1, l1, f1⟩
        · exact (at_.held h hm).2 b f1 ⟨i, fb⟩
        · have := at_.rep.dis i j b fb f1
          subst this
          exact hi (List.mem_filterMap.mpr ⟨h.r, List.mem_map_of_mem hm, l1⟩)
      have there : ∀ {b}, foot (fun i a => φ i a ∧ i ∉ (L.map (·.r)).filterMap (lsl η)) b → H b ≠ none := fun {b} ⟨i, fb, _⟩ z => by
        obtain ⟨o, e, _⟩ := at_.rep.there ⟨i, fb⟩
        rw [z] at e; cases e
      have tF : ∀ b, foot (fun i a => φ i a ∧ i ∉ (L.map (·.r)).filterMap (lsl η)) b → foot φ b := fun b ⟨i, fb, _⟩ => ⟨i, fb⟩
      -- the way back
      have wayB : ∀ {H2 : Hp} {bs : List (Option Val)} {gs : List AS} {η' : Env}, Back K H2 (L.map (·.v) ++ dvs) bs gs → gs.Pairwise dis → Ext (alls (L.map (argF φ))) H H2 → New (alls (L.map (argF φ))) H (alls gs) →
          giveE η (takeE η ((L.map (·.r)).filterMap (lsl η))) (L.map (·.r)) bs = some η' → ∃ φ', RepE K ρ H2 σ η' φ' ∧ (∀ a, foot φ' a → foot (fun i a => φ i a ∧ i ∉ (L.map (·.r)).filterMap (lsl η)) a ∨ alls gs a) ∧ Ext A H₀ H2 ∧ New A H₀ (foot φ') := fun {H2 bs gs η'} hb hd ex nn hg => by
        obtain ⟨b1, b2, g1, g2, e1, e2, k1, k2⟩ := hb.cut
        subst e1 e2
        have hl : (L.map (·.r)).length = b1.length := by rw [← k1.len]; simp
        rw [give_app hl] at hg
        have rT2 := rT.ext ex fun b hb ha => tA b ha hb
        have dg : ∀ g ∈ g1, dis g (foot (fun i a => φ i a ∧ i ∉ (L.map (·.r)).filterMap (lsl η))) := fun g hg b gb hb => by
          rcases nn b ⟨g, List.mem_append_left _ hg, gb⟩ with z | z
          · exact tA b z hb
          · exact there hb z
        obtain ⟨φ', r', n'⟩ := give_rep at_.rep (L' := L) (fun h hm j e => by
          have := (at_.held h hm).1
          rw [e] at this
          exact this.1) hnd (fun j hj hl => take_out hj hl) rT2 k1 (List.pairwise_append.mp hd).1 dg hg
        have n2 : ∀ a, foot φ' a → foot (fun i a => φ i a ∧ i ∉ (L.map (·.r)).filterMap (lsl η)) a ∨ alls (g1 ++ g2) a := fun a ha => (n' a ha).imp id fun ⟨g, hg, gb⟩ => ⟨g, List.mem_append_left _ hg, gb⟩
        refine ⟨φ', r', n2, at_.ext.trans aN ex, fun a ha => ?_⟩
        rcases n2 a ha with z | z
        · exact nf a (tF a z)
        · exact (New.trans at_.ext aN nn) a z
      cases qF : F (xs ++ ds.map Val.d) with
      | stuck => rw [qF] at p; exact p.elim
      | ok x bs =>
        rw [qF] at p
        intro v H2 f gs hx hb hd ex nn
        dsimp only at p
        obtain ⟨d1, d2⟩ := List.pairwise_cons.mp hd
        cases qg : giveE η (takeE η ((L.map (·.r)).filterMap (lsl η))) (L.map (·.r)) bs with
        | none => rw [qg] at p; exact p.elim
        | some η' =>
          rw [qg] at p
          obtain ⟨φ', r', n', ex', nn'⟩ := wayB hb d2 ex (nn.sub fun a ⟨g, hg, ga⟩ => ⟨g, List.mem_cons_of_mem _ hg, ga⟩) qg
          refine p v H2 φ' f r' hx (fun b fb hb' => ?_) ex' (New.uni ((New.trans at_.ext aN nn).sub fun a fa => ⟨f, List.mem_cons_self, fa⟩) nn')
          rcases n' b hb' with z | ⟨g, hg, gb⟩
          · rcases nn b ⟨f, List.mem_cons_self, fb⟩ with w | w
            · exact tA b w z
            · exact there z w
          · exact d1 g hg b fb gb
      | err y bs =>
        rw [qF] at p
        intro cls dx H2 gs hb hd ex nn xk
        dsimp only at p
        cases qg : giveE η (takeE η ((L.map (·.r)).filterMap (lsl η))) (L.map (·.r)) bs with
        | none => rw [qg] at p; exact p.elim
        | some η' =>
          rw [qg] at p
          obtain ⟨φ', r', n', ex', nn'⟩ := wayB hb hd ex nn qg
          exact p cls dx H2 φ' r' ex' nn' xk
    · rw [if_neg hnd] at p; exact p.elim
theorem mArgs_len : ∀ {ms : List (M Ref)} {η η' : Env} {rs : List Ref}, mArgs ms η = .ok rs η' → rs.length = ms.length
  | [], η, η', rs, e => by cases e; rfl
  | m :: ms, η, η', rs, e => by
    unfold mArgs at e
    rw [bind_def] at e
    cases q : m η with
    | ok r η1 =>
      rw [q] at e
      simp only [Out.bind] at e
      rw [bind_def] at e
      cases q2 : mArgs ms η1 with
      | ok rs2 η2 =>
        rw [q2] at e
        cases e
        exact congrArg Nat.succ (mArgs_len q2)
      | _ => rw [q2] at e; cases e
    | _ => rw [q] at e; cases e
theorem At.stepAn {K : PySem.W.Frag} {ρ : Nat → Addr} {mg : Str → Option Value} {σ : L2.St} {H : Hp} {η : Env} {φ : FS} {Q : VK} {ms : List (M Ref)} {kk : List Ref → M Ref} (r : RepE K ρ H σ η φ) (p : Post K ρ mg W σ (foot φ) H Q ((mArgs ms >>= kk) η)) :
    tA K mg W (mArgs ms) σ H fun vs H' => ∃ η' φ' L, At K ρ σ (foot φ) H L H' η' φ' ∧ L.map (·.v) = vs ∧ L.length = ms.length ∧ Post K ρ mg W σ (foot φ) H Q (kk (L.map (·.r)) η') := by
  refine ⟨ρ, η, φ, r, ?_⟩
  rw [bind_def] at p
  cases e : mArgs ms η with
  | ok rs η' =>
    rw [e] at p
    have hl := mArgs_len e
    exact fun H' φ' L at_ eL => ⟨η', φ', L, at_, rfl, by rw [← hl, ← eL, List.length_map], by rw [eL]; exact p⟩
  | err x η' => rw [e] at p; exact p
  | stuck => rw [e] at p; exact p.elim
theorem de_call (cc : Cc X W k) (F1 : FnG X.prog X.w X.K X.mg X.base k f fd ps (spD X.K X.mg n F)) (hg : Gl X x) (hm : X.mg x = some (.ref f)) (hk : PySem.W.keepIn X.K (.ref f) = true) (hb : Binds X.K fd ps dus) (hd : Vals dvs dus) (hD : KeptD X.K dvs ds) (hn : ms.length + ds.length = n)
    (ha : DA X W (e :: es) ms) (hdb : (x == ("__debug__" : Str)) = false := by decide) (he : starEach (e :: es) X.env = (false, eval e X.env) :: starEach es X.env := by rfl) (hpl : (backTo pos (starEach es X.env)).any (·.1) = false := by rfl) :
    DE X W (.Call (.Name x p) (e :: es) [] pos) (mCallD F ds ms) :=
  pe_mono (pe_callG F1 cc.room cc.grd hg hm hk hb hd (fun σ => passAt cc.tk σ) ha hdb he hpl) fun σ H Q ⟨ρ, η, φ, r, p⟩ => by
    refine tA_mono (fun vs H' ⟨η', φ', L, at_, eL, hl, q⟩ => ?_) (At.stepAn (r := r) (ms := ms) (kk := _) p)
    subst eL
    exact call_core hD (by rw [hl]; exact hn) at_ q
end
end DD


/-! The law's def at the top. -/
namespace DD
open PySem PySem.Spec PyProof.Rows L2 PySem.W
open Classical

/-- the abstract heap in which the script alone may be tracked -/
structure Lone (P : Program) (w : World) (K : PySem.W.Frag) (s : Shared) (a : Addr) (ns : List Int) (H : Hp) : Prop where
  fz : FzL K H a (ns.map V.int)
  ok : HOk P w H s.heap
  one : ∀ b, H b ≠ none → b = a
  out : H a ≠ none → K.lookup a = none
  ice : ∀ b, H b = none ∨ ∃ o xs, H b = some (.frz o (.lst xs))
theorem lone_is {P : Program} {w : World} {K : PySem.W.Frag} {s : Shared} {a : Addr} {vs : List Value} {ns : List Int} (KX : K.In s.heap) (ha : s.heap.get? a = some { cls := .type "list", data := .seq vs.toArray }) (hi : IntsAre vs ns) (hl : ns.length ≤ sizeLine) : ∃ H, Lone P w K s a ns H := by
  have rv : Vals (ns.map V.int) vs := vals_ints hi
  cases q : K.lookup a with
  | some o =>
    have e : some o = some { cls := .type "list", data := .seq vs.toArray } := (KX a o q).symm.trans ha
    cases e
    refine ⟨fun _ => none, .inr fun H' => .inr ⟨_, vs.toArray, _, q, rfl, rfl, rfl, ?_, by simpa using rv⟩, fun b u z => (nomatch z), fun b z => (z rfl).elim, fun z => (z rfl).elim, fun b => .inl rfl⟩
    rw [List.size_toArray, hi.length]
    exact hl
  | none =>
    let U : HO := .frz { cls := .type "list", data := .seq vs.toArray } (.lst (ns.map V.int))
    refine ⟨fun b => if b = a then some U else none, .inl ⟨_, by simp [U]; rfl⟩, fun b u z => ?_, fun b z => ?_, fun _ => q, fun b => ?_⟩
    · by_cases e : b = a
      · subst e
        simp only [if_true] at z
        cases z
        exact ⟨ha, by rw [List.length_map]; exact hl, vs, _, rv, ha⟩
      · simp [e] at z
    · by_cases e : b = a
      · exact e
      · simp [e] at z
    · by_cases e : b = a
      · exact .inr ⟨_, _, by simp only [e, if_true]; rfl⟩
      · exact .inl (by simp [e])
/-- the call of the law at the bottom of the stack, where no guard is on -/
theorem law_atG {P : Program} {w : World} {K : PySem.W.Frag} {mg mb : Str → Option Value} {k : Nat} {fa a : Addr} {fd : FuncData} {x : Str} {sp : Sp} {s₁ : Shared} {vs : List Value} {ns : List Int}
    (KX : K.In s₁.heap) (hns : s₁.heap.Ns mainGlobals mg) (hb : s₁.heap.Ns builtinsNs mb) (hbb : ∀ x : Str, x ≠ "__name__" → mb x = bootBuiltins x) (hlim : s₁.heap.NoLimit) (hg : s₁.gens = #[])
    (ha : s₁.heap.get? a = some { cls := .type "list", data := .seq vs.toArray }) (hi : IntsAre vs ns) (hl : ns.length ≤ sizeLine) (hr : Room k callerA)
    (F : ∀ base : Heap, K.In base → base.Ns mainGlobals mg → FnG P w K mg base k fa fd [x] sp) (hbind : ∀ (s : Shared) (u : Value), BindsTo s fd ⟨[u], []⟩ [(x, u)])
    (hsp : ∀ H : Hp, FzL K H a (ns.map V.int) → sp [.ref a] H (fun v _ => v = .bl true) fun _ _ _ => False) :
    codeAny (model P w) callerA (.call (.ref fa) ⟨[.ref a], []⟩) (fun r s' => r = .ok (.ret (.bool true)) ∧ OldK s₁.heap s'.heap ∧ s'.os = s₁.os ∧ AllBare s'.gens) s₁ := by
  obtain ⟨H, L⟩ := lone_is (P := P) (w := w) KX ha hi hl
  have inB : ∀ b o, s₁.heap.get? b = some o → (b = a → K.lookup a = some o ∨ H a = none) → (hidT s₁.heap H).get? b = some o := fun b o e q => by
    refine hidT_get e ?_
    cases z : H b with
    | none => rfl
    | some u =>
      have e2 : b = a := L.one b (by rw [z]; exact fun n => nomatch n)
      subst e2
      rcases q rfl with k1 | k1
      · rw [L.out (by rw [z]; exact fun n => nomatch n)] at k1; cases k1
      · rw [z] at k1; cases k1
  have dictB : ∀ b m, s₁.heap.Ns b m → (hidT s₁.heap H).Ns b m := fun b m ⟨o, es, ep, e, d, r⟩ => by
    refine ⟨o, es, ep, inB b o e fun z => ?_, d, r⟩
    subst z
    rw [ha] at e
    cases e
    cases d
  have inK : K.In (hidT s₁.heap H) := fun b o e => inB b o (KX b o e) fun z => .inl (by rw [← z]; exact e)
  have M : Mod K mg (hidT s₁.heap H) := ⟨inK, dictB _ _ hns, ⟨mb, dictB _ _ hb, hbb⟩, hlim.elim fun mc h => ⟨mc, dictB _ _ h.1, h.2⟩⟩
  have E : Env0 P w K mg (hidT s₁.heap H) callerA [] s₁ H := ⟨rfl, M, fun b o e => of_hidT e, Nat.le_of_eq (hidT_size _ _), trivial, fun b hb => by simp [frs] at hb, L.ok, .of_eq hg⟩
  refine codeAny_mono ((F _ inK (dictB _ _ hns)).run callerA [] s₁ H ⟨[.ref a], []⟩ [.ref a] [.ref a] _ _ hr rfl E (hbind s₁ (.ref a)) (.cons rfl .nil) (hsp H L.fz)) fun r s' h => ?_
  match r, h with
  | .error e, h => exact (hCX_False h).elim
  | .ok .next, h => exact h.elim
  | .ok .brk, h => exact h.elim
  | .ok .cont, h => exact h.elim
  | .ok (.ret u), ⟨v, H', os, bare, un, ok', rv, qv⟩ =>
    have qv : v = .bl true := qv
    subst qv
    cases (show u = Value.bool true from rv)
    refine ⟨rfl, OldK.of_keep fun b o e => ?_, os, bare⟩
    cases q : H b with
    | none => exact un.keep b o e q (by simp [frs]) (by simp)
    | some u =>
      rcases L.ice b with z | ⟨ob, xs, z⟩
      · rw [q] at z; cases z
      · have z2 := un.frzs b ob _ z
        have e1 := (L.ok b _ z).1
        rw [e] at e1
        cases e1
        exact (ok' b _ z2).1
where
  hCX_False {P : Program} {w : World} {H : Hp} {s₁ s' : Shared} {e : Value} (h : L2.CX P w [] H s₁ (fun _ _ _ => False) e s') : False := by
    obtain ⟨_, _, _, _, _, _, _, _, _, _, _, _, z⟩ := h
    exact z
theorem walk_ofG {l : PySem.W.OpenLaw} {n k : Nat} {q : Program} {loose : List Str} {XP : (Str → Option Value) → Heap → Prop} {YP : World → Heap → Prop} {d : DefRec} {x : Str}
    (hn : l.most = some n) (hn2 : n ≤ sizeLine) (hdf : d.params.defaults = []) (hr : Room k callerA)
    (F : ∀ (w : World) (mg : Str → Option Value) (fa : Addr) (h : Heap), YP w h → h.Ns mainGlobals mg → mg d.name = some (.ref fa) →
      ∃ (K : PySem.W.Frag) (fd : FuncData) (sp : Sp), K.In h ∧ (∀ (s : Shared) (u : Value), BindsTo s fd ⟨[u], []⟩ [(x, u)]) ∧
        (∀ (H : Hp) (a : Addr) (ns : List Int), ns.length ≤ n → FzL K H a (ns.map V.int) → sp [.ref a] H (fun v _ => v = .bl true) fun _ _ _ => False) ∧
        ∀ base : Heap, K.In base → base.Ns mainGlobals mg → FnG l.prog w K mg base k fa fd [x] sp) :
    PySem.W.WalkO q loose XP YP l.row.toRowW d [] (fun f vs => PySem.call f vs) := by
  refine Att.attach_call hn hdf fun w s₀ s₁ mg mb fa o pm cd doc a vs ns G Y ho hd hcd hmg hobj hints hlen hg => ?_
  obtain ⟨K, fd, sp, KX, h1, h2, h3⟩ := F w mg fa _ Y G.T.g hmg
  exact law_atG KX G.T.g G.T.b G.T.builtins G.T.nolimit hg hobj hints (Nat.le_trans hlen hn2) hr h3 h1 fun H z => h2 H a ns hlen z
end DD


/-! Readings upon plain data: loops, comprehensions, repr. -/
namespace DD
open PySem PySem.Spec PyProof.Rows L2
open Classical

/-! ### loops that walk to their end -/
/-- one turn -/
def turn1 (t : Tg) (body : MS) (x : D) (η : Env) : SOut := match t (.d x) η with
  | .nx η1 => (match body η1 with
    | .ct η2 => .nx η2
    | o => o)
  | o => o
theorem forGo_inv {it : ItD} {t : Tg} {body : MS} (I : Nat → Env → Prop) (ok : ∀ i η, I i η → it.ok η) : ∀ (xs : List D) (i : Nat) (η : Env), I i η → (∀ j x η, xs[j]? = some x → I (i + j) η → ∃ η', turn1 t body x η = .nx η' ∧ I (i + j + 1) η') →
    ∃ η', forGo it t body xs η = .nx η' ∧ I (i + xs.length) η'
  | [], i, η, h0, _ => ⟨η, by unfold forGo; rw [if_pos (ok _ _ h0)], h0⟩
  | x :: xs, i, η, h0, hs => by
    obtain ⟨η', h1, h2⟩ := hs 0 x η rfl h0
    unfold forGo
    rw [if_pos (ok _ _ h0)]
    unfold turn1 at h1
    have nxt : ∃ η2, forGo it t body xs η' = .nx η2 ∧ I (i + (x :: xs).length) η2 := by
      obtain ⟨η2, k1, k2⟩ := forGo_inv I ok xs (i + 1) η' h2 (fun j y η e h => by
        have := hs (j + 1) y η e (by rw [show i + (j + 1) = i + 1 + j by omega]; exact h)
        rw [show i + (j + 1) + 1 = i + 1 + j + 1 by omega] at this
        exact this)
      exact ⟨η2, k1, by rw [List.length_cons, show i + (xs.length + 1) = i + 1 + xs.length by omega]; exact k2⟩
    cases q : t (.d x) η with
    | nx η1 =>
      rw [q] at h1
      dsimp only at h1 ⊢
      cases q2 : body η1 with
      | nx η2 => rw [q2] at h1; cases h1; exact nxt
      | ct η2 => rw [q2] at h1; cases h1; exact nxt
      | _ => rw [q2] at h1; cases h1
    | _ => rw [q] at h1; cases h1
theorem sFor_inv {mi : M ItD} {t : Tg} {body : MS} {η η0 : Env} {it : ItD} (h : mi η = .ok it η0) (I : Nat → Env → Prop) (ok : ∀ i η, I i η → it.ok η) (h0 : I 0 η0)
    (hs : ∀ j x η, it.items[j]? = some x → I j η → ∃ η', turn1 t body x η = .nx η' ∧ I (j + 1) η') : ∃ η', sFor mi t body η = (SOut.nx η').freed it ∧ I it.items.length η' := by
  obtain ⟨η', h1, h2⟩ := forGo_inv (t := t) (body := body) I ok it.items 0 η0 h0 (fun j x η e k => by
    rw [Nat.zero_add] at k ⊢
    exact hs j x η e k)
  rw [Nat.zero_add] at h2
  exact ⟨η', by unfold sFor; rw [h]; dsimp only; rw [h1], h2⟩
theorem sFor_free {mi : M ItD} {t : Tg} {body : MS} {η η0 : Env} {it : ItD} (h : mi η = .ok it η0) (hp : it.pin = none) (I : Nat → Env → Prop) (h0 : I 0 η0)
    (hs : ∀ j x η, it.items[j]? = some x → I j η → ∃ η', turn1 t body x η = .nx η' ∧ I (j + 1) η') : ∃ η', sFor mi t body η = .nx η' ∧ I it.items.length η' := by
  obtain ⟨η', h1, h2⟩ := sFor_inv h I (fun _ _ _ => by unfold ItD.ok; rw [hp]; trivial) h0 hs
  exact ⟨η', by rw [h1]; simp only [SOut.freed, ItD.free, hp], h2⟩

/-! ### comprehensions whose items leave the slots as they are -/
theorem lcGo_map {it : ItD} {vs : List Nat} {t : Tg} {c : M Bool} {el : M Ref} {η : Env} (ok : it.ok η) (g : D → Option D) : ∀ (xs : List D) (acc : List D), acc.length + xs.length ≤ sizeLine →
    (∀ x ∈ xs, ∃ η1, t (.d x) (wipeE η vs) = .nx η1 ∧ ((∃ η2, g x = none ∧ c η1 = .ok false η2 ∧ wipeE η2 vs = η) ∨ ∃ η2 r η3 y, g x = some y ∧ c η1 = .ok true η2 ∧ el η2 = .ok r η3 ∧ rdD η3 r = some y ∧ wipeE η3 vs = η)) →
    lcGo it vs t c el xs acc η = .ok (acc ++ xs.filterMap g) η
  | [], acc, _, _ => by unfold lcGo; rw [if_pos ok, List.filterMap_nil, List.append_nil]
  | x :: xs, acc, hl, hs => by
    unfold lcGo
    rw [if_pos ok]
    simp only [List.length_cons] at hl
    obtain ⟨η1, h1, h2⟩ := hs x List.mem_cons_self
    rw [h1]
    rcases h2 with ⟨η2, g1, c1, w1⟩ | ⟨η2, r, η3, y, g1, c1, e1, d1, w1⟩
    · simp only [c1, w1]
      rw [lcGo_map ok g xs acc (by omega) fun z hz => hs z (List.mem_cons_of_mem _ hz), List.filterMap_cons, g1]
    · simp only [c1, e1, d1, w1]
      rw [if_pos (by omega), lcGo_map ok g xs (acc ++ [y]) (by rw [List.length_append]; simp; omega) fun z hz => hs z (List.mem_cons_of_mem _ hz), List.filterMap_cons, g1]
      simp
theorem mLc_map {mi : M ItD} {vs : List Nat} {t : Tg} {c : M Bool} {el : M Ref} {η η1 : Env} {it : ItD} (h : mi η = .ok it η1) (hp : it.pin = none) (hl : it.items.length ≤ sizeLine) (g : D → Option D)
    (hs : ∀ x ∈ it.items, ∃ η2, t (.d x) (wipeE (wipeE η1 vs) vs) = .nx η2 ∧ ((∃ η3, g x = none ∧ c η2 = .ok false η3 ∧ wipeE η3 vs = wipeE η1 vs) ∨ ∃ η3 r η4 y, g x = some y ∧ c η2 = .ok true η3 ∧ el η3 = .ok r η4 ∧ rdD η4 r = some y ∧ wipeE η4 vs = wipeE η1 vs)) :
    mLc mi vs t c el η = .ok (.vl (.l (it.items.filterMap g))) (wipeE η1 vs) := by
  unfold mLc
  rw [h]
  dsimp only
  rw [lcGo_map (by unfold ItD.ok; rw [hp]; trivial) g it.items [] (by simpa using hl) hs]
  simp only [lcEnd, ItD.free, hp, List.nil_append]

/-! ### while -/
theorem whileN_inv {c : M Bool} {body : MS} (μ : Env → Nat) (I : Env → Prop) (hs : ∀ η, I η → (∃ η1, c η = .ok false η1) ∨ ∃ η1 η2, c η = .ok true η1 ∧ (body η1 = .nx η2 ∨ body η1 = .ct η2) ∧ I η2 ∧ μ η2 < μ η) :
    ∀ (n : Nat) (η : Env), I η → μ η < n → ∃ η' η1, whileN c body n η = .nx η1 ∧ I η' ∧ c η' = .ok false η1
  | 0, η, _, hm => by omega
  | n + 1, η, h0, hm => by
    unfold whileN
    rcases hs η h0 with ⟨η1, h1⟩ | ⟨η1, η2, h1, h2, h3, h4⟩
    · exact ⟨η, η1, by rw [h1], h0, h1⟩
    · obtain ⟨η', η3, k1, k2, k3⟩ := whileN_inv μ I hs n η2 h3 (by omega)
      refine ⟨η', η3, ?_, k2, k3⟩
      rw [h1]
      rcases h2 with h2 | h2 <;> (simp only [h2]; exact k1)
theorem sWhile_inv {c : M Bool} {body : MS} (μ : Env → Nat) (I : Env → Prop) (hs : ∀ η, I η → (∃ η1, c η = .ok false η1) ∨ ∃ η1 η2, c η = .ok true η1 ∧ (body η1 = .nx η2 ∨ body η1 = .ct η2) ∧ I η2 ∧ μ η2 < μ η) {η : Env} (h : I η) :
    ∃ η' η1, sWhile c body η = .nx η1 ∧ I η' ∧ c η' = .ok false η1 := by
  obtain ⟨η', η1, h1, h2, h3⟩ := whileN_inv μ I hs (μ η + 1) η h (Nat.lt_succ_self _)
  exact ⟨η', η1, sWhile_eq h1 (by intro z; cases z), h2, h3⟩

/-! ### repr -/
def leaf : D → Prop
  | .non => True
  | .bl _ => True
  | .int i => i.natAbs < 10 ^ 12
  | .str x => x.length ≤ 60 ∧ (∀ c ∈ x.cps.toList, c < 16 ^ 8)
  | _ => False
/-- k deep, n wide at most -/
def Sh (n : Nat) : Nat → D → Prop
  | 0, d => leaf d
  | k + 1, d => leaf d ∨ ∃ xs, (d = .tup xs ∨ d = .pt xs) ∧ xs.length ≤ n ∧ ∀ x ∈ xs, Sh n k x
structure ShOk (b k : Nat) (x : PyData) : Prop where
  s : x.showable = true
  d : x.depth ≤ k
  l : x.leavesShort 13 = true
  b : x.bulk ≤ b
theorem leaf_ok {d : D} (h : leaf d) : ShOk 60 0 d.py := by
  cases d with
  | non => exact ⟨rfl, Nat.le_refl _, rfl, Nat.zero_le _⟩
  | bl b => exact ⟨rfl, Nat.le_refl _, rfl, Nat.zero_le _⟩
  | int i =>
    have h : i.natAbs < 10 ^ 12 := h
    refine ⟨?_, Nat.le_refl _, ?_, Nat.zero_le _⟩
    · show decide (i.natAbs.log2 < 1920) = true
      rw [decide_eq_true_eq]
      by_cases z : i.natAbs = 0
      · rw [z]; decide
      · rw [Nat.log2_lt z]
        exact Nat.lt_of_lt_of_le h (by decide)
    · show decide ((PyData.shown (.int i)).length ≤ 13) = true
      rw [decide_eq_true_eq]
      exact PyData.shown_int_le h
  | str x =>
    refine ⟨rfl, Nat.le_refl _, ?_, h.1⟩
    show (x.cps.toList.all fun c => decide (c < 16 ^ 8)) = true
    rw [List.all_eq_true]
    exact fun c hc => decide_eq_true (h.2 c hc)
  | tup _ => exact h.elim
  | pt _ => exact h.elim
theorem all_ok {b k n : Nat} : ∀ {xs : List D}, xs.length ≤ n → (∀ x ∈ xs, ShOk b k x.py) → PyData.showableAll (D.pys xs) = true ∧ PyData.depthAll (D.pys xs) ≤ k ∧ PyData.leavesShortAll 13 (D.pys xs) = true ∧ PyData.bulkAll (D.pys xs) ≤ xs.length * (b + 1)
  | [], _, _ => by simp [D.pys, PyData.showableAll, PyData.depthAll, PyData.leavesShortAll, PyData.bulkAll]
  | x :: xs, hl, h => by
    have h1 := h x List.mem_cons_self
    obtain ⟨a1, a2, a3, a4⟩ := all_ok (xs := xs) (n := n) (by simp at hl; omega) fun y hy => h y (List.mem_cons_of_mem _ hy)
    refine ⟨?_, ?_, ?_, ?_⟩
    · simp only [D.pys, PyData.showableAll, h1.s, a1]; rfl
    · simp only [D.pys, PyData.depthAll]; exact Nat.max_le.mpr ⟨h1.d, a2⟩
    · simp only [D.pys, PyData.leavesShortAll, h1.l, a3]; rfl
    · have := h1.b
      simp only [D.pys, PyData.bulkAll, List.length_cons, Nat.add_mul, Nat.one_mul]
      omega
theorem sh_ok {n : Nat} : ∀ {k : Nat} {d : D}, Sh n k d → ShOk (61 * (n + 1) ^ k - 1) k d.py
  | 0, d, h => by
    have := leaf_ok h
    exact ⟨this.s, this.d, this.l, by simpa using this.b⟩
  | k + 1, d, h => by
    have e0 : 0 < (n + 1) ^ k := Nat.pow_pos (by omega)
    have e1 : (n + 1) ^ (k + 1) = (n + 1) ^ k * n + (n + 1) ^ k := by rw [Nat.pow_succ, Nat.mul_add, Nat.mul_one]
    rcases h with h | ⟨xs, hd, hl, hx⟩
    · have := leaf_ok h
      exact ⟨this.s, Nat.le_trans this.d (Nat.zero_le _), this.l, Nat.le_trans this.b (by rw [e1]; omega)⟩
    · obtain ⟨a1, a2, a3, a4⟩ := all_ok (xs := xs) (n := n) hl fun x hm => sh_ok (hx x hm)
      have e2 : xs.length * (61 * (n + 1) ^ k - 1 + 1) ≤ 61 * (n + 1) ^ (k + 1) - 1 := by
        have e3 : 61 * (n + 1) ^ k - 1 + 1 = 61 * (n + 1) ^ k := by omega
        rw [e3]
        have e4 : xs.length * (61 * (n + 1) ^ k) ≤ n * (61 * (n + 1) ^ k) := Nat.mul_le_mul_right _ hl
        have e5 : n * (61 * (n + 1) ^ k) = 61 * ((n + 1) ^ k * n) := by rw [Nat.mul_left_comm, Nat.mul_comm n]
        rw [e1, Nat.mul_add]
        omega
      rcases hd with rfl | rfl <;>
        exact ⟨by simpa only [D.py, PyData.showable] using a1, by simp only [D.py, PyData.depth]; omega, by simpa only [D.py, PyData.leavesShort] using a3, by simp only [D.py, PyData.bulk]; omega⟩
theorem gRepr_ok {n k : Nat} {d : D} (h : Sh n k d) (hk : k ≤ 60) (hn : 61 * (n + 1) ^ k ≤ 2 ^ 20) : gRepr (.d d) = some (.d (.str d.py.shown)) := by
  have a := sh_ok h
  have hs : Shows d.py := ⟨a.s, Nat.le_trans a.d hk, PyData.shown_fits_bulk (B := 13) (by decide) (by decide) a.l (Nat.le_trans a.b (by omega))⟩
  show (match some d.py with
    | some d => if Shows d then some (Val.d (.str d.shown)) else none
    | none => none) = _
  dsimp only
  rw [if_pos hs]
end DD


/-! Lists of ints as data. -/
namespace DD
open PySem PySem.Spec PyProof.Rows L2
open Classical

abbrev vI (i : Int) : Val := .d (.int i)
abbrev vT (ns : List Int) : Val := .d (.tup (ns.map D.int))
abbrev vL (ns : List Int) : Val := .l (ns.map D.int)
abbrev vB (ns : List Int) : Val := .bw (ns.map D.int)

/-! ### == -/
theorem ints_lay : ∀ ns : List Int, PyData.canLayAll0 (D.pys (ns.map D.int)) = true
  | [] => rfl
  | n :: ns => by simp only [List.map_cons, D.pys, D.py, PyData.canLayAll0, PyData.canLay0, ints_lay ns]; rfl
theorem ints_dep : ∀ ns : List Int, PyData.depthAll (D.pys (ns.map D.int)) = 0
  | [] => rfl
  | n :: ns => by simp only [List.map_cons, D.pys, D.py, PyData.depthAll, PyData.depth, ints_dep ns]; rfl
theorem ints_eqv : ∀ ns ms : List Int, PyData.eqvAll (D.pys (ns.map D.int)) (D.pys (ms.map D.int)) = decide (ns = ms)
  | [], [] => rfl
  | [], _ :: _ => rfl
  | _ :: _, [] => rfl
  | n :: ns, m :: ms => by
    simp only [List.map_cons, D.pys, D.py, PyData.eqvAll, PyData.eqv, ints_eqv ns ms]
    by_cases h1 : n = m <;> by_cases h2 : ns = ms <;> simp [h1, h2]
theorem shaped_tup (ns : List Int) : SeqAt.shaped (.tuple (D.pys (ns.map D.int))) = true := by
  unfold SeqAt.shaped
  simp only [PyData.canLay0, PyData.depth, ints_lay, ints_dep]
  decide
theorem shaped_lst (ns : List Int) : SeqAt.shaped (.list (D.pys (ns.map D.int))) = true := by
  unfold SeqAt.shaped
  simp only [PyData.canLay0, PyData.depth, ints_lay, ints_dep]
  decide
theorem eq_tup (ns ms : List Int) : eqV2 (vT ns) (vT ms) = some (decide (ns = ms)) := by
  show eqDeep (vT ns) (vT ms) = _
  unfold eqDeep
  simp only [Val.py?, D.py]
  rw [if_pos ⟨shaped_tup ns, shaped_tup ms⟩]
  simp only [PyData.eqv, ints_eqv]
theorem eq_lst (ns ms : List Int) : eqV2 (vL ns) (vL ms) = some (decide (ns = ms)) := by
  show eqDeep (vL ns) (vL ms) = _
  unfold eqDeep
  simp only [Val.py?]
  rw [if_pos ⟨shaped_lst ns, shaped_lst ms⟩]
  simp only [PyData.eqv, ints_eqv]
theorem eq_lst0 (ns : List Int) : eqV2 (vL ns) (.l []) = some (decide (ns = [])) := eq_lst ns []
theorem eq_int (i j : Int) : eqV2 (vI i) (vI j) = some (decide (i = j)) := rfl
theorem eq_bl (i j : Bool) : eqV2 (.d (.bl i)) (.d (.bl j)) = some (decide (i = j)) := rfl
theorem eq_str (x y : Str) : eqV2 (.d (.str x)) (.d (.str y)) = some (decide (x = y)) := rfl

/-! ### places -/
theorem atI_ok {α : Type} {xs : List α} {j : Nat} (h : j < xs.length) : atI xs (j : Int) = some xs[j] := atI_nat (List.getElem?_eq_getElem h)
theorem ixN_ok {n p : Nat} (h : p < n) : ixN n (p : Int) = some p := by
  unfold ixN
  rw [if_pos (by omega), if_pos (by omega)]
  rfl
theorem ixN_sub {n p : Nat} (h1 : 1 ≤ p) (h2 : p ≤ n) : ixN n ((p : Int) - 1) = some (p - 1) := by
  have e : (p : Int) - 1 = ((p - 1 : Nat) : Int) := by omega
  rw [e, ixN_ok (by omega)]
theorem atI_sub {α : Type} {xs : List α} {p : Nat} (h1 : 1 ≤ p) (h2 : p ≤ xs.length) : atI xs ((p : Int) - 1) = xs[p - 1]? := by
  unfold atI
  rw [ixN_sub h1 h2]
  rfl
theorem atI_map {xs : List Int} {i : Int} : atI (xs.map D.int) i = (atI xs i).map D.int := by
  unfold atI
  rw [List.length_map]
  cases ixN xs.length i with
  | none => rfl
  | some j => simp
theorem atI_neg1 {α : Type} {xs : List α} (h : xs ≠ []) : atI xs (-1) = xs[xs.length - 1]? := by
  have hp : 0 < xs.length := List.length_pos_iff.mpr h
  unfold atI ixN
  rw [if_neg (by omega), if_pos (by omega)]
  show xs[((-1 : Int) + (xs.length : Int)).toNat]? = _
  congr 1
  omega
theorem set_map {xs : List Int} {j : Nat} {i : Int} : (xs.map D.int).set j (.int i) = (xs.set j i).map D.int := by rw [List.map_set]

/-! ### slices -/
theorem cut_lo {xs : List D} {k : Nat} : cutD xs (some (k : Int)) none = xs.drop k := by
  unfold cutD
  rw [HT.sIx_nat, HT.sIx_none]
  by_cases h : k ≤ xs.length
  · rw [Nat.min_eq_left h, List.take_of_length_le (by simp)]
  · rw [Nat.min_eq_right (by omega), List.drop_eq_nil_of_le (Nat.le_refl _), List.drop_eq_nil_of_le (by omega)]
    simp
theorem cut_hi {xs : List D} {k : Nat} : cutD xs none (some (k : Int)) = xs.take k := by
  unfold cutD
  rw [HT.sIx_nat, HT.sIx_none, Nat.sub_zero, List.drop_zero]
  by_cases h : k ≤ xs.length
  · rw [Nat.min_eq_left h]
  · rw [Nat.min_eq_right (by omega), List.take_of_length_le (Nat.le_refl _), List.take_of_length_le (by omega)]

/-! ### comprehensions over ints -/
theorem fm_map {α β : Type} {f : α → β} {xs : List α} : xs.filterMap (fun x => some (f x)) = xs.map f := by
  induction xs with
  | nil => rfl
  | cons x xs ih => simp [ih]
theorem asBools_all : ∀ {xs : List D}, (∀ x ∈ xs, x = .bl true) → ∃ bs, asBools xs = some bs ∧ bs.all id = true
  | [], _ => ⟨[], rfl, rfl⟩
  | x :: xs, h => by
    obtain ⟨bs, h1, h2⟩ := asBools_all (xs := xs) fun y hy => h y (List.mem_cons_of_mem _ hy)
    have := h x List.mem_cons_self
    subst this
    refine ⟨true :: bs, ?_, by simpa using h2⟩
    simp [asBools, h1]
/-- small ints, tuples of them, .. as one shows them -/
theorem sh_int {n k : Nat} {i : Int} (h : i.natAbs < 10 ^ 12) : Sh n k (.int i) := by
  cases k with
  | zero => exact h
  | succ k => exact .inl h
theorem sh_bl {n k : Nat} {b : Bool} : Sh n k (.bl b) := by
  cases k with
  | zero => exact trivial
  | succ k => exact .inl trivial
theorem sh_tup {n k : Nat} {xs : List D} (hl : xs.length ≤ n) (h : ∀ x ∈ xs, Sh n k x) : Sh n (k + 1) (.tup xs) := .inr ⟨xs, .inl rfl, hl, h⟩
theorem sh_ints {n k : Nat} {ns : List Int} (hl : ns.length ≤ n) (h : ∀ i ∈ ns, i.natAbs < 10 ^ 12) : Sh n (k + 1) (.tup (ns.map D.int)) :=
  sh_tup (by simpa using hl) fun x hx => by
    obtain ⟨i, hi, rfl⟩ := List.mem_map.mp hx
    exact sh_int (h i hi)
theorem lc_ints {mi : M ItD} {vs : List Nat} {t : Tg} {c : M Bool} {el : M Ref} {η η1 η0 : Env} {it : ItD} {ws : List Int} (h : mi η = .ok it η1) (hi : it.items = ws.map D.int) (hp : it.pin = none) (hl : ws.length ≤ sizeLine) (φ : Int → Int) (hw : wipeE η1 vs = η0)
    (hs : ∀ w ∈ ws, ∃ η2 η3 r η4, t (vI w) (wipeE η0 vs) = .nx η2 ∧ c η2 = .ok true η3 ∧ el η3 = .ok r η4 ∧ rdD η4 r = some (.int (φ w)) ∧ wipeE η4 vs = η0) : mLc mi vs t c el η = .ok (.vl (vL (ws.map φ))) η0 := by
  subst hw
  have e := mLc_map h hp (by rw [hi, List.length_map]; exact hl) (fun x => match x with
    | .int w => some (.int (φ w))
    | _ => none) (t := t) (c := c) (el := el) (vs := vs) (fun x hx => by
      rw [hi] at hx
      obtain ⟨w, hw, rfl⟩ := List.mem_map.mp hx
      obtain ⟨η2, η3, r, η4, h1, h2, h3, h4, h5⟩ := hs w hw
      exact ⟨η2, h1, .inr ⟨η3, r, η4, _, rfl, h2, h3, h4, h5⟩⟩)
  rw [e, hi, List.filterMap_map]
  show Out.ok (Ref.vl (Val.l (ws.filterMap fun w => some (D.int (φ w))))) _ = _
  rw [fm_map]
  show _ = Out.ok (Ref.vl (Val.l ((ws.map φ).map D.int))) _
  rw [List.map_map]
  rfl
theorem lc_filt {mi : M ItD} {vs : List Nat} {t : Tg} {c : M Bool} {el : M Ref} {η η1 η0 : Env} {it : ItD} {ws : List Int} (h : mi η = .ok it η1) (hi : it.items = ws.map D.int) (hp : it.pin = none) (hl : ws.length ≤ sizeLine) (q : Int → Bool) (hw : wipeE η1 vs = η0)
    (hs : ∀ w ∈ ws, ∃ η2 η3 r η4, t (vI w) (wipeE η0 vs) = .nx η2 ∧ c η2 = .ok (q w) η3 ∧ el η3 = .ok r η4 ∧ rdD η4 r = some (.int w) ∧ wipeE η4 vs = η0 ∧ wipeE η3 vs = η0) : mLc mi vs t c el η = .ok (.vl (vL (ws.filter q))) η0 := by
  subst hw
  have e := mLc_map h hp (by rw [hi, List.length_map]; exact hl) (fun x => match x with
    | .int w => if q w = true then some (.int w) else none
    | _ => none) (t := t) (c := c) (el := el) (vs := vs) (fun x hx => by
      rw [hi] at hx
      obtain ⟨w, hw, rfl⟩ := List.mem_map.mp hx
      obtain ⟨η2, η3, r, η4, h1, h2, h3, h4, h5, h6⟩ := hs w hw
      refine ⟨η2, h1, ?_⟩
      cases hq : q w with
      | true => exact .inr ⟨η3, r, η4, _, by simp [hq], by rw [h2, hq], h3, h4, h5⟩
      | false => exact .inl ⟨η3, by simp [hq], by rw [h2, hq], h6⟩)
  rw [e, hi, List.filterMap_map]
  congr 3
  clear e hs hi hl
  induction ws with
  | nil => rfl
  | cons w ws ih =>
    cases hq : q w <;> simp [hq] at ih ⊢ <;> exact ih
end DD


/-! How readings run: one rule for each form, the outer form first. -/
namespace DD
open PySem PySem.Spec PyProof.Rows L2
open Classical

/-- an equation that is to be used as one, not as a step of reduction -/
theorem nr {α : Type} {a b : α} (h : a = b) : a = b := h
def Out.thenS {α : Type} (o : Out α) (k : α → MS) : SOut := match o with
  | .ok a η => k a η
  | .err x η => .err x η
  | .stuck => .stuck
def SOut.thenS (o : SOut) (n : MS) : SOut := match o with
  | .nx η => n η
  | .rt r η => .rt r η
  | .bk η => .bk η
  | .ct η => .ct η
  | .err x η => .err x η
  | .stuck => .stuck
theorem bind_cg {α β : Type} {o o' : Out α} {k : α → M β} (h : o = o') : o.bind k = o'.bind k := by rw [h]
theorem thenS_cg {α : Type} {o o' : Out α} {k : α → MS} (h : o = o') : o.thenS k = o'.thenS k := by rw [h]
theorem seq_cg {o o' : SOut} {k : MS} (h : o = o') : o.thenS k = o'.thenS k := by rw [h]
section
variable {α β : Type} {η η' : Env} {a : α} {x : Exn} {m m1 m2 m3 : M Ref} {mb nb : M Bool} {ms : List (M Ref)} {r : Ref} {i j : Nat} {n n1 n2 : MS} {t : Tg}
@[simp] theorem q_ok {k : α → M β} : (Out.ok a η).bind k = k a η := nr rfl
@[simp] theorem q_err {k : α → M β} : (Out.err x η : Out α).bind k = .err x η := nr rfl
@[simp] theorem q_stuck {k : α → M β} : (Out.stuck : Out α).bind k = .stuck := nr rfl
@[simp] theorem q_okS {k : α → MS} : (Out.ok a η).thenS k = k a η := nr rfl
@[simp] theorem q_errS {k : α → MS} : (Out.err x η : Out α).thenS k = .err x η := nr rfl
@[simp] theorem q_stuckS {k : α → MS} : (Out.stuck : Out α).thenS k = .stuck := nr rfl
@[simp] theorem q_nx : (SOut.nx η).thenS n = n η := nr rfl
@[simp] theorem q_rt : (SOut.rt r η).thenS n = .rt r η := nr rfl
@[simp] theorem q_bk : (SOut.bk η).thenS n = .bk η := nr rfl
@[simp] theorem q_ct : (SOut.ct η).thenS n = .ct η := nr rfl
@[simp] theorem q_errN : (SOut.err x η).thenS n = .err x η := nr rfl
@[simp] theorem q_bind {mm : M α} {k : α → M β} : (mm >>= k) η = (mm η).bind k := nr rfl
@[simp] theorem q_thenS {mm : M α} {k : α → MS} : M.thenS mm k η = (mm η).thenS k := by unfold M.thenS; cases mm η <;> rfl
@[simp] theorem q_seq : sSeq n1 n2 η = (n1 η).thenS n2 := by unfold sSeq; cases n1 η <;> rfl
@[simp] theorem q_if : sIf mb n1 n2 η = (mb η).thenS fun b η => if b = true then n1 η else n2 η := by unfold sIf; rw [q_thenS]
@[simp] theorem q_ret : sRet m η = (m η).thenS fun r η => .rt r η := by unfold sRet; rw [q_thenS]
@[simp] theorem q_retN : sRetN η = .rt (.vl (.d .non)) η := nr rfl
@[simp] theorem q_expr : sExpr m η = (m η).thenS fun _ η => .nx η := by unfold sExpr; rw [q_thenS]
@[simp] theorem q_pass : sPass η = .nx η := nr rfl
@[simp] theorem q_no : sNo η = .stuck := nr rfl
@[simp] theorem q_brk : sBreak η = .bk η := nr rfl
@[simp] theorem q_cnt : sCont η = .ct η := nr rfl
@[simp] theorem q_asg : sAsg m t η = (m η).thenS fun r η => match own η r with
  | some x => t x η
  | none => .stuck := by unfold sAsg; rw [q_thenS]; all_goals rfl
@[simp] theorem q_setD {x : D} : gSet i (.d x) η = .nx (η.set i (some (.d x))) := nr rfl
@[simp] theorem q_setL {x : List D} : gSet i (.l x) η = .nx (η.set i (some (.l x))) := nr rfl
@[simp] theorem q_setF {x : List D} : gSet i (.fz x) η = .nx (η.set i (some (.fz x))) := nr rfl
@[simp] theorem q_var : mVar i η = match η[i]? with
  | some (some _) => .ok (.sl i) η
  | _ => .stuck := nr rfl
@[simp] theorem q_c {x : D} : mC x η = .ok (.vl (.d x)) η := nr rfl
@[simp] theorem q_mret : (M.ret a : M α) η = .ok a η := nr rfl
@[simp] theorem q_rdv {x : Val} : rd η (.vl x) = some x := nr rfl
@[simp] theorem q_rds : rd η (.sl i) = match η[i]? with
  | some (some x) => some x.norm
  | _ => none := nr rfl
@[simp] theorem q_rdDv {x : D} : rdD η (.vl (.d x)) = some x := nr rfl
@[simp] theorem q_rdDs : rdD η (.sl i) = match rd η (.sl i) with
  | some (.d x) => some x
  | _ => none := nr rfl
@[simp] theorem q_n1 {x : D} : (Val.d x).norm = .d x := nr rfl
@[simp] theorem q_n2 {x : List D} : (Val.l x).norm = .l x := nr rfl
@[simp] theorem q_n3 {x : List D} : (Val.fz x).norm = .fz x := nr rfl
@[simp] theorem q_n4 {x : List D} : (Val.bw x).norm = .l x := nr rfl
@[simp] theorem q_n5 {b : Bool} {x : List D} : (Val.pin b x).norm = .l x := nr rfl
@[simp] theorem q_ownv {x : Val} : own η (.vl x) = some x := nr rfl
@[simp] theorem q_owns : own η (.sl i) = match η[i]? with
  | some (some (.d x)) => some (.d x)
  | some (some (.fz x)) => some (.fz x)
  | _ => none := nr rfl
@[simp] theorem q_op2 {f : D → D → Option D} : mOp2 f m1 m2 η = (m1 η).bind fun r1 => m2 >>= fin2 f r1 := nr rfl
@[simp] theorem q_op1 {f : D → Option D} : mOp1 f m1 η = (m1 η).bind (fin1 f) := nr rfl
@[simp] theorem q_fin2 {f : D → D → Option D} {r1 r2 : Ref} : fin2 f r1 r2 η = match rdD η r1, rdD η r2 with
  | some x, some y => (match f x y with
    | some z => .ok (.vl (.d z)) η
    | none => .stuck)
  | _, _ => .stuck := nr rfl
@[simp] theorem q_fin1 {f : D → Option D} : fin1 f r η = match rdD η r with
  | some x => (match f x with
    | some z => .ok (.vl (.d z)) η
    | none => .stuck)
  | _ => .stuck := nr rfl
@[simp] theorem q_sub {i j : Int} : fSub (.int i) (.int j) = some (.int (i - j)) := nr rfl
@[simp] theorem q_neg {i : Int} : fNeg (.int i) = some (.int (-i)) := nr rfl
@[simp] theorem q_div {i j : Int} : fDiv (.int i) (.int j) = if CDiv i j then some (.int (i / j)) else none := by show (if _ then _ else _) = _; congr
@[simp] theorem q_mod {i j : Int} : fMod (.int i) (.int j) = if 0 < j then some (.int (i % j)) else none := by show (if _ then _ else _) = _; congr
@[simp] theorem q_add : mAdd m1 m2 η = (m1 η).bind fun r1 => m2 >>= fun r2 => fun η => match rd η r1, rd η r2 with
  | some x, some y => addV η x y
  | _, _ => .stuck := nr rfl
@[simp] theorem q_addI {i j : Int} : addV η (.d (.int i)) (.d (.int j)) = .ok (.vl (.d (.int (i + j)))) η := nr rfl
@[simp] theorem q_addL {x y : List D} : addV η (.l x) (.l y) = if x.length + y.length ≤ sizeLine then .ok (.vl (.l (x ++ y))) η else .stuck := nr rfl
@[simp] theorem q_addT {x y : List D} : addV η (.d (.tup x)) (.d (.tup y)) = if x.length + y.length ≤ sizeLine then .ok (.vl (.d (.tup (x ++ y)))) η else .stuck := nr rfl
@[simp] theorem q_mul : mMul m1 m2 η = (m1 η).bind fun r1 => m2 >>= fun r2 => fun η => match rd η r1, rd η r2 with
  | some x, some y => mulV η x y
  | _, _ => .stuck := nr rfl
@[simp] theorem q_mulI {i j : Int} : mulV η (.d (.int i)) (.d (.int j)) = if CMul i j then .ok (.vl (.d (.int (i * j)))) η else .stuck := by show (if _ then _ else _) = _; congr
@[simp] theorem q_mulL {x : List D} {k : Int} : mulV η (.l x) (.d (.int k)) = if -(2 ^ 63) ≤ k ∧ k < 2 ^ 63 ∧ x.length * k.toNat ≤ sizeLine then .ok (.vl (.l (List.replicate k.toNat x).flatten)) η else .stuck := by show (if _ then _ else _) = _; congr
@[simp] theorem q_cmp {f : Val → Val → Option Bool} : mCmpV f m1 m2 η = (m1 η).bind fun r1 => m2 >>= fun r2 => fun η => match rd η r1, rd η r2 with
  | some x, some y => (match f x y with
    | some b => .ok (.vl (.d (.bl b))) η
    | none => .stuck)
  | _, _ => .stuck := nr rfl
@[simp] theorem q_ii {g : Int → Int → Bool} {i j : Int} : onII g (.d (.int i)) (.d (.int j)) = some (g i j) := nr rfl
@[simp] theorem q_true : mTrue m η = (m η).bind fun r => fun η => match rd η r with
  | some (.d (.bl b)) => .ok b η
  | _ => .stuck := nr rfl
@[simp] theorem q_tru : mTru m η = (m η).bind finT := nr rfl
@[simp] theorem q_finT : finT r η = match rd η r with
  | some x => (match truV x with
    | some b => .ok b η
    | none => .stuck)
  | none => .stuck := nr rfl
@[simp] theorem q_tbl {b : Bool} : truV (.d (.bl b)) = some b := nr rfl
@[simp] theorem q_tint {i : Int} : truV (.d (.int i)) = some (i != 0) := nr rfl
@[simp] theorem q_tlst {x : List D} : truV (.l x) = some (!x.isEmpty) := nr rfl
@[simp] theorem q_not : mNot mb η = (mb η).bind fun b => M.ret (!b) := nr rfl
@[simp] theorem q_and : mAndT mb nb η = (mb η).bind fun b => if b = true then nb else M.ret false := nr rfl
@[simp] theorem q_or : mOrT mb nb η = (mb η).bind fun b => if b = true then M.ret true else nb := nr rfl
@[simp] theorem q_mif : mIf mb m1 m2 η = (mb η).bind fun b => if b = true then m1 else m2 := nr rfl
@[simp] theorem q_ix : mIx m1 m2 η = (m1 η).bind fun r1 => m2 >>= fun r2 => fun η => match rd η r1, rd η r2 with
  | some x, some y => (match y with
    | .d (.int i) => (match ixD x i with
      | some z => .ok (.vl (.d z)) η
      | none => .stuck)
    | _ => .stuck)
  | _, _ => .stuck := nr rfl
@[simp] theorem q_ixT {x : List D} {i : Int} : ixD (.d (.tup x)) i = atI x i := nr rfl
@[simp] theorem q_ixP {x : List D} {i : Int} : ixD (.d (.pt x)) i = atI x i := nr rfl
@[simp] theorem q_ixL {x : List D} {i : Int} : ixD (.l x) i = atI x i := nr rfl
@[simp] theorem q_ixF {x : List D} {i : Int} : ixD (.fz x) i = atI x i := nr rfl
@[simp] theorem q_args0 : mArgs [] η = .ok [] η := nr rfl
@[simp] theorem q_args1 : mArgs (m :: ms) η = (m η).bind fun r => mArgs ms >>= fun rs => M.ret (r :: rs) := nr rfl
@[simp] theorem q_tup : mTup ms η = (mArgs ms η).bind fun rs => fun η => match rdDs η rs with
  | some xs => if xs.length ≤ sizeLine then .ok (.vl (.d (.tup xs))) η else .stuck
  | none => .stuck := nr rfl
@[simp] theorem q_lst : mLst ms η = (mArgs ms η).bind fun rs => fun η => match rdDs η rs with
  | some xs => if xs.length ≤ sizeLine then .ok (.vl (.l xs)) η else .stuck
  | none => .stuck := nr rfl
@[simp] theorem q_rdDs0 : rdDs η [] = some [] := nr rfl
@[simp] theorem q_rdDs1 {rs : List Ref} : rdDs η (r :: rs) = match rdD η r, rdDs η rs with
  | some x, some xs => some (x :: xs)
  | _, _ => none := nr rfl
@[simp] theorem q_call1 {g : Val → Option Val} : mCall1 g m η = (m η).bind fun r => fun η => match rd η r with
  | some x => (match g x with
    | some z => .ok (.vl z) η
    | none => .stuck)
  | none => .stuck := by
  unfold mCall1
  rw [q_bind, q_args1]
  cases m η <;> rfl
@[simp] theorem q_call2 {g : Val → Val → Option Val} : mCall2 g m1 m2 η = (m1 η).bind fun r => m2 >>= fun r' => fun η => match rd η r, rd η r' with
  | some x, some y => (match g x y with
    | some z => .ok (.vl z) η
    | none => .stuck)
  | _, _ => .stuck := by
  unfold mCall2
  rw [q_bind, q_args1]
  cases m1 η with
  | ok r1 η1 =>
    simp only [q_ok, q_bind, q_args1]
    cases m2 η1 with
    | ok r2 η2 =>
      simp only [q_ok, q_bind, q_args0, q_mret]
      all_goals rfl
    | _ => rfl
  | _ => rfl
@[simp] theorem q_abs {i : Int} : gAbs (.d (.int i)) = some (.d (.int (i.natAbs : Int))) := by
  show some (Val.d (.int (if i < 0 then -i else i))) = _
  have : (if i < 0 then -i else i) = (i.natAbs : Int) := by split <;> omega
  rw [this]
@[simp] theorem q_int {i : Int} : gInt (.d (.int i)) = some (.d (.int i)) := nr rfl
@[simp] theorem q_lenT {x : List D} : gLen (.d (.tup x)) = some (.d (.int x.length)) := nr rfl
@[simp] theorem q_lenP {x : List D} : gLen (.d (.pt x)) = some (.d (.int x.length)) := nr rfl
@[simp] theorem q_lenL {x : List D} : gLen (.l x) = some (.d (.int x.length)) := nr rfl
@[simp] theorem q_lenF {x : List D} : gLen (.fz x) = some (.d (.int x.length)) := nr rfl
@[simp] theorem q_tupT {x : List D} : gTuple (.d (.tup x)) = some (.d (.tup x)) := nr rfl
@[simp] theorem q_tupL {x : List D} : gTuple (.l x) = some (.d (.tup x)) := nr rfl
@[simp] theorem q_lstT {x : List D} : gList (.d (.tup x)) = some (.l x) := nr rfl
@[simp] theorem q_lstL {x : List D} : gList (.l x) = some (.l x) := nr rfl
@[simp] theorem q_max {i j : Int} : gMax (.d (.int i)) (.d (.int j)) = some (.d (.int (if i < j then j else i))) := nr rfl
@[simp] theorem q_min {i j : Int} : gMin (.d (.int i)) (.d (.int j)) = some (.d (.int (if j < i then j else i))) := nr rfl
@[simp] theorem q_mut : mutL η j = match η[j]? with
  | some (some (.l xs)) => some (false, xs)
  | some (some (.bw xs)) => some (true, xs)
  | _ => none := nr rfl
@[simp] theorem q_mkF {x : List D} : mkL false x = .l x := nr rfl
@[simp] theorem q_mkT {x : List D} : mkL true x = .bw x := nr rfl
@[simp] theorem q_store {z : D} : gStore j m (.d z) η = match η[j]? with
  | some (some _) => (m η).thenS fun r η => match rdD η r, mutL η j with
    | some (.int n), some (b, xs) => (match ixN xs.length n with
      | some t => .nx (η.set j (some (mkL b (xs.set t z))))
      | none => .stuck)
    | _, _ => .stuck
  | _ => .stuck := by
  unfold gStore
  rcases η[j]? with _ | _ | v
  · rfl
  · rfl
  · show M.thenS m _ η = _
    rw [q_thenS]
    all_goals rfl
@[simp] theorem q_gtup {ts : List Tg} {xs : List D} : gTupD ts (.d (.tup xs)) η = if xs.length = ts.length then gTupD.gEach ts xs η else .stuck := nr rfl
@[simp] theorem q_gpt {ts : List Tg} {xs : List D} : gTupD ts (.d (.pt xs)) η = if xs.length = ts.length then gTupD.gEach ts xs η else .stuck := nr rfl
@[simp] theorem q_each0 : gTupD.gEach [] [] η = .nx η := nr rfl
@[simp] theorem q_each1 {ts : List Tg} {x : D} {xs : List D} : gTupD.gEach (t :: ts) (x :: xs) η = (t (.d x) η).thenS (gTupD.gEach ts xs) := by
  show (match t (.d x) η with
    | .nx η' => gTupD.gEach ts xs η'
    | o => o) = _
  cases t (.d x) η <;> rfl
@[simp] theorem q_append : mAppend j m η = match mutL η j with
  | some _ => (m η).bind fun r => fun η => match mutL η j, rdD η r with
    | some (b, xs), some z => if xs.length < sizeLine then .ok (.vl (.d .non)) (η.set j (some (mkL b (xs ++ [z])))) else .stuck
    | _, _ => .stuck
  | _ => .stuck := by
  unfold mAppend
  rcases mutL η j with _ | ⟨b, xs⟩
  · rfl
  · show (mArgs [m] >>= _) η = _
    rw [q_bind, q_args1]
    cases m η <;> rfl
@[simp] theorem q_pop : mPop j η = match mutL η j with
  | some (b, xs) => (match xs[xs.length - 1]? with
    | some y => .ok (.vl (.d y)) (η.set j (some (mkL b xs.dropLast)))
    | none => .stuck)
  | _ => .stuck := nr rfl
@[simp] theorem q_isa {T : String} : mIsa T m η = (m η).bind (finV (gIsa T)) := nr rfl
@[simp] theorem q_finV {g : Val → Option Val} : finV g r η = match rd η r with
  | some x => (match g x with
    | some z => .ok (.vl z) η
    | none => .stuck)
  | none => .stuck := nr rfl
@[simp] theorem q_gisa {T : String} {x : D} : gIsa T (.d x) = some (.d (.bl (isaB (tyD x) T))) := nr rfl
@[simp] theorem q_back : mBack m η = (m η).bind fun r => fun η => match rd η r with
  | some (.d (.tup xs)) => .ok (.vl (.d (.tup xs.reverse))) η
  | some (.l xs) => .ok (.vl (.l xs.reverse)) η
  | some (.fz xs) => .ok (.vl (.l xs.reverse)) η
  | _ => .stuck := nr rfl
@[simp] theorem q_mint : mInt m η = (m η).bind asI := nr rfl
@[simp] theorem q_asI : asI r η = match rdD η r with
  | some (.int i) => .ok i η
  | _ => .stuck := nr rfl
@[simp] theorem q_slL : mSliceL m m1 η = (m η).bind fun r => mInt m1 >>= fun i => fun η => match rd η r with
  | some x => sliceV η x (some i) none
  | none => .stuck := nr rfl
@[simp] theorem q_slH : mSliceH m m1 η = (m η).bind fun r => mInt m1 >>= fun i => fun η => match rd η r with
  | some x => sliceV η x none (some i)
  | none => .stuck := nr rfl
@[simp] theorem q_svT {x : List D} {lo hi : Option Int} : sliceV η (.d (.tup x)) lo hi = .ok (.vl (.d (.tup (cutD x lo hi)))) η := nr rfl
@[simp] theorem q_svL {x : List D} {lo hi : Option Int} : sliceV η (.l x) lo hi = .ok (.vl (.l (cutD x lo hi))) η := nr rfl
@[simp] theorem q_svF {x : List D} {lo hi : Option Int} : sliceV η (.fz x) lo hi = .ok (.vl (.l (cutD x lo hi))) η := nr rfl
@[simp] theorem q_rg1 : mRg1 m η = (m η).bind fun r => asI r >>= fun n => M.ret (0, n) := by
  unfold mRg1
  rw [q_bind, q_mint]
  cases m η <;> rfl
@[simp] theorem q_rg2 : mRg2 m1 m2 η = (mInt m1 η).bind fun i => mInt m2 >>= fun j => M.ret (i, j) := nr rfl
@[simp] theorem q_lrg {mr : M (Int × Int)} : mListRg mr η = (mr η).bind fun p => fun η => if rgC p.1 p.2 then .ok (.vl (.l (rgD p.1 (p.2 - p.1).toNat))) η else .stuck := nr rfl
@[simp] theorem q_trg {mr : M (Int × Int)} : mTupRg mr η = (mr η).bind fun p => fun η => if rgC p.1 p.2 then .ok (.vl (.d (.tup (rgD p.1 (p.2 - p.1).toNat)))) η else .stuck := nr rfl
@[simp] theorem q_andV : mAndV m1 m2 η = (m1 η).bind fun r => fun η => match rd η r with
  | some x => (match truV x with
    | some b => if b then m2 η else .ok r η
    | none => .stuck)
  | none => .stuck := nr rfl
@[simp] theorem q_notV : mNotV m η = (m η).bind fun r => fun η => match rd η r with
  | some x => (match truV x with
    | some b => .ok (.vl (.d (.bl (!b)))) η
    | none => .stuck)
  | none => .stuck := nr rfl
@[simp] theorem q_callD {F : List Val → FRes} {ds : List D} : mCallD F ds ms η = (mArgs ms η).bind fun rs => fun η => match argsIn η rs with
  | some xs => if (rs.filterMap (lsl η)).Nodup then (match F (xs ++ ds.map Val.d) with
      | .ok x bs => (match giveE η (takeE η (rs.filterMap (lsl η))) rs bs with
        | some η' => .ok (.vl x) η'
        | none => .stuck)
      | .err y bs => (match giveE η (takeE η (rs.filterMap (lsl η))) rs bs with
        | some η' => .err y η'
        | none => .stuck)
      | .stuck => .stuck) else .stuck
  | none => .stuck := nr rfl
end
end DD


/-! The package's error classes: __init__ that says super().__init__(x) over ValueError. -/
namespace DX
open PySem PySem.Spec PyProof.Rows L2 PySem.W PySem.Calls
section
variable {prog : Program} {w : World} {M : Model} {A : Around} {E : Value → Shared → Prop} {h : Heap} {g : Array GenState} {d : Drawn} {t : Nat} {os : OsState}
variable {nm q : Str} {C N : Addr} {bs bm : List Value} {hdct : Bool} {sn : List Str} {sub : List Value} {ab : Bool} {col : Option Bool} {dd : Option Addr} {k0 k1 k2 k3 k5 : Option Value}
abbrev vi : String := "ValueError.__init__"
/-- ValueError.__init__, bound to the exception at e, is called -/
theorem call_mw {u e t0 : Addr} {rest : List Value} {Q : Value → Shared → Prop}
    (hC : h.get? C = some (excClassObj nm q C N bs bm hdct sn sub ab col dd k0 k1 k2 k3 k5 "ValueError.__new__")) (he : h.get? e = some (HandSPX.excO C t0)) (hu : h.get? u = some (kxs_mw vi e)) (hrest : rest.length ≤ sizeLine)
    (hq : ∀ h' t1, (∀ b o, b ≠ e → h.get? b = some o → h'.get? b = some o) → h'.get? e = some (HandSPX.excO C t1) → Q .none ⟨h', g, d, t, os⟩) : wpAny (model prog w) A (call (.ref u) rest) Q E ⟨h, g, d, t, os⟩ := by
  refine wpAny_call (codeAny_of_tree ?_)
  show wpAny _ A.in1 (callAny (.ref u) ⟨rest, []⟩) _ _ _
  unfold callAny
  refine wpAny_bind (wpAny_load hu ?_)
  have b1 : (Value.type "method-wrapper" == Value.type "method" || Value.type "method-wrapper" == Value.type "builtin_function_or_method" || Value.type "method-wrapper" == Value.type "method-wrapper") = true := by decide
  simp only [kxs_mw, b1, if_true]
  refine KFB.if_so (by decide) ?_
  refine wpAny_bind (ESX.check_bound F.excBase_ValueError hC he rfl ?_)
  refine wpAny_bind (wpAny_pure (wpAny_pure ⟨Code.quiet_builtin _ (by decide +kernel), codeAny_builtin F.excBase_ValueError.initEntry ?_⟩))
  rw [Around.under_plainId F.excBase_ValueError.init.plain _]
  wp_walk
  refine hq _ h.objs.size (fun b o hb ho => ?_) ?_
  · rw [Heap.get?_update_other _ _ (Ne.symm hb)]
    exact Heap.get?_push_of_some _ ho
  · rw [Heap.get?_update_self _ (Heap.get?_push_of_some _ he) rfl]
    rfl
end
/-- what the written part says of the def __init__ of the class at D, and of the class at C below it -/
structure SupF (P : Program) (K : Frag) (D C f cda : Addr) (me : Str) : Prop where
  fn : ∃ oc od fd osl ar, K.lookup f = some ⟨oc, od, .func fd, osl⟩ ∧ (fd.params.posonlyargs ++ fd.params.args).head? = some ar ∧ ar.arg = me
  code : ∃ ccl cdd vs ccs file tf, K.lookup cda = some ⟨ccl, cdd, .fields vs, ccs⟩ ∧ vs[2]? = some (.str file tf) ∧ ((P.main.file : Str) == file) = true
  top : (P.main.scope.names.lookup ("super" : Str)).isSome = false
  cls : ∃ cd, clsIn K D = some cd
  sub : mroIn K C (.ref D) = some true
  sup : ks_superIn K C D "__init__" = some (some (.builtin vi))
  ve : subIn K (.ref C) (.type "ValueError") = some true
  op : nsIn K cStatics "thirdparty.any" = some none
section
variable {X : Cx} {pins : List (Addr × Obj)} {σ : L2.St} {H : Hp} {s : Shared} {E : Value → Shared → Prop} {D C f cda a : Addr} {self arg : Str} {j k : Nat} {y : V} {body : List Stmt} {p0 p1 p2 p3 pos : Pos}
theorem var_at (I : Inv X pins σ H s) {i : Nat} {x : Str} {v : V} (hN : X.N[i]? = some x) (e : σ[i]? = some (some v)) (hk : X.env.scope.names.lookup x = some .local) : ∃ m u, s.heap.Ns X.env.locals m ∧ m x = some u ∧ RelV v u := by
  obtain ⟨m, hn, hl⟩ := I.loc
  obtain ⟨u, r, l⟩ := hl i x v hN e (.inl hk)
  rcases l with ⟨_, hm⟩ | ⟨h2, _⟩
  · exact ⟨m, u, hn, hm, r⟩
  · have h3 : X.env.kindOf x = some .local := hk
    rcases h2 with h2 | h2 <;> (rw [h3] at h2; cases h2)
theorem free_at (I : Inv X pins σ H s) {i : Nat} {x : Str} {v : V} (hN : X.N[i]? = some x) (e : σ[i]? = some (some v)) (hk : X.env.scope.names.lookup x = some .free) : ∃ c u, X.env.cells.lookup x = some c ∧ s.heap.IsCell c (some u) ∧ RelV v u := by
  obtain ⟨m, hn, hl⟩ := I.loc
  obtain ⟨u, r, l⟩ := hl i x v hN e (.inr (.inr hk))
  have h3 : X.env.kindOf x = some .free := hk
  rcases l with ⟨h2, _⟩ | ⟨_, c, hc, hcell⟩
  · rw [h3] at h2; cases h2
  · exact ⟨c, u, hc, hcell, r⟩
/-- super().__init__(arg) -/
theorem super_init {pl : Sem Bool} (I : Inv X pins σ H s) (F0 : SupF X.prog X.K D C f cda self) (T : OexC X.K C) (ea : H a = some (exo a C none)) (hfu : X.env.func = some f) (hco : X.env.code = .ref cda)
    (hks : X.env.scope.names.lookup ("super" : Str) = some .globalImplicit) (hms : X.mg "super" = none) (hkc : X.env.scope.names.lookup ("__class__" : Str) = some .free) (hkl : X.env.scope.names.lookup self = some .local) (hka : X.env.scope.names.lookup arg = some .local)
    (hN0 : X.N[0]? = some self) (e0 : σ[0]? = some (some (.ref a))) (hNj : X.N[j]? = some "__class__") (ej : σ[j]? = some (some (.ref D))) (hNk : X.N[k]? = some arg) (ek : σ[k]? = some (some y))
    (hda : (arg == ("__debug__" : Str)) = false := by decide)
    (hst : starEach [.Name arg p3] X.env = (false, eval (.Name arg p3) X.env) :: starEach [] X.env := by rfl)
    (he : eval (.Call (.Attribute (.Call (.Name "super" p0) [] [] p1) "__init__" p2) [.Name arg p3] [] pos) X.env = (do
      let ov ← attributeBase (.Call (.Name "super" p0) [] [] p1) "__init__" X.env (eval (.Call (.Name "super" p0) [] [] p1) X.env)
      standAt p2.atName
      let (f, first) ← holding [ov] (getMethod ov "__init__" pl)
      callWith pos f first (backTo pos (starEach [.Name arg p3] X.env)) []) := by rfl) :
    _root_.PySem.wpAt (model X.prog X.w) X.A (.func body X.env) (eval (.Call (.Attribute (.Call (.Name "super" p0) [] [] p1) "__init__" p2) [.Name arg p3] [] pos) X.env) (fun v s' => v = .none ∧ Inv X pins σ H s') E s := by
  obtain ⟨oc, od, fd, osl, ar, hf, hp, har⟩ := F0.fn
  obtain ⟨ccl, cdd, vs, ccs, file, tf, hcode, hvs, hfile⟩ := F0.code
  obtain ⟨cdD, hcD⟩ := F0.cls
  obtain ⟨nm, q, N, bs, bm, sn, sub, ab, col, dd, k0, k1, k2, k3, k5, hC, hbm⟩ := T.cls
  obtain ⟨t1, ho⟩ := exo_at I.hok ea
  have X0 := I.kIn
  obtain ⟨oD, hD1, hD2⟩ : ∃ oD, s.heap.get? D = some oD ∧ oD.data = .cls cdD := by
    unfold clsIn at hcD
    split at hcD
    · cases hcD
      exact ⟨_, X0 _ _ (by assumption), rfl⟩
    · cases hcD
  refine ks_wpAt_MethodCall (ks_wpAt_super_base (f := f) (cc := cda) hks hkc (by decide) hfu (X0 _ _ hf) rfl hp hco (X0 _ _ hcode) rfl hvs hfile F0.top ?_) he
  obtain ⟨m, ua, hn, hma, rua⟩ := var_at I hN0 e0 hkl
  obtain rfl : ua = Value.ref a := rua
  obtain ⟨cl, ud, hcl, hcc, rud⟩ := free_at I hNj ej hkc
  obtain rfl : ud = Value.ref D := rud
  obtain ⟨mb, hb1, hb2⟩ := I.mod.blt
  have kn : ∀ {b : Addr} {u : Obj} {h' : Heap}, (∀ b o, s.heap.get? b = some o → h'.get? b = some o) → s.heap.get? b = some u → h'.get? b = some u := fun k e => k _ _ e
  refine ks_loadName_global I.ok.kind hks (loadGlobal_builtin (by rw [I.ok.glob]; exact I.mod.glob.keeps I.bk) hms (by rw [I.ok.blt]; exact hb1.keeps I.bk) ((hb2 _ (by decide)).trans (by decide +kernel)) ⟨rfl, ?_⟩)
  refine wpAny_loadName_free I.ok.kind hkc hcl hcc ?_
  rw [har]
  refine wpAny_loadName_local I.ok.kind hkl hn hma ?_
  refine ks_wpAny_isType_cls hD1 hD2 ⟨rfl, ?_⟩
  obtain ⟨hp0, g, d, t, os⟩ := s
  refine ks_wpAny_call_super hD1 hD2 ho rfl (fun c e => by cases e) (looks_mroIn X0 F0.sub) (fun h1 so k1 => ?_)
  have I1 : L2.Inv X pins σ H ⟨h1, g, d, t, os⟩ := I.kept (t' := t) k1
  obtain ⟨cd, hc⟩ : ∃ cd, clsIn X.K C = some cd := by
    cases hc : clsIn X.K C with
    | some cd => exact ⟨cd, rfl⟩
    | none =>
      have q := F0.sup
      unfold ks_superIn at q
      rw [hc] at q
      cases q
  have sup := F0.sup
  unfold ks_superIn at sup
  rw [hc] at sup
  have ho1 := k1 _ _ ho
  have hCa : a ≠ C := fun z => by
    subst z
    rw [I.kIn _ _ hC] at ho
    cases ho
  have inst : PySem.W.Looks (model X.prog X.w) h1 (isInstance (.ref a) (.type "ValueError")) true := by
    have q : InstAt h1 a { cls := .ref C, dict := none, data := .fields #[.ref t1, .none, .none, .none, .bool false, .none] } C none := ⟨ho1, rfl, rfl, trivial⟩
    exact q.type.andThen (looks_subIn I1.kIn F0.ve)
  refine kxs_getMethod kxs_ValueError so (looks_opaque I1.kIn F0.op) (l₀ := cd.mro) (fun A Q E s k q => wpAny_bind ((looks_clsIn I1.kIn hc) A _ E s k (wpAny_pure q))) rfl I1.kIn sup inst hCa (by decide) ?_
  generalize hu : h1.objs.size = u
  have k2 : ∀ b o, h1.get? b = some o → (h1.push (kxs_mw vi a)).get? b = some o := fun b o e => Heap.get?_push_of_some _ e
  have I2 : L2.Inv X pins σ H ⟨h1.push (kxs_mw vi a), g, d, t + 1, os⟩ := I1.kept (t' := t + 1) k2
  have hmw : (h1.push (kxs_mw vi a)).get? u = some (kxs_mw vi a) := by rw [← hu]; exact Heap.get?_push_at rfl rfl
  refine kxs_callWith (i := vi) (x := a) (by rw [hst]; rfl) (evalArgs_plain ?_)
  obtain ⟨m2, uy, hn2, hmy, ruy⟩ := var_at I2 hNk ek hka
  obtain ⟨t2, ho2⟩ := exo_at I2.hok ea
  refine PyProof.Rows.args_cons (wpAny_Name (wpAny_loadName_local I.ok.kind hka hn2 hmy (PyProof.Rows.args_nil ⟨hmw, ?_⟩)) hda) hst
  refine call_mw (I2.kIn _ _ hC) ho2 hmw (by show 1 ≤ sizeLine; decide) fun h3 t3 k3 hx => ⟨rfl, ?_⟩
  have J := I2.write (t' := t + 1) (x := a) (e := a) (o := exo a C none) (by rw [ea]; exact True.intro) (.inl rfl) k3 ⟨_, hx⟩ (exo_ok hx)
  have eu : upd H a (exo a C none) = H := by
    funext b
    by_cases hb : b = a
    · rw [hb, upd_same, ea]
    · rw [upd_ne hb]
  rw [eu] at J
  exact J
end
/-! ### __init__ as a def -/
open NdefX in
/-- the function object of __init__, its closure and its code -/
structure InitF (P : Program) (K : Frag) (D f cda cc : Addr) (fd : FuncData) (F : NF) (x : Str) : Prop where
  is : ∃ doc pm ctv, fd = F.fd doc pm ctv
  lk : ∃ oc od osl, K.lookup f = some ⟨oc, od, .func fd, osl⟩
  code : codeIn K (.ref cda) F.qual = true
  fc : F.c = cda
  cl : F.cl = [(("__class__" : Str), cc)]
  cell : ∃ oc od osl, K.lookup cc = some ⟨oc, od, .cell (some (.ref D)), osl⟩
/-- self, the text: made, the field x stands -/
def initSp (P : Program) (K : Frag) (D f cda : Addr) (x : Str) : Sp := fun vs H Q _ => ∃ a C y, vs = [.ref a, y] ∧ OexC K C ∧ SupF P K D C f cda "self" ∧ findIn K (.ref C) x = some none ∧ H a = some (exo a C none) ∧
  ∀ dx, H dx = none → dx ≠ a → Q .non (upd (upd H dx (exd dx [(x, y)])) a (exo a C (some dx)))
section
open NdefX
variable {P : Program} {w : World} {K : Frag} {mg : Str → Option Value} {base : Heap} {k : Nat} {D f cda cc : Addr} {fd : FuncData} {F : NF} {x : Str} {p0 p1 p2 p3 pos pe q1 q2 q3 q4 : Pos}
theorem init_ok (I0 : InitF P K D f cda cc fd F x) (S : NScope ["self", x, "__class__"] ["self", x] ["__class__"] F.scope)
    (hb : F.body = [.Expr (.Call (.Attribute (.Call (.Name "super" p0) [] [] p1) "__init__" p2) [.Name x p3] [] pos) pe, .Assign [.Attribute (.Name "self" q1) x q2] (.Name x q3) q4])
    (hsu : F.scope.names.lookup ("super" : Str) = some .globalImplicit) (hms : mg "super" = none) (hda : (x == ("__debug__" : Str)) = false) (hdc : (x == ("__classdict__" : Str)) = false)
    (he : ∀ env : PySem.Env, ∃ pl : Sem Bool, eval (.Call (.Attribute (.Call (.Name "super" p0) [] [] p1) "__init__" p2) [.Name x p3] [] pos) env = (do
      let ov ← attributeBase (.Call (.Name "super" p0) [] [] p1) "__init__" env (eval (.Call (.Name "super" p0) [] [] p1) env)
      standAt p2.atName
      let (f, first) ← holding [ov] (getMethod ov "__init__" pl)
      callWith pos f first (backTo pos (starEach [.Name x p3] env)) [])) : FnOk P w K mg base CX0 (k + 1) f fd ["self", x] (initSp P K D f cda x) := by
  refine ⟨fun vs H Q E h => by obtain ⟨_, _, _, rfl, _⟩ := h; rfl, fun A outer s H args us vs Q E hr e0 hbd r h => ?_⟩
  obtain ⟨a, C, y, rfl, T, SF, hno, ea, hq⟩ := h
  obtain ⟨doc, pm, ctv, rfl⟩ := I0.is
  obtain ⟨oc, od, osl, lk⟩ := I0.lk
  obtain ⟨co, cd, csl, lc⟩ := I0.cell
  have KX : K.In s.heap := e0.mod.kin.keeps fun b o e => (e0.bs b o e).1
  have lim : s.heap.NoLimit := e0.mod.nolimit.keeps fun b o e => (e0.bs b o e).1
  have hl := r.length
  have kd : ∀ z ∈ (["self", x] : List Str).zip us, F.scope.names.lookup z.1 = some .local := by
    rintro ⟨n, v⟩ hy
    exact S.par n (List.of_mem_zip hy).1
  have CA : CellsAt F.cl ["__class__"] [some (.ref D)] s.heap H := by
    have one : ∀ y c, F.cl.lookup y = some c → y = "__class__" ∧ c = cc := fun y c e => by
      rw [I0.cl] at e
      simp only [List.lookup] at e
      split at e
      · cases e; exact ⟨by simpa using (by assumption : (y == ("__class__" : Str)) = true), rfl⟩
      · cases e
    have hcell : s.heap.get? cc = some ⟨co, cd, .cell (some (.ref D)), csl⟩ := KX _ _ lc
    refine ⟨rfl, fun y c e => ?_, fun y z c e1 e2 => by rw [(one y c e1).1, (one z c e2).1], fun i y e => ?_⟩
    · obtain ⟨_, rfl⟩ := one y c e
      exact ⟨(e0.bs _ _ (e0.mod.kin _ _ lc)).2, _, ⟨_, hcell, rfl⟩⟩
    · cases i with
      | zero =>
        cases e
        refine ⟨cc, by rw [I0.cl]; rfl, fun v hv => ?_⟩
        cases hv
        exact ⟨.ref D, rfl, ⟨_, hcell, rfl⟩⟩
      | succ i => cases e
  have hcr : s.heap.CodeRec (.ref F.c) F.qual := by rw [I0.fc]; exact PySem.W.codeRec_of KX I0.code
  refine codeAny_call_function hr.depth (KX _ _ lk) rfl S.co S.gen rfl hcr (hbd _ _ _ _ (wpAny_newFunctionEnv S.nocell kd (fun h₁ hns hsb => ⟨lim.fresh _ hsb, ?_⟩) S.kind))
  show codeAny _ _ (.func F.body (envF F f s.heap.objs.size)) _ _
  have kp : ∀ b o, s.heap.get? b = some o → h₁.get? b = some o := fun b o e => hsb.extBut b o (Nat.ne_of_lt (Heap.lt_size e)) (Heap.get?_push_of_some _ e)
  have I : Inv (ncx CX0 P w K mg base ["self", x, "__class__"] F f A outer s H E) [] (startF ["self", x, "__class__"] [.ref a, y] [some (.ref D)]) H { s with heap := h₁, toks := s.toks + ((["self", x] : List Str).zip us).length } := inv_startN S hr.hd e0 rfl r CA hns kp
  refine ks_codeAny_funcAt ?_
  have hst : ∀ (X : Cx), starEach [.Name x p3] X.env = (false, eval (.Name x p3) X.env) :: starEach [] X.env := fun X => rfl
  rw [hb]
  have nd := S.nd
  have hkx : F.scope.names.lookup x = some .local := S.par x (by simp)
  have hks : F.scope.names.lookup ("self" : Str) = some .local := S.par "self" (by simp)
  have hkc : F.scope.names.lookup ("__class__" : Str) = some .free := S.frk "__class__" (by simp)
  have hint : interactive (envF F f s.heap.objs.size) = false := by
    have k := S.kind
    unfold interactive
    simp [k]
  obtain ⟨pl, hpl⟩ := he (ncx CX0 P w K mg base ["self", x, "__class__"] F f A outer s H E).env
  refine ks_wpAt_execs_cons (ks_wpAt_Expr_any (ks_wpAt_mono (super_init (X := ncx CX0 P w K mg base ["self", x, "__class__"] F f A outer s H E) (self := "self") (arg := x) (j := 2) (k := 1) (D := D) (f := f) (cda := cda) (y := y) I SF T ea rfl (by show Value.ref F.c = _; rw [I0.fc]) hsu hms hkc hks hkx rfl rfl rfl rfl rfl rfl hda (hst _) hpl) (fun v s1 hv => ?_) fun _ _ z => z) hint)
  obtain ⟨_, I1⟩ := hv
  refine wpAt_of_wpAny ?_
  have st := pss_one (ps_ost (X := ncx CX0 P w K mg base ["self", x, "__class__"] F f A outer s H E) (f := x) (p' := q2) (pos := q4) (pe_var (i := 0) (x := "self") (pos := q1) rfl (.inl hks)) (pe_var (i := 1) (x := x) (pos := q3) rfl (.inl hkx) hda hdc))
  refine wpAny_mono (st.run [] s1 _ H { nx := fun _ H' => Q .non H', rt := Q } I1 ?_) (fun fl s2 hs => ?_) fun e s2 hs => hs
  · refine ⟨y, rfl, .ref a, rfl, a, C, rfl, T, hno, .inl ⟨ea, fun dx n1 n2 => hq dx n1 n2⟩⟩
  · cases fl with
    | next =>
      obtain ⟨σ', H', J, q⟩ := hs
      exact ⟨V.non, H', J.os, J.bare, J.base, J.hok, rfl, q⟩
    | ret u =>
      obtain ⟨v, σ', H', J, rv, q⟩ := hs
      exact ⟨v, H', J.os, J.bare, J.base, J.hok, rv, q⟩
    | brk =>
      obtain ⟨_, _, _, q⟩ := hs
      exact False.elim q
    | cont =>
      obtain ⟨_, _, _, q⟩ := hs
      exact False.elim q
end
end DX


/-! raise, upon data. -/
namespace DD
open PySem PySem.Spec PyProof.Rows L2
open Classical

/-- an error class of the package that keeps its one parameter as the field x -/
structure ErrF (P : Program) (w : World) (K : PySem.W.Frag) (mg : Str → Option Value) (base : Heap) (k : Nat) (cls x : Str) : Prop where
  is : ∃ (C D f cda : Addr) (fd : FuncData), mg cls = some (.ref C) ∧ OexC K C ∧ PySem.W.findIn K (.ref C) "__init__" = some (some (.ref f)) ∧ PySem.W.typeIn K (.ref f) = some (.type "function") ∧
    FnOk P w K mg base CX0 k f fd ["self", x] (DX.initSp P K D f cda x) ∧ Binds K fd ["self", x] [] ∧ DX.SupF P K D C f cda "self" ∧ PySem.W.findIn K (.ref C) x = some none
def sRaise (cls x : Str) (m : M Ref) : MS := m.thenS fun r η => match rdD η r with
  | some d => .err ⟨cls, [(x, d)]⟩ η
  | none => .stuck
section
variable {X : Cx} {W : WX} {k : Nat} {e : Expr} {m : M Ref} {pos p pp : Pos} {cls x : Str}
theorem ds_raise (cc : Cc X W k) (F : ErrF X.prog X.w X.K X.mg X.base (k - 1) cls x) (hk : k - 1 + 1 = k) (hg : Gl X cls) (he : DE X W e m)
    (hdb : (cls == ("__debug__" : Str)) = false := by decide) (hs : starEach [e] X.env = (false, eval e X.env) :: starEach [] X.env := by rfl) : DS X W (.Raise (some (.Call (.Name cls p) [e] [] pp)) none pos) (sRaise cls x m) := by
  obtain ⟨C, D, f, cda, fd, hm, T, iC, tI, F1, hb, SF, hno⟩ := F.is
  have ha : PA X [e] (tCons (tE X.K X.mg W m) tNil) := pa_cons he pa_nil hs
  have hr : Room (k - 1 + 1) X.A := by rw [hk]; exact cc.room
  refine ps_mono (ps_raise cc.calm cc.tk (pmk_oex (dvs := []) T iC tI F1 hr hb .nil pass0 hg hm ha hdb hs)) fun E σ H t => ?_
  obtain ⟨ρ, η, φ, r, p⟩ := t
  refine tE_mono (fun v H1 ⟨r1, η1, φ1, f1, at_, q⟩ => ?_) ((At.start r).stepS p)
  cases hd : rdD η1 r1 with
  | none => rw [hd] at q; exact q.elim
  | some d =>
    rw [hd] at q
    refine ⟨by show 1 ≤ 1000; decide, fun a hn => ?_⟩
    have hv := at_.getD in0 hd
    refine ⟨a, C, v, rfl, T, SF, hno, upd_same, fun dx n1 n2 => ?_⟩
    have n3 : H1 dx = none := by rwa [upd_ne n2] at n1
    refine ⟨rfl, dx, [(x, v)], upd_same, by rw [upd_ne n2, upd_same], n3, ?_⟩
    have ex : Ext none_ H1 (upd (del (upd (upd (upd H1 a (exo a C none)) dx (exd dx [(x, v)])) a (exo a C (some dx))) a) dx (.xd [(x, v)])) := fun b o hb _ => by
      have e1 : b ≠ a := fun z => by rw [z, hn] at hb; cases hb
      have e2 : b ≠ dx := fun z => by rw [z, n3] at hb; cases hb
      rw [upd_ne e2, del_ne e1, upd_ne e1, upd_ne e2, upd_ne e1]
      exact hb
    have nf : New (foot φ) H (foot φ1) := at_.new.sub fun _ h => .inr h
    refine q (.ref C) (some dx) σ _ φ1 (at_.rep.ext ex fun _ _ z => z) (at_.ext.trans nf (ex.weak fun _ z => z.elim)) nf ⟨hm, ⟨C, rfl⟩, dx, [(x, v)], rfl, upd_same, rfl, ?_⟩
    exact .cons (dp_ext ex _ _ hv) .nil
end
end DD


/-! What stands behind return in an except clause, upon data. -/
namespace DD
open PySem PySem.Spec PyProof.Rows L2
open Classical

/-- the caught exception stands in slot i (if the clause names one), its fields are fs -/
structure HSt (K : PySem.W.Frag) (i : Option Nat) (a : Addr) (dx : Option Addr) (fs : List (Str × D)) (σ : L2.St) (H : Hp) : Prop where
  sl : ∀ j, i = some j → σ[j]? = some (some (.ref a))
  cl : ∃ d gs, dx = some d ∧ H d = some (.xd gs) ∧ gs.map (·.1) = fs.map (·.1) ∧ Rps K H (gs.map (·.2)) (fs.map (·.2))
theorem HSt.ext {K : PySem.W.Frag} {i : Option Nat} {a : Addr} {dx : Option Addr} {fs : List (Str × D)} {σ : L2.St} {H H' : Hp} (h : HSt K i a dx fs σ H) (e : Ext none_ H H') : HSt K i a dx fs σ H' := by
  obtain ⟨d, gs, e1, h1, h2, h3⟩ := h.cl
  exact ⟨h.sl, d, gs, e1, e _ _ h1 (.inl fun z => z), h2, dps_ext e _ _ h3⟩
theorem xd_lookup {K : PySem.W.Frag} {H : Hp} {f : Str} {x : D} : ∀ (gs : List (Str × V)) (fs : List (Str × D)), gs.map (·.1) = fs.map (·.1) → Rps K H (gs.map (·.2)) (fs.map (·.2)) → fs.lookup f = some x → ∃ v, gs.lookup f = some v ∧ Rp K H v x
  | [], [], _, _, h => by cases h
  | [], _ :: _, e, _, _ => by cases e
  | _ :: _, [], e, _, _ => by cases e
  | (n, v) :: gs, (n', y) :: fs, e, r, h => by
    simp only [List.map_cons, List.cons.injEq] at e
    obtain ⟨e1, e2⟩ := e
    subst e1
    simp only [List.map_cons] at r
    cases r with
    | cons r1 r2 =>
      simp only [List.lookup_cons] at h ⊢
      cases q : f == n with
      | true =>
        rw [q] at h
        cases h
        exact ⟨v, rfl, r1⟩
      | false =>
        rw [q] at h
        exact xd_lookup gs fs e2 r2 h
/-- what an expression of the suite gives: data made of the fields -/
def tHx (K : PySem.W.Frag) (i : Option Nat) (a : Addr) (dx : Option Addr) (g : List (Str × D) → Option D) : TE := fun σ H Q =>
  ∃ fs x, HSt K i a dx fs σ H ∧ g fs = some x ∧ ∀ v H', Ext none_ H H' → Rp K H' v x → Q v H'
def tHs (K : PySem.W.Frag) (i : Option Nat) (a : Addr) (dx : Option Addr) (g : List (Str × D) → Option (List D)) : TA := fun σ H Q =>
  ∃ fs xs, HSt K i a dx fs σ H ∧ g fs = some xs ∧ ∀ vs H', Ext none_ H H' → Rps K H' vs xs → Q vs H'
def hCons (g : List (Str × D) → Option D) (gs : List (Str × D) → Option (List D)) : List (Str × D) → Option (List D) := fun fs => match g fs, gs fs with
  | some x, some xs => some (x :: xs)
  | _, _ => none
def hTup (gs : List (Str × D) → Option (List D)) : List (Str × D) → Option D := fun fs => match gs fs with
  | some xs => if xs.length ≤ sizeLine then some (.tup xs) else none
  | none => none
section
variable {X : Cx} {K : PySem.W.Frag} {i : Option Nat} {j : Nat} {a : Addr} {dx : Option Addr} {e : Expr} {es : List Expr} {g : List (Str × D) → Option D} {gs : List (Str × D) → Option (List D)} {pos : Pos}
theorem he_str {x : Str} {jj} : PE X (.Constant (.str x) jj pos) (tHx K i a dx fun _ => some (.str x)) :=
  pe_mono pe_str fun σ H Q ⟨fs, y, h, e, q⟩ => by cases e; exact q _ _ (Ext.refl _ _) (.str _)
theorem he_non {jj} : PE X (.Constant .none jj pos) (tHx K i a dx fun _ => some .non) :=
  pe_mono pe_non fun σ H Q ⟨fs, y, h, e, q⟩ => by cases e; exact q _ _ (Ext.refl _ _) .non
theorem hs_nil : PA X [] (tHs K i a dx fun _ => some []) :=
  pa_mono pa_nil fun σ H Q ⟨fs, y, h, e, q⟩ => by cases e; exact q _ _ (Ext.refl _ _) .nil
theorem hs_cons (he : PE X e (tHx K i a dx g)) (hr : PA X es (tHs K i a dx gs)) (hs : starEach (e :: es) X.env = (false, eval e X.env) :: starEach es X.env := by rfl) : PA X (e :: es) (tHs K i a dx (hCons g gs)) :=
  pa_mono (pa_cons he hr hs) fun σ H Q ⟨fs, y, h, ee, q⟩ => by
    unfold hCons at ee
    split at ee
    · rename_i x xs h1 h2
      cases ee
      exact ⟨fs, x, h, h1, fun v H1 e1 r1 => ⟨fs, xs, h.ext e1, h2, fun vs H2 e2 r2 => q _ _ (e1.trans (fun _ z => z.elim) e2) (.cons (dp_ext e2 _ _ r1) r2)⟩⟩
    · cases ee
theorem he_tup {x1} (h : PA X es (tHs K i a dx gs)) : PE X (.Tuple es x1 pos) (tHx K i a dx (hTup gs)) :=
  pe_mono (pe_tupF h) fun σ H Q ⟨fs, y, hh, ee, q⟩ => by
    unfold hTup at ee
    split at ee
    · rename_i xs h1
      split at ee
      · rename_i hl
        cases ee
        refine ⟨fs, xs, hh, h1, fun vs H1 e1 r1 => ⟨by rw [dps_len r1]; exact hl, fun p o hp ho => ?_⟩⟩
        have e2 : Ext none_ H1 (L2.upd H1 p (.frz o (.tup vs))) := Ext.new hp
        exact q _ _ (e1.trans (fun _ z => z.elim) e2) (.tup (SqN.of upd_same ho) (dps_ext e2 _ _ r1))
      · cases ee
    · cases ee
theorem he_fld {C : Addr} {oe : Obj} {d : Option Addr} {pn : List (Addr × Obj)} {x f : Str} {p : Pos} (T : XfC X.K C) (hno : PySem.W.findIn X.K (.ref C) f = some none)
    (hz : Zc (.ref C) d oe) (hf : ∃ vs, oe.data = .fields vs) (hN : X.N[j]? = some x) (hv : Vis X.env.scope x) (hd : (x == ("__debug__" : Str)) = false := by decide) (hcd : (x == ("__classdict__" : Str)) = false := by decide)
    (hb : attributeBase (.Name x p) f X.env (eval (.Name x p) X.env) = eval (.Name x p) X.env := by rfl) :
    PE (X.suite a ((a, oe) :: pn)) (.Attribute (.Name x p) f pos) (tHx X.K (some j) a d fun fs => fs.lookup f) :=
  pe_mono (pe_xf T hno hz hf (pe_var (X := X.suite a ((a, oe) :: pn)) (i := j) hN hv hd hcd) hb) fun σ H Q ⟨fs, y, h, ee, q⟩ => by
    obtain ⟨dd, gs, e1, h1, h2, h3⟩ := h.cl
    obtain ⟨v, l, r⟩ := xd_lookup gs fs h2 h3 ee
    exact ⟨_, h.sl _ rfl, rfl, rfl, dd, gs, v, e1, h1, l, q _ _ (Ext.refl _ _) r⟩
end
end DD


/-! The facts of the error classes, asked by a Bool of the written part. -/
namespace DX
open PySem PySem.Spec PyProof.Rows L2 PySem.W PySem.Calls
variable {P : Program} {K : Frag}
def oexB (K : Frag) (C : Addr) : Bool := (match K.lookup C with
  | some ⟨.type "type", _, .cls cd, sl⟩ => (match cd.mro, sl.toList with
    | .ref C' :: bm, [_, _, _, _, some (.builtin n), _] => C' == C && (n == "ValueError.__new__" && (!cd.hasDel && (cd.hasDict && HandSPX.refsVE bm)))
    | _, _ => false)
  | _ => false) && (decide (findIn K (.ref C) "__setattr__" = some (some (.builtin "object.__setattr__"))) && (decide (subIn K (.ref C) (.type "BaseException") = some true) && (decide (typeIn K (.ref C) = some (.type "type")) && keepIn K (.ref C))))
theorem oexB_ok {C : Addr} (q : oexB K C = true) : OexC K C := by
  obtain ⟨q, h⟩ := Bool.and_eq_true_iff.mp q
  obtain ⟨h1, h⟩ := Bool.and_eq_true_iff.mp h
  obtain ⟨h2, h⟩ := Bool.and_eq_true_iff.mp h
  obtain ⟨h3, h4⟩ := Bool.and_eq_true_iff.mp h
  refine ⟨?_, of_decide_eq_true h1, of_decide_eq_true h2, of_decide_eq_true h3, h4⟩
  split at q
  · rename_i dd cd sl ho
    split at q
    · rename_i C' bm k0 k1 k2 k3 n k5 hm hs
      simp only [Bool.and_eq_true, beq_iff_eq, Bool.not_eq_true'] at q
      obtain ⟨rfl, rfl, hdel, hdic, ht⟩ := q
      obtain ⟨nm, bs, mro, ns, qn, hd, sn, sub, ab, col, del⟩ := cd
      dsimp only at hm hdel hdic
      subst hm hdel hdic
      have hsl : sl = #[k0, k1, k2, k3, some (.builtin "ValueError.__new__"), k5] := by
        obtain ⟨l⟩ := sl
        simp only at hs
        rw [hs]
      subst hsl
      exact ⟨nm, qn, ns, bs, bm, sn, sub, ab, col, dd, k0, k1, k2, k3, k5, ho, ht⟩
    · cases q
  · cases q
/-- the class at C, whose __init__ is that of the class at D, written at f with the code cda -/
def supB (K : Frag) (file : Str) (C D f cda : Addr) (me : Str) : Bool :=
  (match K.lookup f with
    | some ⟨_, _, .func fd, _⟩ => (match (fd.params.posonlyargs ++ fd.params.args).head? with
      | some ar => decide (ar.arg = me)
      | none => false)
    | _ => false) && ((match K.lookup cda with
    | some ⟨_, _, .fields vs, _⟩ => (match (vs[2]? : Option Value) with
      | some (Value.str g _) => file == g
      | _ => false)
    | _ => false) && ((clsIn K D).isSome && (decide (mroIn K C (.ref D) = some true) && (decide (ks_superIn K C D "__init__" = some (some (.builtin vi))) && (decide (subIn K (.ref C) (.type "ValueError") = some true) && decide (nsIn K cStatics "thirdparty.any" = some none))))))
theorem supB_ok {C D f cda : Addr} {me : Str} (ht : (P.main.scope.names.lookup ("super" : Str)).isSome = false) (q : supB K P.main.file C D f cda me = true) : SupF P K D C f cda me := by
  obtain ⟨q1, h⟩ := Bool.and_eq_true_iff.mp q
  obtain ⟨q2, h⟩ := Bool.and_eq_true_iff.mp h
  obtain ⟨q3, h⟩ := Bool.and_eq_true_iff.mp h
  obtain ⟨q4, h⟩ := Bool.and_eq_true_iff.mp h
  obtain ⟨q5, h⟩ := Bool.and_eq_true_iff.mp h
  obtain ⟨q6, q7⟩ := Bool.and_eq_true_iff.mp h
  refine ⟨?_, ?_, ht, Option.isSome_iff_exists.mp q3, of_decide_eq_true q4, of_decide_eq_true q5, of_decide_eq_true q6, of_decide_eq_true q7⟩
  · split at q1
    · rename_i oc od fd osl ho
      split at q1
      · rename_i ar ha
        exact ⟨oc, od, fd, osl, ar, ho, ha, of_decide_eq_true q1⟩
      · cases q1
    · cases q1
  · split at q2
    · rename_i oc od vs osl ho
      split at q2
      · rename_i g tf hg
        exact ⟨oc, od, vs, osl, g, tf, ho, hg, q2⟩
      · cases q2
    · cases q2
end DX


/-! A Hook that also tells of the __init__ of the error classes. -/
namespace DX
open PySem PySem.Spec PyProof.Rows L2 PySem.W PySem.Calls
/-- one def __init__ of a class, that says super() -/
structure IniD where
  cls : Str
  name : Str
  qual : Str
  params : Arguments
  body : List Stmt
  scope : Scope
abbrev IniW : Type := Option (Str × Str × Arguments × FuncBody × Scope × Addr × List Str × Addr)
def iniAd (K : Frag) (cn : Str) : Addr := He.ma K (He.ga K cn) "__init__"
def iniW (K : Frag) (cn : Str) : IniW := match K.lookup (iniAd K cn) with
  | some ⟨_, _, .func fd, _⟩ => some (fd.name, fd.qualname, fd.params, fd.body, fd.scope, fd.globals, fd.closure.map (·.1), fd.builtins)
  | _ => none
def IniD.val (d : IniD) : IniW := some (d.name, d.qual, d.params, .stmts d.body, d.scope, mainGlobals, ["__class__"], builtinsNs)
def iniCode (K : Frag) (cn : Str) : Addr := match K.lookup (iniAd K cn) with
  | some ⟨_, _, .func fd, _⟩ => (match fd.code with
    | .ref c => c
    | _ => 0)
  | _ => 0
def cellB (K : Frag) (D : Addr) (cl : List (Str × Addr)) : Bool := match cl with
  | [q] => (match K.lookup q.2 with
    | some ⟨_, _, .cell (some (.ref D')), _⟩ => D' == D
    | _ => false)
  | _ => false
def iniB (K : Frag) (cn qual : Str) : Bool := match K.lookup (iniAd K cn) with
  | some ⟨_, _, .func fd, _⟩ => decide (fd.defaults = .none) && (decide (fd.kwdefaults = .none) && (decide (fd.annotations = none) && (codeIn K fd.code qual && cellB K (He.ga K cn) fd.closure)))
  | _ => false
theorem code_ref {K : Frag} {cd : Value} {q : Str} (h : codeIn K cd q = true) : ∃ c, cd = .ref c := by
  cases cd with
  | ref c => exact ⟨c, rfl⟩
  | _ => cases h
theorem ini_ok {P : Program} {K : Frag} {d : IniD} {x : Str} (e : iniW K d.cls = d.val) (c : iniB K d.cls d.qual = true) :
    ∃ cc fd, InitF P K (He.ga K d.cls) (iniAd K d.cls) (iniCode K d.cls) cc fd ⟨d.name, d.qual, d.params, d.body, d.scope, [("__class__", cc)], iniCode K d.cls⟩ x := by
  unfold iniB at c
  unfold iniW at e
  unfold iniCode
  cases q : K.lookup (iniAd K d.cls) with
  | none => rw [q] at c; cases c
  | some o =>
    obtain ⟨oc, od, dt, osl⟩ := o
    rw [q] at c e
    cases dt with
    | func fd =>
      obtain ⟨n1, n2, n3, n4, n5, n6, n7, n8, n9, n10, n11, n12, n13, n14, n15⟩ := fd
      dsimp only at c ⊢
      have e2 : (some (n1, n2, n3, n4, n5, n6, n7.map (·.1), n15) : IniW) = some (d.name, d.qual, d.params, FuncBody.stmts d.body, d.scope, mainGlobals, [("__class__" : Str)], builtinsNs) := e
      simp only [Option.some.injEq, Prod.mk.injEq] at e2
      obtain ⟨h1, h2, h3, h4, h5, h6, h7, h8⟩ := e2
      obtain ⟨k1, c⟩ := Bool.and_eq_true_iff.mp c
      obtain ⟨k2, c⟩ := Bool.and_eq_true_iff.mp c
      obtain ⟨k3, c⟩ := Bool.and_eq_true_iff.mp c
      obtain ⟨k4, k5⟩ := Bool.and_eq_true_iff.mp c
      have j1 := of_decide_eq_true k1
      have j2 := of_decide_eq_true k2
      have j3 := of_decide_eq_true k3
      obtain ⟨cd, rfl⟩ := code_ref k4
      cases n7 with
      | nil => cases k5
      | cons q1 r7 =>
        cases r7 with
        | cons _ _ => cases k5
        | nil =>
          obtain ⟨y, cc⟩ := q1
          simp only [List.map_cons, List.map_nil, List.cons.injEq, and_true] at h7
          subst h7
          unfold cellB at k5
          dsimp only at k5
          split at k5
          · rename_i cc0 cd0 D' csl hc
            have eD : D' = He.ga K d.cls := beq_iff_eq.mp k5
            rw [eD] at hc
            clear k1 k2 k3
            subst h1 h2 h3 h4 h5 h6 h8 j1 j2 j3
            exact ⟨cc, _, ⟨⟨n10, n11, n14, rfl⟩, ⟨oc, od, osl, q⟩, k4, rfl, rfl, ⟨_, _, _, hc⟩⟩⟩
          · cases k5
    | _ => cases c
end DX


/-! The error classes' facts all together; the Hook. -/
namespace DX
open PySem PySem.Spec PyProof.Rows L2 PySem.W PySem.Calls
/-- the class cn, whose __init__ stands in the class dn and keeps the field x -/
def errB (K : Frag) (file cn dn x : Str) : Bool :=
  He.eqO (findIn K (.ref (He.ga K cn)) "__init__") (some (some (.ref (iniAd K dn)))) && (decide (typeIn K (.ref (iniAd K dn)) = some (.type "function")) && (oexB K (He.ga K cn) && (supB K file (He.ga K cn) (He.ga K dn) (iniAd K dn) (iniCode K dn) "self" && (He.eqO (findIn K (.ref (He.ga K cn)) x) (some none) && xfB K (He.ga K cn)))))
theorem errF_of {P : Program} {w : World} {K : Frag} {mg : Str → Option Value} {base : Heap} {k : Nat} {cn dn x : Str} {fd : FuncData} (ht : (P.main.scope.names.lookup ("super" : Str)).isSome = false)
    (q : errB K P.main.file cn dn x = true) (hm : mg cn = some (.ref (He.ga K cn)))
    (F : FnOk P w K mg base CX0 k (iniAd K dn) fd ["self", x] (initSp P K (He.ga K dn) (iniAd K dn) (iniCode K dn) x)) (hb : Binds K fd ["self", x] []) : DD.ErrF P w K mg base k cn x := by
  obtain ⟨q1, h⟩ := Bool.and_eq_true_iff.mp q
  obtain ⟨q2, h⟩ := Bool.and_eq_true_iff.mp h
  obtain ⟨q3, h⟩ := Bool.and_eq_true_iff.mp h
  obtain ⟨q4, h⟩ := Bool.and_eq_true_iff.mp h
  obtain ⟨q5, q6⟩ := Bool.and_eq_true_iff.mp h
  exact ⟨_, _, _, _, _, hm, oexB_ok q3, He.eqO_ok q1, of_decide_eq_true q2, F, hb, supB_ok ht q4, He.eqO_ok q5⟩
theorem errB_xf {K : Frag} {file cn dn x : Str} (q : errB K file cn dn x = true) : XfC K (He.ga K cn) ∧ findIn K (.ref (He.ga K cn)) x = some none := by
  obtain ⟨q1, h⟩ := Bool.and_eq_true_iff.mp q
  obtain ⟨q2, h⟩ := Bool.and_eq_true_iff.mp h
  obtain ⟨q3, h⟩ := Bool.and_eq_true_iff.mp h
  obtain ⟨q4, h⟩ := Bool.and_eq_true_iff.mp h
  obtain ⟨q5, q6⟩ := Bool.and_eq_true_iff.mp h
  exact ⟨xfB_ok q6, He.eqO_ok q5⟩
/-! ### the Hook: the defs, the __init__ of the error classes, one more Bool -/
abbrev AlI : Type := He.AlD × Bool × List IniW
def obsI (fa : List He.Fa) (fn : List He.DefD) (ini : List IniD) (er : Frag → Bool) (K : Frag) : AlI := (He.obsD fa fn K, er K && ini.all (fun d => iniB K d.cls d.qual), ini.map fun d => iniW K d.cls)
def valI (fn : List He.DefD) (ini : List IniD) : AlI := (He.valD fn, true, ini.map IniD.val)
structure SaysI (fa : List He.Fa) (fn : List He.DefD) (ini : List IniD) (er : Frag → Bool) (K : Frag) : Prop where
  d : He.SaysD fa fn K
  er : er K = true
  ini : ∀ d ∈ ini, iniW K d.cls = d.val ∧ iniB K d.cls d.qual = true
theorem saysI_of {fa : List He.Fa} {fn : List He.DefD} {ini : List IniD} {er : Frag → Bool} {K : Frag} (e : obsI fa fn ini er K = valI fn ini) : SaysI fa fn ini er K := by
  have e1 : He.obsD fa fn K = He.valD fn := congrArg (fun z : AlI => z.1) e
  have e2 : (er K && ini.all (fun d => iniB K d.cls d.qual)) = true := congrArg (fun z : AlI => z.2.1) e
  have e3 : (ini.map fun d => iniW K d.cls) = ini.map IniD.val := congrArg (fun z : AlI => z.2.2) e
  obtain ⟨h1, h2⟩ := Bool.and_eq_true_iff.mp e2
  exact ⟨e1, h1, fun d hd => ⟨List.map_inj_left.mp e3 d hd, List.all_eq_true.mp h2 d hd⟩⟩
def asI (g : Addr → Option Obj) (n : Nat) : List Addr := cStatics :: He.asD g n
def obsIG (n : Nat) (fa : List He.Fa) (fn : List He.DefD) (ini : List IniD) (er : Frag → Bool) (g : Addr → Option Obj) : AlI := obsI fa fn ini er (He.frG g (asI g n))
def hookI (n : Nat) (fa : List He.Fa) (fn : List He.DefD) (ini : List IniD) (er : Frag → Bool) : PySem.W.Hook where
  α := AlI
  obs := fun s => obsIG n fa fn ini er s.heap.get?
  val := fun _ => valI fn ini
  says := fun _ h => ∃ K : Frag, K.In h ∧ SaysI fa fn ini er K
  of := fun _ _ e => ⟨_, He.frG_in, saysI_of e⟩
  keeps := fun _ _ _ ⟨K, hK, c⟩ k => ⟨K, PySem.W.Frag.In.keeps hK k, c⟩
theorem obsIG_eq {n : Nat} {fa : List He.Fa} {fn : List He.DefD} {ini : List IniD} {er : Frag → Bool} {g : Addr → Option Obj} {s : Shared} (h : ∀ a, g a = s.heap.get? a) : obsIG n fa fn ini er g = (hookI n fa fn ini er).obs s := by
  have e : g = s.heap.get? := funext h
  rw [e] <;> rfl
end DX


/-! try with several except clauses, each with or without a name. -/
namespace DD
open PySem PySem.Spec PyProof.Rows L2
open Classical

abbrev SuiteT := Addr → Value → Option Addr → TS
/-- a clause: the class it names, the slot of its name, what its suite does -/
structure Clause where
  cls : Value
  slot : Option Nat
  ts : SuiteT
def endsBut (D : Ends) : Option Nat → Ends
  | none => D
  | some i => ⟨fun σ H => D.nx (σ.set i none) H, D.rt, fun σ H => D.bk (σ.set i none) H, fun σ H => D.ct (σ.set i none) H⟩
def stWith (σ : L2.St) (a : Addr) : Option Nat → L2.St
  | none => σ
  | some i => σ.set i (some (.ref a))
def wCl (K : PySem.W.Frag) (Wout : WX) (D : Ends) : List Clause → WX
  | [] => Wout
  | q :: r => fun cls d σ H => ∃ b, PySem.W.exmOne K cls q.cls = some b ∧ (b = true → ∀ a, H a = none → q.ts a cls d (endsBut D q.slot) (stWith σ a q.slot) H) ∧ (b = false → wCl K Wout D r cls d σ H)
inductive ClOk (X : Cx) : List ExceptHandler → List Clause → Prop
  | nil : ClOk X [] []
  | bare {x : Str} {c : Value} {ts : SuiteT} {st : Stmt} {sts : List Stmt} {p1 p2 : Pos} {hs : List ExceptHandler} {l : List Clause} (names : Names X x c)
      (run : ∀ (a : Addr) (oe : Obj) (cls : Value) (d : Option Addr) (pn : List (Addr × Obj)), Zc cls d oe → (∃ vs, oe.data = .fields vs) → PSs (X.suite a ((a, oe) :: pn)) (st :: sts) (ts a cls d)) (more : ClOk X hs l) :
      ClOk X (.ExceptHandler (some (.Name x p1)) none (st :: sts) p2 :: hs) (⟨c, none, ts⟩ :: l)
  | asN {x n : Str} {c : Value} {i : Nat} {ts : SuiteT} {st : Stmt} {sts : List Stmt} {p1 p2 : Pos} {hs : List ExceptHandler} {l : List Clause} (names : Names X x c) (hi : X.N[i]? = some n) (hloc : X.env.kindOf n = some .local)
      (run : ∀ (a : Addr) (oe : Obj) (cls : Value) (d : Option Addr) (pn : List (Addr × Obj)), Zc cls d oe → (∃ vs, oe.data = .fields vs) → PSs (X.suite a ((a, oe) :: pn)) (st :: sts) (ts a cls d)) (more : ClOk X hs l) :
      ClOk X (.ExceptHandler (some (.Name x p1)) (some n) (st :: sts) p2 :: hs) (⟨c, some i, ts⟩ :: l)
section
variable {X : Cx} {body : List Stmt} {hd0 : ExceptHandler} {hds : List ExceptHandler} {l : List Clause} {pos : Pos} {tb : WX → TS} {Wout : WX}
theorem ps_try_cls (hst : X.stack = X.env :: X.outer) (hfl : X.env.frame = some X.env.locals) (hN : X.N.Nodup) (tk : Takes X Wout)
    (hb : ∀ (W : WX) (pn : List (Addr × Obj)) (xe : Value → Shared → Prop), Takes (X.tr pn xe) W → PassesOwn (model X.prog X.w) X.A X.env xe → PSs (X.tr pn xe) body (tb W))
    (hk : ClOk X (hd0 :: hds) l) : PS X (.Try body (hd0 :: hds) [] [] pos) (fun D σ H => tb (wCl X.K Wout D l) D σ H) := by
  refine ⟨fun pins s σ H D I h => ?_⟩
  have ok := I.ok
  have frs_ : X.A.frames = some (X.env :: X.outer) := by rw [ok.frames, hst]
  refine wpAny_Try_except ?_
  refine wpAny_mono ((hb (wCl X.K Wout D l) (X.pn ++ pins) (fun e z1 => wpAny (model X.prog X.w) X.A (noteFrame e X.env) (fun _ z2 => wpAny (model X.prog X.w) X.A (setFlight e none) (fun _ z3 =>
    wpAny (model X.prog X.w) X.A (handleBy e X.env (hd0 :: hds)) (SP X pins D) X.xe z3) X.xe z2) X.xe z1) (fun u sN out => ?_) PassesOwn.looking).run [] s σ H D (I.toTry _) h) (fun f sE done => ?_) (fun e z1 he => he)
  · obtain ⟨a, B, sIn, pinsX, σX, HX, cls, d, rfl, JX, below, upX, skyX, freeA, osX, argX, wish⟩ := out
    have J : Inv X pins σX HX sIn := JX.ofTry ok
    have skyO : Sky B (X.env :: X.outer) a (Zc cls d) X.env.locals sN.heap := by rw [← hst]; exact skyX
    show wpAny (model X.prog X.w) X.A (noteFrame (.ref a) X.env) _ _ _
    refine Sky.land Zc.steady frs_ hfl skyO fun hA flA upA => ?_
    have JA : Inv X pins σX HX { sN with heap := hA } := J.landed below flA.1 (upX.trans upA) osX argX
    obtain ⟨oA, vsA, getA, zA, dataA⟩ := flA.there
    have outFr : a ∉ frs (X.env :: X.outer) := fun hm => by
      obtain ⟨_, o', e', hnf⟩ := flA.2.2.1.mem hm
      rw [getA] at e'; cases e'
      exact hnf _ dataA
    have neLoc : a ≠ X.env.locals := fun z => outFr (List.mem_filterMap.mpr ⟨X.env, List.mem_cons_self, by rw [hfl, z]⟩)
    have neFs : a ∉ X.fs := fun hm => by
      obtain ⟨e, he, q⟩ := List.mem_filterMap.mp hm
      exact outFr (List.mem_filterMap.mpr ⟨e, List.mem_cons_of_mem _ he, q⟩)
    have SA := JA.suite getA dataA freeA neLoc neFs
    have asks : ∀ {x : Str} {c : Value} {p : Pos} {Q : Value → Shared → Prop} {E : Value → Shared → Prop}, Names X x c → Q c { sN with heap := hA } → wpAny (model X.prog X.w) (X.A.mark (some (.ref a))) (eval (.Name x p) X.env) Q E { sN with heap := hA } := fun {x c p Q E} nm q => by
      obtain ⟨g1, g2, g3 | ⟨g3, g4, g5⟩⟩ := nm
      · exact ld_glob (X := X.suite a ((a, oA) :: (X.pn ++ pins))) SA g1 g3 q g2
      · exact ld_blt (X := X.suite a ((a, oA) :: (X.pn ++ pins))) SA g1 g3 g4 q g5 g2
    have ofCls : ∀ {c : Value} {b : Bool}, PySem.W.exmOne X.K cls c = some b → PySem.W.Looks (model X.prog X.w) hA (excMatches (.ref a) c) b := fun {c b} e =>
      PySem.W.exm_one (M := model X.prog X.w) JA.kIn (fun A' Q' E' s' k q => wpAny_typeOf_ref (k _ _ getA) (by rw [zA.1]; exact q)) e
    have go : ∀ {hs' : List ExceptHandler} {l' : List Clause}, ClOk X hs' l' → wCl X.K Wout D l' cls d σX HX → wpAny (model X.prog X.w) X.A (handleBy (.ref a) X.env hs') (SP X pins D) X.xe { sN with heap := hA } := by
      intro hs' l' ck
      induction ck with
      | nil =>
        intro w
        refine wpAny_handleBy_nil ?_
        obtain ⟨k1, k2, k3, oe, vs, T, oT, tsT, he, hz, hd, h1, hr⟩ := id flA
        unfold PySem.passOn
        refine wpAny_bind (wpAny_field he hd h1 ?_)
        rw [if_neg (by simp : ¬ ((Value.ref T == Value.none) = true))]
        have fin : wpAny (model X.prog X.w) X.A (setFlight (.ref a) X.env.frame) (fun _ z4 => wpAny (model X.prog X.w) X.A (throw (.ref a) : Sem Flow) (SP X pins D) X.xe z4) X.xe { sN with heap := hA } := by
          rw [hfl]
          exact HandSPX.setFlight_upZ flA fun hB skB upB => wpAny_throw (tk _ _ ⟨a, B, sIn, pins, σX, HX, cls, d, rfl, J, below, (upX.trans upA).trans upB, .inr (.inr (by rw [hst]; exact skB)), freeA, osX, argX, w⟩)
        first
          | exact wpAny_bind (wpAny_pure (wpAny_bind fin))
          | exact wpAny_bind fin
      | bare names run more ih =>
        intro ⟨b, eb, yes, no⟩
        refine wpAny_handleBy_cons (codeAny_handlers_test ?_) (by intro q; cases q)
        refine asks names ((ofCls eb).here ?_)
        cases b with
        | true =>
          refine codeAny_handlers_suite (HandSPX.lands_againZ flA fun hB flB upB => ?_)
          have JB : Inv X pins σX HX { sN with heap := hB } := J.landed below flB.1 ((upX.trans upA).trans upB) osX argX
          obtain ⟨oB, vsB, getB, zB, dataB⟩ := flB.there
          refine wpAny_mono ((run a oB cls d (X.pn ++ pins) zB ⟨_, dataB⟩).run [] _ _ HX _ (JB.suite getB dataB freeA neLoc neFs) (yes rfl a freeA)) (fun f sF q => ?_) (fun _ _ z => z.elim)
          cases f with
          | ret u => obtain ⟨v, σ6, H6, S6, r6, q6⟩ := q; exact ⟨v, σ6, H6, S6.unsuite ok, r6, q6⟩
          | next => obtain ⟨σ6, H6, S6, q6⟩ := q; exact ⟨σ6, H6, S6.unsuite ok, q6⟩
          | brk => obtain ⟨σ6, H6, S6, q6⟩ := q; exact ⟨σ6, H6, S6.unsuite ok, q6⟩
          | cont => obtain ⟨σ6, H6, S6, q6⟩ := q; exact ⟨σ6, H6, S6.unsuite ok, q6⟩
        | false => exact ih (no rfl)
      | @asN x n c i ts st sts p1 p2 hs2 l2 names hi hloc run more ih =>
        intro ⟨b, eb, yes, no⟩
        refine wpAny_handleBy_cons (codeAny_handlers_test ?_) (by intro q; cases q)
        refine asks names ((ofCls eb).here ?_)
        cases b with
        | true =>
          refine codeAny_handlers_suite_as (HandSPX.lands_againZ flA fun hB flB upB => ?_)
          have JB : Inv X pins σX HX { sN with heap := hB } := J.landed below flB.1 ((upX.trans upA).trans upB) osX argX
          obtain ⟨oB, vsB, getB, zB, dataB⟩ := flB.there
          refine store_ok (X := X.suite a ((a, oB) :: (X.pn ++ pins))) (v := .ref a) (JB.suite getB dataB freeA neLoc neFs) hN hi (.inl hloc) rfl (fun sS SS => ?_) (.inr hloc)
          refine wpAny_mono ((run a oB cls d (X.pn ++ pins) zB ⟨_, dataB⟩).run [] sS _ HX _ SS (yes rfl a freeA)) (fun f sF q => ?_) (fun _ _ z => z.elim)
          have bye : ∀ {σ6 : L2.St} {H6 : Hp} {Q : Shared → Prop}, Inv (X.suite a ((a, oB) :: (X.pn ++ pins))) [] σ6 H6 sF → (∀ s7, Inv X pins (σ6.set i none) H6 s7 → Q s7) →
              wpAny (model X.prog X.w) X.A (do bindName X.env n .none; unbindBehindTheSuite X.env n p2) (fun _ s7 => Q s7) X.xe sF := fun {σ6 H6 Q} S6 hq => gone_ok (S6.unsuite ok) hN hi hloc hq
          cases f with
          | ret u => obtain ⟨v, σ6, H6, S6, r6, q6⟩ := q; exact bye S6 fun s7 J7 => ⟨v, _, H6, J7, r6, q6⟩
          | next => obtain ⟨σ6, H6, S6, q6⟩ := q; exact bye S6 fun s7 J7 => ⟨_, H6, J7, q6⟩
          | brk => obtain ⟨σ6, H6, S6, q6⟩ := q; exact bye S6 fun s7 J7 => ⟨_, H6, J7, q6⟩
          | cont => obtain ⟨σ6, H6, S6, q6⟩ := q; exact bye S6 fun s7 J7 => ⟨_, H6, J7, q6⟩
        | false => exact ih (no rfl)
    exact go hk wish
  · cases f with
    | ret u => obtain ⟨v, σ6, H6, S6, r6, q6⟩ := done; exact ⟨v, σ6, H6, S6.ofTry ok, r6, q6⟩
    | next => obtain ⟨σ6, H6, S6, q6⟩ := done; exact wpAny_execs_nil ⟨σ6, H6, S6.ofTry ok, q6⟩
    | brk => obtain ⟨σ6, H6, S6, q6⟩ := done; exact ⟨σ6, H6, S6.ofTry ok, q6⟩
    | cont => obtain ⟨σ6, H6, S6, q6⟩ := done; exact ⟨σ6, H6, S6.ofTry ok, q6⟩
end
end DD


/-! try with several except clauses, upon data: each clause returns. -/
namespace DX
open PySem PySem.Spec PyProof.Rows L2 PySem.W PySem.Calls
/-- what isinstance asks of an instance of the error class at C -/
def kitxB (K : Frag) (C : Addr) : Bool := (clsIn K C).isSome && (xfB K C && (decide (findIn K (.ref C) "__class__" = some (some (.builtin "object.__class__"))) && (decide (specialIn K (.builtin "object.__class__") "__get__" = some (some (.builtin "getset_descriptor.__get__"))) &&
  (decide (takesIn K (.builtin "object.__class__") = some true) && decide (mroIn K C (.type "object") = some true)))))
theorem kitx_of {K : Frag} {C x : Addr} {ox : Obj} {od : Option Obj} (q : kitxB K C = true) : KitX K (.ref x) (.ref C) (fun h => InstAt h x ox C od) := by
  obtain ⟨q1, h⟩ := Bool.and_eq_true_iff.mp q
  obtain ⟨q2, h⟩ := Bool.and_eq_true_iff.mp h
  obtain ⟨q3, h⟩ := Bool.and_eq_true_iff.mp h
  obtain ⟨q4, h⟩ := Bool.and_eq_true_iff.mp h
  obtain ⟨q5, q6⟩ := Bool.and_eq_true_iff.mp h
  have T := xfB_ok q2
  exact kitx_exc q1 T.ga T.gg T.exC (of_decide_eq_true q3) (of_decide_eq_true q4) (of_decide_eq_true q5) (of_decide_eq_true q6)
/-- isinstance(x, pn) of an instance of the class cn is b -/
def isB (K : Frag) (cn pn : Str) (b : Bool) : Bool := kitxB K (He.ga K cn) && decide (kitOne K (.ref (He.ga K cn)) (.ref (He.ga K pn)) = some b)
def isTB (K : Frag) (cn : Str) (T : String) (b : Bool) : Bool := kitxB K (He.ga K cn) && decide (kitOne K (.ref (He.ga K cn)) (.type T) = some b)
end DX
namespace DD
open PySem PySem.Spec PyProof.Rows L2
open Classical

/-! ### isinstance of the caught error -/
def rIsX (K : PySem.W.Frag) (C a : Addr) (d : Option Addr) : List V → Hp → VK → Prop := fun xs H Q => ∃ (c : V) (cv : Value) (b : Bool) (dd : Addr) (gs : List (Str × V)), xs = [.ref a, c] ∧ (∀ u, RelV c u → u = cv) ∧ PySem.W.kitOne K (.ref C) cv = some b ∧ d = some dd ∧ H dd = some (.xd gs) ∧ Q (.bl b) H
theorem call_isX {X : Cx} {a C : Addr} {oe : Obj} {d : Option Addr} {pn : List (Addr × Obj)} (kx : DX.kitxB X.K C = true) (hz : Zc (.ref C) d oe) (hf : ∃ vs, oe.data = .fields vs) : CallR (X.suite a ((a, oe) :: pn)) (.builtin "isinstance") (rIsX X.K C a d) := by
  intro pins s σ H xs us Q I r h
  obtain ⟨c, cv, b, dd, gs, rfl, hcv, e, rfl, hd, q⟩ := h
  cases r with
  | cons rx rr => cases rr with
    | cons rt rr =>
      cases rr
      cases rx
      have ec := hcv _ rt
      subst ec
      obtain ⟨hget, _⟩ := I.pin (a, oe) (List.mem_append_left _ List.mem_cons_self)
      obtain ⟨vs, hv⟩ := hf
      have hx : ObjOk X.prog X.w H s.heap dd (.xd gs) := I.hok dd _ hd
      obtain ⟨mA, hns, hr⟩ := hx
      obtain ⟨od, ho, hl⟩ := lookIn_ns hns
      have J : PySem.W.InstAt s.heap a oe C (some od) := ⟨hget, hz.1, by unfold PySem.W.notCls; rw [hv] <;> rfl, by rw [hz.2]; exact ho⟩
      exact PySem.W.kia_one (DX.kitx_of kx) I.kIn J e (fun z => nomatch z) fun tk => ⟨.bl b, H, I.kept (t' := tk) fun _ _ z => z, rfl, q⟩
def tHt (K : PySem.W.Frag) (i : Option Nat) (a : Addr) (dx : Option Addr) (b : Bool) : TT := fun σ H Q => ∃ fs, HSt K i a dx fs σ H ∧ Q b H
section
variable {X : Cx} {j : Nat} {i : Option Nat} {C P a : Addr} {oe : Obj} {d : Option Addr} {pn : List (Addr × Obj)} {x y : Str} {p p1 p2 pos : Pos} {b : Bool} {e1 e2 c : Expr} {g1 g2 : List (Str × D) → Option D}
theorem he_is (kx : DX.kitxB X.K C = true) (hk : PySem.W.kitOne X.K (.ref C) (.ref P) = some b) (hg : Gl X "isinstance") (hm : X.mg "isinstance" = none) (hgy : Gl X y) (hmy : X.mg y = some (.ref P)) (hz : Zc (.ref C) d oe) (hf : ∃ vs, oe.data = .fields vs)
    (hN : X.N[j]? = some x) (hv : Vis X.env.scope x) (hd : (x == ("__debug__" : Str)) = false := by decide) (hcd : (x == ("__classdict__" : Str)) = false := by decide) (hdb : (y == ("__debug__" : Str)) = false := by decide)
    (hs : starEach [(.Name x p1 : Expr), .Name y p2] X.env = (false, eval (.Name x p1) X.env) :: starEach [.Name y p2] X.env := by rfl) (hs2 : starEach [(.Name y p2 : Expr)] X.env = (false, eval (.Name y p2) X.env) :: starEach [] X.env := by rfl) :
    PT (X.suite a ((a, oe) :: pn)) (.Call (.Name "isinstance" p) [.Name x p1, .Name y p2] [] pos) (tHt X.K (some j) a d b) := by
  have ha := pa_cons (pe_var (X := X.suite a ((a, oe) :: pn)) (i := j) (pos := p1) hN hv hd hcd) (pa_cons (pe_glob (X := X.suite a ((a, oe) :: pn)) (v := .ref P) (pos := p2) hgy hmy rfl hdb) pa_nil hs2) hs
  refine pt_mono (pt_val (pe_callB (call_isX kx hz hf) hg hm (by decide +kernel) ha (by decide) (by decide) hs)) fun σ H Q ⟨fs, h, q⟩ => ?_
  obtain ⟨dd, gs, e1, h1, h2, h3⟩ := h.cl
  exact ⟨.ref a, h.sl _ rfl, .ref P, _, b, dd, gs, rfl, fun u r => r, hk, e1, h1, b, rfl, q⟩
theorem he_isT {T : String} (kx : DX.kitxB X.K C = true) (hk : PySem.W.kitOne X.K (.ref C) (.type T) = some b) (hg : Gl X "isinstance") (hm : X.mg "isinstance" = none) (hgy : Gl X y) (hmy : X.mg y = none) (hvy : bootBuiltins y = some (.type T)) (hz : Zc (.ref C) d oe) (hf : ∃ vs, oe.data = .fields vs)
    (hN : X.N[j]? = some x) (hv : Vis X.env.scope x) (hd : (x == ("__debug__" : Str)) = false := by decide) (hcd : (x == ("__classdict__" : Str)) = false := by decide) (hn : y ≠ "__name__" := by decide) (hdb : (y == ("__debug__" : Str)) = false := by decide)
    (hs : starEach [(.Name x p1 : Expr), .Name y p2] X.env = (false, eval (.Name x p1) X.env) :: starEach [.Name y p2] X.env := by rfl) (hs2 : starEach [(.Name y p2 : Expr)] X.env = (false, eval (.Name y p2) X.env) :: starEach [] X.env := by rfl) :
    PT (X.suite a ((a, oe) :: pn)) (.Call (.Name "isinstance" p) [.Name x p1, .Name y p2] [] pos) (tHt X.K (some j) a d b) := by
  have ha := pa_cons (pe_var (X := X.suite a ((a, oe) :: pn)) (i := j) (pos := p1) hN hv hd hcd) (pa_cons (pe_bltn (X := X.suite a ((a, oe) :: pn)) (v := .ty T) (pos := p2) hgy hmy hvy rfl hn hdb) pa_nil hs2) hs
  refine pt_mono (pt_val (pe_callB (call_isX kx hz hf) hg hm (by decide +kernel) ha (by decide) (by decide) hs)) fun σ H Q ⟨fs, h, q⟩ => ?_
  obtain ⟨dd, gs, e1, h1, h2, h3⟩ := h.cl
  exact ⟨.ref a, h.sl _ rfl, .ty T, _, b, dd, gs, rfl, fun u r => r, hk, e1, h1, b, rfl, q⟩
/-- the test's answer is known -/
theorem he_if {X : Cx} {K : PySem.W.Frag} (hc : PT X c (tHt K i a d b)) (h1 : PE X e1 (tHx K i a d g1)) (h2 : PE X e2 (tHx K i a d g2)) : PE X (.IfExp c e1 e2 pos) (tHx K i a d fun fs => bif b then g1 fs else g2 fs) :=
  pe_mono (pe_ifExp hc h1 h2) fun σ H Q ⟨fs, y, h, ee, q⟩ => by
    refine ⟨fs, h, ?_⟩
    cases b with
    | true => rw [if_pos rfl]; exact ⟨fs, y, h, ee, q⟩
    | false => rw [if_neg Bool.false_ne_true]; exact ⟨fs, y, h, ee, q⟩
end

/-! ### the clauses -/
structure ClD where
  slot : Option Nat
  acts : List (Str × Option (List (Str × D) → Option D))
def slotOk (η : Env) : Option Nat → Bool
  | none => true
  | some i => decide (i < η.length)
def trCl (x : Exn) (η : Env) : List ClD → SOut
  | [] => .err x η
  | q :: r => match q.acts.lookup x.cls with
    | none => .stuck
    | some none => trCl x η r
    | some (some g) => (match slotOk η q.slot, g x.fs with
      | true, some d => .rt (.vl (.d d)) η
      | _, _ => .stuck)
def sTryN (m : MS) (l : List ClD) : MS := fun η => match m η with
  | .err x η' => trCl x η' l
  | o => o
def tsOf (K : PySem.W.Frag) (mg : Str → Option Value) (q : ClD) : SuiteT := fun a cls d E σ H => ∃ nm g C, q.acts.lookup nm = some (some g) ∧ mg nm = some (.ref C) ∧ cls = .ref C ∧ tHx K q.slot a d g σ H fun v H' => E.rt v H'
/-- what the raised classes do at a clause that names the class c and returns e -/
def ActsOk (X : Cx) (c : Value) (q : ClD) (e : Expr) : Prop := ∀ nm o, (nm, o) ∈ q.acts → ∃ C, X.mg nm = some (.ref C) ∧ PySem.W.exmOne X.K (.ref C) c = some o.isSome ∧
  ∀ g, o = some g → ∀ (a : Addr) (oe : Obj) (d : Option Addr) (pn : List (Addr × Obj)), Zc (.ref C) d oe → (∃ vs, oe.data = .fields vs) → PE (X.suite a ((a, oe) :: pn)) e (tHx X.K q.slot a d g)
inductive ClsD (X : Cx) : List ExceptHandler → List Clause → List ClD → Prop
  | nil : ClsD X [] [] []
  | bare {x : Str} {c : Value} {e : Expr} {q : ClD} {p1 p2 rp : Pos} {hs : List ExceptHandler} {cs : List Clause} {l : List ClD} (names : Names X x c) (hq : q.slot = none) (acts : ActsOk X c q e) (more : ClsD X hs cs l) :
      ClsD X (.ExceptHandler (some (.Name x p1)) none [.Return (some e) rp] p2 :: hs) (⟨c, none, tsOf X.K X.mg q⟩ :: cs) (q :: l)
  | asN {x n : Str} {c : Value} {i : Nat} {e : Expr} {q : ClD} {p1 p2 rp : Pos} {hs : List ExceptHandler} {cs : List Clause} {l : List ClD} (names : Names X x c) (hq : q.slot = some i) (hi : X.N[i]? = some n) (hloc : X.env.kindOf n = some .local) (acts : ActsOk X c q e) (more : ClsD X hs cs l) :
      ClsD X (.ExceptHandler (some (.Name x p1)) (some n) [.Return (some e) rp] p2 :: hs) (⟨c, some i, tsOf X.K X.mg q⟩ :: cs) (q :: l)
section
variable {X : Cx} {W : WX} {k : Nat} {e : Expr} {body : List Stmt} {m : MS} {pos : Pos} {c : Value} {q : ClD} {hd0 : ExceptHandler} {hds : List ExceptHandler} {cs : List Clause} {l : List ClD}
theorem lookup_mem {α β : Type} [BEq α] [LawfulBEq α] {a : α} {b : β} : ∀ {l : List (α × β)}, l.lookup a = some b → (a, b) ∈ l
  | [], h => by cases h
  | (a', b') :: l, h => by
    rw [List.lookup_cons] at h
    cases q : a == a' with
    | true =>
      rw [q] at h
      have e1 := eq_of_beq q
      cases h
      subst e1
      exact List.mem_cons_self
    | false => rw [q] at h; exact List.mem_cons_of_mem _ (lookup_mem h)
theorem acts_run (h : ActsOk X c q e) (a : Addr) (oe : Obj) (cls : Value) (d : Option Addr) (pn : List (Addr × Obj)) (hz : Zc cls d oe) (hf : ∃ vs, oe.data = .fields vs) {rp : Pos} : PSs (X.suite a ((a, oe) :: pn)) [.Return (some e) rp] (tsOf X.K X.mg q a cls d) := by
  refine ⟨fun pins s σ H E I t => ?_⟩
  obtain ⟨nm, g, C, hl, hm, rfl, t⟩ := t
  obtain ⟨C', hm', _, hr⟩ := h nm (some g) (lookup_mem hl)
  rw [hm] at hm'
  cases hm'
  exact (pss_one (ps_ret (hr g rfl a oe d pn hz hf))).run pins s σ H E I t
theorem ClsD.ok (h : ClsD X hds cs l) : ClOk X hds cs := by
  induction h with
  | nil => exact .nil
  | bare names hq acts more ih => exact .bare names (fun a oe cls d pn hz hf => acts_run acts a oe cls d pn hz hf) ih
  | asN names hq hi hloc acts more ih => exact .asN names hi hloc (fun a oe cls d pn hz hf => acts_run acts a oe cls d pn hz hf) ih
theorem ClsD.wish {ρ : Nat → Addr} {A : AS} {H H1 : Hp} {σ1 : L2.St} {η1 : Env} {φ1 : FS} {E : Ends} {x : Exn} {cls : Value} {dx : Option Addr} (h : ClsD X hds cs l) (rep : RepE X.K ρ H1 σ1 η1 φ1) (ex : Ext A H H1) (nw : New A H (foot φ1)) (ok : ExnOk X.K X.mg H1 x cls dx)
    (p : PostS X.K ρ X.mg W A H E (trCl x η1 l)) : wCl X.K W E cs cls dx σ1 H1 := by
  have key : ∀ {q : ClD} {c : Value} {e : Expr} {l : List ClD} {cs : List Clause}, ActsOk X c q e → (PostS X.K ρ X.mg W A H E (trCl x η1 l) → wCl X.K W E cs cls dx σ1 H1) → PostS X.K ρ X.mg W A H E (trCl x η1 (q :: l)) →
      ∃ b, PySem.W.exmOne X.K cls c = some b ∧ (b = true → ∀ a, H1 a = none → tsOf X.K X.mg q a cls dx (endsBut E q.slot) (stWith σ1 a q.slot) H1) ∧ (b = false → wCl X.K W E cs cls dx σ1 H1) := by
    intro q c e l cs ha ih p
    unfold trCl at p
    split at p
    · exact p.elim
    · rename_i hl
      obtain ⟨C, hm, hx, _⟩ := ha _ _ (lookup_mem hl)
      obtain ⟨hm2, _⟩ := id ok
      rw [hm] at hm2
      cases hm2
      exact ⟨false, hx, fun z => absurd z Bool.false_ne_true, fun _ => ih p⟩
    · rename_i g hl
      obtain ⟨C, hm, hx, hr⟩ := ha _ _ (lookup_mem hl)
      obtain ⟨hm2, ⟨C', rfl⟩, dd, gs, rfl, hd, hn, hrr⟩ := id ok
      rw [hm] at hm2
      cases hm2
      refine ⟨true, hx, fun _ a ha => ?_, fun z => nomatch z⟩
      split at p
      · rename_i d hs hg
        refine ⟨x.cls, g, C, hl, hm, rfl, x.fs, d, ⟨fun j hj => ?_, dd, gs, rfl, hd, hn, hrr⟩, hg, fun v H' ex' rp => ?_⟩
        · rw [hj] at hs ⊢
          exact List.getElem?_set_self (by rw [rep.len]; exact of_decide_eq_true hs)
        · have r := p v σ1 H' φ1 none_ (rep.ext ex' fun _ _ z => z) ⟨rp, fun _ => id⟩ (fun _ z => z.elim) (ex.trans nw (ex'.weak fun _ z => z.elim)) (New.none.uni nw)
          cases hq : q.slot with
          | none => exact r
          | some i => exact r
      · exact p.elim
  induction h with
  | nil => exact p cls dx σ1 H1 φ1 rep ex nw ok
  | bare names hq acts more ih =>
    obtain ⟨b, h1, h2, h3⟩ := key acts ih p
    rw [hq] at h2
    exact ⟨b, h1, h2, h3⟩
  | asN names hq hi hloc acts more ih =>
    obtain ⟨b, h1, h2, h3⟩ := key acts ih p
    rw [hq] at h2
    exact ⟨b, h1, h2, h3⟩
theorem ds_tryN (cc : Cc X W k) (hs : X.stack = X.env :: X.outer) (hf : X.env.frame = some X.env.locals)
    (hb : ∀ (W : WX) (pn : List (Addr × Obj)) (xe : Value → Shared → Prop), Cc (X.tr pn xe) W k → PassesOwn (model X.prog X.w) X.A X.env xe → DSs (X.tr pn xe) W body m)
    (hk : ClsD X (hd0 :: hds) cs l) : DS X W (.Try body (hd0 :: hds) [] [] pos) (sTryN m l) := by
  refine ps_mono (ps_try_cls (tb := fun W => tS X.K X.mg W m) hs hf cc.nd cc.tk (fun W pn xe tk po => hb W pn xe ⟨cc.calm, cc.room, cc.grd, cc.nd, tk⟩ po) hk.ok) fun E σ H t => ?_
  obtain ⟨ρ, η, φ, r, p⟩ := t
  refine ⟨ρ, η, φ, r, ?_⟩
  unfold sTryN at p
  cases q : m η with
  | err x η1 =>
    rw [q] at p
    intro cls dx σ1 H1 φ1 rep ex nw ok
    exact hk.wish rep ex nw ok p
  | nx η1 => rw [q] at p; exact p
  | rt r1 η1 => rw [q] at p; exact p
  | bk η1 => rw [q] at p; exact p
  | ct η1 => rw [q] at p; exact p
  | stuck => rw [q] at p; exact p
end
end DD


/-! x in y; a module's plain data; the facts of the clauses; dict comprehensions. -/
namespace DD
open PySem PySem.Spec PyProof.Rows L2
open Classical

/-! ### x in y, y a list or a tuple -/
def inV (x y : Val) : Option Bool := match x.py?, y.py? with
  | some d, some (.list ds) => if SeqAt.shaped d = true ∧ SeqAt.shaped (.list ds) = true then some (ds.any fun z => PyData.eqv z d) else none
  | some d, some (.tuple ds) => if SeqAt.shaped d = true ∧ SeqAt.shaped (.tuple ds) = true then some (ds.any fun z => PyData.eqv z d) else none
  | _, _ => none
def notInV (x y : Val) : Option Bool := (inV x y).map (!·)
section
variable {X : Cx} {W : WX} {k : Nat}
def rInT (K : PySem.W.Frag) (g : Bool → Bool) : R2 := fun x y H Q => ∃ d ds, Dp K H x d ∧ Dp K H y (.tuple ds) ∧ SeqAt.shaped d = true ∧ SeqAt.shaped (.tuple ds) = true ∧ Q (.bl (g (ds.any fun z => PyData.eqv z d))) H
theorem op_inT (hu : X.A.units + 65 < cLine) : OpR X (compareOp .In) (rInT X.K id) := by
  intro pins s σ H x y v u Q I rx ry ⟨d, ds, h1, h2, s1, s2, q⟩
  obtain ⟨_, r1⟩ := Dp.reads I d x v h1 rx
  obtain ⟨_, r2⟩ := Dp.reads I (.tuple ds) y u h2 ry
  exact SeqAt.in_tuple_reads r2 r1 (SeqAt.canLay_of_shaped s2) (SeqAt.canLay_of_shaped s1) (room_in_shaped s1 hu) ⟨.bl _, H, I, rfl, q⟩
theorem op_notInT (hu : X.A.units + 65 < cLine) : OpR X (compareOp .NotIn) (rInT X.K (!·)) := by
  intro pins s σ H x y v u Q I rx ry ⟨d, ds, h1, h2, s1, s2, q⟩
  obtain ⟨_, r1⟩ := Dp.reads I d x v h1 rx
  obtain ⟨_, r2⟩ := Dp.reads I (.tuple ds) y u h2 ry
  exact SeqAt.notIn_tuple_reads r2 r1 (SeqAt.canLay_of_shaped s2) (SeqAt.canLay_of_shaped s1) (room_in_shaped s1 hu) ⟨.bl _, H, I, rfl, q⟩
theorem inV_some {x y : Val} {b : Bool} (h : inV x y = some b) : ∃ d ds, x.py? = some d ∧ SeqAt.shaped d = true ∧ b = (ds.any fun z => PyData.eqv z d) ∧
    ((y.py? = some (.list ds) ∧ SeqAt.shaped (.list ds) = true) ∨ (y.py? = some (.tuple ds) ∧ SeqAt.shaped (.tuple ds) = true)) := by
  unfold inV at h
  split at h
  · rename_i d ds e1 e2
    split at h
    · rename_i hs; cases h; exact ⟨d, ds, e1, hs.1, rfl, .inl ⟨e2, hs.2⟩⟩
    · cases h
  · rename_i d ds e1 e2
    split at h
    · rename_i hs; cases h; exact ⟨d, ds, e1, hs.1, rfl, .inr ⟨e2, hs.2⟩⟩
    · cases h
  · cases h
theorem cmp_in (c : Cc X W k) : CmpOk X .In inV := ⟨_, (op_inD (by have := c.hu; omega)).or (op_inT (by have := c.hu; omega)), fun H v w g h x y b Q h1 h2 e q => by
  obtain ⟨d, ds, e1, s1, rfl, ⟨e2, s2⟩ | ⟨e2, s2⟩⟩ := inV_some e
  · exact .inl ⟨d, ds, repV_py h1 e1, repV_py h2 e2, s1, s2, q⟩
  · exact .inr ⟨d, ds, repV_py h1 e1, repV_py h2 e2, s1, s2, q⟩⟩
theorem cmp_notin (c : Cc X W k) : CmpOk X .NotIn notInV := ⟨_, (op_notInD (by have := c.hu; omega)).or (op_notInT (by have := c.hu; omega)), fun H v w g h x y b Q h1 h2 e q => by
  unfold notInV at e
  obtain ⟨b', e0, rfl⟩ := Option.map_eq_some_iff.mp e
  obtain ⟨d, ds, e1, s1, rfl, ⟨e2, s2⟩ | ⟨e2, s2⟩⟩ := inV_some e0
  · exact .inl ⟨d, ds, repV_py h1 e1, repV_py h2 e2, s1, s2, q⟩
  · exact .inr ⟨d, ds, repV_py h1 e1, repV_py h2 e2, s1, s2, q⟩⟩
end

/-! ### a module's plain data -/
mutual
/-- the value u of the written part is the data x -/
def gvB (K : PySem.W.Frag) : D → Value → Bool
  | .non, u => match u with
    | .none => true
    | _ => false
  | .bl b, u => match u with
    | .bool c => b == c
    | _ => false
  | .int i, u => match u with
    | .int j _ => decide (i = j)
    | _ => false
  | .str x, u => match u with
    | .str y _ => decide (x = y)
    | _ => false
  | .tup xs, u => match u with
    | .ref a => (match K.lookup a with
      | some ⟨.type "tuple", none, .seq its _, _⟩ => decide (its.size ≤ 1000) && gvsB K xs its.toList
      | _ => false)
    | _ => false
  | .pt _, _ => false
def gvsB (K : PySem.W.Frag) : List D → List Value → Bool
  | [], us => us.isEmpty
  | x :: xs, us => match us with
    | [] => false
    | u :: ur => gvB K x u && gvsB K xs ur
end
mutual
theorem gvB_ok {K : PySem.W.Frag} : ∀ (x : D) (u : Value), gvB K x u = true → ∃ v, RelV v u ∧ ∀ H, Rp K H v x
  | .non, u, h => by
    unfold gvB at h
    split at h
    · exact ⟨.non, rfl, fun _ => .non⟩
    · cases h
  | .bl b, u, h => by
    unfold gvB at h
    split at h
    · exact ⟨.bl b, by rw [eq_of_beq h]; rfl, fun _ => .bl b⟩
    · cases h
  | .int i, u, h => by
    unfold gvB at h
    split at h
    · exact ⟨.int i, ⟨_, by rw [of_decide_eq_true h]⟩, fun _ => .int i⟩
    · cases h
  | .str x, u, h => by
    unfold gvB at h
    split at h
    · exact ⟨.str x, ⟨_, by rw [of_decide_eq_true h]⟩, fun _ => .str x⟩
    · cases h
  | .tup xs, u, h => by
    unfold gvB at h
    split at h
    · rename_i a
      split at h
      · rename_i its n sl ho
        obtain ⟨h1, h2⟩ := Bool.and_eq_true_iff.mp h
        obtain ⟨vs, r, rp⟩ := gvsB_ok xs its.toList h2
        exact ⟨.ref a, rfl, fun H => .tup (.inr ⟨_, its, n, ho, rfl, rfl, rfl, by have := of_decide_eq_true h1; have := sizeLine_eq; omega, r⟩) (rp H)⟩
      · cases h
    · cases h
  | .pt _, _, h => by
    unfold gvB at h
    cases h
theorem gvsB_ok {K : PySem.W.Frag} : ∀ (xs : List D) (us : List Value), gvsB K xs us = true → ∃ vs, Vals vs us ∧ ∀ H, Rps K H vs xs
  | [], us, h => by
    unfold gvsB at h
    cases us with
    | nil => exact ⟨[], .nil, fun _ => .nil⟩
    | cons _ _ => cases h
  | x :: xs, us, h => by
    unfold gvsB at h
    cases us with
    | nil => cases h
    | cons u ur =>
      obtain ⟨h1, h2⟩ := Bool.and_eq_true_iff.mp h
      obtain ⟨v, r1, p1⟩ := gvB_ok x u h1
      obtain ⟨vs, r2, p2⟩ := gvsB_ok xs ur h2
      exact ⟨v :: vs, .cons r1 r2, fun H => .cons (p1 H) (p2 H)⟩
end
/-- the module's name x is the data d -/
def gdB (K : PySem.W.Frag) (x : Str) (d : D) : Bool := match PySem.W.nsIn K mainGlobals x with
  | some (some u) => gvB K d u
  | _ => false
def GD (K : PySem.W.Frag) (mg : Str → Option Value) (x : Str) (d : D) : Prop := ∃ u v, mg x = some u ∧ RelV v u ∧ ∀ H, Rp K H v d
theorem gdB_ok {K : PySem.W.Frag} {h : Heap} {mg : Str → Option Value} (X : K.In h) (G : h.Ns mainGlobals mg) {x : Str} {d : D} (q : gdB K x d = true) : GD K mg x d := by
  unfold gdB at q
  split at q
  · rename_i u e
    obtain ⟨v, r, p⟩ := gvB_ok d u q
    exact ⟨u, v, PySem.W.mg_of X G e, r, p⟩
  · cases q
section
variable {X : Cx} {W : WX} {k : Nat} {pos : Pos}
theorem de_gd {x : Str} {d : D} (hg : Gl X x) (h : GD X.K X.mg x d) (hd : (x == ("__debug__" : Str)) = false := by decide) : DE X W (.Name x pos) (mC d) := by
  obtain ⟨u, v, hm, r, p⟩ := h
  exact pe_mono (pe_glob hg hm r hd) fun σ H Q ⟨ρ, η, φ, rep, q⟩ => (At.start rep).data q (p _)
end

/-! ### the facts of the clauses -/
section
variable {X : Cx} {c : Value} {C : Addr} {e : Expr} {sl : Option Nat} {l : List (Str × Option (List (Str × D) → Option D))} {nm : Str} {g : List (Str × D) → Option D}
theorem acts_nil : ActsOk X c ⟨sl, []⟩ e := fun _ _ h => nomatch h
theorem acts_no (hm : X.mg nm = some (.ref C)) (hx : PySem.W.exmOne X.K (.ref C) c = some false) (more : ActsOk X c ⟨sl, l⟩ e) : ActsOk X c ⟨sl, (nm, none) :: l⟩ e := fun n o h => by
  rcases List.mem_cons.mp h with h | h
  · cases h; exact ⟨C, hm, hx, fun g z => nomatch z⟩
  · exact more n o h
theorem acts_yes (hm : X.mg nm = some (.ref C)) (hx : PySem.W.exmOne X.K (.ref C) c = some true)
    (hg : ∀ (a : Addr) (oe : Obj) (d : Option Addr) (pn : List (Addr × Obj)), Zc (.ref C) d oe → (∃ vs, oe.data = .fields vs) → PE (X.suite a ((a, oe) :: pn)) e (tHx X.K sl a d g)) (more : ActsOk X c ⟨sl, l⟩ e) :
    ActsOk X c ⟨sl, (nm, some g) :: l⟩ e := fun n o h => by
  rcases List.mem_cons.mp h with h | h
  · cases h; exact ⟨C, hm, hx, fun g z => by cases z; exact hg⟩
  · exact more n o h
end
theorem isB_ok {K : PySem.W.Frag} {cn pn : Str} {b : Bool} (h : DX.isB K cn pn b = true) : DX.kitxB K (He.ga K cn) = true ∧ PySem.W.kitOne K (.ref (He.ga K cn)) (.ref (He.ga K pn)) = some b := by
  obtain ⟨h1, h2⟩ := Bool.and_eq_true_iff.mp h
  exact ⟨h1, of_decide_eq_true h2⟩
theorem isTB_ok {K : PySem.W.Frag} {cn : Str} {T : String} {b : Bool} (h : DX.isTB K cn T b = true) : DX.kitxB K (He.ga K cn) = true ∧ PySem.W.kitOne K (.ref (He.ga K cn)) (.type T) = some b := by
  obtain ⟨h1, h2⟩ := Bool.and_eq_true_iff.mp h
  exact ⟨h1, of_decide_eq_true h2⟩

/-! ### dict comprehensions -/
def keyD : D → Option Key
  | .int i => some (.inl i)
  | .str x => some (.inr x)
  | _ => none
theorem keyD_ok {K : PySem.W.Frag} {H : Hp} {v : V} {x : D} {k : Key} (h : Rp K H v x) (e : keyD x = some k) : v = kV k := by
  cases x with
  | int i => cases e; exact dp_int h
  | str s => cases e; exact dp_str h
  | _ => cases e
def putD (kvs : List (Key × D)) (k : Key) (y : D) : List (Key × D) := if (kvs.any fun kv => decide (kv.1 = k)) = true then kvs.map (fun kv => if kv.1 = k then (kv.1, y) else kv) else kvs ++ [(k, y)]
section
variable {K : PySem.W.Frag} {H : Hp}
theorem kvs_lenD : ∀ {as : List (Key × V)} {acc : List (Key × D)}, KVs K H as acc → as.length = acc.length
  | _, _, .nil => rfl
  | _, _, .cons _ r => by rw [List.length_cons, List.length_cons, kvs_lenD r]
theorem kvs_any {k : Key} : ∀ {as : List (Key × V)} {acc : List (Key × D)}, KVs K H as acc → (as.any fun kv => decide (kv.1 = k)) = (acc.any fun kv => decide (kv.1 = k))
  | _, _, .nil => rfl
  | _, _, .cons h r => by rw [List.any_cons, List.any_cons, kvs_any r, h.1]
theorem kvs_map {k : Key} {v : V} {y : D} (hv : Rp K H v y) : ∀ {as : List (Key × V)} {acc : List (Key × D)}, KVs K H as acc → KVs K H (as.map fun kv => if kv.1 = k then (kv.1, v) else kv) (acc.map fun kv => if kv.1 = k then (kv.1, y) else kv)
  | _, _, .nil => .nil
  | (a :: as), (b :: acc), .cons h r => by
    rw [List.map_cons, List.map_cons]
    refine .cons ?_ (kvs_map hv r)
    by_cases e : a.1 = k
    · have e2 : b.1 = k := h.1 ▸ e
      rw [if_pos e, if_pos e2]
      exact ⟨h.1, hv⟩
    · have e2 : ¬ b.1 = k := h.1 ▸ e
      rw [if_neg e, if_neg e2]
      exact h
theorem kvs_snoc {k : Key} {v : V} {y : D} (hv : Rp K H v y) : ∀ {as : List (Key × V)} {acc : List (Key × D)}, KVs K H as acc → KVs K H (as ++ [(k, v)]) (acc ++ [(k, y)])
  | _, _, .nil => .cons ⟨rfl, hv⟩ .nil
  | _, _, .cons h r => .cons h (kvs_snoc hv r)
theorem kvs_put {k : Key} {v : V} {y : D} {as : List (Key × V)} {acc : List (Key × D)} (h : KVs K H as acc) (hv : Rp K H v y) : KVs K H (putK as k v) (putD acc k y) := by
  unfold putK putD
  rw [kvs_any h]
  by_cases e : (acc.any fun kv => decide (kv.1 = k)) = true
  · rw [if_pos e, if_pos e]; exact kvs_map hv h
  · rw [if_neg e, if_neg e]; exact kvs_snoc hv h
end
noncomputable def dcGo (it : ItD) (vs : List Nat) (t : Tg) (c : M Bool) (ek ev : M Ref) : List D → List (Key × D) → Env → Out (List (Key × D))
  | [], acc, η => if it.ok η then .ok acc η else .stuck
  | x :: xs, acc, η => if it.ok η then (match t (.d x) (wipeE η vs) with
      | .nx η1 => (match c η1 with
        | .ok true η2 => (match ek η2 with
          | .ok r η3 => (match (rdD η3 r).bind keyD with
            | some k => (match ev η3 with
              | .ok r2 η4 => (match rdD η4 r2 with
                | some y => if acc.length < sizeLine then dcGo it vs t c ek ev xs (putD acc k y) (wipeE η4 vs) else .stuck
                | none => .stuck)
              | _ => .stuck)
            | none => .stuck)
          | _ => .stuck)
        | .ok false η2 => dcGo it vs t c ek ev xs acc (wipeE η2 vs)
        | _ => .stuck)
      | _ => .stuck) else .stuck
def dcEnd (it : ItD) : Out (List (Key × D)) → Out Ref
  | .ok acc η2 => (match it.free η2 with
      | some η3 => .ok (.vl (.m acc)) η3
      | none => .stuck)
  | _ => .stuck
noncomputable def mDc (mi : M ItD) (vs : List Nat) (t : Tg) (c : M Bool) (ek ev : M Ref) : M Ref := fun η => match mi η with
  | .ok it η1 => dcEnd it (dcGo it vs t c ek ev it.items [] (wipeE η1 vs))
  | .err x η1 => .err x η1
  | .stuck => .stuck
section
variable {W : WX} {vs : List Nat}
theorem dc_data {K : PySem.W.Frag} {mg : Str → Option Value} {σ : L2.St} {H : Hp} {Q : VK} {mi : M ItD} {t : Tg} {mc : M Bool} {ek ev : M Ref} (h : tE K mg W (mDc mi vs t mc ek ev) σ H Q) : tDc (tI K mg W mi) (gC K vs t) (tT K mg WF mc) (tE K mg WF ek) (tE K mg WF ev) vs σ H Q := by
  obtain ⟨ρ, η, φ, r, p⟩ := h
  refine ⟨ρ, η, φ, r, ?_⟩
  unfold mDc at p
  cases q : mi η with
  | stuck => rw [q] at p; exact p.elim
  | err x η1 => rw [q] at p; exact p
  | ok it η1 =>
    rw [q] at p
    dsimp only at p
    intro J H1 ρ' φ1 inv rep1 ex1 n1 same hinv wk L hL
    obtain ⟨φw, repw, nw⟩ := rep1.wipe vs
    have exL : Ext (foot φ1) H1 (L2.upd H1 L (.dK [])) := Ext.new hL
    have nL : ¬ foot φ1 L := fun z => by
      obtain ⟨o, e, _⟩ := rep1.there z
      rw [hL] at e; cases e
    refine ⟨fun i mm H2 => mm = it.items.length - i ∧ i ≤ it.items.length ∧ ∃ η2 φ2 acc as, RepE K ρ' H2 (wipe σ vs) η2 φ2 ∧ Ext (foot φ1) H1 H2 ∧ New (foot φ1) H1 (foot φ2) ∧ ¬ foot φ2 L ∧ H2 L = some (.dK as) ∧ KVs K H2 as acc ∧
      Post K ρ mg W σ (foot φ) H Q (dcEnd it (dcGo it vs t mc ek ev (it.items.drop i) acc η2)), ⟨_, rfl, Nat.zero_le _, wipeE η1 vs, φw, [], [], repw.ext (A := none_) (Ext.new hL) (fun _ _ z => z), exL, (New.self (A := foot φ1)).sub nw, fun z => nL (nw _ z), upd_same, .nil, by rw [List.drop_zero]; exact p⟩, ?_⟩
    rintro i mm H2 ⟨rfl, hi, η2, φ2, acc, as, rep2, ex2, n2, nL2, hL2, hacc, p2⟩
    by_cases hlt : i < it.items.length
    · have hd : it.items.drop i = it.items[i] :: it.items.drop (i + 1) := List.drop_eq_getElem_cons hlt
      rw [hd] at p2
      unfold dcGo at p2
      by_cases ok : it.ok η2
      · rw [if_pos ok] at p2
        have hv := hinv H2 _ η2 φ2 rep2 ex2 ok
        refine .inr ⟨wk.go i H2 hv hlt, fun H3 => ∃ η3 φ3 acc as, RepE K ρ' H3 (wipe σ vs) η3 φ3 ∧ Ext (foot φ1) H1 H3 ∧ New (foot φ1) H1 (foot φ3) ∧ ¬ foot φ3 L ∧ H3 L = some (.dK as) ∧ KVs K H3 as acc ∧
          Post K ρ mg W σ (foot φ) H Q (dcEnd it (dcGo it vs t mc ek ev (it.items.drop (i + 1)) acc η3)), fun H3 z => ⟨it.items.length - (i + 1), by omega, rfl, hlt, z⟩, fun x H' y => ?_⟩
        obtain ⟨d, hd1, hd2, hd3⟩ := wk.yld i H2 x H' hv hlt y
        have hd4 : it.items[i] = d := by
          rw [List.getElem?_eq_getElem hlt] at hd1
          exact Option.some.inj hd1
        rw [hd4] at p2
        have repY : RepE K ρ' H' (wipe σ vs) η2 φ2 := rep2.ext hd3 fun _ _ z => z
        have exY : Ext (foot φ1) H1 H' := ex2.trans n2 (hd3.weak fun _ z => z.elim)
        have hLY : H' L = some (.dK as) := hd3 _ _ hL2 (.inl id)
        have haccY : KVs K H' as acc := kvs_ext hd3 hacc
        obtain ⟨φ3, rep3, n3⟩ := repY.wipe vs
        have ww : wipe (wipe σ vs) vs = wipe σ vs := wipe_wipe
        rw [ww] at rep3
        cases ht : t (.d d) (wipeE η2 vs) with
        | nx η3 =>
          rw [ht] at p2
          dsimp only at p2
          refine ⟨ρ', d, wipeE η2 vs, φ3, η3, rep3, hd2, ht, fun σ4 φ4 rep4 n4 w4 => ⟨by rw [w4, ww], ρ', η3, φ4, rep4, ?_⟩⟩
          have n14 : New (foot φ1) H1 (foot φ4) := n2.sub fun a ha => n3 a (n4 a ha)
          have nL4 : ¬ foot φ4 L := fun z => nL2 (n3 _ (n4 _ z))
          have fin : ∀ {H5 : Hp} {φ5 : FS} {η5 : Env}, RepE K ρ' H5 σ4 η5 φ5 → Ext (foot φ4) H' H5 → New (foot φ4) H' (foot φ5) → ∃ φ6, RepE K ρ' H5 (wipe σ vs) (wipeE η5 vs) φ6 ∧ Ext (foot φ1) H1 H5 ∧ New (foot φ1) H1 (foot φ6) ∧ ¬ foot φ6 L ∧ H5 L = some (.dK as) ∧ KVs K H5 as acc := fun {H5 φ5 η5} rep5 ex5 n5 => by
            obtain ⟨φ6, rep6, n6⟩ := rep5.wipe vs
            rw [w4, ww] at rep6
            refine ⟨φ6, rep6, exY.trans n14 ex5, (New.trans exY n14 n5).sub n6, fun z => ?_, ex5 _ _ hLY (.inl nL4), kvs_ext ex5 haccY⟩
            rcases n5 L (n6 L z) with z | z
            · exact nL4 z
            · rw [hLY] at z; cases z
          cases hc : mc η3 with
          | stuck => simp only [hc] at p2; exact p2.elim
          | err x5 η5 => simp only [hc] at p2; exact p2.elim
          | ok bb η5 =>
            cases bb with
            | false =>
              simp only [hc] at p2
              intro H5 φ5 rep5 ex5 n5
              obtain ⟨φ6, a1, a2, a3, a4, a5, a6⟩ := fin rep5 ex5 n5
              rw [if_neg Bool.false_ne_true]
              exact ⟨wipeE η5 vs, φ6, acc, as, a1, a2, a3, a4, a5, a6, p2⟩
            | true =>
              simp only [hc] at p2
              intro H5 φ5 rep5 ex5 n5
              rw [if_pos rfl]
              refine ⟨ρ', η5, φ5, rep5, ?_⟩
              cases he : ek η5 with
              | stuck => simp only [he] at p2; exact p2.elim
              | err x6 η6 => simp only [he] at p2; exact p2.elim
              | ok r6 η6 =>
                simp only [he] at p2
                cases hy : (rdD η6 r6).bind keyD with
                | none => simp only [hy] at p2; exact p2.elim
                | some k6 =>
                  simp only [hy] at p2
                  obtain ⟨x6, hx6, hk6⟩ := Option.bind_eq_some_iff.mp hy
                  intro v H7 φ7 f7 rep7 ok7 d7 ex7 n7
                  have hv7 : v = kV k6 := keyD_ok (rdD_rp rep7 ok7 hx6) hk6
                  have ex57 := ex5.trans n5 ex7
                  have n57 : New (foot φ4) H' (foot φ7) := (New.trans ex5 n5 n7).sub fun _ h => .inr h
                  refine ⟨ρ', η6, φ7, rep7, ?_⟩
                  cases he2 : ev η6 with
                  | stuck => simp only [he2] at p2; exact p2.elim
                  | err x8 η8 => simp only [he2] at p2; exact p2.elim
                  | ok r8 η8 =>
                    simp only [he2] at p2
                    cases hy8 : rdD η8 r8 with
                    | none => simp only [hy8] at p2; exact p2.elim
                    | some y8 =>
                      simp only [hy8] at p2
                      by_cases hz : acc.length < sizeLine
                      · rw [if_pos hz] at p2
                        intro v9 H9 φ9 f9 rep9 ok9 d9 ex9 n9
                        have ex59 := ex57.trans n57 ex9
                        have n59 : New (foot φ4) H' (foot φ9) := (New.trans ex57 n57 n9).sub fun _ h => .inr h
                        obtain ⟨φ8, a1, a2, a3, a4, a5, a6⟩ := fin rep9 ex59 n59
                        have hv9 : Rp K H9 v9 y8 := rdD_rp rep9 ok9 hy8
                        refine ⟨as, k6, hv7, a5, by rw [kvs_lenD a6]; exact hz, ?_⟩
                        have exA : Ext (fun a => a = L) H9 (L2.upd H9 L (.dK (putK as k6 v9))) := Ext.upd (.inl rfl) fun u hu => by rw [a5] at hu; cases hu; exact id
                        refine ⟨wipeE η8 vs, φ8, putD acc k6 y8, putK as k6 v9, a1.ext exA fun a ha hb => a4 (by rw [← hb]; exact ha), ?_, a3, a4, upd_same, ?_, p2⟩
                        · refine fun a o h k => ?_
                          by_cases hq : a = L
                          · subst hq
                            rw [hL] at h; cases h
                          · rw [upd_ne hq]
                            exact a2 a o h k
                        · exact kvs_ext exA (kvs_put a6 hv9)
                      · rw [if_neg hz] at p2; exact p2.elim
        | err _ _ => simp only [ht] at p2; exact p2.elim
        | rt _ _ => simp only [ht] at p2; exact p2.elim
        | bk _ => simp only [ht] at p2; exact p2.elim
        | ct _ => simp only [ht] at p2; exact p2.elim
        | stuck => simp only [ht] at p2; exact p2.elim
      · rw [if_neg ok] at p2; exact p2.elim
    · have hi : it.items.length ≤ i := by omega
      rw [List.drop_eq_nil_of_le hi] at p2
      unfold dcGo at p2
      by_cases ok : it.ok η2
      · rw [if_pos ok] at p2
        refine .inl ⟨wk.stop i H2 (hinv H2 _ η2 φ2 rep2 ex2 ok) hi, ?_⟩
        simp only [dcEnd] at p2
        cases hf : it.free η2 with
        | none => rw [hf] at p2; exact p2.elim
        | some η5 =>
          rw [hf] at p2
          have rep3 : RepE K ρ' H2 σ η2 φ2 := RepE.unwipe (σ2 := σ) rep2 rfl
          refine p2 (.ref L) H2 φ2 (fun a => a = L) (rep3.free same hf) ⟨L, as, rfl, hL2, hacc, fun _ => Iff.rfl⟩ (fun a ha hb => nL2 (by rw [← ha]; exact hb)) (ex1.trans n1 ex2) ?_
          refine fun a ha => ?_
          rcases ha with ha | ha
          · have ha : a = L := ha
            rw [ha]
            exact ex1.fresh hL
          · exact (New.trans ex1 n1 n2) a ha
      · rw [if_neg ok] at p2; exact p2.elim
variable {X : Cx} {k : Nat} {tg : Expr} {pos : Pos}
theorem de_dc {kx vx iter : Expr} {ifs : List Expr} {scope : Scope} {own : List (Str × Nat)} {mi : M ItD} {t : Tg} {mc : M Bool} {ek ev : M Ref} (cc : Cc X W k) (hi : DIt X W tg iter mi) (ok : blkC X.N X.env.scope scope own = true)
    (hg : ∀ (s : Shared) (H : Hp) (C : Addr) (cl : List (Str × Addr)) (fp : List Addr), TgC (X.blk s H scope (compEnvC scope cl C X.env) fp) (own.map (·.2)) tg t)
    (ht : ∀ (s : Shared) (H : Hp) (C : Addr) (cl : List (Str × Addr)) (fp : List Addr), Cc (X.blk s H scope (compEnvC scope cl C X.env) fp) WF k → PTs (X.blk s H scope (compEnvC scope cl C X.env) fp) ifs (tT X.K X.mg WF mc))
    (hk : ∀ (s : Shared) (H : Hp) (C : Addr) (cl : List (Str × Addr)) (fp : List Addr), Cc (X.blk s H scope (compEnvC scope cl C X.env) fp) WF k → DE (X.blk s H scope (compEnvC scope cl C X.env) fp) WF kx ek)
    (he : ∀ (s : Shared) (H : Hp) (C : Addr) (cl : List (Str × Addr)) (fp : List Addr), Cc (X.blk s H scope (compEnvC scope cl C X.env) fp) WF k → DE (X.blk s H scope (compEnvC scope cl C X.env) fp) WF vx ev)
    (hs : ∀ x, foldedSetIterable iter X.env x = pure x := by intro _; rfl) : DE X W (.DictComp kx vx [⟨tg, iter, ifs, 0⟩] scope pos) (mDc mi (own.map (·.2)) t mc ek ev) :=
  pe_mono (pe_dc cc.calm cc.nd hi (blkOk_by ok) hg (fun s H C cl fp => ht s H C cl fp (cc.blk s H scope cl C fp)) (fun s H C cl fp => hk s H C cl fp (cc.blk s H scope cl C fp)) (fun s H C cl fp => he s H C cl fp (cc.blk s H scope cl C fp)) hs) fun σ H Q h => dc_data h
end
end DD


/-! range(i, j, -1): walked, or made a tuple. -/
namespace DD
open PySem PySem.Spec PyProof.Rows L2
open Classical
def dwD (lo : Int) (n : Nat) : List D := (List.range n).map fun (i : Nat) => D.int (lo - i)
theorem dwD_get {lo : Int} {n i : Nat} (h : i < n) : (dwD lo n)[i]? = some (.int (lo - i)) := by
  unfold dwD; rw [List.getElem?_map, List.getElem?_range h]; rfl
theorem dwD_len {lo : Int} {n : Nat} : (dwD lo n).length = n := by unfold dwD; simp
theorem walks_dw {K : PySem.W.Frag} {lo : Int} {n : Nat} : Walks (Itc lo (-1) n) K (fun _ => True) (dwD lo n) where
  go := fun i H _ hl => by rw [dwD_len] at hl; exact hl
  stop := fun i H _ hl => by rw [dwD_len] at hl; exact hl
  yld := fun i H x H' _ hl y => by
    obtain ⟨rfl, rfl⟩ := y
    rw [dwD_len] at hl
    have e : lo + (i : Int) * -1 = lo - i := by omega
    exact ⟨_, dwD_get hl, by rw [e]; exact int_dp, Ext.refl _ _⟩
def dwC (i j c : Int) : Prop := c = -1 ∧ -(2 ^ 62) ≤ i ∧ i < 2 ^ 62 ∧ -(2 ^ 62) ≤ j ∧ j < 2 ^ 62
instance (i j c : Int) : Decidable (dwC i j c) := by unfold dwC; infer_instance
def rgIt3 (rs : List Ref) : M ItD := fun η => match rdDs η rs with
  | some [.int lo, .int hi, .int c] => if dwC lo hi c then .ok { items := dwD lo (lo - hi).toNat } η else .stuck
  | _ => .stuck
section
variable {X : Cx} {W : WX} {k : Nat} {a b c tg : Expr} {m1 m2 m3 : M Ref} {p p2 pos : Pos}
theorem dit_range3 (hg : Gl X "range") (hm : X.mg "range" = none) (ha : DE X W a m1) (hb : DE X W b m2) (hc : DE X W c m3) (hs : starEach [a, b, c] X.env = (false, eval a X.env) :: starEach [b, c] X.env := by rfl)
    (hs2 : starEach [b, c] X.env = (false, eval b X.env) :: starEach [c] X.env := by rfl) (hs3 : starEach [c] X.env = (false, eval c X.env) :: starEach [] X.env := by rfl) (hpl : (backTo pos (starEach [b, c] X.env)).any (·.1) = false := by rfl) :
    DIt X W tg (.Call (.Name "range" p) [a, b, c] [] pos) (mArgs [m1, m2, m3] >>= rgIt3) :=
  pi_mono (pi_range3 hg hm (da_cons ha (da_cons hb (da_cons hc da_nil hs3) hs2) hs) hs hpl) fun σ H R ⟨ρ, η, φ, r, p⟩ => tA_mono (fun vs H' ⟨η', φ', L, at_, eL, q⟩ => by
    unfold rgIt3 at q
    split at q
    · rename_i lo hi st hq
      split at q
      · rename_i hc
        obtain ⟨rfl, h1, h2, h3, h4⟩ := hc
        have h := at_.getDs (L := L) (fun _ h => h) hq
        rw [eL] at h
        cases h with
        | cons d1 t => cases t with
          | cons d2 t => cases t with
            | cons d3 t =>
              cases t
              cases dp_int d1
              cases dp_int d2
              cases dp_int d3
              exact ⟨lo, hi, -1, _, rfl, RgC.neg h1 h2 h3 h4, q _ H' ρ φ' (fun _ => True) at_.rep at_.ext (at_.new.sub fun _ h => .inr h) same_refl (fun _ _ _ _ _ _ _ => trivial) walks_dw⟩
      · exact q.elim
    · exact q.elim) (At.stepAI r p)
def dwV (a : Int) (n : Nat) : List V := (List.range n).map fun i => V.int (a - (i : Nat))
theorem vals_dw {a : Int} {n : Nat} {acc : Array Value} (h : ItemsOf (fun i v => ∃ t, v = .int (a + i * -1) t) acc n) : Vals (dwV a n) acc.toList := by
  have e : acc.toList.length = n := by rw [Array.length_toList]; exact h.1
  unfold dwV
  rw [← e]
  refine vals_of_get acc.toList _ fun j u hj => ?_
  obtain ⟨t, rfl⟩ := h.2 j u (by rw [← hj, Array.getElem?_toList])
  have e2 : a + (j : Int) * -1 = a - j := by omega
  exact ⟨t, by rw [e2]⟩
theorem dwV_rp {K : PySem.W.Frag} {H : Hp} {i : Int} {n : Nat} : Rps K H (dwV i n) (dwD i n) := by
  unfold dwV dwD
  generalize List.range n = l
  induction l with
  | nil => exact .nil
  | cons a l ih => exact .cons int_dp ih
/-- tuple(range(i, j, -1)) -/
def tTupDw (ta : TA) : TE := fun σ H Q => ta σ H fun vs H1 => ∃ i j : Int, vs = [.int i, .int j, .int (-1)] ∧ dwC i j (-1) ∧ (i - j).toNat ≤ 2 ^ 24 ∧ ∀ q o, H1 q = none → o.dict = none → Q (.ref q) (L2.upd H1 q (.frz o (.tup (dwV i (i - j).toNat))))
theorem pe_tupDw {ta : TA} (hc : X.calm = true) (hg : Gl X "tuple") (hm : X.mg "tuple" = none) (hg2 : Gl X "range") (hm2 : X.mg "range" = none) (ha : PA X [a, b, c] ta)
    (hs : starEach [a, b, c] X.env = (false, eval a X.env) :: starEach [b, c] X.env := by rfl) (hpl : (backTo p2 (starEach [b, c] X.env)).any (·.1) = false := by rfl)
    (na : starEach [(.Call (.Name "range" p) [a, b, c] [] p2 : Expr)] X.env = (false, eval (.Call (.Name "range" p) [a, b, c] [] p2) X.env) :: starEach [] X.env := by rfl) {pt : Pos} :
    PE X (.Call (.Name "tuple" pt) [.Call (.Name "range" p) [a, b, c] [] p2] [] pos) (tTupDw ta) := by
  refine ⟨fun pins s σ H Q I h => Call_ (ld_blt I hg hm boot_tuple (PyProof.Rows.callWith_type1 (args_cons ?_ na) na))⟩
  refine Call_ (ld_blt I hg2 hm2 boot_range (PyProof.Rows.callWith_type1 (thn (ha.run p2 pins s σ H _ I h) fun us s1 ⟨vs, H1, I1, r1, q1⟩ => ?_) hs hpl))
  obtain ⟨i, j, rfl, ⟨_, b1, b2, b3, b4⟩, b5, q⟩ := q1
  cases r1 with
  | cons r rr => cases rr with
    | cons r' rr => cases rr with
      | cons r'' rr =>
        cases rr
        obtain ⟨t, rfl⟩ := r
        obtain ⟨t', rfl⟩ := r'
        obtain ⟨t'', rfl⟩ := r''
        have C := RgC.neg b1 b2 b3 b4
        refine call_range_3 C.1 ?_ (.inl (PyProof.noPylong_small C.2.1))
        refine args_nil ?_
        have I2 : Inv X pins σ H1 { s1 with heap := s1.heap.push { cls := .type "range", data := .fields #[.int i t, .int j t', .int (-1) t''] } } := I1.kept (t' := s1.toks) fun b o e => Heap.get?_push_of_some _ e
        refine call_tuple_range (n := (i - j).toNat) (I2.ok.hd hc) (IsRange.new ..) C.2.2.1 C.2.2.2 b5 fun h1 tk acc hk hi => ?_
        have hz : (dwV i (i - j).toNat).length ≤ sizeLine := by unfold dwV; rw [List.length_map, List.length_range, sizeLine_eq]; omega
        have g := laidT (s := { s1 with heap := h1, toks := tk }) (I2.kept hk) (vals_dw hi) hz q
        rwa [show tobj acc.toList = ({ cls := .type "tuple", data := .seq acc } : Obj) by unfold tobj; rw [Array.toArray_toList]] at g
def tupDw (rs : List Ref) : M Ref := fun η => match rdDs η rs with
  | some [.int lo, .int hi, .int c] => if dwC lo hi c ∧ (lo - hi).toNat ≤ 2 ^ 24 then .ok (.vl (.d (.tup (dwD lo (lo - hi).toNat)))) η else .stuck
  | _ => .stuck
theorem de_tupDw (cc : Cc X W k) (hg : Gl X "tuple") (hm : X.mg "tuple" = none) (hg2 : Gl X "range") (hm2 : X.mg "range" = none) (ha : DE X W a m1) (hb : DE X W b m2) (hc : DE X W c m3) (hs : starEach [a, b, c] X.env = (false, eval a X.env) :: starEach [b, c] X.env := by rfl)
    (hs2 : starEach [b, c] X.env = (false, eval b X.env) :: starEach [c] X.env := by rfl) (hs3 : starEach [c] X.env = (false, eval c X.env) :: starEach [] X.env := by rfl) (hpl : (backTo p2 (starEach [b, c] X.env)).any (·.1) = false := by rfl)
    (na : starEach [(.Call (.Name "range" p) [a, b, c] [] p2 : Expr)] X.env = (false, eval (.Call (.Name "range" p) [a, b, c] [] p2) X.env) :: starEach [] X.env := by rfl) {pt : Pos} :
    DE X W (.Call (.Name "tuple" pt) [.Call (.Name "range" p) [a, b, c] [] p2] [] pos) (mArgs [m1, m2, m3] >>= tupDw) :=
  pe_mono (pe_tupDw cc.calm hg hm hg2 hm2 (da_cons ha (da_cons hb (da_cons hc da_nil hs3) hs2) hs) hs hpl na) fun σ H Q ⟨ρ, η, φ, r, p⟩ => tA_mono (fun vs H' ⟨η', φ', L, at_, eL, q⟩ => by
    unfold tupDw at q
    split at q
    · rename_i lo hi st hq
      split at q
      · rename_i hc
        obtain ⟨⟨rfl, h1⟩, h5⟩ := hc
        have h := at_.getDs (L := L) (fun _ h => h) hq
        rw [eL] at h
        cases h with
        | cons d1 t => cases t with
          | cons d2 t => cases t with
            | cons d3 t =>
              cases t
              cases dp_int d1
              cases dp_int d2
              cases dp_int d3
              exact ⟨lo, hi, rfl, ⟨rfl, h1⟩, h5, fun q2 o hq2 ho => at_.madeT q hq2 ho dwV_rp⟩
      · exact q.elim
    · exact q.elim) (At.stepA r p)
end
end DD


/-! enumerate of a tuple; list.index; zip. -/
namespace PySem
open Sem (wp)
open AutoSeq1 (wpAny_loadPart')
theorem meets_enumT (l : Addr) (items : Array Value) (n : Nat) (dct : Option Addr) (sl : Array (Option Value)) :
    Meets (Builtin.«enumerate.__new__» ⟨[.type "enumerate", .ref l], []⟩) (fun _ R s => s.heap.get? l = some ⟨.type "tuple", dct, .seq items n, sl⟩ ∧
      R (.ok (.ret (.ref (s.heap.push { cls := .type "tuple_iterator", data := .fields #[.ref l, .int 0 0] }).objs.size)))
        { s with heap := (s.heap.push { cls := .type "tuple_iterator", data := .fields #[.ref l, .int 0 0] }).push { cls := .type "enumerate", data := .fields #[.none, .bool false, .ref s.heap.objs.size, rawInt 0, .none, .none] } }) :=
  .of_wp fun prog w A R s h => by
    obtain ⟨hp, g, d, tk, os⟩ := s
    obtain ⟨hl, h⟩ := h
    have hs := sub_enumerate
    have hT : Heap.IsTuple (Shared.heap ⟨hp, g, d, tk, os⟩) l items := ⟨_, hl, rfl, n, rfl⟩
    wp_walk using wpAny_loadPart' hl
    refine wpAny_stack_any fun st => wpAny_pure ?_
    split
    · rename_i c _ _ _ _ _
      cases (c == Value.type "enumerate") <;>
        (wp_walk using wpAny_loadPart' hl, wpAny_pyIter_tuple hT
         exact ⟨_, rfl, h⟩)
    · wp_walk using wpAny_loadPart' hl, wpAny_pyIter_tuple hT
      exact ⟨_, rfl, h⟩
theorem call_enumT {prog : Program} {w : World} {A : Around} {E : Value → Shared → Prop} {s : Shared} {l : Addr} {items : Array Value} {Q : Value → Shared → Prop} (ht : s.heap.IsTuple l items)
    (h : ∀ h', IsEnum h' (s.heap.objs.size + 1) s.heap.objs.size 0 .none → h'.IsTupleIter s.heap.objs.size l 0 → (∀ b o, s.heap.get? b = some o → h'.get? b = some o) → Q (.ref (s.heap.objs.size + 1)) { s with heap := h' }) :
    wpAny (model prog w) A (call (.type "enumerate") [.ref l]) Q E s := by
  obtain ⟨⟨c, dct, dt, sl⟩, hl, hc, n, hd⟩ := ht
  have hc : c = .type "tuple" := hc
  have hd : dt = .seq items n := hd
  subst hc hd
  refine callType_new F.called_enumerate (by decide) (F.typeCall_enumerate_1 _) (F.newCall_enumerate_1 _) (fun obj => F.args_object_init_2 obj _) F.entry_enumerate_new (meets_enumT l items n dct sl) ⟨hl, ?_⟩
  generalize hi : s.heap.push { cls := .type "tuple_iterator", data := .fields #[.ref l, .int 0 0] } = hI
  have hz : hI.objs.size = s.heap.objs.size + 1 := by rw [← hi]; exact Heap.size_push ..
  have git : hI.get? s.heap.objs.size = some { cls := .type "tuple_iterator", data := .fields #[.ref l, .int 0 0] } := by rw [← hi]; exact Heap.get?_push_size _ rfl
  have up : ∀ b o, s.heap.get? b = some o → hI.get? b = some o := fun b o e => by rw [← hi]; exact Heap.get?_push_of_some _ e
  show _ ∧ _
  rw [hz]
  have he : IsEnum (hI.push { cls := .type "enumerate", data := .fields #[.none, .bool false, .ref s.heap.objs.size, rawInt 0, .none, .none] }) (s.heap.objs.size + 1) s.heap.objs.size 0 .none := by
    have := Heap.get?_push_size hI (o := { cls := .type "enumerate", data := .fields #[.none, .bool false, .ref s.heap.objs.size, rawInt 0, .none, .none] }) rfl
    rw [hz] at this
    exact this
  exact ⟨⟨_, he, rfl⟩, h _ he ⟨_, Heap.get?_push_of_some _ git, rfl, rfl⟩ fun b o x => Heap.get?_push_of_some _ (up b o x)⟩
theorem next_enumT_end {prog : Program} {w : World} {A : Around} {E : Value → Shared → Prop} {s : Shared} {e it l : Addr} {i : Nat} {items : Array Value} {old : Value} {Q : Option Value → Shared → Prop} (hh : A.handled = none) (he : IsEnum s.heap e it i old)
    (hit : s.heap.IsTupleIter it l i) (hl : s.heap.IsTuple l items) (hx : items[i]? = none) (hQ : ∀ h', Heap.ExtBut it s.heap h' → Q none { s with heap := h' }) : wpAny (model prog w) A (pyNext (.ref e)) Q E s := by
  have ty : s.TypeIs (.ref e) "enumerate" := ⟨_, he, rfl⟩
  unfold pyNext
  refine wpAny_bind (wpAny_attempt (wpAny_callSpecial?_slot (name := Str.ofString "__next__") ty F.slot_enumerate_next (wpAny_call_entry F.slot_enumerate_next ty F.entry_enumerate_next ?_ (F.args_enumerate_next_1 _))))
  show wpAny _ _ (field (Value.ref e) 2 >>= _) _ _ s
  refine wpAny_bind (wpAny_field he rfl (x := .ref it) rfl (wpAny_bind (wpAny_nextOf_tuple_end hh hit hl hx fun h' a b ⟨o, c, d⟩ => ?_)))
  exact wpAny_bind (wpAny_isInstance (T := "StopIteration") (b := true) ⟨o, c, d⟩ isSubtype_stop (wpAny_pure (hQ _ b)))
end PySem
namespace DD
open PySem PySem.Spec PyProof.Rows L2
open Classical
/-- the tuple at a, each item in a new pair -/
def IteT (K : PySem.W.Frag) (a : Addr) : It :=
  ⟨fun i H => ∃ (xs : List V) (x : V), SqT K H a xs ∧ xs[i]? = some x, fun i H v H' => ∃ T x, v = .ref T ∧ H T = none ∧ H' = L2.upd H T (.tup [.int (i : Nat), x]) ∧ ∀ xs, SqT K H a xs → xs[i]? = some x, fun i H => ∃ xs : List V, SqT K H a xs ∧ xs.length ≤ i⟩
theorem turn_enumT {P : Program} {w : World} {K : PySem.W.Frag} {elts : List Expr} {kk : Nat} {tpos : Pos} (a e it : Addr) :
    Turn P w K (.Tuple elts kk tpos) (IteT K a) [e, it] e (fun i h => (∃ old, IsEnum h e it ((i : Nat) : Int) old) ∧ h.IsTupleIter it a i ∧ e ≠ it ∧ a ≠ it ∧ a ≠ e) where
  mem := by simp
  obj := fun i h st b hb => by
    obtain ⟨⟨old, he⟩, ⟨o, ho, hc, hd⟩, _⟩ := st
    rcases (by simpa using hb : b = e ∨ b = it) with rfl | rfl
    · exact ⟨_, he, fun v q => nomatch q⟩
    · exact ⟨o, ho, fun v q => by rw [hd] at q; cases q⟩
  keep := fun i h h' st k => let ⟨⟨old, he⟩, hi, hne⟩ := st; ⟨⟨old, k e (by simp) _ he⟩, hi.at fun o q => k it (by simp) o q, hne⟩
  item := by
    intro X hP hw hK hc i pins s σ H E I hf st hg
    subst hP hw hK
    obtain ⟨⟨old, he⟩, hit, hne, ha1, ha2⟩ := st
    obtain ⟨xs, x, hq, hx⟩ := hg
    obtain ⟨its, rv, p, hz⟩ := I.tuple hq
    obtain ⟨u, hu, ru⟩ := rv.get hx
    have hel : e < s.heap.objs.size := Heap.lt_size he
    have hil : it < s.heap.objs.size := by obtain ⟨_, q, _⟩ := hit; exact Heap.lt_size q
    have hlt : i < its.toArray.size := by
      have := (List.getElem?_eq_some_iff.mp hu).1
      simpa using this
    refine wpAny_pyNext_enum_itemD (Draws.tuple (show X.A.in1.handled = none from I.ok.hd hc) it a ha1 its.toArray) he ⟨hit, p⟩ hlt hne (by simp [hne, Ne.symm ha2]) fun x' h' tk hx' ho st' hT hsz hk => ?_
    have ex : x' = u := by
      have hx' : its.toArray[i]? = some x' := hx'
      have hu' : its.toArray[i]? = some u := by simpa using hu
      rw [hu'] at hx'
      exact (Option.some.inj hx').symm
    subst ex
    refine ⟨_, rfl, wpAny_letOwnedTupleGo_enum (s := { s with heap := h', toks := tk + 1 }) ho fun h2 he' sb => ?_⟩
    have hT2 : h2.get? s.heap.objs.size = some { cls := .type "tuple", data := .seq #[.int i tk, x'] } := (sb.2 _ (Nat.ne_of_gt hel)).trans hT
    have new : ObjOk X.prog X.w (L2.upd H s.heap.objs.size (.tup [.int (i : Nat), x])) h2 s.heap.objs.size (.tup [.int (i : Nat), x]) :=
      ⟨by show 2 ≤ sizeLine; decide, [.int i tk, x'], .cons ⟨_, rfl⟩ (.cons ru .nil), ⟨_, hT2, rfl, _, rfl⟩⟩
    have I1 : Inv X pins σ (L2.upd H s.heap.objs.size (.tup [.int (i : Nat), x])) { s with heap := h2, toks := tk + 1 } :=
      I.turnedNew (ch := [e, it]) (fun b ob hb q => (sb.2 b (fun z => hb (by simp [z]))).trans (hk b ob (fun z => hb (by simp [z])) (fun z => hb (by simp [z])) q)) hf (Nat.le_refl _) new
    refine ⟨.ref s.heap.objs.size, _, I1, rfl, ⟨_, x, rfl, I.hok.fresh (Nat.le_refl _), rfl, fun ys hy => by rw [I.tuple_inj hy hq]; exact hx⟩, ⟨⟨x', ?_⟩, st'.1.at fun o q => (sb.2 it (Ne.symm hne)).trans q, hne, ha1, ha2⟩, fun b hb => ?_⟩
    · have e1 : ((i + 1 : Nat) : Int) = (i : Int) + 1 := by omega
      rw [e1]; exact he'
    · have hb' : b < s.heap.objs.size := by
        rcases (by simpa using hb : b = e ∨ b = it) with rfl | rfl
        · exact hel
        · exact hil
      rw [upd_ne (Nat.ne_of_lt hb')]
      exact (hf b hb).1
  done := by
    intro X hP hw hK hc i pins s σ H E I hf st hg
    subst hP hw hK
    obtain ⟨⟨old, he⟩, hit, hne, ha1, ha2⟩ := st
    obtain ⟨xs, hq, hx⟩ := hg
    obtain ⟨its, rv, p, hz⟩ := I.tuple hq
    obtain ⟨f0, f1, f2, f3, f4, f5⟩ := hf it (by simp)
    have hl := rv.length
    exact next_enumT_end (I.ok.hd hc) he hit p (by simp; omega) fun h' eb => ⟨rfl, I.turned (t' := s.toks) (fun b o hb q => eb b o hb q) f0 f1 f3 f4 f5⟩
  self := fun A i s Q E st h => let ⟨⟨_, he⟩, _⟩ := st; wpAny_pyIter_enum he h
end DD


/-! enumerate of lists and tuples; list.index; upon data. -/
namespace DD
open PySem PySem.Spec PyProof.Rows L2
open Classical
def iEnumA (K : PySem.W.Frag) (ta : TA) : TI := fun σ H R => ta σ H fun vs H1 => ∃ a, vs = [.ref a] ∧ (((∃ xs, SqL K H1 a xs) ∧ R (Ite K a) H1) ∨ ((∃ xs, SqT K H1 a xs) ∧ R (IteT K a) H1))
theorem pi_enumA {X : Cx} {e : Expr} {ta : TA} {p pos tpos : Pos} {elts : List Expr} {kk : Nat} (hg : Gl X "enumerate") (hm : X.mg "enumerate" = none) (ha : PA X [e] ta) (hs : starEach [e] X.env = [(false, eval e X.env)] := by rfl) :
    PI X (.Tuple elts kk tpos) (.Call (.Name "enumerate" p) [e] [] pos) (iEnumA X.K ta) := by
  refine ⟨fun pins s σ H R I h => Call_ (ld_blt I hg hm boot_enumerate (PyProof.Rows.callWith_type1 (thn (ha.run pos pins s σ H _ I h) fun us s1 q0 => ?_) hs rfl))⟩
  obtain ⟨vs, H1, I1, r1, a, ex, q1⟩ := q0
  subst ex
  cases r1 with
  | cons r rr =>
    cases rr
    cases r
    have fr : ∀ b ∈ [s1.heap.objs.size + 1, s1.heap.objs.size], FpOk X pins H1 b := fun b hb => by
      have hle : s1.heap.objs.size ≤ b := by
        rcases (by simpa using hb : b = s1.heap.objs.size + 1 ∨ b = s1.heap.objs.size) with rfl | rfl <;> omega
      exact I1.fpOk hle (I1.hok.fresh hle)
    rcases q1 with ⟨⟨xs, hq⟩, q⟩ | ⟨⟨xs, hq⟩, q⟩
    · obtain ⟨its, rv, p', hz⟩ := I1.list hq
      refine call_enumerate_list p'.isList fun h' he hit hsz hk => wpAny_pyIter_enum he ?_
      exact ⟨s1.heap.objs.size + 1, _, _, _, H1, rfl, I1.kept (t' := s1.toks) hk, turn_enum a (s1.heap.objs.size + 1) s1.heap.objs.size, ⟨⟨.none, he⟩, hit, Nat.succ_ne_self _⟩, fr, q⟩
    · obtain ⟨its, rv, p', hz⟩ := I1.tuple hq
      have hlt : a < s1.heap.objs.size := by obtain ⟨_, e1, _⟩ := id p'; exact Heap.lt_size e1
      refine call_enumT p' fun h' he hit hk => wpAny_pyIter_enum he ?_
      exact ⟨s1.heap.objs.size + 1, _, _, _, H1, rfl, I1.kept (t' := s1.toks) hk, turn_enumT a (s1.heap.objs.size + 1) s1.heap.objs.size, ⟨⟨.none, he⟩, hit, Nat.succ_ne_self _, Nat.ne_of_lt hlt, Nat.ne_of_lt (Nat.lt_succ_of_lt hlt)⟩, fr, q⟩
theorem walks_eT {K : PySem.W.Frag} {a : Addr} {inv : Hp → Prop} {xs : List D} (h : ∀ H, inv H → ∃ vs, SqT K H a vs ∧ Rps K H vs xs) : Walks (IteT K a) K inv (enD 0 xs) where
  go := fun i H hi hl => by
    rw [enD_len] at hl
    obtain ⟨vs, h1, h2⟩ := h H hi
    obtain ⟨v, e, _⟩ := dps_at h2 (List.getElem?_eq_getElem hl)
    exact ⟨vs, v, h1, e⟩
  stop := fun i H hi hl => by
    rw [enD_len] at hl
    obtain ⟨vs, h1, h2⟩ := h H hi
    exact ⟨vs, h1, by rw [dps_len h2]; exact hl⟩
  yld := fun i H x H' hi _ ⟨T, y, e, hT, eH, hy⟩ => by
    obtain ⟨vs, h1, h2⟩ := h H hi
    obtain ⟨d, q1, q2⟩ := dps_get h2 (hy vs h1)
    subst e eH
    refine ⟨_, enD_get q1, .pt (SqT.of upd_same) (.cons ?_ (.cons (dp_ext (Ext.new (A := none_) hT) _ _ q2) .nil)), Ext.new hT⟩
    rw [Nat.zero_add]
    exact int_dp
def enIt2 (r : Ref) : M ItD := fun η => match itOf r η with
  | .ok it η' => .ok { it with items := enD 0 it.src } η'
  | _ => .stuck
theorem enIt2_use {K : PySem.W.Frag} {ρ : Nat → Addr} {mg : Str → Option Value} {W : WX} {σ : L2.St} {A : AS} {H₀ H : Hp} {η : Env} {φ : FS} {R : It → Hp → Prop} {v : V} {f : AS} {r : Ref} (at_ : At K ρ σ A H₀ [⟨r, v, f⟩] H η φ) (p : PostI K ρ mg W σ A H₀ R (enIt2 r η)) :
    ∃ a, [v] = [V.ref a] ∧ (((∃ xs, SqL K H a xs) ∧ R (Ite K a) H) ∨ ((∃ xs, SqT K H a xs) ∧ R (IteT K a) H)) := by
  have nf : New A H₀ (foot φ) := at_.new.sub fun _ h => .inr h
  unfold enIt2 at p
  cases q : itOf r η with
  | stuck => rw [q] at p; exact p.elim
  | err x η' => rw [q] at p; exact p.elim
  | ok it η' =>
    rw [q] at p
    dsimp only at p
    obtain ⟨e1, ⟨w⟩⟩ := itOf_wk at_ q
    refine ⟨w.a, congrArg (fun z => [z]) w.e, ?_⟩
    rcases w.kind with ⟨_, kd⟩ | ⟨_, kd⟩
    · obtain ⟨vs, h1, _⟩ := kd H w.now
      exact .inl ⟨⟨vs, h1⟩, p _ H w.ρ' φ w.inv w.rep at_.ext nf w.same w.keep (walks_e kd)⟩
    · obtain ⟨vs, h1, _⟩ := kd H w.now
      exact .inr ⟨⟨vs, h1⟩, p _ H w.ρ' φ w.inv w.rep at_.ext nf w.same w.keep (walks_eT kd)⟩
section
variable {X : Cx} {W : WX} {k j : Nat} {e a b c tg : Expr} {m m1 m2 : M Ref} {pos p p2 cpos apos : Pos} {x : Str}
theorem dit_enum2 {elts : List Expr} {kk : Nat} {tpos : Pos} (hg : Gl X "enumerate") (hm : X.mg "enumerate" = none) (ha : DE X W a m1) (hs : starEach [a] X.env = (false, eval a X.env) :: starEach [] X.env := by rfl) :
    DIt X W (.Tuple elts kk tpos) (.Call (.Name "enumerate" p) [a] [] pos) (m1 >>= enIt2) :=
  pi_mono (pi_enumA hg hm (pa_cons ha pa_nil hs) hs) fun σ H Q ⟨ρ, η, φ, r, q⟩ => tE_mono (fun v H' ⟨r1, η', φ', f, at_, q⟩ => enIt2_use at_ q) ((At.start r).stepI1 q)
/-- xs.index(e), the list that slot j holds -/
def mIndexL (j : Nat) (m : M Ref) : M Ref := fun η => match mutL η j with
  | some _ => (mArgs [m] >>= fun rs => fun η => match rs with
    | [r] => (match mutL η j, rdD η r with
      | some (_, xs), some z => (match idxD xs z with
        | some n => .ok (.vl (.d (.int n))) η
        | none => .stuck)
      | _, _ => .stuck)
    | _ => .stuck) η
  | _ => .stuck
theorem de_indexL {pn : Pos} (hN : X.N[j]? = some x) (hv : Vis X.env.scope x) (ha : DE X W a m) (hd : (x == ("__debug__" : Str)) = false := by decide) (hcd : (x == ("__classdict__" : Str)) = false := by decide)
    (hbase : attributeBase (.Name x pn) "index" X.env (eval (.Name x pn) X.env) = eval (.Name x pn) X.env := by rfl)
    (hfew : ((backTo cpos (starEach [a] X.env)).all (fun x => !x.1) && (backToKw cpos (keywordEach [] X.env)).all (fun x => x.1.isSome)
      && decide ([a].length + ([] : List Keyword).length + (if ([] : List Keyword).isEmpty then 0 else 1) < 30)) = true := by rfl)
    (hline : (apos.endLine == cpos.line) = true := by rfl) (hs : starEach [a] X.env = (false, eval a X.env) :: starEach [] X.env := by rfl) (hplain : (backTo cpos (starEach [] X.env)).any (·.1) = false := by rfl) :
    DE X W (.Call (.Attribute (.Name x pn) "index" apos) [a] [] cpos) (mIndexL j m) :=
  pe_mono (pe_bm PySem.F.plainAttrs_list PySem.F.slot_list_index PySem.F.type_list_index mt_index (pe_var (i := j) hN hv hd hcd) (da_cons ha da_nil hs) hbase hfew hline hs hplain) fun σ H Q ⟨ρ, η, φ, r, p⟩ => by
    unfold mIndexL at p
    split at p
    · rename_i bx0 hx0
      obtain ⟨v, h1, h0⟩ := r.rep j _ (mutL_get (b := bx0.1) (xs := bx0.2) hx0)
      obtain ⟨l, vs, rfl, h2, h3, h4⟩ := mkL_rep.mp h0
      refine ⟨_, h1, .inl ⟨rfl, vs, SqL.of h2⟩, tA_mono (fun ws H' ⟨η', φ', L, at_, eL, q⟩ => ?_) (At.stepA r p)⟩
      match L, eL, q, at_ with
      | [], _, q, _ => exact q.elim
      | _ :: _ :: _, _, q, _ => exact q.elim
      | [h], eL, q, at_ =>
        simp only [List.map_cons, List.map_nil] at q eL
        subst eL
        split at q
        · rename_i b xs z hx hz
          split at q
          · rename_i n hn
            obtain ⟨v', s1, s2⟩ := at_.rep.rep j _ (mutL_get hx)
            rw [h1] at s1
            cases s1
            obtain ⟨l', vs', e0, t2, d2, _⟩ := mkL_rep.mp s2
            cases e0
            have hdz := at_.getD (r := h.r) (v := h.v) (f := h.f) in0 hz
            obtain ⟨z', f1, f2, f3, f4, f5⟩ := idx_use d2 hdz hn
            exact ⟨l, vs', h.v, n, z', rfl, rfl, SqL.of t2, f1, f2, f3, f4, f5, at_.data q int_dp⟩
          · exact q.elim
        · exact q.elim
    · exact p.elim
end
end DD


/-! t * k of tuples; a module's tables with text keys; get of a table and of a display. -/
namespace DD
open PySem PySem.Spec PyProof.Rows L2
open Classical

/-! ### t * k -/
def rRepF (K : PySem.W.Frag) : R2 := fun x y H Q => ∃ l k xs, x = .ref l ∧ y = .int k ∧ SqT K H l xs ∧ xs ≠ [] ∧ 2 ≤ k ∧ k < 2 ^ 62 ∧ xs.length * k.toNat ≤ sizeLine ∧ ∀ p o, H p = none → o.dict = none → Q (.ref p) (L2.upd H p (.frz o (.tup (List.replicate k.toNat xs).flatten)))
theorem op_repF {X : Cx} : OpR X (binaryOp .Mult) (rRepF X.K) := by
  rintro pins s σ H x y v u Q I rx ry ⟨l, k, xs, rfl, rfl, hT, hne, k2, k62, hz, q⟩
  cases rx
  obtain ⟨t, rfl⟩ := ry
  obtain ⟨its, r, ⟨⟨cls, dd, data, sl⟩, ho, hc, n, hd⟩, hs⟩ := I.tuple hT
  simp only at hc hd
  subst hc hd
  have hle : its.length = xs.length := r.length.symm
  have hpos : 0 < xs.length := List.length_pos_iff.mpr hne
  have hi : its.toArray.isEmpty = false := by
    cases its with
    | nil => rw [← hle] at hpos; exact absurd hpos (by decide)
    | cons _ _ => rfl
  have hsz0 : its.toArray.size = xs.length := by rw [List.size_toArray, hle]
  have prod : ((its.toArray.size : Nat) : Int) * k = ((xs.length * k.toNat : Nat) : Int) := by
    rw [hsz0, Int.natCast_mul, Int.toNat_of_nonneg (by omega)]
  have flen : (List.replicate k.toNat its).flatten.length ≤ sizeLine := by
    rw [PyProof.Rows.lm_len_rep_flat, hle, Nat.mul_comm]
    exact hz
  have flen2 : (List.replicate k.toNat xs).flatten.length ≤ sizeLine := by
    rw [PyProof.Rows.lm_len_rep_flat, Nat.mul_comm]
    exact hz
  have zz := sizeLine_eq
  have c0 : (decide (k < -(2 ^ 63)) || decide (k ≥ 2 ^ 63)) = false := by rw [decide_eq_false (by omega), decide_eq_false (by omega)] <;> rfl
  have c1 : (its.toArray.isEmpty || k == 1) = false := by rw [hi, Bool.false_or]; exact beq_eq_false_iff_ne.mpr (by omega)
  have c2 : (decide (k ≤ 0) || its.toArray.isEmpty) = false := by rw [hi, Bool.or_false]; exact decide_eq_false (by omega)
  have c4 : Builtin.Tuple.tupleTooMany (((its.toArray.size : Nat) : Int) * k) = false := by
    unfold Builtin.Tuple.tupleTooMany
    exact decide_eq_false (by rw [prod]; omega)
  have toRep := call_meets F.slot_tuple_mul (show s.TypeIs (.ref l) "tuple" from ⟨_, ho, rfl⟩) F.entry_tuple_mul (F.args_tuple_mul_2 (.ref l) (.int k t)) (tuple_mulW l its.toArray n dd sl k t c0 c1 c2 (by rw [prod]; omega) c4 (by rw [size_rep, List.size_toArray]; exact flen))
    (A := X.A) (prog := X.prog) (w := X.w) (E := X.xe) (Q := EP X pins σ Q) (s := s) ⟨ho, by
      rw [size_rep]
      exact laidT I (r.rep k.toNat) flen2 q⟩
  exact wpAny_binaryOp_repeat_ref (T := "tuple") (U := "int") (by decide) ⟨_, ho, rfl⟩ (fun s' => typeIs_int s' k t) noFill_tuple_mul F.fills_int_mul F.slot_int_rmul repeat_tuple F.slot_int_index.lookup
    (call_meets F.slot_int_rmul (typeIs_int s k t) F.entry_int_rmul (F.args_int_rmul_2 _ _) (int_rmul_tuple k t l its.toArray n dd sl) ⟨ho, rfl, ⟨_, ho, rfl⟩, toRep⟩)
def mulX (η : Env) : Val → Val → Out Ref
  | .d (.tup xs), .d (.int k) => if xs ≠ [] ∧ 2 ≤ k ∧ k < 2 ^ 62 ∧ xs.length * k.toNat ≤ sizeLine then .ok (.vl (.d (.tup (List.replicate k.toNat xs).flatten))) η else .stuck
  | _, _ => .stuck
def mMulX (m1 m2 : M Ref) : M Ref := m1 >>= fun r1 => m2 >>= fun r2 => fun η => match rd η r1, rd η r2 with
  | some x, some y => mulX η x y
  | _, _ => .stuck
section
variable {X : Cx} {W : WX} {k j : Nat} {e a b : Expr} {m m1 m2 : M Ref} {pos p p2 cpos apos : Pos} {x : Str}
theorem de_mulX (ha : DE X W a m1) (hb : DE X W b m2) : DE X W (.BinOp a .Mult b pos) (mMulX m1 m2) :=
  de_two (rr := _) (fun _ _ p q => pe_op op_repF p q) ha hb fun ρ σ H Q η φ A H₀ r1 v1 f1 r2 v2 f2 at_ p => by
    obtain ⟨x, y, q1, q2, p⟩ := of_rd2 p
    obtain ⟨g1, h1, _⟩ := at_.get in1 q1
    obtain ⟨g2, h2, _⟩ := at_.get in0 q2
    unfold mulX at p
    split at p
    · split at p
      · rename_i hz
        obtain ⟨a1, vs, rfl, t1, d1⟩ := dp_tupN h1.1
        rw [dp_int h2.1]
        exact ⟨a1, _, vs, rfl, rfl, t1.t, fun z => hz.1 ((nil_of_dps d1).mp z), hz.2.1, hz.2.2.1, by rw [dps_len d1]; exact hz.2.2.2, fun l o hl ho => at_.madeT p hl ho (dps_rep d1 _)⟩
      · exact p.elim
    · exact p.elim

/-! ### a module's table with text keys -/
def tabGet (tab : List (Str × D)) (x y : D) : Option D := match x with
  | .str z => some ((tab.lookup z).getD y)
  | _ => none
end
/-- the dict at d is the table -/
structure TabAt (K : PySem.W.Frag) (w : World) (d : Addr) (tab : List (Str × D)) : Prop where
  kd : ∃ es n, KDict K w d es n
  hit : ∀ z y, tab.lookup z = some y → ∃ u v, PySem.W.nsIn K d z = some (some u) ∧ RelV v u ∧ ∀ H, Rp K H v y
  miss : ∀ z, tab.lookup z = none → PySem.W.nsIn K d z = some none
def TabOk (K : PySem.W.Frag) (w : World) (mg : Str → Option Value) (x : Str) (tab : List (Str × D)) : Prop := ∃ d, mg x = some (.ref d) ∧ TabAt K w d tab
def tabB (K : PySem.W.Frag) (d : Addr) (tab : List (Str × D)) : Bool := match K.lookup d with
  | some ⟨_, _, .dict es _, _⟩ => decide (es.toList.map (fun e => match e.key with
      | .str x _ => some x
      | _ => none) = tab.map fun q => some q.1) && (es.toList.zip tab).all fun q => gvB K q.2.2 q.1.val
  | _ => false
theorem tab_find {K : PySem.W.Frag} {z : Str} : ∀ (es : List DictEntry) (tab : List (Str × D)), es.map (fun e => match e.key with
      | .str x _ => some x
      | _ => none) = tab.map (fun q => some q.1) → ((es.zip tab).all fun q => gvB K q.2.2 q.1.val) = true →
    (∀ y, tab.lookup z = some y → ∃ e, es.find? (·.key.isStr z) = some e ∧ gvB K y e.val = true) ∧ (tab.lookup z = none → es.find? (·.key.isStr z) = none) ∧ es.any (·.refKey) = false
  | [], [], _, _ => ⟨fun y h => (by cases h), fun _ => rfl, rfl⟩
  | [], _ :: _, h, _ => by cases h
  | _ :: _, [], h, _ => by cases h
  | e :: es, q :: tab, h, hv => by
    rw [List.map_cons, List.map_cons] at h
    obtain ⟨h1, h2⟩ := List.cons.inj h
    rw [List.zip_cons_cons, List.all_cons] at hv
    obtain ⟨v1, v2⟩ := Bool.and_eq_true_iff.mp hv
    obtain ⟨i1, i2, i3⟩ := tab_find es tab h2 v2
    obtain ⟨q1, q2⟩ := q
    obtain ⟨eh, ek, ev⟩ := e
    dsimp only at h1 v1
    cases ek with
    | str x t =>
      have hx : x = q1 := Option.some.inj h1
      subst hx
      have e0 : (Value.str x t).isStr z = (z == x) := by
        show (x == z) = (z == x)
        by_cases c : x = z
        · subst c; rfl
        · rw [beq_eq_false_iff_ne.mpr c, beq_eq_false_iff_ne.mpr fun w => c w.symm]
      refine ⟨fun y hy => ?_, fun hn => ?_, ?_⟩
      · rw [List.lookup_cons] at hy
        rw [List.find?_cons]
        dsimp only
        rw [e0]
        cases c : z == x with
        | true => rw [c] at hy; cases hy; exact ⟨_, rfl, v1⟩
        | false => rw [c] at hy; exact i1 y hy
      · rw [List.lookup_cons] at hn
        rw [List.find?_cons]
        dsimp only
        rw [e0]
        cases c : z == x with
        | true => rw [c] at hn; cases hn
        | false => rw [c] at hn; exact i2 hn
      · rw [List.any_cons, i3, Bool.or_false]
        rfl
    | _ => cases h1
theorem tabB_ok {K : PySem.W.Frag} {w : World} {d : Addr} {tab : List (Str × D)} (kd : ∃ es n, KDict K w d es n) (h : tabB K d tab = true) : TabAt K w d tab := by
  obtain ⟨es, n, kd⟩ := kd
  unfold tabB at h
  rw [kd.at_] at h
  obtain ⟨h1, h2⟩ := Bool.and_eq_true_iff.mp h
  have h1 := of_decide_eq_true h1
  refine ⟨⟨es, n, kd⟩, fun z y hy => ?_, fun z hn => ?_⟩
  · obtain ⟨i1, _, _⟩ := tab_find (z := z) es.toList tab h1 h2
    obtain ⟨e, he, hv⟩ := i1 y hy
    obtain ⟨v, r, p⟩ := gvB_ok y e.val hv
    refine ⟨e.val, v, ?_, r, p⟩
    unfold PySem.W.nsIn
    rw [kd.at_]
    dsimp only
    rw [he]
  · obtain ⟨_, i2, i3⟩ := tab_find (z := z) es.toList tab h1 h2
    unfold PySem.W.nsIn
    rw [kd.at_]
    dsimp only
    rw [i2 hn]
    dsimp only
    rw [i3]
    rfl
section
variable {X : Cx} {W : WX} {k j : Nat} {e a b o : Expr} {m m1 m2 : M Ref} {pos p p2 cpos apos : Pos} {x : Str} {tab : List (Str × D)}
/-- d.get(z, y) of a table of the module -/
theorem kd_get {pins : List (Addr × Obj)} {s : Shared} {σ : L2.St} {H : Hp} {d : Addr} {z : Str} {y : V} {dd : D} {u r : Value} {Q : VK} (I : Inv X pins σ H s) (T : TabAt X.K X.w d tab) (ru : RelV (.str z) u) (rr : RelV y r) (hy : Rp X.K H y dd)
    (q : ∀ v, Rp X.K H v ((tab.lookup z).getD dd) → Q v H) : wpAny (model X.prog X.w) X.A (call (.builtin "dict.get") [.ref d, u, r]) (EP X pins σ Q) X.xe s := by
  obtain ⟨es, n, kd⟩ := T.kd
  obtain ⟨t, rfl⟩ := ru
  have mp := PySem.W.mapOf_K (prog := X.prog) (w := X.w) I.kIn kd.at_ kd.lit
  refine call_meetsIn PySem.F.slot_dict_get mp.typeIs PySem.F.entry_dict_get (PySem.F.args_dict_get_3 _ _ _) (meets_dict_get_default (strKind X.prog X.w) d (PySem.strKind_is X.prog X.w z t) kd.low r) ⟨_, mp, ?_⟩
  cases hl : tab.lookup z with
  | some w =>
    obtain ⟨u, v, e1, r1, p1⟩ := T.hit z w hl
    rw [PySem.W.find_K kd.at_ e1]
    exact ⟨v, H, I.tok _, r1, q v (by rw [hl]; exact p1 H)⟩
  | none =>
    rw [PySem.W.find_K kd.at_ (T.miss z hl)]
    exact ⟨y, H, I.tok _, rr, q y (by rw [hl]; exact hy)⟩
def tKGet (K : PySem.W.Frag) (tab : List (Str × D)) (ty tx : TE) : TE := fun σ H Q => ty σ H fun y H2 => tx σ H2 fun z H3 => ∃ s dd, y = .str s ∧ Rp K H3 z dd ∧ ∀ v, Rp K H3 v ((tab.lookup s).getD dd) → Q v H3
theorem pe_kget {ty tx : TE} {pn : Pos} (hg : Gl X x) (T : TabOk X.K X.w X.mg x tab) (he : PE X a ty) (hf : PE X b tx) (m : M2 X (.Name x pn) "get" apos a b cpos) (hdb : (x == ("__debug__" : Str)) = false := by decide) :
    PE X (.Call (.Attribute (.Name x pn) "get" apos) [a, b] [] cpos) (tKGet X.K tab ty tx) := by
  obtain ⟨d, hm, T⟩ := T
  refine ⟨fun pins s σ H Q I h => ?_⟩
  refine wpAny_Call_method m.base m.few m.line PySem.F.plainAttrs_dict PySem.F.slot_dict_get PySem.F.type_dict_get (ld_glob I hg hm ?_ hdb)
  obtain ⟨es, n, kd⟩ := id T.kd
  refine ⟨kd_type kd I, fun b e => ⟨_, by cases e; exact I.kIn _ _ kd.at_, rfl⟩, ?_⟩
  rw [m.trees]
  refine Calls.callWith_builtin rfl (Calls.evalArgs_plain (Calls.spliced_cons (thn (he.run pins s σ H _ I h) fun iv s2 ⟨y, H2, I2, ry, q2⟩ =>
    Calls.spliced_cons (thn (hf.run pins s2 σ H2 _ I2 q2) fun fv s3 ⟨z, H3, I3, rz, q3⟩ => Calls.spliced_nil ?_))))
  obtain ⟨st, dd, rfl, hy, q⟩ := q3
  exact kd_get I3 T ry rz hy q
theorem de_kget {pn : Pos} (hg : Gl X x) (T : TabOk X.K X.w X.mg x tab) (ha : DE X W a m1) (hb : DE X W b m2) (base : attributeBase (.Name x pn) "get" X.env (eval (.Name x pn) X.env) = eval (.Name x pn) X.env := by rfl)
    (few : ((backTo cpos (starEach [a, b] X.env)).all (fun x => !x.1) && (backToKw cpos (keywordEach [] X.env)).all (fun x => x.1.isSome)
    && decide (([a, b] : List Expr).length + ([] : List Keyword).length + (if ([] : List Keyword).isEmpty then 0 else 1) < 30)) = true := by rfl)
    (line : (apos.endLine == cpos.line) = true := by rfl) (trees : backTo cpos (starEach [a, b] X.env) = [(false, eval a X.env), (false, eval b X.env)] := by rfl) (hdb : (x == ("__debug__" : Str)) = false := by decide) :
    DE X W (.Call (.Attribute (.Name x pn) "get" apos) [a, b] [] cpos) (mOp2 (tabGet tab) m1 m2) :=
  de_two (rr := fun x y H Q => ∃ s dd, x = .str s ∧ Rp X.K H y dd ∧ ∀ v, Rp X.K H v ((tab.lookup s).getD dd) → Q v H) (fun _ _ p q => pe_kget hg T p q ⟨base, few, line, trees⟩ hdb) ha hb fun ρ σ H Q η φ A H₀ r1 v1 f1 r2 v2 f2 at_ p => by
    obtain ⟨y, z, w, h1, h2, h3, h4⟩ := fin2_use at_ p
    unfold tabGet at h3
    split at h3
    · cases h3
      exact ⟨_, z, dp_str h1, h2, h4⟩
    · cases h3
end

/-! ### {..}.get(z, y), keys texts, values ints -/
/-- a display of constants -/
inductive DispOk (X : Cx) (pos : Pos) : List (Option Expr) → List Expr → List (Str × Int) → Prop
  | nil : DispOk X pos [] [] []
  | cons {s : Str} {i : Int} {j j2 : Nat} {p1 p2 : Pos} {ks : List (Option Expr)} {vs : List Expr} {tab : List (Str × Int)} (more : DispOk X pos ks vs tab) : DispOk X pos (some (.Constant (.str s) j p1) :: ks) (.Constant (.int i) j2 p2 :: vs) ((s, i) :: tab)
section
variable {X : Cx} {W : WX} {k j : Nat} {e a b o : Expr} {m m1 m2 : M Ref} {pos p p2 cpos apos : Pos} {x : Str} {tab : List (Str × Int)} {ks : List (Option Expr)} {vs : List Expr}
theorem post_up {K : PySem.W.Frag} {ρ : Nat → Addr} {mg : Str → Option Value} {σ : L2.St} {A : AS} {H H1 : Hp} {Q : VK} {o : Out Ref} (ex : Ext none_ H H1) (p : Post K ρ mg W σ A H Q o) : Post K ρ mg W σ A H1 Q o := by
  have ea : Ext A H H1 := ex.weak fun _ z => z.elim
  have nn : ∀ {B : AS}, New A H1 B → New A H B := fun {B} n a h => (n a h).imp id fun z => by
    cases q : H a with
    | none => rfl
    | some u =>
      have := ex a u q (.inl fun z => z)
      rw [z] at this
      cases this
  cases o with
  | ok r η' => exact fun v H' φ' f a b c d e => p v H' φ' f a b c (ea.trans New.self d) (nn e)
  | err x η' => exact fun cls dx H' φ' a b c d => p cls dx H' φ' a (ea.trans New.self b) (nn c) d
  | stuck => exact p
theorem dispOk_all (h : DispOk X pos ks vs tab) : ks.all (·.isSome) = true ∧ ks.length = vs.length ∧ ks.length = tab.length := by
  induction h with
  | nil => exact ⟨rfl, rfl, rfl⟩
  | cons more ih => exact ⟨by rw [List.all_cons, ih.1]; rfl, by rw [List.length_cons, List.length_cons, ih.2.1], by rw [List.length_cons, List.length_cons, ih.2.2]⟩
theorem dispOk_pps (h : DispOk X pos ks vs tab) : ∃ trs, PPs X pos ks vs trs ∧ ∀ σ H (Q : List (V × V) → Hp → Prop), Q (tab.map fun q => (V.str q.1, V.int q.2)) H → tPairs trs σ H Q := by
  induction h with
  | nil => exact ⟨[], pps_nil, fun σ H Q q => q⟩
  | cons more ih =>
    obtain ⟨trs, h1, h2⟩ := ih
    exact ⟨_, pps_cons pe_str pe_int h1, fun σ H Q q => h2 σ H _ q⟩
theorem merge_val (z : Str) : ∀ (tab : List (Str × Int)) (acc : List (Key × V)), (tab.map (·.1)).Nodup → (∀ q ∈ tab, valV acc (.inr q.1 : Key) = none) →
    valV (mergeK acc (tab.map fun q => ((.inr q.1 : Key), V.int q.2))) (.inr z) = match tab.lookup z with
      | some i => some (.int i)
      | none => valV acc (.inr z)
  | [], acc, _, _ => rfl
  | (y, i) :: tab, acc, hn, hv => by
    simp only [List.map_cons, List.nodup_cons] at hn
    have h0 := hv (y, i) List.mem_cons_self
    have hp : putK acc (.inr y : Key) (V.int i) = acc ++ [((.inr y : Key), V.int i)] := by
      unfold putK
      rw [valV_any, h0]
      rfl
    have ih := merge_val z tab (putK acc (.inr y : Key) (V.int i)) hn.2 fun q hq => by
      rw [hp, valV_snoc _ _ _ _ h0, if_neg fun c => hn.1 (by
        have : q.1 = y := Sum.inr.inj c
        rw [← this]
        exact List.mem_map_of_mem hq)]
      exact hv q (List.mem_cons_of_mem _ hq)
    rw [List.map_cons]
    show valV (mergeK (putK acc (.inr y : Key) (V.int i)) _) _ = _
    rw [ih, List.lookup_cons]
    cases c : z == y with
    | true =>
      have e := eq_of_beq c
      subst e
      have hl : tab.lookup z = none := by
        cases q : tab.lookup z with
        | none => rfl
        | some v => exact (hn.1 (List.mem_map.mpr ⟨_, lookup_mem q, rfl⟩)).elim
      rw [hl]
      dsimp only
      rw [hp, valV_snoc _ _ _ _ h0, if_pos rfl]
    | false =>
      cases q : tab.lookup z with
      | some v => rfl
      | none =>
        dsimp only
        rw [hp, valV_snoc _ _ _ _ h0, if_neg fun w => by
          have : z = y := Sum.inr.inj w
          rw [this] at c
          simp at c]
theorem lookup_int (st : Str) : ∀ tab : List (Str × Int), (tab.map fun q => (q.1, D.int q.2)).lookup st = (tab.lookup st).map D.int
  | [] => rfl
  | q :: tab => by
    rw [List.map_cons, List.lookup_cons, List.lookup_cons]
    cases c : st == q.1 with
    | true => rfl
    | false => exact lookup_int st tab
theorem de_dget (cc : Cc X W k) (h : DispOk X pos ks vs tab) (h0 : ks ≠ []) (h15 : ks.length ≤ 15) (hn : (tab.map (·.1)).Nodup) (ha : DE X W a m1) (hb : DE X W b m2)
    (base : attributeBase (.Dict ks vs pos) "get" X.env (eval (.Dict ks vs pos) X.env) = eval (.Dict ks vs pos) X.env := by rfl)
    (few : ((backTo cpos (starEach [a, b] X.env)).all (fun x => !x.1) && (backToKw cpos (keywordEach [] X.env)).all (fun x => x.1.isSome)
    && decide (([a, b] : List Expr).length + ([] : List Keyword).length + (if ([] : List Keyword).isEmpty then 0 else 1) < 30)) = true := by rfl)
    (line : (apos.endLine == cpos.line) = true := by rfl) (trees : backTo cpos (starEach [a, b] X.env) = [(false, eval a X.env), (false, eval b X.env)] := by rfl) :
    DE X W (.Call (.Attribute (.Dict ks vs pos) "get" apos) [a, b] [] cpos) (mOp2 (tabGet (tab.map fun q => (q.1, D.int q.2))) m1 m2) := by
  obtain ⟨trs, h1, h2⟩ := dispOk_pps h
  obtain ⟨a1, a2, a3⟩ := dispOk_all h
  refine pe_mono (pe_dget2 (by have := cc.hu; omega) (pe_disp h1 a1 a2 h0 h15) ha hb ⟨base, few, line, trees⟩) fun σ H Q ⟨ρ, η, φ, r, p⟩ => ?_
  intro d hd
  refine h2 σ _ _ ⟨upd_same, tab.map fun q => ((.inr q.1 : Key), V.int q.2), by rw [List.map_map]; rfl, by rw [List.length_map, ← a3]; exact h15, d, rfl, .inl ⟨_, .inl upd_same⟩, ?_⟩
  generalize hD : L2.upd (L2.upd H d (.dK [])) d (.dK (mergeK [] (tab.map fun q => ((.inr q.1 : Key), V.int q.2)))) = H1
  have ex : Ext none_ H H1 := fun c u hc _ => by
    have e : c ≠ d := fun z => by rw [z, hd] at hc; cases hc
    rw [← hD, upd_ne e, upd_ne e]
    exact hc
  have hd1 : H1 d = some (.dK (mergeK [] (tab.map fun q => ((.inr q.1 : Key), V.int q.2)))) := by rw [← hD]; exact upd_same
  have r1 : RepE X.K ρ H1 σ η φ := r.ext ex fun _ _ z => z
  have nd : ¬ foot φ d := fun z => by
    obtain ⟨u, e, _⟩ := r.there z
    rw [hd] at e; cases e
  have p1 : Post X.K ρ X.mg W σ (foot φ) H1 Q (mOp2 (tabGet (tab.map fun q => (q.1, D.int q.2))) m1 m2 η) := post_up ex p
  refine tE_mono (fun v1 H2 ⟨r1', η1, φ1, f1, at1, p2⟩ => tE_mono (fun v2 H3 ⟨r2, η2, φ2, f2, at2, p3⟩ => ?_) (at1.step p2)) ((At.start r1).step p1)
  have hd3 : H3 d = some (.dK (mergeK [] (tab.map fun q => ((.inr q.1 : Key), V.int q.2)))) := at2.ext _ _ hd1 (.inl nd)
  obtain ⟨y, z, w, g1, g2, g3, g4⟩ := fin2_use at2 p3
  unfold tabGet at g3
  split at g3
  · rename_i st
    cases g3
    have mv := merge_val st tab [] hn fun _ _ => rfl
    have lk := lookup_int st tab
    rw [lk] at g4
    refine ⟨_, .inl ⟨_, .inr st, .inl hd3, dp_str g1, rfl⟩, ?_⟩
    rw [mv]
    cases q : tab.lookup st with
    | some i => rw [q] at g4; exact g4 _ int_dp
    | none => rw [q] at g4; exact g4 _ g2
  · cases g3
end
end DD
/-! ### the Hook, with tables -/
namespace DX
open PySem PySem.Spec PyProof.Rows L2 PySem.W PySem.Calls
abbrev AlJ : Type := AlI × List (Option (List (Option (Str × Int))))
def obsJ (fa : List He.Fa) (fn : List He.DefD) (ini : List IniD) (er : Frag → Bool) (ts : List (Str × List Str)) (K : Frag) : AlJ := (obsI fa fn ini er K, ts.map fun t => He.dicW K (He.ga K t.1))
def valJ (fn : List He.DefD) (ini : List IniD) (ts : List (Str × List Str)) (w : World) : AlJ := (valI fn ini, ts.map fun t => some (He.keysIn w.params t.2))
structure SaysJ (fa : List He.Fa) (fn : List He.DefD) (ini : List IniD) (er : Frag → Bool) (ts : List (Str × List Str)) (w : World) (K : Frag) : Prop where
  i : SaysI fa fn ini er K
  tab : ∀ (n : Nat) (t : Str × List Str), ts[n]? = some t → ∃ es m, KDict K w (He.ga K t.1) es m
theorem saysJ_of {fa : List He.Fa} {fn : List He.DefD} {ini : List IniD} {er : Frag → Bool} {ts : List (Str × List Str)} {w : World} {K : Frag} (e : obsJ fa fn ini er ts K = valJ fn ini ts w) : SaysJ fa fn ini er ts w K := by
  have e1 : obsI fa fn ini er K = valI fn ini := congrArg (fun z : AlJ => z.1) e
  have e2 : (ts.map fun t => He.dicW K (He.ga K t.1)) = ts.map fun t => some (He.keysIn w.params t.2) := congrArg (fun z : AlJ => z.2) e
  refine ⟨saysI_of e1, fun n t ht => ?_⟩
  have e3 : (ts.map fun t => He.dicW K (He.ga K t.1))[n]? = (ts.map fun t => some (He.keysIn w.params t.2))[n]? := by rw [e2]
  rw [List.getElem?_map, List.getElem?_map, ht] at e3
  exact He.dicW_ok (Option.some.inj e3)
def obsJG (n : Nat) (fa : List He.Fa) (fn : List He.DefD) (ini : List IniD) (er : Frag → Bool) (ts : List (Str × List Str)) (g : Addr → Option Obj) : AlJ := obsJ fa fn ini er ts (He.frG g (asI g n))
def hookJ (n : Nat) (fa : List He.Fa) (fn : List He.DefD) (ini : List IniD) (er : Frag → Bool) (ts : List (Str × List Str)) : PySem.W.Hook where
  α := AlJ
  obs := fun s => obsJG n fa fn ini er ts s.heap.get?
  val := fun w => valJ fn ini ts w
  says := fun w h => ∃ K : Frag, K.In h ∧ SaysJ fa fn ini er ts w K
  of := fun _ _ e => ⟨_, He.frG_in, saysJ_of e⟩
  keeps := fun _ _ _ ⟨K, hK, c⟩ k => ⟨K, PySem.W.Frag.In.keeps hK k, c⟩
theorem obsJG_eq {n : Nat} {fa : List He.Fa} {fn : List He.DefD} {ini : List IniD} {er : Frag → Bool} {ts : List (Str × List Str)} {g : Addr → Option Obj} {s : Shared} (h : ∀ a, g a = s.heap.get? a) : obsJG n fa fn ini er ts g = (hookJ n fa fn ini er ts).obs s := by
  have e : g = s.heap.get? := funext h
  rw [e] <;> rfl
end DX


/-! x += e, x a number, a text or a list. -/
namespace DD
open PySem PySem.Spec PyProof.Rows L2
open Classical
section
variable {X : Cx} {W : WX} {e : Expr} {m : M Ref} {pos : Pos} {x : Str} {i : Nat}
def sAugL (i : Nat) (m : M Ref) : MS := m.thenS fun r η => match mutL η i, rd η r with
  | some (b, xs), some (.l ys) => if xs.length + ys.length ≤ sizeLine then .nx (η.set i (some (mkL b (xs ++ ys)))) else .stuck
  | _, _ => .stuck
def sAugX (f : D → D → Option D) (i : Nat) (m : M Ref) : MS := fun η => match mutL η i with
  | some _ => sAugL i m η
  | none => sAug f i m η
theorem set_same {α : Type} : ∀ {l : List α} {i : Nat} {v : α}, l[i]? = some v → l.set i v = l
  | [], i, v, h => by simp at h
  | a :: l, 0, v, h => by simp at h; simp [h]
  | a :: l, i + 1, v, h => by
    rw [List.set_cons_succ, set_same (by simpa using h)]
theorem ds_augX {pos' : Pos} (hN : X.N.Nodup) (hi : X.N[i]? = some x) (hx : Loc X.env.scope x) (he : DE X W e m) (hf : X.fn x = true ∨ X.env.scope.names.lookup x = some .local := by first | exact .inl rfl | exact .inr rfl | assumption) :
    DS X W (.AugAssign (.Name x pos') .Add e pos) (sAugX fAdd i m) :=
  ps_mono (ps_aug (ti := _) hN hi hx he (fun pins s σ H x y v u Q I rx ry q => ((iop_add.or iop_add_str).or iop_ext) pins s σ H x y v u Q I rx ry q) hf) fun E σ H ⟨ρ, η, φ, r, p⟩ => by
    unfold sAugX at p
    split at p
    · rename_i bx0 hx0
      obtain ⟨v, h1, h0⟩ := r.rep i _ (mutL_get (b := bx0.1) (xs := bx0.2) hx0)
      unfold sAugL at p
      refine ⟨v, h1, tE_mono (fun w H1 ⟨r1, η1, φ1, f1, at1, q⟩ => ?_) ((At.start r).stepS p)⟩
      split at q
      · rename_i b xs ys hm hr
        split at q
        · rename_i hz
          obtain ⟨g2, hg2, _⟩ := at1.get in0 hr
          obtain ⟨a2, ws, rfl, t2, d2⟩ := repV_l hg2
          obtain ⟨l, vs, s1, s2, s3, s4⟩ := at1.putL (ys := xs ++ ys) hm
          rw [h1] at s1
          cases s1
          refine .inr ⟨l, a2, vs, ws, rfl, rfl, s2, t2, by rw [dps_len s3, dps_len d2]; exact hz, ?_⟩
          have z := (s4 _ (dps_app s3 d2)).nx q
          have e2 : σ.set i (some (V.ref l)) = σ := set_same h1
          show E.nx (σ.set i (some (V.ref l))) _
          rw [e2]
          exact z
        · exact q.elim
      · exact q.elim
    · unfold sAug at p
      split at p
      · rename_i y hy
        obtain ⟨v, h1, h2⟩ := r.rep i y hy
        refine ⟨v, h1, tE_mono (fun w H1 ⟨r1, η1, φ1, f1, at1, q⟩ => ?_) ((At.start r).stepS p)⟩
        split at q
        · rename_i x y hx hy'
          cases q3 : fAdd x y with
          | none => rw [q3] at q; exact q.elim
          | some z =>
            rw [q3] at q
            obtain ⟨v', e1, e2⟩ := at1.rep.rep i _ hx
            rw [h1] at e1
            cases e1
            have fin : ∀ u, Rp X.K H1 u z → E.nx (σ.set i (some u)) H1 := fun u hu => by
              obtain ⟨φ', r', n⟩ := at1.rep.set (x := .d z) (v := u) (f := none_) ⟨hu, fun _ => id⟩ (by rfl) (fun _ z => z.elim) i
              exact q _ _ φ' r' at1.ext ((at1.new.sub fun _ h => .inr h).sub fun b hb => (n b hb).elim (fun z => z.elim) id)
            have k1 := e2.1
            have k2 := at1.getD in0 hy'
            unfold fAdd at q3
            split at q3
            · cases q3
              rw [dp_int k1, dp_int k2]
              exact .inl (.inl ⟨_, _, rfl, rfl, fin _ int_dp⟩)
            · split at q3
              · cases q3
                rw [dp_str k1, dp_str k2]
                exact .inl (.inr ⟨_, _, rfl, rfl, by assumption, fin _ str_dp⟩)
              · cases q3
            · cases q3
        · exact q.elim
      · exact p.elim
end
end DD

/-! What plain laws share: rows, places, draws' bounds, repr; rules for errors, membership, dict comprehensions. -/
namespace DD
open PySem PySem.Spec PyProof.Rows L2
open Classical
def SOut.tryN (o : SOut) (l : List ClD) : SOut := match o with
  | .err x η' => trCl x η' l
  | o => o
section
variable {η : DD.Env} {m m1 m2 m3 : M Ref} {n : MS} {l : List ClD} {c f : Str} {x : Exn} {r : Ref}
@[simp] theorem q_raise : sRaise c f m η = (m η).thenS fun r η => match rdD η r with
  | some d => .err ⟨c, [(f, d)]⟩ η
  | none => .stuck := by unfold sRaise; rw [q_thenS]; all_goals rfl
@[simp] theorem q_try : sTryN n l η = (n η).tryN l := by unfold sTryN SOut.tryN; cases n η <;> rfl
@[simp] theorem q_tryRt : (SOut.rt r η).tryN l = .rt r η := nr rfl
@[simp] theorem q_tryNx : (SOut.nx η).tryN l = .nx η := nr rfl
@[simp] theorem q_tryErr : (SOut.err x η).tryN l = trCl x η l := nr rfl
@[simp] theorem q_aug {f : D → D → Option D} {i : Nat} : sAug f i m η = match η[i]? with
  | some (some _) => (m η).thenS fun r η => match η[i]?, rdD η r with
    | some (some (.d x)), some y => (match f x y with
      | some z => .nx (η.set i (some (.d z)))
      | none => .stuck)
    | _, _ => .stuck
  | _ => .stuck := by
  unfold sAug
  rcases η[i]? with _ | _ | v
  · rfl
  · rfl
  · show M.thenS m _ η = _
    rw [q_thenS]
    all_goals rfl
@[simp] theorem q_fAdd {i j : Int} : fAdd (.int i) (.int j) = some (.int (i + j)) := nr rfl
@[simp] theorem q_finRt {xs : List Val} {v : Val} : SOut.fin xs (.rt (.vl v) η) = .ok v (backs xs η) := nr rfl
@[simp] theorem q_finSl {xs : List Val} {i : Nat} : SOut.fin xs (.rt (.sl i) η) = match η[i]? with
  | some (some (.d x)) => .ok (.d x) (backs xs η)
  | some (some (.fz x)) => .ok (.fz x) (backs xs η)
  | some (some (.l x)) => .ok (.l x) (backs xs η)
  | some (some (.m x)) => .ok (.m x) (backs xs η)
  | some (some (.mt x)) => .ok (.mt x) (backs xs η)
  | _ => .stuck := nr rfl
@[simp] theorem q_finNx {xs : List Val} : SOut.fin xs (.nx η) = .ok (.d .non) (backs xs η) := nr rfl
@[simp] theorem q_finErr {xs : List Val} : SOut.fin xs (.err x η) = .err x (backs xs η) := nr rfl
@[simp] theorem q_tupDw {rs : List Ref} : tupDw rs η = match rdDs η rs with
  | some [.int lo, .int hi, .int c] => if dwC lo hi c ∧ (lo - hi).toNat ≤ 2 ^ 24 then .ok (.vl (.d (.tup (dwD lo (lo - hi).toNat)))) η else .stuck
  | _ => .stuck := by unfold tupDw; congr
@[simp] theorem q_rgIt3 {rs : List Ref} : rgIt3 rs η = match rdDs η rs with
  | some [.int lo, .int hi, .int c] => if dwC lo hi c then .ok { items := dwD lo (lo - hi).toNat } η else .stuck
  | _ => .stuck := by unfold rgIt3; congr
@[simp] theorem q_rgIt1 {rs : List Ref} : rgIt1 rs η = match rdDs η rs with
  | some [.int hi] => rgIt 0 hi η
  | _ => .stuck := nr rfl
@[simp] theorem q_rgIt2 {rs : List Ref} : rgIt2 rs η = match rdDs η rs with
  | some [.int lo, .int hi] => rgIt lo hi η
  | _ => .stuck := nr rfl
@[simp] theorem q_chain {g g' : Val → Val → Option Bool} : mChain g g' m1 m2 m3 η = (m1 η).bind fun r1 => m2 >>= fun r2 => fun η => match rd η r1, rd η r2 with
  | some x, some y => (match g x y with
    | some true => (m3 >>= fun r3 => fun η => match rd η r2, rd η r3 with
      | some y, some z => (match g' y z with
        | some b => .ok (.vl (.d (.bl b))) η
        | none => .stuck)
      | _, _ => .stuck) η
    | some false => .ok (.vl (.d (.bl false))) η
    | none => .stuck)
  | _, _ => .stuck := nr rfl
@[simp] theorem q_orV : mOrV m1 m2 η = (m1 η).bind fun r => fun η => match rd η r with
  | some x => (match truV x with
    | some b => if b then .ok r η else m2 η
    | none => .stuck)
  | none => .stuck := nr rfl
@[simp] theorem q_ttup {x : List D} : truV (.d (.tup x)) = some (!x.isEmpty) := nr rfl
@[simp] theorem q_augX {f : D → D → Option D} {i : Nat} : sAugX f i m η = match mutL η i with
  | some _ => sAugL i m η
  | none => sAug f i m η := nr rfl
@[simp] theorem q_augL {i : Nat} : sAugL i m η = (m η).thenS fun r η => match mutL η i, rd η r with
  | some (b, xs), some (.l ys) => if xs.length + ys.length ≤ sizeLine then .nx (η.set i (some (mkL b (xs ++ ys)))) else .stuck
  | _, _ => .stuck := by
  unfold sAugL
  rw [q_thenS]
  all_goals rfl
@[simp] theorem q_par {i j : Nat} : sPar i j m1 m2 η = (mArgs [m1, m2] η).thenS fun rs η => match rdDs η rs with
  | some [x, y] => .nx ((η.set i (some (.d x))).set j (some (.d y)))
  | _ => .stuck := by
  unfold sPar
  rw [q_thenS]
  all_goals rfl
@[simp] theorem q_mulX : mMulX m1 m2 η = (m1 η).bind fun r1 => m2 >>= fun r2 => fun η => match rd η r1, rd η r2 with
  | some x, some y => mulX η x y
  | _, _ => .stuck := nr rfl
@[simp] theorem q_mulXT {xs : List D} {k : Int} : mulX η (.d (.tup xs)) (.d (.int k)) = if xs ≠ [] ∧ 2 ≤ k ∧ k < 2 ^ 62 ∧ xs.length * k.toNat ≤ sizeLine then .ok (.vl (.d (.tup (List.replicate k.toNat xs).flatten))) η else .stuck := by
  unfold mulX
  congr
@[simp] theorem q_slLH : mSliceLH m m1 m2 η = (m η).bind fun r => mInt m1 >>= fun i => mInt m2 >>= fun j => fun η => match rd η r with
  | some x => sliceV η x (some i) (some j)
  | none => .stuck := nr rfl
end
theorem cut_lh {xs : List D} {p q : Nat} : cutD xs (some (p : Int)) (some (q : Int)) = (xs.drop p).take (q - p) := by
  unfold cutD
  rw [HT.sIx_nat, HT.sIx_nat]
  by_cases h : p ≤ xs.length
  · rw [Nat.min_eq_left h]
    by_cases h2 : q ≤ xs.length
    · rw [Nat.min_eq_left h2]
    · rw [Nat.min_eq_right (by omega), List.take_of_length_le (by simp), List.take_of_length_le (by simp; omega)]
  · rw [Nat.min_eq_right (by omega : xs.length ≤ p), List.drop_eq_nil_of_le (Nat.le_refl _), List.drop_eq_nil_of_le (by omega), List.take_nil, List.take_nil]
end DD
namespace Kx
open PySem PySem.Spec PyProof.Rows L2 DD
open Classical
theorem z1 : (1 : Nat) ≤ sizeLine := by decide
theorem z2 : (2 : Nat) ≤ sizeLine := by decide
theorem z3 : (3 : Nat) ≤ sizeLine := by decide
theorem szl : (60 : Nat) ≤ sizeLine := by decide
theorem z4000 : (4000 : Nat) ≤ sizeLine := by decide
theorem z100 : (100 : Nat) ≤ sizeLine := by decide
/-- place p of the row r: what stands ahead, the two, what stands behind -/
structure Cut (r : List Int) (p : Nat) (l1 : List Int) (x y : Int) (l2 : List Int) : Prop where
  e : r = l1 ++ x :: y :: l2
  p : p = l1.length + 1
theorem cut_is {r : List Int} {p : Nat} (h1 : 1 ≤ p) (h2 : p < r.length) : ∃ l1 x y l2, Cut r p l1 x y l2 := by
  refine ⟨r.take (p - 1), r[p - 1], r[p], r.drop (p + 1), ?_, ?_⟩
  · conv => lhs; rw [← List.take_append_drop (p - 1) r]
    congr 1
    rw [List.drop_eq_getElem_cons (by omega)]
    have e : p - 1 + 1 = p := by omega
    rw [e, List.drop_eq_getElem_cons h2]
  · rw [List.length_take]; omega
section
variable {r l1 l2 : List Int} {p : Nat} {x y : Int} (c : Cut r p l1 x y l2)
include c
theorem Cut.q1 : atI (r.map D.int) ((p : Int) - 1) = some (.int x) := by
  obtain ⟨rfl, rfl⟩ := c
  rw [atI_sub (by omega) (by simp), Nat.add_sub_cancel]
  simp
theorem Cut.q2 : atI (r.map D.int) (p : Int) = some (.int y) := by
  obtain ⟨rfl, rfl⟩ := c
  rw [atI_ok (by simp)]
  simp
theorem Cut.q3 : ixN r.length ((p : Int) - 1) = some (p - 1) := by
  obtain ⟨rfl, rfl⟩ := c
  exact ixN_sub (by omega) (by simp)
theorem Cut.q4 : ixN r.length (p : Int) = some p := by
  obtain ⟨rfl, rfl⟩ := c
  exact ixN_ok (by simp)
theorem Cut.set2 : ((r.map D.int).set (p - 1) (.int y)).set p (.int x) = (l1 ++ y :: x :: l2).map D.int := by
  obtain ⟨rfl, rfl⟩ := c
  rw [Nat.add_sub_cancel]
  simp
theorem Cut.lo : (r.map D.int).take (p - 1) = l1.map D.int := by
  obtain ⟨rfl, rfl⟩ := c
  rw [Nat.add_sub_cancel]
  simp
theorem Cut.hi : (r.map D.int).drop (p + 1) = l2.map D.int := by
  obtain ⟨rfl, rfl⟩ := c
  have e : l1.length + 1 + 1 = (l1.map D.int).length + 2 := by simp
  rw [e, List.map_append, List.drop_append]
  simp
theorem Cut.perm : (l1 ++ y :: x :: l2).Perm r := by
  obtain ⟨rfl, rfl⟩ := c
  exact List.Perm.append_left _ (List.Perm.swap _ _ _)
end
def swp (r : List Int) (w : Int) : List Int := r.take (w.natAbs - 1) ++ (r.getD w.natAbs 0) :: (r.getD (w.natAbs - 1) 0) :: r.drop (w.natAbs + 1)
theorem swp_cut {r l1 l2 : List Int} {w x y : Int} (c : Cut r w.natAbs l1 x y l2) : swp r w = l1 ++ y :: x :: l2 := by
  obtain ⟨e, hp⟩ := c
  unfold swp
  rw [hp, e, Nat.add_sub_cancel]
  have e2 : l1.length + 1 + 1 = l1.length + 2 := rfl
  rw [List.take_left', List.getD_eq_getElem?_getD, List.getD_eq_getElem?_getD]
  · simp [List.drop_append]
    rw [List.drop_eq_nil_of_le (by omega), show l1.length + 1 + 1 - l1.length = 2 by omega]
    rfl
  · rfl
abbrev base (s : Int) : List Int := (List.range s.toNat).map fun (i : Nat) => 1 + (i : Int)
theorem rg_base (s : Int) : rgD 1 (s + 1 - 1).toNat = (base s).map D.int := by
  unfold rgD
  rw [List.map_map, Int.add_sub_cancel]
  rfl
theorem rgc_base {s : Int} (h1 : 2 ≤ s) (h2 : s ≤ 7) : rgC 1 (s + 1) := by unfold rgC; omega
theorem take_snoc {α : Type} {ws : List α} {j : Nat} {w : α} (h : ws[j]? = some w) : ws.take (j + 1) = ws.take j ++ [w] := by
  rw [List.take_add_one, h]
  rfl
structure Rw (s : Int) (r : List Int) : Prop where
  len : (r.length : Int) = s
  perm : r.Perm (base s)
theorem rw_base {s : Int} (h : 0 ≤ s) : Rw s (base s) := ⟨by simp; omega, List.Perm.refl _⟩
theorem rw_cut {s w : Int} {r : List Int} (h : Rw s r) (h1 : 1 - s ≤ w ∧ w ≤ s - 1 ∧ w ≠ 0) : ∃ l1 x y l2, Cut r w.natAbs l1 x y l2 := cut_is (by omega) (by have := h.len; omega)
theorem rw_swp {s w : Int} {r : List Int} (h : Rw s r) (h1 : 1 - s ≤ w ∧ w ≤ s - 1 ∧ w ≠ 0) : Rw s (swp r w) := by
  obtain ⟨l1, x, y, l2, c⟩ := rw_cut h h1
  rw [swp_cut c]
  exact ⟨by rw [c.perm.length_eq]; exact h.len, c.perm.trans h.perm⟩
theorem get_ints {ws : List Int} {j : Nat} {x : D} (h : (ws.map D.int)[j]? = some x) : ∃ w, ws[j]? = some w ∧ x = .int w := by
  rw [List.getElem?_map] at h
  cases e : ws[j]? with
  | none => rw [e] at h; cases h
  | some w => rw [e] at h; cases h; exact ⟨w, rfl, rfl⟩
def enm (n : Nat) (r : List Int) (k : Nat) : List Int := (List.range n).map fun (i : Nat) => if 1 + (i : Int) ∈ r.take k then ((r.idxOf (1 + (i : Int)) : Nat) : Int) + 1 else 0
theorem enm_len {n : Nat} {r : List Int} {k : Nat} : (enm n r k).length = n := by simp [enm]
theorem enm_step {n : Nat} {r : List Int} {k : Nat} {v : Int} (hd : r.Nodup) (hv : r[k]? = some v) (h1 : 1 ≤ v) (h2 : v ≤ n) : (enm n r k).set (v - 1).toNat ((k : Int) + 1) = enm n r (k + 1) := by
  have hk : k < r.length := (List.getElem?_eq_some_iff.mp hv).1
  have hvk : r[k] = v := (List.getElem?_eq_some_iff.mp hv).2
  refine List.ext_getElem (by simp [enm]) fun i a1 a2 => ?_
  have hi : i < n := by simpa [enm] using a2
  rw [List.getElem_set]
  have ht : r.take (k + 1) = r.take k ++ [v] := take_snoc hv
  split
  · rename_i e
    have e1 : 1 + (i : Int) = v := by omega
    have hx : r.idxOf v = k := by rw [← hvk]; exact hd.idxOf_getElem _ hk
    simp [enm, ht, e1, hx]
  · rename_i e
    have e1 : 1 + (i : Int) ≠ v := by omega
    simp [enm, ht, e1]
theorem rw_nd {s : Int} {r : List Int} (h : Rw s r) : r.Nodup := h.perm.nodup_iff.mpr (by
  refine List.Pairwise.map _ (R := fun a b => a ≠ b) (fun a b hab => ?_) List.nodup_range
  omega)
theorem rw_mem {s v : Int} {r : List Int} (h : Rw s r) : v ∈ r ↔ 1 ≤ v ∧ v ≤ s := by
  rw [h.perm.mem_iff]
  simp only [base, List.mem_map, List.mem_range]
  constructor
  · rintro ⟨i, hi, rfl⟩; omega
  · exact fun hv => ⟨(v - 1).toNat, by omega, by omega⟩
abbrev ens (s : Int) (r : List Int) : List Int := enm s.toNat r r.length
theorem get_en {xs : List D} {j : Nat} {x : D} (h : (enD 0 xs)[j]? = some x) : ∃ y, xs[j]? = some y ∧ x = .pt [.int j, y] := by
  have hl : j < xs.length := by
    have := (List.getElem?_eq_some_iff.mp h).1
    rwa [enD_len] at this
  have e := enD_get (n := 0) (List.getElem?_eq_getElem hl)
  rw [h] at e
  exact ⟨xs[j], List.getElem?_eq_getElem hl, by rw [Option.some.inj e, Nat.zero_add]⟩
theorem enm0 {n : Nat} {r : List Int} : (List.replicate n (.int 0) : List D) = (enm n r 0).map D.int := by
  apply List.ext_getElem <;> simp [enm]
theorem snoc_rec {P : List Int → Prop} (h0 : P []) (hs : ∀ ws w, P ws → P (ws ++ [w])) (ws : List Int) : P ws := by
  have key : ∀ us : List Int, P us.reverse := by
    intro us
    induction us with
    | nil => exact h0
    | cons u us ih => rw [List.reverse_cons]; exact hs _ _ ih
  rw [← List.reverse_reverse ws]
  exact key _
theorem cdv {i : Int} : CDiv i 1009 = True := eq_true ⟨by decide, by decide⟩
theorem cmr {i : Int} : CMul i 48271 = True := eq_true (.inr ⟨by decide, by decide⟩)
theorem cms {i : Int} : CMul i 16807 = True := eq_true (.inr ⟨by decide, by decide⟩)
theorem cml {i : Int} : CMul 69621 i = True := eq_true (.inl ⟨by decide, by decide⟩)
theorem p1009 : ((0 : Int) < 1009) = True := eq_true (by decide)
theorem pbig1 : ((0 : Int) < 2147483629) = True := eq_true (by decide)
theorem pbig2 : ((0 : Int) < 2147483647) = True := eq_true (by decide)
theorem pow18 : fPow (.int 10) (.int 18) = some (.int 1000000000000000000) := by
  have h : CPow 10 18 := ⟨by decide, by decide, by decide⟩
  show (if CPow 10 18 then some (D.int (10 ^ (18 : Int).toNat)) else none) = _
  rw [if_pos h]
  rfl
theorem snocI {ds : List Int} {x : Int} : ds.map D.int ++ [.int x] = (ds ++ [x]).map D.int := by simp
theorem rg_c {n : Nat} (h : n < 1000) : -(2 ^ 62) ≤ (0 : Int) ∧ (0 : Int) < 2 ^ 62 ∧ -(2 ^ 62) ≤ (n : Int) ∧ (n : Int) < 2 ^ 62 := by omega
theorem rg_i {n : Nat} {η : DD.Env} (h : n < 1000) : rgIt 0 n η = .ok { items := rgD 0 n } η := by
  unfold rgIt
  rw [if_pos (rg_c h), Int.sub_zero, Int.toNat_natCast]
theorem q_rg {rs : List Ref} {η : DD.Env} : rgIt1 rs η = match rdDs η rs with
  | some [.int hi] => rgIt 0 hi η
  | _ => .stuck := nr rfl
theorem rg_it {n : Nat} {k : Int} {η : DD.Env} (h : n < 1000) (hk : k = (n : Int)) : (mArgs [mC (.int k)] >>= rgIt1) η = .ok { items := rgD 0 n } η := by
  subst hk
  simp only [q_ok, q_err, q_stuck, q_okS, q_errS, q_stuckS, q_nx, q_rt, q_bk, q_ct, q_errN, q_bind, q_thenS, q_seq, q_if, q_ret, q_retN, q_expr, q_pass, q_no, q_brk, q_cnt, q_asg, q_setD, q_setL, q_setF, q_var, q_c, q_mret, q_rdv, q_rds, q_rdDv, q_rdDs, q_n1, q_n2, q_n3, q_n4, q_n5, q_ownv, q_owns, q_op2, q_op1, q_fin2, q_fin1, q_sub, q_neg, q_div, q_mod, q_add, q_addI, q_addL, q_addT, q_mul, q_mulI, q_mulL, q_cmp, q_ii, q_true, q_tru, q_finT, q_tbl, q_tint, q_tlst, q_not, q_and, q_or, q_mif, q_ix, q_ixT, q_ixP, q_ixL, q_ixF, q_args0, q_args1, q_tup, q_lst, q_rdDs0, q_rdDs1, q_call1, q_call2, q_abs, q_int, q_lenT, q_lenP, q_lenL, q_lenF, q_tupT, q_tupL, q_lstT, q_lstL, q_max, q_min, q_mut, q_mkF, q_mkT, q_store, q_gtup, q_gpt, q_each0, q_each1, q_append, q_pop, q_isa, q_finV, q_gisa, q_back, q_mint, q_asI, q_slL, q_slH, q_svT, q_svL, q_svF, q_rg1, q_rg2, q_lrg, q_trg, q_andV, q_notV, q_callD, List.set_cons_zero, List.set_cons_succ, List.getElem?_cons_zero, List.getElem?_cons_succ, List.getElem?_nil, List.length_cons, List.length_nil, List.length_set, List.length_map, List.length_append, List.filterMap_cons, List.filterMap_nil, List.map_nil, List.map_cons, List.append_nil, List.nil_append, List.cons_append, reduceIte, Bool.not_true, Bool.not_false, Bool.false_eq_true, Nat.reduceAdd, Nat.zero_add, Nat.reduceEqDiff, q_rg, rg_i h]
theorem rg_get {n j : Nat} {x : D} (h : (rgD 0 n)[j]? = some x) : j < n ∧ x = .int (j : Int) := by
  have hl : j < n := by
    have := (List.getElem?_eq_some_iff.mp h).1
    rwa [rgD_len] at this
  rw [rgD_get hl] at h
  cases h
  exact ⟨hl, by simp⟩
theorem atI_mod {ds : List Int} {z : Int} (h : ds ≠ []) : ∃ y, atI (ds.map D.int) (z % (ds.length : Int)) = some (.int y) := by
  have hp : 0 < ds.length := List.length_pos_iff.mpr h
  have h1 := Int.emod_nonneg z (show (ds.length : Int) ≠ 0 by omega)
  have h2 := Int.emod_lt_of_pos z (show 0 < (ds.length : Int) by omega)
  obtain ⟨k, hk⟩ : ∃ k : Nat, z % (ds.length : Int) = (k : Int) := ⟨(z % (ds.length : Int)).toNat, by omega⟩
  rw [hk] at h2 ⊢
  exact ⟨ds[k]'(by omega), by rw [atI_ok (by rw [List.length_map]; omega), List.getElem_map]⟩
theorem cut_hiI {xs : List D} {i : Int} (h : 0 ≤ i) : cutD xs none (some i) = xs.take i.toNat := by
  obtain ⟨k, rfl⟩ := Int.eq_ofNat_of_zero_le h
  exact cut_hi
theorem cdv2 {i : Int} : CDiv i 2 = True := eq_true ⟨by decide, by decide⟩
theorem p2t : ((0 : Int) < 2) = True := eq_true (by decide)
theorem mapTake {ns : List Int} {k : Nat} : (ns.map D.int).take k = (ns.take k).map D.int := by rw [List.map_take]
theorem mapApp {ns ms : List Int} : ns.map D.int ++ ms.map D.int = (ns ++ ms).map D.int := by rw [List.map_append]
theorem rep1 {ns : List Int} (hl : ns.length ≤ 70) (h : ∀ i ∈ ns, i.natAbs ≤ 1000) : gRepr (.d (.tup (ns.map D.int))) = some (.d (.str (D.tup (ns.map D.int)).py.shown)) :=
  gRepr_ok (n := 70) (k := 1) (sh_ints hl fun i hi => by
    have := h i hi
    have e : (10 : Nat) ^ 12 = 1000000000000 := by decide
    omega) (by decide) (by decide)
theorem rep2 {xs : List D} (hl : xs.length ≤ 70) (h : ∀ x ∈ xs, ∃ ns : List Int, x = .tup (ns.map D.int) ∧ ns.length ≤ 70 ∧ ∀ i ∈ ns, i.natAbs ≤ 1000) : gRepr (.d (.tup xs)) = some (.d (.str (D.tup xs).py.shown)) :=
  gRepr_ok (n := 70) (k := 2) (sh_tup hl fun x hx => by
    obtain ⟨ns, rfl, h1, h2⟩ := h x hx
    exact sh_ints h1 fun i hi => by
      have := h2 i hi
      have e : (10 : Nat) ^ 12 = 1000000000000 := by decide
      omega) (by decide) (by decide)
theorem repb {b : Bool} : gRepr (.d (.bl b)) = some (.d (.str (D.bl b).py.shown)) := gRepr_ok (n := 1) (k := 0) sh_bl (by decide) (by decide)
theorem ne_repr {A B : M Ref} {η η1 η2 : DD.Env} {rA rB : Ref} {a : D} {t : Str} (h1 : A η = .ok rA η1) (h2 : rd η1 rA = some (.d a)) (h3 : gRepr (.d a) = some (.d (.str t))) (h4 : B η1 = .ok rB η2) (h5 : rd η2 rB = some (.d a)) :
    mTrue (mCmpV (fun x y => (eqV2 x y).map (!·)) (mCall1 gRepr A) (mCall1 gRepr B)) η = .ok false η2 := by
  rw [q_true, q_cmp, q_call1, h1, q_ok, h2]
  simp only [h3, q_ok, q_bind, q_call1, h4, h5, q_rdv, DD.eq_str, decide_true, Option.map_some, Bool.not_true]
theorem eq_repr {A B : M Ref} {η η1 η2 : DD.Env} {rA rB : Ref} {a : D} {t : Str} (h1 : A η = .ok rA η1) (h2 : rd η1 rA = some (.d a)) (h3 : gRepr (.d a) = some (.d (.str t))) (h4 : B η1 = .ok rB η2) (h5 : rd η2 rB = some (.d a)) :
    mCmpV eqV2 (mCall1 gRepr A) (mCall1 gRepr B) η = .ok (.vl (.d (.bl true))) η2 := by
  rw [q_cmp, q_call1, h1, q_ok, h2]
  simp only [h3, q_ok, q_bind, q_call1, h4, h5, q_rdv, DD.eq_str, decide_true]
theorem or_no {a b : M Bool} {η η1 η2 : DD.Env} (h1 : a η = .ok false η1) (h2 : b η1 = .ok false η2) {n : MS} : sIf (mOrT a b) n sPass η = .nx η2 := by
  rw [q_if, q_or, h1, q_ok]
  simp only [Bool.false_eq_true, if_false, h2, q_okS, q_pass]
theorem one_no {a : M Bool} {η η1 : DD.Env} (h1 : a η = .ok false η1) {n : MS} : sIf a n sPass η = .nx η1 := by
  rw [q_if, h1]
  simp only [Bool.false_eq_true, if_false, q_okS, q_pass]
abbrev neq : Val → Val → Option Bool := fun x y => (eqV2 x y).map (!·)
theorem idx_ok {v : Int} : ∀ {r : List Int}, v ∈ r → (r.map D.int).findIdx? (fun z => eqF z (.int v)) = some (r.idxOf v)
  | [], h => by simp at h
  | a :: r, h => by
    have e : eqF (.int a) (.int v) = decide (a = v) := by
      show eqV (V.int a) (V.int v) = _
      unfold eqV
      rfl
    rw [List.map_cons, List.findIdx?_cons, e]
    by_cases q : a = v
    · subst q; simp
    · have h2 : v ∈ r := (List.mem_cons.mp h).resolve_left fun z => q z.symm
      rw [decide_eq_false q, if_neg Bool.false_ne_true, idx_ok h2, List.idxOf_cons]
      have e3 : (a == v) = false := by simpa using q
      rw [e3]
      rfl
theorem idxD_ok {v : Int} {r : List Int} (h : v ∈ r) : idxD (r.map D.int) (.int v) = some (r.idxOf v) := by
  unfold idxD
  rw [if_pos ⟨rfl, by rw [List.all_map]; exact List.all_eq_true.mpr fun _ _ => rfl⟩, idx_ok h]
theorem ens_map {s : Int} {r : List Int} (h : Rw s r) (hs : 0 ≤ s) : (base s).map (fun v => ((r.idxOf v : Nat) : Int) + 1) = ens s r := by
  unfold ens enm base
  rw [List.map_map]
  refine List.map_congr_left fun i hi => ?_
  have hm : 1 + (i : Int) ∈ r := (rw_mem h).mpr (by have := List.mem_range.mp hi; omega)
  simp [List.take_length, hm]
theorem turn_nx {t : Tg} {body : MS} {x : D} {η η1 η2 : DD.Env} (h1 : t (.d x) η = .nx η1) (h2 : body η1 = .nx η2) : turn1 t body x η = .nx η2 := by
  unfold turn1
  rw [h1]
  simp only [h2]
/-! loops that return amid the walk -/
theorem go_nil {it : ItD} {t : Tg} {body : MS} {η : DD.Env} (hp : it.pin = none) : forGo it t body [] η = .nx η := by
  unfold forGo
  rw [if_pos (by unfold ItD.ok; rw [hp]; trivial)]
theorem go_nx {it : ItD} {t : Tg} {body : MS} {x : D} {xs : List D} {η η2 : DD.Env} (hp : it.pin = none) (h1 : turn1 t body x η = .nx η2) : forGo it t body (x :: xs) η = forGo it t body xs η2 := by
  conv => lhs; unfold forGo
  rw [if_pos (by unfold ItD.ok; rw [hp]; trivial)]
  unfold turn1 at h1
  cases q : t (.d x) η with
  | nx η1 =>
    rw [q] at h1
    dsimp only at h1 ⊢
    cases q2 : body η1 with
    | nx η3 => rw [q2] at h1; cases h1; rfl
    | ct η3 => rw [q2] at h1; cases h1; rfl
    | _ => rw [q2] at h1; cases h1
  | _ => rw [q] at h1; cases h1
theorem go_rt {it : ItD} {t : Tg} {body : MS} {x : D} {xs : List D} {η η1 η2 : DD.Env} {r : Ref} (hp : it.pin = none) (h1 : t (.d x) η = .nx η1) (h2 : body η1 = .rt r η2) : forGo it t body (x :: xs) η = .rt r η2 := by
  unfold forGo
  rw [if_pos (by unfold ItD.ok; rw [hp]; trivial), h1]
  simp only [h2]
theorem sFor_go {mi : M ItD} {t : Tg} {body : MS} {η η0 : DD.Env} {it : ItD} (h : mi η = .ok it η0) (hp : it.pin = none) : sFor mi t body η = forGo it t body it.items η0 := by
  unfold sFor
  rw [h]
  dsimp only
  unfold SOut.freed ItD.free
  rw [hp]
  cases forGo it t body it.items η0 <;> rfl
theorem forGo_rt {it : ItD} {t : Tg} {body : MS} (hp : it.pin = none) {r : Ref} {η' : DD.Env} (I : Nat → DD.Env → Prop) : ∀ (xs : List D) (i n : Nat) (x : D) (η : DD.Env), I i η → xs[n]? = some x →
    (∀ j y η, j < n → xs[j]? = some y → I (i + j) η → ∃ η2, turn1 t body y η = .nx η2 ∧ I (i + j + 1) η2) → (∀ η, I (i + n) η → ∃ η1, t (.d x) η = .nx η1 ∧ body η1 = .rt r η') → forGo it t body xs η = .rt r η'
  | [], i, n, x, η, _, hn, _, _ => by simp at hn
  | z :: xs, i, 0, x, η, h0, hn, _, hr => by
    have hz : z = x := by simpa using hn
    subst hz
    obtain ⟨η1, h1, h2⟩ := hr η h0
    unfold forGo
    rw [if_pos (by unfold ItD.ok; rw [hp]; trivial), h1]
    simp only [h2]
  | z :: xs, i, n + 1, x, η, h0, hn, hs, hr => by
    obtain ⟨η2, h1, h2⟩ := hs 0 z η (Nat.succ_pos _) rfl h0
    have go := forGo_rt hp I xs (i + 1) n x η2 h2 (by simpa using hn) (fun j y η hj hy hI => by
      have := hs (j + 1) y η (by omega) (by simpa using hy) (by rw [show i + (j + 1) = i + 1 + j by omega]; exact hI)
      rw [show i + (j + 1) + 1 = i + 1 + j + 1 by omega] at this
      exact this) (fun η hI => hr η (by rw [show i + (n + 1) = i + 1 + n by omega]; exact hI))
    unfold forGo
    rw [if_pos (by unfold ItD.ok; rw [hp]; trivial)]
    unfold turn1 at h1
    cases q : t (.d z) η with
    | nx η1 =>
      rw [q] at h1
      dsimp only at h1 ⊢
      cases q2 : body η1 with
      | nx η3 => rw [q2] at h1; cases h1; exact go
      | ct η3 => rw [q2] at h1; cases h1; exact go
      | _ => rw [q2] at h1; cases h1
    | _ => rw [q] at h1; cases h1
theorem sFor_rt {mi : M ItD} {t : Tg} {body : MS} {η η0 η' : DD.Env} {it : ItD} {r : Ref} (h : mi η = .ok it η0) (hp : it.pin = none) (I : Nat → DD.Env → Prop) (h0 : I 0 η0) {n : Nat} {x : D} (hn : it.items[n]? = some x)
    (hs : ∀ j y η, j < n → it.items[j]? = some y → I j η → ∃ η2, turn1 t body y η = .nx η2 ∧ I (j + 1) η2) (hr : ∀ η, I n η → ∃ η1, t (.d x) η = .nx η1 ∧ body η1 = .rt r η') : sFor mi t body η = .rt r η' := by
  unfold sFor
  rw [h]
  dsimp only
  rw [forGo_rt hp I it.items 0 n x η0 h0 hn (fun j y η hj hy hI => by rw [Nat.zero_add] at hI ⊢; exact hs j y η hj hy hI) (fun η hI => hr η (by rw [Nat.zero_add] at hI; exact hI))]
  simp only [SOut.freed, ItD.free, hp]
end Kx


/-! Readings run forward: a predicate on what comes out, statement by statement. -/
namespace DD
open PySem PySem.Spec PyProof.Rows L2
open Classical

/-- the end of a loop's turn: the next turn's state, or what leaves the loop -/
def Turn {S : Type} (env : S → Env) (I : S → Prop) (B : Env → Prop) (R : SOut → Prop) : SOut → Prop
  | .nx η => ∃ s, η = env s ∧ I s
  | .ct η => ∃ s, η = env s ∧ I s
  | .bk η => B η
  | .rt r η => R (.rt r η)
  | .err e η => R (.err e η)
  | .stuck => False
theorem goR {it : ItD} {t : Tg} {body : MS} {Q : SOut → Prop} {S : Type} (env : S → Env) (I : Nat → S → Prop) (ok : ∀ s, it.ok (env s)) : ∀ (xs : List D) (i : Nat) (s : S), I i s →
    (∀ j x s, xs[j]? = some x → I (i + j) s → ∃ η1, t (.d x) (env s) = .nx η1 ∧ Turn env (I (i + j + 1)) (fun η => Q (.nx η)) Q (body η1)) → (∀ s, I (i + xs.length) s → Q (.nx (env s))) → Q (forGo it t body xs (env s))
  | [], i, s, h0, _, k => by unfold forGo; rw [if_pos (ok s)]; exact k s h0
  | x :: xs, i, s, h0, hs, k => by
    obtain ⟨η1, h1, h2⟩ := hs 0 x s rfl h0
    have nxt : ∀ η2, (∃ s, η2 = env s ∧ I (i + 0 + 1) s) → Q (forGo it t body xs η2) := by
      rintro η2 ⟨s2, rfl, h3⟩
      refine goR env I ok xs (i + 1) s2 h3 (fun j x s e h => ?_) fun s h => ?_
      · have := hs (j + 1) x s e (by rw [show i + (j + 1) = i + 1 + j by omega]; exact h)
        rw [show i + (j + 1) + 1 = i + 1 + j + 1 by omega] at this
        exact this
      · exact k s (by rw [List.length_cons, show i + (xs.length + 1) = i + 1 + xs.length by omega]; exact h)
    unfold forGo
    rw [if_pos (ok s), h1]
    dsimp only
    cases q : body η1 with
    | nx η2 => rw [q] at h2; exact nxt η2 h2
    | ct η2 => rw [q] at h2; exact nxt η2 h2
    | bk η2 => rw [q] at h2; exact h2
    | rt r η2 => rw [q] at h2; exact h2
    | err e η2 => rw [q] at h2; exact h2
    | stuck => rw [q] at h2; exact h2.elim
theorem freed_none {it : ItD} (hp : it.pin = none) (o : SOut) : o.freed it = o := by
  cases o <;> simp only [SOut.freed, ItD.free, hp]
/-- a loop over items that no slot holds -/
theorem sq_for {R : SOut → Prop} {mi : M ItD} {t : Tg} {body n : MS} {η : Env} {it : ItD} {S : Type} (env : S → Env) (I : Nat → S → Prop) (s0 : S) (h : mi η = .ok it (env s0)) (hp : it.pin = none) (h0 : I 0 s0)
    (hs : ∀ j x s, it.items[j]? = some x → I j s → ∃ η1, t (.d x) (env s) = .nx η1 ∧ Turn env (I (j + 1)) (fun η => R (n η)) R (body η1)) (k : ∀ s, I it.items.length s → R (n (env s))) : R (sSeq (sFor mi t body) n η) := by
  rw [q_seq]
  unfold sFor
  rw [h]
  dsimp only
  rw [freed_none hp]
  refine goR (Q := fun o => R (o.thenS n)) env I (fun _ => by unfold ItD.ok; rw [hp]; trivial) it.items 0 s0 h0 (fun j x s e h => ?_) fun s h => ?_
  · rw [Nat.zero_add] at h ⊢
    obtain ⟨η1, h1, h2⟩ := hs j x s e h
    refine ⟨η1, h1, ?_⟩
    cases q : body η1 with
    | _ => rw [q] at h2; exact h2
  · rw [Nat.zero_add] at h
    exact k s h
/-- a loop over a list in a slot, which is pinned -/
theorem sq_forP {R : SOut → Prop} {mi : M ItD} {t : Tg} {body n : MS} {η : Env} {it : ItD} {S : Type} (env : S → Env) (I : Nat → S → Prop) (s0 : S) (h : mi η = .ok it (env s0)) (ok : ∀ s, it.ok (env s)) (h0 : I 0 s0)
    (hs : ∀ j x s, it.items[j]? = some x → I j s → ∃ η1, t (.d x) (env s) = .nx η1 ∧ Turn env (I (j + 1)) (fun η => R (((SOut.nx η).freed it).thenS n)) (fun o => R ((o.freed it).thenS n)) (body η1)) (k : ∀ s, I it.items.length s → R (((SOut.nx (env s)).freed it).thenS n)) : R (sSeq (sFor mi t body) n η) := by
  rw [q_seq]
  unfold sFor
  rw [h]
  dsimp only
  refine goR (Q := fun o => R ((o.freed it).thenS n)) env I ok it.items 0 s0 h0 (fun j x s e h => ?_) fun s h => ?_
  · rw [Nat.zero_add] at h ⊢
    obtain ⟨η1, h1, h2⟩ := hs j x s e h
    refine ⟨η1, h1, ?_⟩
    cases q : body η1 with
    | _ => rw [q] at h2; exact h2
  · rw [Nat.zero_add] at h
    exact k s h
theorem free_nx {j : Nat} {b : Bool} {xs : List D} {η : Env} (h : η[j]? = some (some (.pin b xs))) : (SOut.nx η).freed { items := xs, pin := some j, undo := true, bor := b, src := xs } = .nx (η.set j (some (mkL b xs))) := by
  simp only [SOut.freed, ItD.free, h, if_true]
theorem free_rt {j : Nat} {b : Bool} {xs : List D} {η : Env} {r : Ref} (h : η[j]? = some (some (.pin b xs))) : (SOut.rt r η).freed { items := xs, pin := some j, undo := true, bor := b, src := xs } = .rt r (η.set j (some (mkL b xs))) := by
  simp only [SOut.freed, ItD.free, h, if_true]
/-- while -/
theorem whR {c : M Bool} {body n : MS} {R : SOut → Prop} {S : Type} (env : S → Env) (I : S → Prop) (μ : S → Nat)
    (hs : ∀ s, I s → (∃ η1, c (env s) = .ok false η1 ∧ R (n η1)) ∨ ∃ η1, c (env s) = .ok true η1 ∧ Turn env (fun s' => I s' ∧ μ s' < μ s) (fun η => R (n η)) R (body η1)) :
    ∀ (k : Nat) (s : S), I s → μ s < k → whileN c body k (env s) ≠ .stuck ∧ R ((whileN c body k (env s)).thenS n)
  | 0, s, _, hm => by omega
  | k + 1, s, h0, hm => by
    unfold whileN
    rcases hs s h0 with ⟨η1, h1, h2⟩ | ⟨η1, h1, h2⟩
    · rw [h1]; exact ⟨fun z => (by cases z), h2⟩
    · rw [h1]
      dsimp only
      have nxt : ∀ η2, (∃ s', η2 = env s' ∧ I s' ∧ μ s' < μ s) → whileN c body k η2 ≠ .stuck ∧ R ((whileN c body k η2).thenS n) := by
        rintro η2 ⟨s2, rfl, h3, h4⟩
        exact whR env I μ hs k s2 h3 (by omega)
      cases q : body η1 with
      | nx η2 => rw [q] at h2; exact nxt η2 h2
      | ct η2 => rw [q] at h2; exact nxt η2 h2
      | bk η2 => rw [q] at h2; exact ⟨fun z => (by cases z), h2⟩
      | rt r η2 => rw [q] at h2; exact ⟨fun z => (by cases z), h2⟩
      | err e η2 => rw [q] at h2; exact ⟨fun z => (by cases z), h2⟩
      | stuck => rw [q] at h2; exact h2.elim
theorem sq_while {R : SOut → Prop} {c : M Bool} {body n : MS} {η : Env} {S : Type} (env : S → Env) (I : S → Prop) (μ : S → Nat) (s0 : S) (h : η = env s0) (h0 : I s0)
    (hs : ∀ s, I s → (∃ η1, c (env s) = .ok false η1 ∧ R (n η1)) ∨ ∃ η1, c (env s) = .ok true η1 ∧ Turn env (fun s' => I s' ∧ μ s' < μ s) (fun η => R (n η)) R (body η1)) : R (sSeq (sWhile c body) n η) := by
  subst h
  obtain ⟨h1, h2⟩ := whR env I μ hs (μ s0 + 1) s0 h0 (Nat.lt_succ_self _)
  rw [q_seq, sWhile_eq rfl h1]
  exact h2
theorem sq {R : SOut → Prop} {a b : MS} {η η' : Env} (h : a η = .nx η') (k : R (b η')) : R (sSeq a b η) := by rw [q_seq, h]; exact k
theorem sq_any {R : SOut → Prop} {a b : MS} {η : Env} {o : SOut} (h : a η = o) (k : R (o.thenS b)) : R (sSeq a b η) := by rw [q_seq, h]; exact k
theorem sq_one {R : SOut → Prop} {a : MS} {η : Env} {o : SOut} (h : a η = o) (k : R o) : R (a η) := by rw [h]; exact k
theorem sq_rt {R : SOut → Prop} {a b : MS} {η η' : Env} {r : Ref} (h : a η = .rt r η') (k : R (.rt r η')) : R (sSeq a b η) := by rw [q_seq, h]; exact k
theorem sq_as {R : SOut → Prop} {a b c : MS} {η : Env} (k : R (sSeq a (sSeq b c) η)) : R (sSeq (sSeq a b) c η) := by
  have e : sSeq (sSeq a b) c η = sSeq a (sSeq b c) η := by
    rw [q_seq, q_seq, q_seq]
    cases a η with
    | nx η' => rw [q_nx, q_nx, q_seq]
    | _ => rfl
  rw [e]; exact k
theorem sq_t {R : SOut → Prop} {c : M Bool} {a b n : MS} {η η' : Env} (h : c η = .ok true η') (k : R (sSeq a n η')) : R (sSeq (sIf c a b) n η) := by
  have e : sSeq (sIf c a b) n η = sSeq a n η' := by rw [q_seq, q_if, h, q_okS, if_pos rfl, q_seq]
  rw [e]; exact k
theorem sq_f {R : SOut → Prop} {c : M Bool} {a b n : MS} {η η' : Env} (h : c η = .ok false η') (k : R (sSeq b n η')) : R (sSeq (sIf c a b) n η) := by
  have e : sSeq (sIf c a b) n η = sSeq b n η' := by rw [q_seq, q_if, h, q_okS, if_neg Bool.false_ne_true, q_seq]
  rw [e]; exact k
theorem sq_last {R : SOut → Prop} {a : MS} {η : Env} (k : R (sSeq a (fun η => .nx η) η)) : R (a η) := by
  have e : sSeq a (fun η => .nx η) η = a η := by rw [q_seq]; cases a η <;> rfl
  rw [← e]; exact k
/-- a comprehension whose items change slots -/
theorem lcGo_run {it : ItD} {vs : List Nat} {t : Tg} {c : M Bool} {el : M Ref} {S : Type} (env : S → Env) (I : Nat → List D → S → Prop) (hp : it.pin = none) : ∀ (xs acc : List D) (i : Nat) (s : S), acc.length + xs.length ≤ sizeLine → I i acc s →
    (∀ j x acc s, xs[j]? = some x → I (i + j) acc s → ∃ η1, t (.d x) (wipeE (env s) vs) = .nx η1 ∧ ((∃ η2 s', c η1 = .ok false η2 ∧ wipeE η2 vs = env s' ∧ I (i + j + 1) acc s') ∨
      ∃ η2 r η3 y s', c η1 = .ok true η2 ∧ el η2 = .ok r η3 ∧ rdD η3 r = some y ∧ wipeE η3 vs = env s' ∧ I (i + j + 1) (acc ++ [y]) s')) →
    ∃ acc' s', lcGo it vs t c el xs acc (env s) = .ok acc' (env s') ∧ I (i + xs.length) acc' s'
  | [], acc, i, s, _, h0, _ => ⟨acc, s, by unfold lcGo; rw [if_pos (by unfold ItD.ok; rw [hp]; trivial)], h0⟩
  | x :: xs, acc, i, s, hl, h0, hs => by
    have ok : it.ok (env s) := by unfold ItD.ok; rw [hp]; trivial
    rw [List.length_cons] at hl
    obtain ⟨η1, h1, h2⟩ := hs 0 x acc s rfl h0
    have nxt : ∀ acc' s', acc'.length ≤ acc.length + 1 → I (i + 0 + 1) acc' s' → ∃ acc2 s2, lcGo it vs t c el xs acc' (env s') = .ok acc2 (env s2) ∧ I (i + (x :: xs).length) acc2 s2 := fun acc' s' hl2 h3 => by
      obtain ⟨a2, s2, k1, k2⟩ := lcGo_run env I hp xs acc' (i + 1) s' (by omega) h3 fun j y a z e h => by
        have := hs (j + 1) y a z e (by rw [show i + (j + 1) = i + 1 + j by omega]; exact h)
        rw [show i + (j + 1) + 1 = i + 1 + j + 1 by omega] at this
        exact this
      exact ⟨a2, s2, k1, by rw [List.length_cons, show i + (xs.length + 1) = i + 1 + xs.length by omega]; exact k2⟩
    unfold lcGo
    rw [if_pos ok, h1]
    dsimp only
    rcases h2 with ⟨η2, s', c1, w1, h3⟩ | ⟨η2, r, η3, y, s', c1, e1, d1, w1, h3⟩
    · rw [c1]
      dsimp only
      rw [w1]
      exact nxt _ _ (by omega) h3
    · rw [c1]
      dsimp only
      rw [e1]
      dsimp only
      rw [d1]
      dsimp only
      rw [if_pos (by omega), w1]
      exact nxt _ _ (by rw [List.length_append, List.length_singleton]; omega) h3
theorem lc_run {mi : M ItD} {vs : List Nat} {t : Tg} {c : M Bool} {el : M Ref} {η η1 : Env} {it : ItD} {S : Type} (env : S → Env) (I : Nat → List D → S → Prop) (s0 : S) (h : mi η = .ok it η1) (he : wipeE η1 vs = env s0) (hp : it.pin = none) (hl : it.items.length ≤ sizeLine) (h0 : I 0 [] s0)
    (hs : ∀ j x acc s, it.items[j]? = some x → I j acc s → ∃ η1, t (.d x) (wipeE (env s) vs) = .nx η1 ∧ ((∃ η2 s', c η1 = .ok false η2 ∧ wipeE η2 vs = env s' ∧ I (j + 1) acc s') ∨
      ∃ η2 r η3 y s', c η1 = .ok true η2 ∧ el η2 = .ok r η3 ∧ rdD η3 r = some y ∧ wipeE η3 vs = env s' ∧ I (j + 1) (acc ++ [y]) s')) :
    ∃ acc s, mLc mi vs t c el η = .ok (.vl (.l acc)) (env s) ∧ I it.items.length acc s := by
  obtain ⟨acc, s, h1, h2⟩ := lcGo_run (t := t) (c := c) (el := el) (vs := vs) env I hp it.items [] 0 s0 (by simpa using hl) h0 (fun j x a s e h => by
    rw [Nat.zero_add] at h ⊢
    exact hs j x a s e h)
  rw [Nat.zero_add] at h2
  refine ⟨acc, s, ?_, h2⟩
  unfold mLc
  rw [h]
  dsimp only
  rw [he, h1]
  simp only [lcEnd, ItD.free, hp]
/-- a predicate as a name -/
theorem as_R {Q : SOut → Prop} {o : SOut} (h : ∀ R : SOut → Prop, (∀ o, Q o → R o) → R o) : Q o := h Q fun _ => id
/-- a def: what is asked of its outcome -/
theorem fn_R {Q : FRes → Prop} {n N : Nat} {m : MS} {xs : List Val} (h : ∀ R : SOut → Prop, (∀ o, Q (o.fin xs) → R o) → R (m (xs.map some ++ List.replicate (N - n) none))) : ∀ r, fnD n N m xs = r → Q r := fun _ e => e ▸ h (fun o => Q (o.fin xs)) fun _ => id
theorem sq_go {R : SOut → Prop} {a b : MS} {η : Env} (k : R ((a η).thenS b)) : R (sSeq a b η) := by rw [q_seq]; exact k
theorem go_nx' {R : SOut → Prop} {b : MS} {η : Env} (k : R (b η)) : R ((SOut.nx η).thenS b) := k
theorem go_rt' {R : SOut → Prop} {b : MS} {η : Env} {r : Ref} (k : R (.rt r η)) : R ((SOut.rt r η).thenS b) := k
theorem go_err' {R : SOut → Prop} {b : MS} {η : Env} {e : Exn} (k : R (.err e η)) : R ((SOut.err e η).thenS b) := k
end DD


/-! x[i] += e, x *= e. -/
namespace DD
open PySem PySem.Spec PyProof.Rows L2
open Classical
section
variable {X : Cx} {W : WX} {b e : Expr} {mi me : M Ref} {pos : Pos} {x : Str}
theorem get_list : PGet X (rIxL X.K) := by
  intro pins s σ H o i ov iv Q I rx ry h
  obtain ⟨p, xs, i, z, rfl, rfl, hq, he, q⟩ := h
  cases rx
  obtain ⟨t, rfl⟩ := ry
  obtain ⟨its, r, pl, hz⟩ := I.list hq
  obtain ⟨j, h1, h2, h3, h4, h5⟩ := atI_get he
  obtain ⟨w, ew, rw'⟩ := r.get h2
  have hl := r.length
  have hn := line63
  have fin : EP X pins σ Q w s := ⟨z, H, I, rw', q⟩
  by_cases h0 : 0 ≤ i
  · have hj : i.toNat = j := by
      rw [seqIndex_of h0 h5] at h1
      exact Option.some.inj h1
    exact wpAny_getItem_list pl.isList h0 (by omega) (by rw [hj]; simpa using ew) fin
  · have hj : (i + (its.toArray.size : Int)).toNat = j := by
      rw [seqIndex_neg (by omega) h4] at h1
      rw [List.size_toArray, ← hl]
      exact Option.some.inj h1
    exact wpAny_getItem_list_neg pl.isList (by omega) (by rw [List.size_toArray] <;> omega) (by omega) (by rw [hj]; simpa using ew) fin
/-- x[i] op= e -/
def sAugS (f : D → D → Option D) (j : Nat) (mi me : M Ref) : MS := fun η => match η[j]? with
  | some (some _) => (mi.thenS fun r1 η1 => match rdD η1 r1, mutL η1 j with
    | some (.int n), some (_, xs) => (match atI xs n with
      | some a => (me.thenS fun r2 η2 => match rdD η2 r2, mutL η2 j with
        | some y, some (b, ys) => (match f a y, ixN ys.length n with
          | some z, some t => .nx (η2.set j (some (mkL b (ys.set t z))))
          | _, _ => .stuck)
        | _, _ => .stuck) η1
      | none => .stuck)
    | _, _ => .stuck) η
  | _ => .stuck
theorem ds_augS {j : Nat} {pn tpos : Pos} {op : Operator} {f : D → D → Option D} {rr : R2} (ho : OpR X (inplaceOp op) rr) (hk : ∀ H v w x y z Q, Rp X.K H v x → Rp X.K H w y → f x y = some z → (∀ u, Rp X.K H u z → Q u H) → rr v w H Q)
    (hN : X.N[j]? = some x) (hv : Vis X.env.scope x) (hb : DE X W b mi) (he : DE X W e me)
    (ha : ∀ ov iv new, augStore b ov iv new = (do holding [new, ov, iv] (setItem ov iv new); release [new, ov, iv] []; pure .next) := by intros; rfl) (hd : (x == ("__debug__" : Str)) = false := by decide) (hcd : (x == ("__classdict__" : Str)) = false := by decide) :
    DS X W (.AugAssign (.Subscript (.Name x pn) b tpos) op e pos) (sAugS f j mi me) :=
  ps_mono (ps_augS (tip := rr) (pe_var (i := j) hN hv hd hcd) hb get_list he (fun pins s σ H x y v u Q I rx ry q => ho pins s σ H x y v u Q I rx ry q) set_list ha) fun E σ H ⟨ρ, η, φ, r, p⟩ => by
    unfold sAugS at p
    split at p
    · rename_i y0 hy
      obtain ⟨v', h1, h2⟩ := r.rep j y0 hy
      refine ⟨v', h1, ?_⟩
      refine tE_mono (fun iv H2 ⟨r2, η2, φ2, f2, at2, q⟩ => ?_) ((At.start r).stepS p)
      split at q
      · rename_i n b0 xs hn hx
        split at q
        · rename_i a hat
          obtain ⟨l, vs, s1, s2, s3, _⟩ := at2.putL (ys := xs) hx
          rw [h1] at s1
          cases s1
          have hiv := dp_int (at2.getD in0 hn)
          obtain ⟨va, e1, e2⟩ := atI_dps s3 hat
          refine ⟨l, vs, n, va, rfl, hiv, .inl (.inl s2), e1, ?_⟩
          have at3 := at2.hold (r := .vl (.d a)) (v := va) (f := none_) at2.rep ⟨e2, fun _ => id⟩ (fun _ z => z.elim) (Ext.refl _ _) fun b hb => hb.elim (fun z => z.elim) .inl
          refine tE_mono (fun w H4 ⟨r4, η4, φ4, f4, at4, q⟩ => ?_) (at3.stepS q)
          split at q
          · rename_i y b ys hy4 hx4
            split at q
            · rename_i z t hz ht
              refine hk _ _ _ _ _ _ _ (at4.getD in1 rfl) (at4.getD in0 hy4) hz fun u hu => ?_
              obtain ⟨l', vs', s1, s2', s3', s4⟩ := at4.putL (ys := ys.set t z) hx4
              rw [h1] at s1
              cases s1
              refine ⟨l, vs', n, t, rfl, hiv, s2', by rw [dps_len s3']; exact ht, ?_⟩
              exact (s4 _ (dps_set t s3' hu)).nx q
            · exact q.elim
          · exact q.elim
        · exact q.elim
      · exact q.elim
    · exact p.elim
theorem iop_addC : OpR X (inplaceOp .Add) (rI CT fun i j => .int (i + j)) := fun pins s σ H x y v u Q I rx ry ⟨i, j, e1, e2, _, q⟩ => iop_add pins s σ H x y v u Q I rx ry ⟨i, j, e1, e2, q⟩
noncomputable def fAddI : D → D → Option D := onI CT fun i j => .int (i + j)
noncomputable def fSubI : D → D → Option D := onI CT fun i j => .int (i - j)
noncomputable def fMulI : D → D → Option D := onI CMul fun i j => .int (i * j)
theorem hk_I {C : Int → Int → Prop} [∀ i j, Decidable (C i j)] {gd : Int → Int → Int} : ∀ H v w x y z Q, Rp X.K H v x → Rp X.K H w y → onI C (fun i j => .int (gd i j)) x y = some z → (∀ u, Rp X.K H u z → Q u H) → (rI C fun i j => .int (gd i j)) v w H Q := fun H v w x y z Q h1 h2 h3 q => by
  obtain ⟨i, j, rfl, rfl, hc, rfl⟩ := onI_some h3
  rw [dp_int h1, dp_int h2]
  exact ⟨i, j, rfl, rfl, hc, q _ int_dp⟩
theorem ds_augSA {j : Nat} {pn tpos : Pos} (_nd : X.N.Nodup) (hN : X.N[j]? = some x) (hv : Vis X.env.scope x) (hb : DE X W b mi) (he : DE X W e me)
    (ha : ∀ ov iv new, augStore b ov iv new = (do holding [new, ov, iv] (setItem ov iv new); release [new, ov, iv] []; pure .next) := by intros; rfl) (hd : (x == ("__debug__" : Str)) = false := by decide) (hcd : (x == ("__classdict__" : Str)) = false := by decide) :
    DS X W (.AugAssign (.Subscript (.Name x pn) b tpos) .Add e pos) (sAugS fAddI j mi me) := ds_augS iop_addC hk_I hN hv hb he ha hd hcd
theorem ds_augSS {j : Nat} {pn tpos : Pos} (_nd : X.N.Nodup) (hN : X.N[j]? = some x) (hv : Vis X.env.scope x) (hb : DE X W b mi) (he : DE X W e me)
    (ha : ∀ ov iv new, augStore b ov iv new = (do holding [new, ov, iv] (setItem ov iv new); release [new, ov, iv] []; pure .next) := by intros; rfl) (hd : (x == ("__debug__" : Str)) = false := by decide) (hcd : (x == ("__classdict__" : Str)) = false := by decide) :
    DS X W (.AugAssign (.Subscript (.Name x pn) b tpos) .Sub e pos) (sAugS fSubI j mi me) := ds_augS iop_subC hk_I hN hv hb he ha hd hcd
theorem ds_augM {i : Nat} {pos' : Pos} (hN : X.N.Nodup) (hi : X.N[i]? = some x) (hx : Loc X.env.scope x) (he : DE X W e me) (hf : X.fn x = true ∨ X.env.scope.names.lookup x = some .local := by first | exact .inl rfl | exact .inr rfl | assumption) :
    DS X W (.AugAssign (.Name x pos') .Mult e pos) (sAug fMulI i me) := ds_augI iop_mul hN hi hx he hf
end
section
variable {mi me m : M Ref} {η : Env} {i j : Nat}
@[simp] theorem q_fAddI {i j : Int} : fAddI (.int i) (.int j) = some (.int (i + j)) := nr (if_pos (c := CT i j) (e := none) trivial)
@[simp] theorem q_fSubI {i j : Int} : fSubI (.int i) (.int j) = some (.int (i - j)) := nr (if_pos (c := CT i j) (e := none) trivial)
@[simp] theorem q_fMulI {i j : Int} : fMulI (.int i) (.int j) = if CMul i j then some (.int (i * j)) else none := nr (by show (if CMul i j then _ else _) = _; congr)
@[simp] theorem q_augS {f : D → D → Option D} : sAugS f j mi me η = match η[j]? with
  | some (some _) => (mi η).thenS fun r1 η1 => match rdD η1 r1, mutL η1 j with
    | some (.int n), some (_, xs) => (match atI xs n with
      | some a => (me η1).thenS fun r2 η2 => match rdD η2 r2, mutL η2 j with
        | some y, some (b, ys) => (match f a y, ixN ys.length n with
          | some z, some t => .nx (η2.set j (some (mkL b (ys.set t z))))
          | _, _ => .stuck)
        | _, _ => .stuck
      | none => .stuck)
    | _, _ => .stuck
  | _ => .stuck := by
  unfold sAugS
  rcases η[j]? with _ | _ | v
  · rfl
  · rfl
  · show M.thenS mi _ η = _
    rw [q_thenS]
    congr 1
end
end DD


/-! * and // of long numbers; more of what is shown and compared. -/
namespace DD
open PySem PySem.Spec PyProof.Rows L2
open Classical
section
variable {X : Cx} {W : WX} {a b : Expr} {m1 m2 : M Ref} {pos : Pos}
def CMulG (i j : Int) : Prop := CMul i j ∨ CMulW i j
def CDivG (i j : Int) : Prop := CDiv i j ∨ CDivW i j
noncomputable def mulG (η : Env) (x y : Val) : Out Ref := match x, y with
  | .d (.int i), .d (.int j) => if CMulG i j then .ok (.vl (.d (.int (i * j)))) η else .stuck
  | x, y => mulV η x y
noncomputable def mMulG (m1 m2 : M Ref) : M Ref := m1 >>= fun r1 => m2 >>= fun r2 => fun η => match rd η r1, rd η r2 with
  | some x, some y => mulG η x y
  | _, _ => .stuck
theorem de_mulG (ha : DE X W a m1) (hb : DE X W b m2) : DE X W (.BinOp a .Mult b pos) (mMulG m1 m2) :=
  de_two (rr := _) (fun _ _ p q => pe_op (((op_mul.or op_mulW).or op_rep).or op_repT) p q) ha hb fun ρ σ H Q η φ A H₀ r1 v1 f1 r2 v2 f2 at_ p => by
    obtain ⟨x, y, q1, q2, p⟩ := of_rd2 p
    obtain ⟨g1, h1, _⟩ := at_.get in1 q1
    obtain ⟨g2, h2, _⟩ := at_.get in0 q2
    unfold mulG at p
    split at p
    · split at p
      · rename_i hc
        rw [dp_int h1.1, dp_int h2.1]
        rcases hc with hc | hc
        · exact .inl (.inl (.inl ⟨_, _, rfl, rfl, hc, at_.data p int_dp⟩))
        · exact .inl (.inl (.inr ⟨_, _, rfl, rfl, hc, at_.data p int_dp⟩))
      · exact p.elim
    · unfold mulV at p
      split at p
      · split at p
        · rw [dp_int h1.1, dp_int h2.1]
          exact .inl (.inl (.inl ⟨_, _, rfl, rfl, by assumption, at_.data p int_dp⟩))
        · exact p.elim
      · split at p
        · rename_i hz
          obtain ⟨a1, vs, rfl, t1, d1⟩ := repV_l h1
          rw [dp_int h2.1]
          exact .inl (.inr ⟨a1, _, vs, rfl, rfl, t1, hz.1, hz.2.1, by rw [dps_len d1]; exact hz.2.2, fun l hl => at_.madeL p hl (dps_rep d1 _)⟩)
        · exact p.elim
      · split at p
        · rename_i hz
          obtain ⟨a1, vs, rfl, t1, d1⟩ := dp_tupN h1.1
          rw [dp_int h2.1]
          exact .inr ⟨a1, _, vs, rfl, rfl, t1.t, fun z => hz.1 ((nil_of_dps d1).mp z), hz.2.1, hz.2.2.1, by rw [dps_len d1]; exact hz.2.2.2, fun l hl => at_.madeP p hl (dps_rep d1 _)⟩
        · exact p.elim
      · exact p.elim
noncomputable def fDivG : D → D → Option D := onI CDivG fun i j => .int (i / j)
theorem op_fdivG : OpR X (binaryOp .FloorDiv) (rI CDivG fun i j => .int (i / j)) := fun pins s σ H x y v u Q I rx ry ⟨i, j, e1, e2, hc, q⟩ => by
  rcases hc with hc | hc
  · exact op_fdiv pins s σ H x y v u Q I rx ry ⟨i, j, e1, e2, hc, q⟩
  · exact op_fdivW pins s σ H x y v u Q I rx ry ⟨i, j, e1, e2, hc, q⟩
theorem de_fdivG (ha : DE X W a m1) (hb : DE X W b m2) : DE X W (.BinOp a .FloorDiv b pos) (mOp2 fDivG m1 m2) := de_opI op_fdivG (fun i j H Q hc q => ⟨i, j, rfl, rfl, hc, q _ int_dp⟩) ha hb
end
section
variable {m1 m2 : M Ref} {η : Env}
@[simp] theorem q_mulG : mMulG m1 m2 η = (m1 η).bind fun r1 => m2 >>= fun r2 => fun η => match rd η r1, rd η r2 with
  | some x, some y => mulG η x y
  | _, _ => .stuck := nr rfl
@[simp] theorem q_mulGI {i j : Int} : mulG η (.d (.int i)) (.d (.int j)) = if CMulG i j then .ok (.vl (.d (.int (i * j)))) η else .stuck := nr rfl
@[simp] theorem q_mulGL {x : List D} {k : Int} : mulG η (.l x) (.d (.int k)) = if -(2 ^ 63) ≤ k ∧ k < 2 ^ 63 ∧ x.length * k.toNat ≤ sizeLine then .ok (.vl (.l (List.replicate k.toNat x).flatten)) η else .stuck := nr (by show mulV η (.l x) (.d (.int k)) = _; exact q_mulL)
@[simp] theorem q_divG {i j : Int} : fDivG (.int i) (.int j) = if CDivG i j then some (.int (i / j)) else none := nr (by show (if _ then _ else _) = _; congr)
end
theorem ifl_t {R : SOut → Prop} {c : M Bool} {a b : MS} {η η' : Env} (h : c η = .ok true η') (k : R (a η')) : R (sIf c a b η) := by rw [q_if, h, q_okS, if_pos rfl]; exact k
theorem ifl_f {R : SOut → Prop} {c : M Bool} {a b : MS} {η η' : Env} (h : c η = .ok false η') (k : R (b η')) : R (sIf c a b η) := by rw [q_if, h, q_okS, if_neg Bool.false_ne_true]; exact k
theorem sq_in {R : SOut → Prop} {a n : MS} {η : Env} (h : ∀ R' : SOut → Prop, (∀ o, R (o.thenS n) → R' o) → R' (a η)) : R (sSeq a n η) := by rw [q_seq]; exact h (fun o => R (o.thenS n)) fun _ => id
/-! what can be compared -/
def Lay (k : Nat) (x : D) : Prop := PyData.canLay0 x.py = true ∧ PyData.depth x.py ≤ k
theorem lay_all {k : Nat} : ∀ {xs : List D}, (∀ x ∈ xs, Lay k x) → PyData.canLayAll0 (D.pys xs) = true ∧ PyData.depthAll (D.pys xs) ≤ k
  | [], _ => ⟨rfl, Nat.zero_le _⟩
  | x :: xs, h => by
    obtain ⟨h1, h2⟩ := lay_all fun y hy => h y (List.mem_cons_of_mem _ hy)
    obtain ⟨h3, h4⟩ := h x List.mem_cons_self
    constructor
    · simp only [D.pys, PyData.canLayAll0, h1, h3]; rfl
    · simp only [D.pys, PyData.depthAll]; exact Nat.max_le.mpr ⟨h4, h2⟩
theorem lay_tup {k : Nat} {xs : List D} (h : ∀ x ∈ xs, Lay k x) : Lay (k + 1) (.tup xs) := by
  obtain ⟨h1, h2⟩ := lay_all h
  exact ⟨by simp only [D.py, PyData.canLay0, h1], by simp only [D.py, PyData.depth]; omega⟩
theorem lay_up {k l : Nat} {x : D} (h : Lay k x) (hl : k ≤ l) : Lay l x := ⟨h.1, by have := h.2; omega⟩
theorem lay_str {k : Nat} {z : Str} (h : PyData.strOk z = true) : Lay k (.str z) := ⟨h, Nat.zero_le _⟩
theorem lay_int {k : Nat} {i : Int} : Lay k (.int i) := ⟨rfl, Nat.zero_le _⟩
theorem lay_bl {k : Nat} {b : Bool} : Lay k (.bl b) := ⟨rfl, Nat.zero_le _⟩
theorem lay_non {k : Nat} : Lay k .non := ⟨rfl, Nat.zero_le _⟩
theorem lay_ints {k : Nat} {ns : List Int} : Lay (k + 1) (.tup (ns.map D.int)) := lay_tup fun x hx => by
  obtain ⟨i, _, rfl⟩ := List.mem_map.mp hx
  exact lay_int
theorem lay_shT {k : Nat} {x : D} (h : Lay k x) (hk : k ≤ 20) : SeqAt.shaped x.py = true := by
  unfold SeqAt.shaped
  rw [h.1, Bool.true_and]
  have := h.2
  exact decide_eq_true (by omega)
theorem lay_shL {k : Nat} {xs : List D} (h : ∀ x ∈ xs, Lay k x) (hk : k ≤ 19) : SeqAt.shaped (.list (D.pys xs)) = true := by
  obtain ⟨h1, h2⟩ := lay_all h
  unfold SeqAt.shaped
  simp only [PyData.canLay0, PyData.depth, h1, Bool.true_and]
  exact decide_eq_true (by omega)
theorem lay_eqL0 {k : Nat} {xs : List D} (h : ∀ x ∈ xs, Lay k x) (hk : k ≤ 19) : eqV2 (.l xs) (.l []) = some xs.isEmpty := by
  show eqDeep (.l xs) (.l []) = _
  unfold eqDeep
  simp only [Val.py?]
  rw [if_pos ⟨lay_shL h hk, rfl⟩]
  cases xs <;> rfl
/-- two tuples, compared -/
theorem lay_eqT {k : Nat} {xs ys : List D} (hx : ∀ x ∈ xs, Lay k x) (hy : ∀ x ∈ ys, Lay k x) (hk : k ≤ 19) : eqV2 (.d (.tup xs)) (.d (.tup ys)) = some (PyData.eqvAll (D.pys xs) (D.pys ys)) := by
  show eqDeep (.d (.tup xs)) (.d (.tup ys)) = _
  unfold eqDeep
  simp only [Val.py?]
  rw [if_pos ⟨lay_shT (lay_tup hx) (by omega), lay_shT (lay_tup hy) (by omega)⟩]
  simp only [D.py, PyData.eqv]
theorem lay_eqL {k : Nat} {xs ys : List D} (hx : ∀ x ∈ xs, Lay k x) (hy : ∀ x ∈ ys, Lay k x) (hk : k ≤ 19) : eqV2 (.l xs) (.l ys) = some (PyData.eqvAll (D.pys xs) (D.pys ys)) := by
  show eqDeep (.l xs) (.l ys) = _
  unfold eqDeep
  simp only [Val.py?]
  rw [if_pos ⟨lay_shL hx hk, lay_shL hy hk⟩]
  simp only [PyData.eqv]
theorem lay_eqT0 {k : Nat} {xs : List D} (h : ∀ x ∈ xs, Lay k x) (hk : k ≤ 19) : eqV2 (.d (.tup xs)) (.d (.tup [])) = some xs.isEmpty := by
  rw [lay_eqT h (by simp) hk]
  cases xs <;> rfl
mutual
theorem eqv_self : ∀ x : D, PyData.eqv x.py x.py = true
  | .non => rfl
  | .bl b => by cases b <;> rfl
  | .int i => by simp [D.py, PyData.eqv]
  | .str z => by simp [D.py, PyData.eqv]
  | .tup xs => by simp only [D.py, PyData.eqv]; exact eqv_selfs xs
  | .pt xs => by simp only [D.py, PyData.eqv]; exact eqv_selfs xs
theorem eqv_selfs : ∀ xs : List D, PyData.eqvAll (D.pys xs) (D.pys xs) = true
  | [] => rfl
  | x :: xs => by simp only [D.pys, PyData.eqvAll, eqv_self x, eqv_selfs xs]; rfl
end
theorem lay_eqS {k : Nat} {xs : List D} (h : ∀ x ∈ xs, Lay k x) (hk : k ≤ 19) : eqV2 (.d (.tup xs)) (.d (.tup xs)) = some true := by rw [lay_eqT h h hk, eqv_selfs]
/-! how much there is to show: numbers of at most B signs, b in all, k deep -/
structure ShC (B b k : Nat) (x : D) : Prop where
  s : x.py.showable = true
  d : x.py.depth ≤ k
  l : x.py.leavesShort B = true
  b : x.py.bulk ≤ b
theorem shC_int {B b k n : Nat} {i : Int} (h : i.natAbs < 10 ^ n) (hn : n + 1 ≤ B) (h0 : 1 ≤ n) (hb : i.natAbs < 2 ^ 1920) : ShC B b k (.int i) := by
  refine ⟨?_, Nat.zero_le _, ?_, Nat.zero_le _⟩
  · show decide (i.natAbs.log2 < 1920) = true
    rw [decide_eq_true_eq]
    by_cases z : i.natAbs = 0
    · rw [z]; decide
    · exact (Nat.log2_lt z).mpr hb
  · show decide ((PyData.shown (.int i)).length ≤ B) = true
    rw [decide_eq_true_eq]
    have e := int_text_length_le10 (k := n) h0 h
    have e2 : (PyData.shown (.int i)).length ≤ n + 1 := by
      show (Str.ofString (toString i)).length ≤ n + 1
      rw [PyProof.Rows.ofString_length]; exact e
    omega
theorem shC_leaf {B b k : Nat} {d : D} (h : leaf d) (hB : 13 ≤ B) (hb : 60 ≤ b) : ShC B b k d := by
  have a := leaf_ok h
  refine ⟨a.s, Nat.le_trans a.d (Nat.zero_le _), ?_, Nat.le_trans a.b hb⟩
  cases d with
  | int i =>
    have := a.l
    show decide ((PyData.shown (.int i)).length ≤ B) = true
    have h2 : decide ((PyData.shown (.int i)).length ≤ 13) = true := this
    rw [decide_eq_true_eq] at h2 ⊢
    omega
  | tup _ => exact h.elim
  | pt _ => exact h.elim
  | _ => exact a.l
theorem shC_all {B b k : Nat} : ∀ {xs : List D}, (∀ x ∈ xs, ShC B b k x) → PyData.showableAll (D.pys xs) = true ∧ PyData.depthAll (D.pys xs) ≤ k ∧ PyData.leavesShortAll B (D.pys xs) = true ∧ PyData.bulkAll (D.pys xs) ≤ xs.length * (b + 1)
  | [], _ => by simp [D.pys, PyData.showableAll, PyData.depthAll, PyData.leavesShortAll, PyData.bulkAll]
  | x :: xs, h => by
    have h1 := h x List.mem_cons_self
    obtain ⟨a1, a2, a3, a4⟩ := shC_all fun y hy => h y (List.mem_cons_of_mem _ hy)
    refine ⟨?_, ?_, ?_, ?_⟩
    · simp only [D.pys, PyData.showableAll, h1.s, a1]; rfl
    · simp only [D.pys, PyData.depthAll]; exact Nat.max_le.mpr ⟨h1.d, a2⟩
    · simp only [D.pys, PyData.leavesShortAll, h1.l, a3]; rfl
    · have := h1.b
      simp only [D.pys, PyData.bulkAll, List.length_cons, Nat.add_mul, Nat.one_mul]
      omega
theorem shC_tup {B b c k : Nat} {xs : List D} (h : ∀ x ∈ xs, ShC B b k x) (hc : xs.length * (b + 1) ≤ c) : ShC B c (k + 1) (.tup xs) := by
  obtain ⟨a1, a2, a3, a4⟩ := shC_all h
  exact ⟨by simpa only [D.py, PyData.showable] using a1, by simp only [D.py, PyData.depth]; omega, by simpa only [D.py, PyData.leavesShort] using a3, by simp only [D.py, PyData.bulk]; omega⟩
theorem shC_up {B b c k l : Nat} {d : D} (h : ShC B b k d) (hb : b ≤ c) (hk : k ≤ l) : ShC B c l d := ⟨h.s, Nat.le_trans h.d hk, h.l, Nat.le_trans h.b hb⟩
theorem shC_non {B b k : Nat} : ShC B b k .non := ⟨rfl, Nat.zero_le _, rfl, Nat.zero_le _⟩
theorem shC_bl {B b k : Nat} {v : Bool} : ShC B b k (.bl v) := ⟨rfl, Nat.zero_le _, rfl, Nat.zero_le _⟩
theorem gRepr_c {B b k : Nat} {d : D} (a : ShC B b k d) (hk : k ≤ 60) (hB : 8 ≤ B) (hn : (B + 2) * b + B ≤ 16000000) : gRepr (.d d) = some (.d (.str d.py.shown)) := by
  have hs : Shows d.py := ⟨a.s, Nat.le_trans a.d hk, by
    have h := PyData.shown_le_bulk B hB d.py a.l
    have h2 : (B + 2) * d.py.bulk ≤ (B + 2) * b := Nat.mul_le_mul_left _ a.b
    have h3 : 16000000 ≤ sizeLine := by decide
    omega⟩
  show (match some d.py with
    | some d => if Shows d then some (Val.d (.str d.shown)) else none
    | none => none) = _
  dsimp only
  rw [if_pos hs]
end DD

namespace Kx
open PySem PySem.Spec PyProof.Rows L2 DD
open Classical
/-! the text, by places -/
def top (i : Nat) : Stmt := PySem.Challenge.pw_plaitwrought_k52_whole_polynomials.main.body.getD i (.Pass ⟨0, 0, 0, 0⟩)
abbrev s0 : Stmt := top 1
def d0 : He.DefD := ⟨("is_integer", none), "is_integer", "is_integer", defArgs s0, defBody s0, defScope s0, [], []⟩
abbrev s1 : Stmt := top 2
def d1 : He.DefD := ⟨("in_range", none), "in_range", "in_range", defArgs s1, defBody s1, defScope s1, [], []⟩
abbrev s2 : Stmt := top 11
def d2 : He.DefD := ⟨("trimmed", none), "trimmed", "trimmed", defArgs s2, defBody s2, defScope s2, [], []⟩
abbrev s3 : Stmt := top 12
def d3 : He.DefD := ⟨("added", none), "added", "added", defArgs s3, defBody s3, defScope s3, [], []⟩
abbrev s4 : Stmt := top 13
def d4 : He.DefD := ⟨("multiplied", none), "multiplied", "multiplied", defArgs s4, defBody s4, defScope s4, [], []⟩
abbrev s5 : Stmt := top 14
def d5 : He.DefD := ⟨("is_poly", none), "is_poly", "is_poly", defArgs s5, defBody s5, defScope s5, [], []⟩
abbrev s6 : Stmt := top 15
def d6 : He.DefD := ⟨("demand_poly", none), "demand_poly", "demand_poly", defArgs s6, defBody s6, defScope s6, [], []⟩
abbrev s7 : Stmt := top 16
def d7 : He.DefD := ⟨("poly_sum", none), "poly_sum", "poly_sum", defArgs s7, defBody s7, defScope s7, [], []⟩
abbrev s8 : Stmt := top 17
def d8 : He.DefD := ⟨("poly_product", none), "poly_product", "poly_product", defArgs s8, defBody s8, defScope s8, [], []⟩
abbrev s9 : Stmt := top 18
def d9 : He.DefD := ⟨("poly_value", none), "poly_value", "poly_value", defArgs s9, defBody s9, defScope s9, [], []⟩
abbrev s10 : Stmt := top 19
def d10 : He.DefD := ⟨("power_of", none), "power_of", "power_of", defArgs s10, defBody s10, defScope s10, [], []⟩
abbrev s11 : Stmt := top 20
def d11 : He.DefD := ⟨("value_at", none), "value_at", "value_at", defArgs s11, defBody s11, defScope s11, [], []⟩
abbrev s12 : Stmt := top 21
def d12 : He.DefD := ⟨("least_terms", none), "least_terms", "least_terms", defArgs s12, defBody s12, defScope s12, [], []⟩
abbrev s13 : Stmt := top 22
def d13 : He.DefD := ⟨("is_even_poly", none), "is_even_poly", "is_even_poly", defArgs s13, defBody s13, defScope s13, [], []⟩
abbrev s14 : Stmt := top 24
def d14 : He.DefD := ⟨("_law_draws", none), "_law_draws", "_law_draws", defArgs s14, defBody s14, defScope s14, [], []⟩
abbrev s15 : Stmt := top 25
def d15 : He.DefD := ⟨("_law_more", none), "_law_more", "_law_more", defArgs s15, defBody s15, defScope s15, [], []⟩
abbrev s16 : Stmt := top 26
def d16 : He.DefD := ⟨("_law_take", none), "_law_take", "_law_take", defArgs s16, defBody s16, defScope s16, [], []⟩
abbrev s17 : Stmt := top 27
def d17 : He.DefD := ⟨("_law_one", none), "_law_one", "_law_one", defArgs s17, defBody s17, defScope s17, [], []⟩
abbrev s18 : Stmt := top 28
def d18 : He.DefD := ⟨("_law_plain", none), "_law_plain", "_law_plain", defArgs s18, defBody s18, defScope s18, [], []⟩
abbrev s19 : Stmt := top 29
def d19 : He.DefD := ⟨("_law_sum", none), "_law_sum", "_law_sum", defArgs s19, defBody s19, defScope s19, [], []⟩
abbrev s20 : Stmt := top 30
def d20 : He.DefD := ⟨("_law_product", none), "_law_product", "_law_product", defArgs s20, defBody s20, defScope s20, [], []⟩
abbrev s21 : Stmt := top 31
def d21 : He.DefD := ⟨("_law_less", none), "_law_less", "_law_less", defArgs s21, defBody s21, defScope s21, [], []⟩
abbrev s22 : Stmt := top 32
def d22 : He.DefD := ⟨("_law_same_as", none), "_law_same_as", "_law_same_as", defArgs s22, defBody s22, defScope s22, [], []⟩
abbrev s23 : Stmt := top 33
def d23 : He.DefD := ⟨("_law_least_terms", none), "_law_least_terms", "_law_least_terms", defArgs s23, defBody s23, defScope s23, [], []⟩
abbrev s24 : Stmt := top 34
def d24 : He.DefD := ⟨("_law_plus", none), "_law_plus", "_law_plus", defArgs s24, defBody s24, defScope s24, [], []⟩
abbrev s25 : Stmt := top 35
def d25 : He.DefD := ⟨("_law_times", none), "_law_times", "_law_times", defArgs s25, defBody s25, defScope s25, [], []⟩
abbrev s26 : Stmt := top 36
def d26 : He.DefD := ⟨("_law_below", none), "_law_below", "_law_below", defArgs s26, defBody s26, defScope s26, [], []⟩
abbrev s27 : Stmt := top 37
def d27 : He.DefD := ⟨("_law_poly", none), "_law_poly", "_law_poly", defArgs s27, defBody s27, defScope s27, [], []⟩
abbrev s28 : Stmt := top 38
def d28 : He.DefD := ⟨("_law_value", none), "_law_value", "_law_value", defArgs s28, defBody s28, defScope s28, [], []⟩
abbrev s29 : Stmt := top 39
def d29 : He.DefD := ⟨("_law_told", none), "_law_told", "_law_told", defArgs s29, defBody s29, defScope s29, [], []⟩
abbrev s30 : Stmt := top 40
def d30 : He.DefD := ⟨("law", none), "law", "law", defArgs s30, defBody s30, defScope s30, [], []⟩
abbrev Pr : Program := PySem.Challenge.pw_plaitwrought_k52_whole_polynomials
def initOf (s : Stmt) : Stmt := match s with
  | .ClassDef _ _ _ (b :: _) .. => b
  | _ => .Pass ⟨0, 0, 0, 0⟩
def ini0 : DX.IniD := match initOf (top 5) with
  | .FunctionDef n a b _ _ _ sc _ _ _ => ⟨"ReasonError", "__init__", "ReasonError.__init__", a, b, sc⟩
  | _ => ⟨"", "", "", default, [], default⟩
def ini : List DX.IniD := [ini0]
def ers : List (Str × Str × Str) := [("ArgumentError", "ReasonError", "reason")]
def iss : List (Str × Str × Bool) := []
def gds : List (Str × D) := [("NOTHING", .tup [.int 0, .tup []])]
def er (K : PySem.W.Frag) : Bool := (ers.all fun q => DX.errB K Pr.main.file q.1 q.2.1 q.2.2) && ((iss.all fun q => DX.isB K q.1 q.2.1 q.2.2) && gds.all fun q => gdB K q.1 q.2)
def fn : List He.DefD := [d0, d1, d2, d3, d4, d5, d6, d7, d8, d9, d10, d11, d12, d13, d14, d15, d16, d17, d18, d19, d20, d21, d22, d23, d24, d25, d26, d27, d28, d29, d30]
def fa : List He.Fa := [.glo "is_integer", .glo "in_range", .glo "trimmed", .glo "added", .glo "multiplied", .glo "is_poly", .glo "demand_poly", .glo "poly_sum", .glo "poly_product", .glo "poly_value", .glo "power_of", .glo "value_at", .glo "least_terms", .glo "is_even_poly", .glo "_law_draws", .glo "_law_more", .glo "_law_take", .glo "_law_one", .glo "_law_plain", .glo "_law_sum", .glo "_law_product", .glo "_law_less", .glo "_law_same_as", .glo "_law_least_terms", .glo "_law_plus", .glo "_law_times", .glo "_law_below", .glo "_law_poly", .glo "_law_value", .glo "_law_told", .glo "law", .free "abs", .free "all", .free "bool", .free "enumerate", .free "int", .free "isinstance", .free "len", .free "list", .free "max", .free "min", .free "range", .free "repr", .free "super", .free "tuple", .int "MAX_DEGREE" 120, .int "MAX_FACTOR" 1000000, .glo "ArgumentError", .exm "ArgumentError" "ArgumentError" true]
/-! what the defs do -/
def isF (x y : Val) : Option Bool := match y with
  | .d .non => isNonV x
  | _ => none
def isNotF (x y : Val) : Option Bool := match y with
  | .d .non => (isNonV x).map (!·)
  | _ => none
noncomputable def m0 : MS := sRet (mAndV (mIsa "int" (mVar 0)) (mNotV (mIsa "bool" (mVar 0))))
noncomputable def f0 : List Val → FRes := fnD 1 1 m0
noncomputable def m1 : MS := sRet (mAndV (mCallD f0 [] [mVar 0]) (mChain (onII fun i j => decide (i ≤ j)) (onII fun i j => decide (i ≤ j)) (mVar 1) (mVar 0) (mVar 2)))
noncomputable def f1 : List Val → FRes := fnD 3 3 m1
noncomputable def b2_0 : MS := sAugX fAdd 2 (mC (.int 1))
noncomputable def l2_1 : MS := sWhile (mAndT (mTrue (mCmpV (onII fun i j => decide (i < j)) (mVar 2) (mCall1 gLen (mVar 1)))) (mTrue (mCmpV eqV2 (mIx (mVar 1) (mVar 2)) (mC (.int 0))))) b2_0
noncomputable def b2_2 : MS := sAug fSub 3 (mC (.int 1))
noncomputable def l2_3 : MS := sWhile (mAndT (mTrue (mCmpV (onII fun i j => decide (j < i)) (mVar 3) (mVar 2))) (mTrue (mCmpV eqV2 (mIx (mVar 1) (mOp2 fSub (mVar 3) (mC (.int 1)))) (mC (.int 0))))) b2_2
noncomputable def m2 : MS := sSeq (sAsg (mC (.int 0)) (gSet 2)) (sSeq (l2_1) (sSeq (sAsg (mCall1 gLen (mVar 1)) (gSet 3)) (sSeq (l2_3) (sRet (mIf (mTrue (mCmpV (onII fun i j => decide (j < i)) (mVar 3) (mVar 2))) (mTup [mAdd (mVar 0) (mVar 2), mCall1 gTuple (mSliceLH (mVar 1) (mVar 2) (mVar 3))]) (mC (.tup [.int 0, .tup []])))))))
noncomputable def f2 : List Val → FRes := fnD 2 4 m2
noncomputable def b3_0 : MS := sAugS fAddI 4 (mAdd (mOp2 fSub (mVar 5) (mVar 2)) (mVar 7)) (mVar 8)
noncomputable def l3_1 : MS := sFor ((mVar 6) >>= enIt2) (gTupD [gSet 7, gSet 8]) b3_0
noncomputable def b3_2 : MS := l3_1
noncomputable def l3_3 : MS := sFor ((mTup [mVar 0, mVar 1]) >>= itOf) (gTupD [gSet 5, gSet 6]) b3_2
noncomputable def m3 : MS := sSeq (sIf (mOrT (mTrue (mCmpV eqV2 (mVar 0) (mC (.tup [.int 0, .tup []])))) (mTrue (mCmpV eqV2 (mVar 1) (mC (.tup [.int 0, .tup []]))))) (sRet (mIf (mTrue (mCmpV eqV2 (mVar 0) (mC (.tup [.int 0, .tup []])))) (mVar 1) (mVar 0))) (sPass)) (sSeq (sAsg (mCall2 gMin (mIx (mVar 0) (mC (.int 0))) (mIx (mVar 1) (mC (.int 0)))) (gSet 2)) (sSeq (sAsg (mCall2 gMax (mAdd (mIx (mVar 0) (mC (.int 0))) (mCall1 gLen (mIx (mVar 0) (mC (.int 1))))) (mAdd (mIx (mVar 1) (mC (.int 0))) (mCall1 gLen (mIx (mVar 1) (mC (.int 1)))))) (gSet 3)) (sSeq (sAsg (mMul (mLst [mC (.int 0)]) (mOp2 fSub (mVar 3) (mVar 2))) (gSet 4)) (sSeq (l3_3) (sRet (mCallD f2 [] [mVar 2, mVar 4]))))))
noncomputable def f3 : List Val → FRes := fnD 2 9 m3
noncomputable def b4_0 : MS := sAugS fAddI 2 (mAdd (mVar 3) (mVar 5)) (mMul (mVar 4) (mVar 6))
noncomputable def l4_1 : MS := sFor ((mIx (mVar 1) (mC (.int 1))) >>= enIt2) (gTupD [gSet 5, gSet 6]) b4_0
noncomputable def b4_2 : MS := sIf (mTrue (mCmpV (fun x y => (eqV2 x y).map (!·)) (mVar 4) (mC (.int 0)))) (l4_1) (sPass)
noncomputable def l4_3 : MS := sFor ((mIx (mVar 0) (mC (.int 1))) >>= enIt2) (gTupD [gSet 3, gSet 4]) b4_2
noncomputable def m4 : MS := sSeq (sIf (mOrT (mTrue (mCmpV eqV2 (mVar 0) (mC (.tup [.int 0, .tup []])))) (mTrue (mCmpV eqV2 (mVar 1) (mC (.tup [.int 0, .tup []]))))) (sRet (mC (.tup [.int 0, .tup []]))) (sPass)) (sSeq (sAsg (mMul (mLst [mC (.int 0)]) (mOp2 fSub (mAdd (mCall1 gLen (mIx (mVar 0) (mC (.int 1)))) (mCall1 gLen (mIx (mVar 1) (mC (.int 1))))) (mC (.int 1)))) (gSet 2)) (sSeq (l4_3) (sRet (mCallD f2 [] [mAdd (mIx (mVar 0) (mC (.int 0))) (mIx (mVar 1) (mC (.int 0))), mVar 2]))))
noncomputable def f4 : List Val → FRes := fnD 2 7 m4
noncomputable def c5_0 : M Ref := mLc ((mIx (mVar 0) (mC (.int 1))) >>= itOf) [1] (gSet 1) (mYes) (mCallD f1 [] [mVar 1, mOp1 fNeg (mC (.int 1000000)), mC (.int 1000000)])
noncomputable def m5 : MS := sSeq (sIf (mOrT (mNot (mTru (mIsa "tuple" (mVar 0)))) (mOrT (mTrue (mCmpV (fun x y => (eqV2 x y).map (!·)) (mCall1 gLen (mVar 0)) (mC (.int 2)))) (mNot (mTru (mIsa "tuple" (mIx (mVar 0) (mC (.int 1)))))))) (sRet (mC (.bl false))) (sPass)) (sSeq (sIf (mOrT (mNot (mTru (mCallD f1 [] [mIx (mVar 0) (mC (.int 0)), mOp1 fNeg (mC (.int 120)), mC (.int 120)]))) (mTrue (mCmpV (onII fun i j => decide (j < i)) (mCall1 gLen (mIx (mVar 0) (mC (.int 1)))) (mC (.int 120))))) (sRet (mC (.bl false))) (sPass)) (sSeq (sIf (mNot (mTru (mCall1 gAll (c5_0)))) (sRet (mC (.bl false))) (sPass)) (sRet (mCmpV eqV2 (mVar 0) (mCallD f2 [] [mIx (mVar 0) (mC (.int 0)), mIx (mVar 0) (mC (.int 1))])))))
noncomputable def f5 : List Val → FRes := fnD 1 2 m5
noncomputable def m6 : MS := sIf (mNot (mTru (mCallD f5 [] [mVar 0]))) (sRaise "ArgumentError" "reason" (mVar 1)) (sPass)
noncomputable def f6 : List Val → FRes := fnD 2 2 m6
noncomputable def m7 : MS := sSeq (sExpr (mCallD f6 [] [mVar 0, mC (.str "first")])) (sSeq (sExpr (mCallD f6 [] [mVar 1, mC (.str "second")])) (sRet (mCallD f3 [] [mVar 0, mVar 1])))
noncomputable def f7 : List Val → FRes := fnD 2 2 m7
noncomputable def m8 : MS := sSeq (sExpr (mCallD f6 [] [mVar 0, mC (.str "first")])) (sSeq (sExpr (mCallD f6 [] [mVar 1, mC (.str "second")])) (sRet (mCallD f4 [] [mVar 0, mVar 1])))
noncomputable def f8 : List Val → FRes := fnD 2 2 m8
noncomputable def b10_0 : MS := sAug fMulI 2 (mVar 0)
noncomputable def l10_1 : MS := sFor (mArgs [mVar 1] >>= rgIt1) (gSet 3) b10_0
noncomputable def m10 : MS := sSeq (sAsg (mC (.int 1)) (gSet 2)) (sSeq (l10_1) (sRet (mVar 2)))
noncomputable def f10 : List Val → FRes := fnD 2 4 m10
noncomputable def b12_0 : MS := sPar 3 4 (mVar 4) (mOp2 fMod (mVar 3) (mVar 4))
noncomputable def l12_1 : MS := sWhile (mTrue (mCmpV (onII fun i j => decide (j < i)) (mVar 4) (mC (.int 0)))) b12_0
noncomputable def m12 : MS := sSeq (sPar 3 4 (mCall1 gAbs (mVar 0)) (mCall1 gAbs (mVar 1))) (sSeq (l12_1) (sSeq (sAsg (mIf (mTrue (mCmpV (onII fun i j => decide (i < j)) (mVar 1) (mC (.int 0)))) (mOp1 fNeg (mC (.int 1))) (mC (.int 1))) (gSet 2)) (sRet (mTup [mOp2 fDivG (mMulG (mVar 2) (mVar 0)) (mVar 3), mOp2 fDivG (mMulG (mVar 2) (mVar 1)) (mVar 3)]))))
noncomputable def f12 : List Val → FRes := fnD 2 5 m12
noncomputable def b11_0 : MS := sAugX fAdd 4 (mMulG (mMulG (mVar 7) (mCallD f10 [] [mVar 1, mVar 6])) (mCallD f10 [] [mVar 2, mOp2 fSub (mVar 3) (mVar 6)]))
noncomputable def l11_1 : MS := sFor ((mIx (mVar 0) (mC (.int 1))) >>= enIt2) (gTupD [gSet 6, gSet 7]) b11_0
noncomputable def m11 : MS := sSeq (sAsg (mOp2 fSub (mCall1 gLen (mIx (mVar 0) (mC (.int 1)))) (mC (.int 1))) (gSet 3)) (sSeq (sAsg (mC (.int 0)) (gSet 4)) (sSeq (l11_1) (sSeq (sAsg (mCallD f10 [] [mVar 2, mCall2 gMax (mC (.int 0)) (mVar 3)]) (gSet 5)) (sSeq (sIf (mTrue (mCmpV (onII fun i j => decide (j ≤ i)) (mIx (mVar 0) (mC (.int 0))) (mC (.int 0)))) (sRet (mCallD f12 [] [mMulG (mVar 4) (mCallD f10 [] [mVar 1, mIx (mVar 0) (mC (.int 0))]), mMulG (mVar 5) (mCallD f10 [] [mVar 2, mIx (mVar 0) (mC (.int 0))])])) (sPass)) (sRet (mCallD f12 [] [mMulG (mVar 4) (mCallD f10 [] [mVar 2, mOp1 fNeg (mIx (mVar 0) (mC (.int 0)))]), mMulG (mVar 5) (mCallD f10 [] [mVar 1, mOp1 fNeg (mIx (mVar 0) (mC (.int 0)))])]))))))
noncomputable def f11 : List Val → FRes := fnD 3 8 m11
noncomputable def m9 : MS := sSeq (sExpr (mCallD f6 [] [mVar 0, mC (.str "poly")])) (sSeq (sIf (mOrT (mNot (mTru (mCallD f1 [] [mVar 1, mOp1 fNeg (mC (.int 1000000)), mC (.int 1000000)]))) (mTrue (mCmpV eqV2 (mVar 1) (mC (.int 0))))) (sRaise "ArgumentError" "reason" (mC (.str "over"))) (sPass)) (sSeq (sIf (mNot (mTru (mCallD f1 [] [mVar 2, mC (.int 1), mC (.int 1000000)]))) (sRaise "ArgumentError" "reason" (mC (.str "under"))) (sPass)) (sRet (mCallD f11 [] [mVar 0, mVar 1, mVar 2]))))
noncomputable def f9 : List Val → FRes := fnD 3 3 m9
noncomputable def m13 : MS := sSeq (sExpr (mCallD f6 [] [mVar 0, mC (.str "poly")])) (sRet (mCmpV eqV2 (mIx (mVar 0) (mC (.int 1))) (mBack (mIx (mVar 0) (mC (.int 1))))))
noncomputable def f13 : List Val → FRes := fnD 1 1 m13
noncomputable def b14_0 : MS := sIf (mTrue (mCmpV (onII fun i j => decide (j < i)) (mVar 3) (mC (.int 0)))) (sSeq (sExpr (mAppend 1 (mOp2 fMod (mCall1 gInt (mVar 3)) (mC (.int 1009))))) (sAsg (mOp2 fDiv (mVar 3) (mC (.int 1009))) (gSet 3))) (sPass)
noncomputable def l14_1 : MS := sFor (mArgs [mC (.int 60)] >>= rgIt1) (gSet 4) b14_0
noncomputable def b14_2 : MS := sSeq (sAsg (mOp2 fMod (mCall1 gInt (mAdd (mAdd (mMul (mVar 5) (mC (.int 16807))) (mMul (mC (.int 69621)) (mVar 4))) (mC (.int 5)))) (mC (.int 2147483629))) (gSet 5)) (sExpr (mAppend 1 (mOp2 fDiv (mVar 5) (mC (.int 1009)))))
noncomputable def l14_3 : MS := sFor (mArgs [mC (.int 12)] >>= rgIt1) (gSet 4) b14_2
noncomputable def b14_4 : MS := sSeq (sAsg (mCall1 gAbs (mVar 2)) (gSet 3)) (sIf (mTrue (mCmpV (onII fun i j => decide (j ≤ i)) (mVar 3) (mOp2 fPow (mC (.int 10)) (mC (.int 18))))) (l14_1) (sSeq (sAsg (mOp2 fMod (mCall1 gInt (mAdd (mMul (mVar 3) (mC (.int 48271))) (mC (.int 11)))) (mC (.int 2147483647))) (gSet 5)) (l14_3)))
noncomputable def l14_5 : MS := sFor ((mSliceH (mVar 0) (mC (.int 63))) >>= itOf) (gSet 2) b14_4
noncomputable def m14 : MS := sSeq (sAsg (mLst []) (gSet 1)) (sSeq (l14_5) (sRet (mVar 1)))
noncomputable def f14 : List Val → FRes := fnD 1 6 m14
noncomputable def b15_0 : MS := sSeq (sIf (mTru (mVar 0)) (sAsg (mAdd (mVar 2) (mIx (mVar 0) (mOp2 fMod (mCall1 gInt (mAdd (mMul (mVar 1) (mAdd (mVar 3) (mC (.int 5)))) (mVar 3))) (mCall1 gLen (mVar 0))))) (gSet 2)) (sPass)) (sAsg (mOp2 fMod (mCall1 gInt (mAdd (mAdd (mMul (mVar 2) (mC (.int 16807))) (mMul (mC (.int 69621)) (mVar 3))) (mC (.int 5)))) (mC (.int 2147483629))) (gSet 2))
noncomputable def l15_1 : MS := sFor (mArgs [mC (.int 3)] >>= rgIt1) (gSet 3) b15_0
noncomputable def m15 : MS := sSeq (sAsg (mOp2 fMod (mCall1 gInt (mAdd (mAdd (mMul (mVar 1) (mC (.int 48271))) (mCall1 gLen (mVar 0))) (mC (.int 11)))) (mC (.int 2147483629))) (gSet 2)) (sSeq (l15_1) (sRet (mOp2 fDiv (mVar 2) (mC (.int 1009)))))
noncomputable def f15 : List Val → FRes := fnD 2 4 m15
noncomputable def m16 : MS := sSeq (sAsg (mIx (mVar 1) (mC (.int 0))) (gSet 3)) (sSeq (sAsg (mAdd (mVar 3) (mC (.int 1))) (gStore 1 (mC (.int 0)))) (sRet (mOp2 fMod (mCall1 gInt (mIf (mTrue (mCmpV (onII fun i j => decide (i < j)) (mVar 3) (mCall1 gLen (mVar 0)))) (mIx (mVar 0) (mVar 3)) (mCallD f15 [] [mVar 0, mVar 3]))) (mVar 2))))
noncomputable def f16 : List Val → FRes := fnD 3 4 m16
noncomputable def m17 : MS := sRet (mIx (mVar 0) (mCallD f16 [] [mVar 1, mVar 2, mCall1 gLen (mVar 0)]))
noncomputable def f17 : List Val → FRes := fnD 3 3 m17
noncomputable def b18_0 : MS := sAsg (mSliceH (mVar 1) (mOp1 fNeg (mC (.int 1)))) (gSet 1)
noncomputable def l18_1 : MS := sWhile (mAndT (mTru (mVar 1)) (mTrue (mCmpV eqV2 (mIx (mVar 1) (mOp1 fNeg (mC (.int 1)))) (mC (.int 0))))) b18_0
noncomputable def b18_2 : MS := sSeq (sAsg (mSliceL (mVar 1) (mC (.int 1))) (gSet 1)) (sAsg (mAdd (mVar 0) (mC (.int 1))) (gSet 0))
noncomputable def l18_3 : MS := sWhile (mAndT (mTru (mVar 1)) (mTrue (mCmpV eqV2 (mIx (mVar 1) (mC (.int 0))) (mC (.int 0))))) b18_2
noncomputable def m18 : MS := sSeq (sAsg (mCall1 gList (mVar 1)) (gSet 1)) (sSeq (l18_1) (sSeq (l18_3) (sRet (mIf (mTru (mVar 1)) (mTup [mVar 0, mCall1 gTuple (mVar 1)]) (mTup [mC (.int 0), mTup []])))))
noncomputable def f18 : List Val → FRes := fnD 2 2 m18
noncomputable def b19_0 : MS := sAsg (mAdd (mIx (mVar 4) (mAdd (mOp2 fSub (mIx (mVar 0) (mC (.int 0))) (mVar 2)) (mVar 5))) (mIx (mIx (mVar 0) (mC (.int 1))) (mVar 5))) (gStore 4 (mAdd (mOp2 fSub (mIx (mVar 0) (mC (.int 0))) (mVar 2)) (mVar 5)))
noncomputable def l19_1 : MS := sFor (mArgs [mCall1 gLen (mIx (mVar 0) (mC (.int 1)))] >>= rgIt1) (gSet 5) b19_0
noncomputable def b19_2 : MS := sAsg (mAdd (mIx (mVar 4) (mAdd (mOp2 fSub (mIx (mVar 1) (mC (.int 0))) (mVar 2)) (mVar 5))) (mIx (mIx (mVar 1) (mC (.int 1))) (mVar 5))) (gStore 4 (mAdd (mOp2 fSub (mIx (mVar 1) (mC (.int 0))) (mVar 2)) (mVar 5)))
noncomputable def l19_3 : MS := sFor (mArgs [mCall1 gLen (mIx (mVar 1) (mC (.int 1)))] >>= rgIt1) (gSet 5) b19_2
noncomputable def m19 : MS := sSeq (sIf (mOrT (mNot (mTru (mIx (mVar 0) (mC (.int 1))))) (mNot (mTru (mIx (mVar 1) (mC (.int 1)))))) (sRet (mIf (mTru (mIx (mVar 0) (mC (.int 1)))) (mVar 0) (mVar 1))) (sPass)) (sSeq (sAsg (mCall2 gMin (mIx (mVar 0) (mC (.int 0))) (mIx (mVar 1) (mC (.int 0)))) (gSet 2)) (sSeq (sAsg (mCall2 gMax (mAdd (mIx (mVar 0) (mC (.int 0))) (mCall1 gLen (mIx (mVar 0) (mC (.int 1))))) (mAdd (mIx (mVar 1) (mC (.int 0))) (mCall1 gLen (mIx (mVar 1) (mC (.int 1)))))) (gSet 3)) (sSeq (sAsg (mMul (mLst [mC (.int 0)]) (mOp2 fSub (mVar 3) (mVar 2))) (gSet 4)) (sSeq (l19_1) (sSeq (l19_3) (sRet (mCallD f18 [] [mVar 2, mVar 4])))))))
noncomputable def f19 : List Val → FRes := fnD 2 6 m19
noncomputable def b20_0 : MS := sAsg (mAdd (mIx (mVar 2) (mAdd (mVar 3) (mVar 4))) (mMul (mIx (mIx (mVar 0) (mC (.int 1))) (mVar 3)) (mIx (mIx (mVar 1) (mC (.int 1))) (mVar 4)))) (gStore 2 (mAdd (mVar 3) (mVar 4)))
noncomputable def l20_1 : MS := sFor (mArgs [mCall1 gLen (mIx (mVar 1) (mC (.int 1)))] >>= rgIt1) (gSet 4) b20_0
noncomputable def b20_2 : MS := l20_1
noncomputable def l20_3 : MS := sFor (mArgs [mCall1 gLen (mIx (mVar 0) (mC (.int 1)))] >>= rgIt1) (gSet 3) b20_2
noncomputable def m20 : MS := sSeq (sIf (mOrT (mNot (mTru (mIx (mVar 0) (mC (.int 1))))) (mNot (mTru (mIx (mVar 1) (mC (.int 1)))))) (sRet (mTup [mC (.int 0), mTup []])) (sPass)) (sSeq (sAsg (mMul (mLst [mC (.int 0)]) (mOp2 fSub (mAdd (mCall1 gLen (mIx (mVar 0) (mC (.int 1)))) (mCall1 gLen (mIx (mVar 1) (mC (.int 1))))) (mC (.int 1)))) (gSet 2)) (sSeq (l20_3) (sRet (mCallD f18 [] [mAdd (mIx (mVar 0) (mC (.int 0))) (mIx (mVar 1) (mC (.int 0))), mVar 2]))))
noncomputable def f20 : List Val → FRes := fnD 2 5 m20
noncomputable def c21_0 : M Ref := mLc ((mIx (mVar 0) (mC (.int 1))) >>= itOf) [1] (gSet 1) (mYes) (mOp2 fSub (mC (.int 0)) (mVar 1))
noncomputable def m21 : MS := sRet (mTup [mIx (mVar 0) (mC (.int 0)), mCall1 gTuple (c21_0)])
noncomputable def f21 : List Val → FRes := fnD 1 2 m21
noncomputable def m22 : MS := sRet (mAndV (mCmpV eqV2 (mVar 0) (mVar 1)) (mCmpV eqV2 (mCall1 gRepr (mVar 0)) (mCall1 gRepr (mVar 1))))
noncomputable def f22 : List Val → FRes := fnD 2 2 m22
noncomputable def b23_0 : MS := sPar 2 3 (mVar 3) (mOp2 fMod (mCall1 gInt (mVar 2)) (mVar 3))
noncomputable def l23_1 : MS := sWhile (mTrue (mCmpV (onII fun i j => decide (j < i)) (mVar 3) (mC (.int 0)))) b23_0
noncomputable def m23 : MS := sSeq (sPar 2 3 (mCall1 gAbs (mVar 0)) (mVar 1)) (sSeq (l23_1) (sRet (mTup [mOp2 fDivG (mVar 0) (mVar 2), mOp2 fDivG (mVar 1) (mVar 2)])))
noncomputable def f23 : List Val → FRes := fnD 2 4 m23
noncomputable def m24 : MS := sRet (mCallD f23 [] [mAdd (mMulG (mIx (mVar 0) (mC (.int 0))) (mIx (mVar 1) (mC (.int 1)))) (mMulG (mIx (mVar 1) (mC (.int 0))) (mIx (mVar 0) (mC (.int 1)))), mMulG (mIx (mVar 0) (mC (.int 1))) (mIx (mVar 1) (mC (.int 1)))])
noncomputable def f24 : List Val → FRes := fnD 2 2 m24
noncomputable def m25 : MS := sRet (mCallD f23 [] [mMulG (mIx (mVar 0) (mC (.int 0))) (mIx (mVar 1) (mC (.int 0))), mMulG (mIx (mVar 0) (mC (.int 1))) (mIx (mVar 1) (mC (.int 1)))])
noncomputable def f25 : List Val → FRes := fnD 2 2 m25
noncomputable def m26 : MS := sRet (mCmpV (onII fun i j => decide (i < j)) (mMul (mIx (mVar 0) (mC (.int 0))) (mIx (mVar 1) (mC (.int 1)))) (mMul (mIx (mVar 1) (mC (.int 0))) (mIx (mVar 0) (mC (.int 1)))))
noncomputable def f26 : List Val → FRes := fnD 2 2 m26
noncomputable def c27_0 : M Ref := mLc (mArgs [mVar 3] >>= rgIt1) [7] (gSet 7) (mYes) (mAdd (mOp2 fSub (mCallD f16 [] [mVar 0, mVar 1, mOp2 fSub (mMul (mC (.int 2)) (mVar 2)) (mC (.int 1))]) (mVar 2)) (mC (.int 1)))
noncomputable def m27 : MS := sSeq (sAsg (mCallD f17 [] [mLst [mC (.int 2), mC (.int 3), mC (.int 10), mC (.int 1000001)], mVar 0, mVar 1]) (gSet 2)) (sSeq (sAsg (mCallD f17 [] [mLst [mC (.int 0), mC (.int 1), mC (.int 3), mC (.int 8), mC (.int 120)], mVar 0, mVar 1]) (gSet 3)) (sSeq (sAsg (c27_0) (gSet 4)) (sSeq (sIf (mTrue (mCmpV eqV2 (mCallD f16 [] [mVar 0, mVar 1, mC (.int 3)]) (mC (.int 0)))) (sAsg (mAdd (mSliceH (mVar 4) (mOp2 fDiv (mAdd (mVar 3) (mC (.int 1))) (mC (.int 2)))) (mBack (mSliceH (mVar 4) (mOp2 fDiv (mVar 3) (mC (.int 2)))))) (gSet 4)) (sPass)) (sSeq (sAsg (mCallD f17 [] [mLst [mC (.int 0), mC (.int 0), mOp2 fSub (mCallD f16 [] [mVar 0, mVar 1, mC (.int 9)]) (mC (.int 4)), mOp1 fNeg (mC (.int 120)), mOp2 fSub (mC (.int 120)) (mVar 3)], mVar 0, mVar 1]) (gSet 5)) (sSeq (sAsg (mCallD f18 [] [mVar 5, mVar 4]) (gSet 6)) (sRet (mIf (mTrue (mCmpV (onII fun i j => decide (i < j)) (mIx (mVar 6) (mC (.int 0))) (mC (.int 121)))) (mVar 6) (mTup [mC (.int 0), mTup []]))))))))
noncomputable def f27 : List Val → FRes := fnD 2 8 m27
noncomputable def b28_0 : MS := sAsg (mCallD f25 [] [mVar 4, mCallD f23 [] [mIx (mVar 6) (mC (.int 0)), mIx (mVar 6) (mC (.int 1))]]) (gSet 4)
noncomputable def l28_1 : MS := sFor (mArgs [mCall1 gAbs (mIx (mVar 0) (mC (.int 0)))] >>= rgIt1) (gSet 7) b28_0
noncomputable def b28_2 : MS := sSeq (sAsg (mCallD f24 [] [mVar 3, mCallD f25 [] [mVar 4, mTup [mVar 8, mC (.int 1)]]]) (gSet 3)) (sAsg (mCallD f25 [] [mVar 4, mCallD f23 [] [mVar 1, mVar 2]]) (gSet 4))
noncomputable def l28_3 : MS := sFor ((mIx (mVar 0) (mC (.int 1))) >>= itOf) (gSet 8) b28_2
noncomputable def m28 : MS := sSeq (sAsg (mTup [mC (.int 0), mC (.int 1)]) (gSet 3)) (sSeq (sAsg (mTup [mC (.int 1), mC (.int 1)]) (gSet 4)) (sSeq (sAsg (mIf (mTrue (mCmpV (onII fun i j => decide (j < i)) (mVar 1) (mC (.int 0)))) (mC (.int 1)) (mOp1 fNeg (mC (.int 1)))) (gSet 5)) (sSeq (sAsg (mIf (mTrue (mCmpV (onII fun i j => decide (j ≤ i)) (mIx (mVar 0) (mC (.int 0))) (mC (.int 0)))) (mTup [mVar 1, mVar 2]) (mTup [mMul (mVar 5) (mVar 2), mMul (mVar 5) (mVar 1)])) (gSet 6)) (sSeq (l28_1) (sSeq (l28_3) (sRet (mVar 3)))))))
noncomputable def f28 : List Val → FRes := fnD 3 9 m28
noncomputable def t29_0 : MS := sSeq (sIf (mTrue (mCmpV (onII fun i j => decide (i < j)) (mVar 0) (mC (.int 2)))) (sRet (mIf (mTrue (mCmpV eqV2 (mVar 0) (mC (.int 0)))) (mCallD f7 [] [mVar 1, mVar 2]) (mCallD f8 [] [mVar 1, mVar 2]))) (sPass)) (sRet (mIf (mTrue (mCmpV eqV2 (mVar 0) (mC (.int 2)))) (mCallD f9 [] [mVar 1, mVar 2, mVar 3]) (mCallD f13 [] [mVar 1])))
noncomputable def m29 : MS := sTryN t29_0 [⟨some 4, [("ArgumentError", some (hTup (hCons (fun _ => some (.str "argument")) (hCons (fun fs => List.lookup ("reason" : PySem.Str) fs) (fun _ => some [])))))]⟩]
noncomputable def f29 : List Val → FRes := fnD 4 5 m29
noncomputable def b30_0 : MS := sIf (mNot (mTru (mCallD f22 [] [mTup [mCallD f29 [] [mC (.int 0), mIx (mVar 10) (mC (.int 0)), mIx (mVar 10) (mC (.int 1)), mC .non], mCallD f29 [] [mC (.int 1), mIx (mVar 10) (mC (.int 0)), mIx (mVar 10) (mC (.int 1)), mC .non]], mVar 9]))) (sRet (mC (.bl false))) (sPass)
noncomputable def l30_1 : MS := sFor ((mLst [mTup [mVar 13, mVar 14], mTup [mVar 14, mVar 13]]) >>= itOf) (gSet 10) b30_0
noncomputable def b30_2 : MS := sSeq (sPar 13 14 (mCallD f27 [] [mVar 1, mVar 2]) (mCallD f27 [] [mVar 1, mVar 2])) (sSeq (sAsg (mTup [mCallD f19 [] [mVar 13, mVar 14], mCallD f20 [] [mVar 13, mVar 14]]) (gSet 9)) (sSeq (l30_1) (sSeq (sIf (mNot (mTru (mCallD f22 [] [mCallD f29 [] [mC (.int 3), mVar 13, mC .non, mC .non], mCmpV eqV2 (mIx (mVar 13) (mC (.int 1))) (mBack (mIx (mVar 13) (mC (.int 1))))]))) (sRet (mC (.bl false))) (sPass)) (sSeq (sAsg (mIf (mAndT (mTrue (mCmpV (onII fun i j => decide (i < j)) (mCall1 gLen (mIx (mVar 13) (mC (.int 1)))) (mC (.int 20)))) (mTrue (mCmpV (onII fun i j => decide (i < j)) (mCall1 gAbs (mIx (mVar 13) (mC (.int 0)))) (mC (.int 20))))) (mCallD f17 [] [mLst [mC (.int 1), mOp1 fNeg (mC (.int 1)), mC (.int 2), mOp1 fNeg (mC (.int 3)), mC (.int 7), mC (.int 1000000), mOp1 fNeg (mC (.int 1000000))], mVar 1, mVar 2]) (mCallD f17 [] [mLst [mC (.int 1), mOp1 fNeg (mC (.int 1)), mC (.int 2), mOp1 fNeg (mC (.int 2))], mVar 1, mVar 2])) (gSet 11)) (sSeq (sAsg (mIf (mTrue (mCmpV (onII fun i j => decide (j < i)) (mCall1 gAbs (mVar 11)) (mC (.int 2)))) (mCallD f17 [] [mLst [mC (.int 1), mC (.int 1), mC (.int 2), mC (.int 5), mC (.int 1000000)], mVar 1, mVar 2]) (mCallD f17 [] [mLst [mC (.int 1), mC (.int 2)], mVar 1, mVar 2])) (gSet 12)) (sIf (mNot (mTru (mCallD f22 [] [mCallD f29 [] [mC (.int 2), mVar 13, mVar 11, mVar 12], mCallD f28 [] [mVar 13, mVar 11, mVar 12]]))) (sRet (mC (.bl false))) (sPass)))))))
noncomputable def l30_3 : MS := sFor (mArgs [mC (.int 3)] >>= rgIt1) (gSet 3) b30_2
noncomputable def b30_4 : MS := sIf (mOrT (mTrue (mCmpV (fun x y => (eqV2 x y).map (!·)) (mCallD f29 [] [mVar 6, mVar 5, mVar 5, mC .non]) (mTup [mC (.str "argument"), mC (.str "first")]))) (mTrue (mCmpV (fun x y => (eqV2 x y).map (!·)) (mCallD f29 [] [mVar 6, mVar 13, mVar 5, mC .non]) (mTup [mC (.str "argument"), mC (.str "second")])))) (sRet (mC (.bl false))) (sPass)
noncomputable def l30_5 : MS := sFor (mArgs [mC (.int 2)] >>= rgIt1) (gSet 6) b30_4
noncomputable def m30 : MS := sSeq (sAsg (mCallD f14 [] [mVar 0]) (gSet 1)) (sSeq (sAsg (mLst [mC (.int 0)]) (gSet 2)) (sSeq (l30_3) (sSeq (sAsg (mLst [mC .non, mC (.int 5), mTup [mC (.int 0)], mTup [mC (.int 0), mTup [], mC (.int 1)], mTup [mC (.int 1), mTup []], mTup [mC (.int 0), mTup [mC (.int 0), mC (.int 1)]], mTup [mC (.int 0), mTup [mC (.int 1), mC (.int 0)]], mTup [mC (.int 0), mTup [mC (.int 1), mC (.bl true)]], mTup [mC (.bl true), mTup [mC (.int 1)]], mTup [mC (.int 121), mTup [mC (.int 1)]], mTup [mOp1 fNeg (mC (.int 121)), mTup [mC (.int 1)]], mTup [mC (.int 0), mTup [mC (.int 1000001)]], mTup [mC (.int 0), mMulX (mTup [mC (.int 1)]) (mC (.int 121))], mTup [mC (.int 0), mTup [mC (.int 1), mC .non]], mTup [mC (.int 0), mC (.int 5)]]) (gSet 4)) (sSeq (sAsg (mCallD f17 [] [mVar 4, mVar 1, mVar 2]) (gSet 5)) (sSeq (l30_5) (sSeq (sIf (mOrT (mTrue (mCmpV (fun x y => (eqV2 x y).map (!·)) (mCallD f29 [] [mC (.int 2), mVar 5, mC (.int 0), mC (.int 0)]) (mTup [mC (.str "argument"), mC (.str "poly")]))) (mTrue (mCmpV (fun x y => (eqV2 x y).map (!·)) (mCallD f29 [] [mC (.int 3), mVar 5, mC .non, mC .non]) (mTup [mC (.str "argument"), mC (.str "poly")])))) (sRet (mC (.bl false))) (sPass)) (sSeq (sAsg (mCallD f17 [] [mLst [mC (.int 0), mC .non, mC (.bl true), mC (.int 1000001), mOp1 fNeg (mC (.int 1000001)), mC (.str "1")], mVar 1, mVar 2]) (gSet 7)) (sSeq (sAsg (mCallD f17 [] [mLst [mC (.int 0), mOp1 fNeg (mC (.int 1)), mC .non, mC (.bl true), mC (.int 1000001)], mVar 1, mVar 2]) (gSet 8)) (sRet (mAndV (mCmpV eqV2 (mCallD f29 [] [mC (.int 2), mVar 13, mVar 7, mVar 8]) (mTup [mC (.str "argument"), mC (.str "over")])) (mCmpV eqV2 (mCallD f29 [] [mC (.int 2), mVar 13, mC (.int 1), mVar 8]) (mTup [mC (.str "argument"), mC (.str "under")]))))))))))))
noncomputable def f30 : List Val → FRes := fnD 1 15 m30
/-! what the top has written -/
structure Txt (K : PySem.W.Frag) (mg : Str → Option Value) where
  f_abs : mg "abs" = none
  f_all : mg "all" = none
  f_bool : mg "bool" = none
  f_enumerate : mg "enumerate" = none
  f_int : mg "int" = none
  f_isinstance : mg "isinstance" = none
  f_len : mg "len" = none
  f_list : mg "list" = none
  f_max : mg "max" = none
  f_min : mg "min" = none
  f_range : mg "range" = none
  f_repr : mg "repr" = none
  f_super : mg "super" = none
  f_tuple : mg "tuple" = none
  c_MAX_DEGREE : ∃ t, mg "MAX_DEGREE" = some (.int 120 t)
  c_MAX_FACTOR : ∃ t, mg "MAX_FACTOR" = some (.int 1000000 t)
  g0 : mg "is_integer" = some (.ref (He.ga K "is_integer"))
  fd0 : FuncData
  F0 : FunD K "is_integer" "is_integer" (defArgs s0) (defBody s0) (defScope s0) [] [] (He.ga K "is_integer") fd0
  g1 : mg "in_range" = some (.ref (He.ga K "in_range"))
  fd1 : FuncData
  F1 : FunD K "in_range" "in_range" (defArgs s1) (defBody s1) (defScope s1) [] [] (He.ga K "in_range") fd1
  g2 : mg "trimmed" = some (.ref (He.ga K "trimmed"))
  fd2 : FuncData
  F2 : FunD K "trimmed" "trimmed" (defArgs s2) (defBody s2) (defScope s2) [] [] (He.ga K "trimmed") fd2
  g3 : mg "added" = some (.ref (He.ga K "added"))
  fd3 : FuncData
  F3 : FunD K "added" "added" (defArgs s3) (defBody s3) (defScope s3) [] [] (He.ga K "added") fd3
  g4 : mg "multiplied" = some (.ref (He.ga K "multiplied"))
  fd4 : FuncData
  F4 : FunD K "multiplied" "multiplied" (defArgs s4) (defBody s4) (defScope s4) [] [] (He.ga K "multiplied") fd4
  g5 : mg "is_poly" = some (.ref (He.ga K "is_poly"))
  fd5 : FuncData
  F5 : FunD K "is_poly" "is_poly" (defArgs s5) (defBody s5) (defScope s5) [] [] (He.ga K "is_poly") fd5
  g6 : mg "demand_poly" = some (.ref (He.ga K "demand_poly"))
  fd6 : FuncData
  F6 : FunD K "demand_poly" "demand_poly" (defArgs s6) (defBody s6) (defScope s6) [] [] (He.ga K "demand_poly") fd6
  g7 : mg "poly_sum" = some (.ref (He.ga K "poly_sum"))
  fd7 : FuncData
  F7 : FunD K "poly_sum" "poly_sum" (defArgs s7) (defBody s7) (defScope s7) [] [] (He.ga K "poly_sum") fd7
  g8 : mg "poly_product" = some (.ref (He.ga K "poly_product"))
  fd8 : FuncData
  F8 : FunD K "poly_product" "poly_product" (defArgs s8) (defBody s8) (defScope s8) [] [] (He.ga K "poly_product") fd8
  g9 : mg "poly_value" = some (.ref (He.ga K "poly_value"))
  fd9 : FuncData
  F9 : FunD K "poly_value" "poly_value" (defArgs s9) (defBody s9) (defScope s9) [] [] (He.ga K "poly_value") fd9
  g10 : mg "power_of" = some (.ref (He.ga K "power_of"))
  fd10 : FuncData
  F10 : FunD K "power_of" "power_of" (defArgs s10) (defBody s10) (defScope s10) [] [] (He.ga K "power_of") fd10
  g11 : mg "value_at" = some (.ref (He.ga K "value_at"))
  fd11 : FuncData
  F11 : FunD K "value_at" "value_at" (defArgs s11) (defBody s11) (defScope s11) [] [] (He.ga K "value_at") fd11
  g12 : mg "least_terms" = some (.ref (He.ga K "least_terms"))
  fd12 : FuncData
  F12 : FunD K "least_terms" "least_terms" (defArgs s12) (defBody s12) (defScope s12) [] [] (He.ga K "least_terms") fd12
  g13 : mg "is_even_poly" = some (.ref (He.ga K "is_even_poly"))
  fd13 : FuncData
  F13 : FunD K "is_even_poly" "is_even_poly" (defArgs s13) (defBody s13) (defScope s13) [] [] (He.ga K "is_even_poly") fd13
  g14 : mg "_law_draws" = some (.ref (He.ga K "_law_draws"))
  fd14 : FuncData
  F14 : FunD K "_law_draws" "_law_draws" (defArgs s14) (defBody s14) (defScope s14) [] [] (He.ga K "_law_draws") fd14
  g15 : mg "_law_more" = some (.ref (He.ga K "_law_more"))
  fd15 : FuncData
  F15 : FunD K "_law_more" "_law_more" (defArgs s15) (defBody s15) (defScope s15) [] [] (He.ga K "_law_more") fd15
  g16 : mg "_law_take" = some (.ref (He.ga K "_law_take"))
  fd16 : FuncData
  F16 : FunD K "_law_take" "_law_take" (defArgs s16) (defBody s16) (defScope s16) [] [] (He.ga K "_law_take") fd16
  g17 : mg "_law_one" = some (.ref (He.ga K "_law_one"))
  fd17 : FuncData
  F17 : FunD K "_law_one" "_law_one" (defArgs s17) (defBody s17) (defScope s17) [] [] (He.ga K "_law_one") fd17
  g18 : mg "_law_plain" = some (.ref (He.ga K "_law_plain"))
  fd18 : FuncData
  F18 : FunD K "_law_plain" "_law_plain" (defArgs s18) (defBody s18) (defScope s18) [] [] (He.ga K "_law_plain") fd18
  g19 : mg "_law_sum" = some (.ref (He.ga K "_law_sum"))
  fd19 : FuncData
  F19 : FunD K "_law_sum" "_law_sum" (defArgs s19) (defBody s19) (defScope s19) [] [] (He.ga K "_law_sum") fd19
  g20 : mg "_law_product" = some (.ref (He.ga K "_law_product"))
  fd20 : FuncData
  F20 : FunD K "_law_product" "_law_product" (defArgs s20) (defBody s20) (defScope s20) [] [] (He.ga K "_law_product") fd20
  g21 : mg "_law_less" = some (.ref (He.ga K "_law_less"))
  fd21 : FuncData
  F21 : FunD K "_law_less" "_law_less" (defArgs s21) (defBody s21) (defScope s21) [] [] (He.ga K "_law_less") fd21
  g22 : mg "_law_same_as" = some (.ref (He.ga K "_law_same_as"))
  fd22 : FuncData
  F22 : FunD K "_law_same_as" "_law_same_as" (defArgs s22) (defBody s22) (defScope s22) [] [] (He.ga K "_law_same_as") fd22
  g23 : mg "_law_least_terms" = some (.ref (He.ga K "_law_least_terms"))
  fd23 : FuncData
  F23 : FunD K "_law_least_terms" "_law_least_terms" (defArgs s23) (defBody s23) (defScope s23) [] [] (He.ga K "_law_least_terms") fd23
  g24 : mg "_law_plus" = some (.ref (He.ga K "_law_plus"))
  fd24 : FuncData
  F24 : FunD K "_law_plus" "_law_plus" (defArgs s24) (defBody s24) (defScope s24) [] [] (He.ga K "_law_plus") fd24
  g25 : mg "_law_times" = some (.ref (He.ga K "_law_times"))
  fd25 : FuncData
  F25 : FunD K "_law_times" "_law_times" (defArgs s25) (defBody s25) (defScope s25) [] [] (He.ga K "_law_times") fd25
  g26 : mg "_law_below" = some (.ref (He.ga K "_law_below"))
  fd26 : FuncData
  F26 : FunD K "_law_below" "_law_below" (defArgs s26) (defBody s26) (defScope s26) [] [] (He.ga K "_law_below") fd26
  g27 : mg "_law_poly" = some (.ref (He.ga K "_law_poly"))
  fd27 : FuncData
  F27 : FunD K "_law_poly" "_law_poly" (defArgs s27) (defBody s27) (defScope s27) [] [] (He.ga K "_law_poly") fd27
  g28 : mg "_law_value" = some (.ref (He.ga K "_law_value"))
  fd28 : FuncData
  F28 : FunD K "_law_value" "_law_value" (defArgs s28) (defBody s28) (defScope s28) [] [] (He.ga K "_law_value") fd28
  g29 : mg "_law_told" = some (.ref (He.ga K "_law_told"))
  fd29 : FuncData
  F29 : FunD K "_law_told" "_law_told" (defArgs s29) (defBody s29) (defScope s29) [] [] (He.ga K "_law_told") fd29
  g30 : mg "law" = some (.ref (He.ga K "law"))
  fd30 : FuncData
  F30 : FunD K "law" "law" (defArgs s30) (defBody s30) (defScope s30) [] [] (He.ga K "law") fd30
  b0_1 : ∃ dus, Vals [] dus ∧ Binds K fd0 ["value"] dus
  b1_3 : ∃ dus, Vals [] dus ∧ Binds K fd1 ["value", "least", "most"] dus
  b2_2 : ∃ dus, Vals [] dus ∧ Binds K fd2 ["low", "factors"] dus
  b3_2 : ∃ dus, Vals [] dus ∧ Binds K fd3 ["first", "second"] dus
  b4_2 : ∃ dus, Vals [] dus ∧ Binds K fd4 ["first", "second"] dus
  b5_1 : ∃ dus, Vals [] dus ∧ Binds K fd5 ["value"] dus
  b6_2 : ∃ dus, Vals [] dus ∧ Binds K fd6 ["value", "reason"] dus
  b7_2 : ∃ dus, Vals [] dus ∧ Binds K fd7 ["first", "second"] dus
  b8_2 : ∃ dus, Vals [] dus ∧ Binds K fd8 ["first", "second"] dus
  b9_3 : ∃ dus, Vals [] dus ∧ Binds K fd9 ["one", "over", "under"] dus
  b10_2 : ∃ dus, Vals [] dus ∧ Binds K fd10 ["number", "exponent"] dus
  b11_3 : ∃ dus, Vals [] dus ∧ Binds K fd11 ["one", "over", "under"] dus
  b12_2 : ∃ dus, Vals [] dus ∧ Binds K fd12 ["over", "under"] dus
  b13_1 : ∃ dus, Vals [] dus ∧ Binds K fd13 ["one"] dus
  b14_1 : ∃ dus, Vals [] dus ∧ Binds K fd14 ["script"] dus
  b15_2 : ∃ dus, Vals [] dus ∧ Binds K fd15 ["draws", "place"] dus
  b16_3 : ∃ dus, Vals [] dus ∧ Binds K fd16 ["draws", "at", "many"] dus
  b17_3 : ∃ dus, Vals [] dus ∧ Binds K fd17 ["rows", "draws", "at"] dus
  b18_2 : ∃ dus, Vals [] dus ∧ Binds K fd18 ["low", "factors"] dus
  b19_2 : ∃ dus, Vals [] dus ∧ Binds K fd19 ["one", "other"] dus
  b20_2 : ∃ dus, Vals [] dus ∧ Binds K fd20 ["one", "other"] dus
  b22_2 : ∃ dus, Vals [] dus ∧ Binds K fd22 ["actual", "due"] dus
  b23_2 : ∃ dus, Vals [] dus ∧ Binds K fd23 ["over", "under"] dus
  b24_2 : ∃ dus, Vals [] dus ∧ Binds K fd24 ["one", "other"] dus
  b25_2 : ∃ dus, Vals [] dus ∧ Binds K fd25 ["one", "other"] dus
  b27_2 : ∃ dus, Vals [] dus ∧ Binds K fd27 ["draws", "at"] dus
  b28_3 : ∃ dus, Vals [] dus ∧ Binds K fd28 ["one", "over", "under"] dus
  b29_4 : ∃ dus, Vals [] dus ∧ Binds K fd29 ["which", "one", "other", "under"] dus
  m_ArgumentError : mg "ArgumentError" = some (.ref (He.ga K "ArgumentError"))
  e_ArgumentError : DX.errB K Pr.main.file "ArgumentError" "ReasonError" "reason" = true
  x_ArgumentError_ArgumentError : PySem.W.exmOne K (.ref (He.ga K "ArgumentError")) (.ref (He.ga K "ArgumentError")) = some true
  gd_NOTHING : GD K mg "NOTHING" (.tup [.int 0, .tup []])
  I_ReasonError : ∃ cc fd, DX.InitF Pr K (He.ga K ini0.cls) (DX.iniAd K ini0.cls) (DX.iniCode K ini0.cls) cc fd ⟨ini0.name, ini0.qual, ini0.params, ini0.body, ini0.scope, [("__class__", cc)], DX.iniCode K ini0.cls⟩ "reason"
section
variable {w : World} {K : PySem.W.Frag} {mg : Str → Option Value} {base : Heap}
theorem scI0 : NdefX.NScope ["self", "reason", "__class__"] ["self", "reason"] ["__class__"] ini0.scope := by
  constructor
  all_goals first | rfl | decide +kernel
theorem suI0 : ini0.scope.names.lookup ("super" : Str) = some .globalImplicit := by decide +kernel
theorem er_ArgumentError (T : Txt K mg) {k : Nat} (hk : 1 ≤ k) : ErrF Pr w K mg base k "ArgumentError" "reason" := by
  obtain ⟨k, rfl⟩ : ∃ j, k = j + 1 := ⟨k - 1, by omega⟩
  obtain ⟨cc, fd, I⟩ := T.I_ReasonError
  refine DX.errF_of (by decide +kernel) T.e_ArgumentError T.m_ArgumentError (DX.init_ok I scI0 rfl suI0 T.f_super (by decide) (by decide) (fun _ => ⟨_, rfl⟩)) ?_
  obtain ⟨doc, pm, ctv, rfl⟩ := I.is
  exact Binds.all fun us hl => match us, hl with | [_, _], _ => rfl
theorem sc0 : FnScope ["value"] ["value"] (defScope s0) := ⟨rfl, rfl, rfl, by decide +kernel, rfl, by decide +kernel, by decide +kernel⟩
theorem ok0 (T : Txt K mg) : FnG Pr w K mg base 1 (He.ga K "is_integer") T.fd0 ["value"] (spD K mg 1 f0) := by
  refine fnG_of T.F0 sc0 (fun vs H Q E h => spD_len h) fun cdv A outer s H vs Q E hr hg h => ?_
  have cc : Cc (cxOf (L2.CX Pr w) Pr w K mg base ["value"] "is_integer" (defScope s0) (He.ga K "is_integer") cdv A outer s H E) (fun cls d _ H' => E cls d H') 0 := ⟨rfl, hr, hg, sc0.nd, takes_of rfl rfl rfl rfl⟩
  have PO := passes_of (X := cxOf (L2.CX Pr w) Pr w K mg base ["value"] "is_integer" (defScope s0) (He.ga K "is_integer") cdv A outer s H E) rfl
  have der : DSs (cxOf (L2.CX Pr w) Pr w K mg base ["value"] "is_integer" (defScope s0) (He.ga K "is_integer") cdv A outer s H E) (fun cls d _ H' => E cls d H') (defBody s0) m0 := dss_one (ds_ret (de_and (de_isa (T := "int") (by decide) (by rfl) T.f_isinstance (by rfl) T.f_int (by decide +kernel) (de_var 0)) (de_one (de_not (de_isa (T := "bool") (by decide) (by rfl) T.f_isinstance (by rfl) T.f_bool (by decide +kernel) (de_var 0))))))
  exact ⟨_, der, body_def (N := ["value"]) h (by decide)⟩
theorem sc1 : FnScope ["value", "least", "most"] ["value", "least", "most"] (defScope s1) := ⟨rfl, rfl, rfl, by decide +kernel, rfl, by decide +kernel, by decide +kernel⟩
theorem ok1 (T : Txt K mg) : FnG Pr w K mg base 2 (He.ga K "in_range") T.fd1 ["value", "least", "most"] (spD K mg 3 f1) := by
  refine fnG_of T.F1 sc1 (fun vs H Q E h => spD_len h) fun cdv A outer s H vs Q E hr hg h => ?_
  have cc : Cc (cxOf (L2.CX Pr w) Pr w K mg base ["value", "least", "most"] "in_range" (defScope s1) (He.ga K "in_range") cdv A outer s H E) (fun cls d _ H' => E cls d H') 1 := ⟨rfl, hr, hg, sc1.nd, takes_of rfl rfl rfl rfl⟩
  have PO := passes_of (X := cxOf (L2.CX Pr w) Pr w K mg base ["value", "least", "most"] "in_range" (defScope s1) (He.ga K "in_range") cdv A outer s H E) rfl
  have der : DSs (cxOf (L2.CX Pr w) Pr w K mg base ["value", "least", "most"] "in_range" (defScope s1) (He.ga K "in_range") cdv A outer s H E) (fun cls d _ H' => E cls d H') (defBody s1) m1 := dss_one (ds_ret (de_and (de_call cc ((ok0 T).mono (by decide)) (by rfl) T.g0 T.F0.kp T.b0_1.choose_spec.2 T.b0_1.choose_spec.1 (fun _ => .nil) (by rfl) (da_cons (de_var 0) (da_nil))) (de_one (de_chain cmp_le cmp_le (de_var 1) (de_var 0) (de_var 2)))))
  exact ⟨_, der, body_def (N := ["value", "least", "most"]) h (by decide)⟩
theorem sc2 : FnScope ["low", "factors", "first", "last"] ["low", "factors"] (defScope s2) := ⟨rfl, rfl, rfl, by decide +kernel, rfl, by decide +kernel, by decide +kernel⟩
theorem ok2 (T : Txt K mg) : FnG Pr w K mg base 1 (He.ga K "trimmed") T.fd2 ["low", "factors"] (spD K mg 2 f2) := by
  refine fnG_of T.F2 sc2 (fun vs H Q E h => spD_len h) fun cdv A outer s H vs Q E hr hg h => ?_
  have cc : Cc (cxOf (L2.CX Pr w) Pr w K mg base ["low", "factors", "first", "last"] "trimmed" (defScope s2) (He.ga K "trimmed") cdv A outer s H E) (fun cls d _ H' => E cls d H') 0 := ⟨rfl, hr, hg, sc2.nd, takes_of rfl rfl rfl rfl⟩
  have PO := passes_of (X := cxOf (L2.CX Pr w) Pr w K mg base ["low", "factors", "first", "last"] "trimmed" (defScope s2) (He.ga K "trimmed") cdv A outer s H E) rfl
  have der : DSs (cxOf (L2.CX Pr w) Pr w K mg base ["low", "factors", "first", "last"] "trimmed" (defScope s2) (He.ga K "trimmed") cdv A outer s H E) (fun cls d _ H' => E cls d H') (defBody s2) m2 := dss_cons (ds_set cc.nd (i := 2) (by rfl) (by first | exact Or.inl rfl | exact Or.inr rfl) (de_int)) (dss_cons (ds_while PO (dt_w (dw_and (dt_cmp cmp_lt (de_var 2) (de_len (by rfl) T.f_len (de_var 1)) (by rfl)) (dw_and1 (dt_cmp (cmp_eq cc) (de_ix (by intro _ _; rfl) (de_var 1) (de_var 2)) (de_int) (by rfl))))) (dss_one (ds_augX cc.nd (i := 2) (by rfl) (by first | exact Or.inl rfl | exact Or.inr rfl) (de_int)))) (dss_cons (ds_set cc.nd (i := 3) (by rfl) (by first | exact Or.inl rfl | exact Or.inr rfl) (de_len (by rfl) T.f_len (de_var 1))) (dss_cons (ds_while PO (dt_w (dw_and (dt_cmp cmp_gt (de_var 3) (de_var 2) (by rfl)) (dw_and1 (dt_cmp (cmp_eq cc) (de_ix (by intro _ _; rfl) (de_var 1) (de_sub (de_var 3) (de_int))) (de_int) (by rfl))))) (dss_one (ds_augI iop_subC cc.nd (i := 3) (by rfl) (by first | exact Or.inl rfl | exact Or.inr rfl) (de_int)))) (dss_one (ds_ret (de_if (dt_cmp cmp_gt (de_var 3) (de_var 2) (by rfl)) (de_tup (da_cons (de_add (de_var 0) (de_var 2)) (da_cons (de_tupleOf (by rfl) T.f_tuple (de_sliceLH (de_var 1) (de_var 2) (de_var 3))) (da_nil)))) (de_gd (by rfl) T.gd_NOTHING)))))))
  exact ⟨_, der, body_def (N := ["low", "factors", "first", "last"]) h (by decide)⟩
theorem sc3 : FnScope ["first", "second", "low", "high", "sums", "start", "factors", "place", "factor"] ["first", "second"] (defScope s3) := ⟨rfl, rfl, rfl, by decide +kernel, rfl, by decide +kernel, by decide +kernel⟩
theorem ok3 (T : Txt K mg) : FnG Pr w K mg base 2 (He.ga K "added") T.fd3 ["first", "second"] (spD K mg 2 f3) := by
  refine fnG_of T.F3 sc3 (fun vs H Q E h => spD_len h) fun cdv A outer s H vs Q E hr hg h => ?_
  have cc : Cc (cxOf (L2.CX Pr w) Pr w K mg base ["first", "second", "low", "high", "sums", "start", "factors", "place", "factor"] "added" (defScope s3) (He.ga K "added") cdv A outer s H E) (fun cls d _ H' => E cls d H') 1 := ⟨rfl, hr, hg, sc3.nd, takes_of rfl rfl rfl rfl⟩
  have PO := passes_of (X := cxOf (L2.CX Pr w) Pr w K mg base ["first", "second", "low", "high", "sums", "start", "factors", "place", "factor"] "added" (defScope s3) (He.ga K "added") cdv A outer s H E) rfl
  have der : DSs (cxOf (L2.CX Pr w) Pr w K mg base ["first", "second", "low", "high", "sums", "start", "factors", "place", "factor"] "added" (defScope s3) (He.ga K "added") cdv A outer s H E) (fun cls d _ H' => E cls d H') (defBody s3) m3 := dss_cons (ds_if (dt_w (dw_or (dt_cmp (cmp_eq cc) (de_var 0) (de_gd (by rfl) T.gd_NOTHING) (by rfl)) (dw_or1 (dt_cmp (cmp_eq cc) (de_var 1) (de_gd (by rfl) T.gd_NOTHING) (by rfl))))) (dss_one (ds_ret (de_if (dt_cmp (cmp_eq cc) (de_var 0) (de_gd (by rfl) T.gd_NOTHING) (by rfl)) (de_var 1) (de_var 0)))) (dss_nil)) (dss_cons (ds_set cc.nd (i := 2) (by rfl) (by first | exact Or.inl rfl | exact Or.inr rfl) (de_min2 cc (by rfl) T.f_min (de_ix (by intro _ _; rfl) (de_var 0) (de_int)) (de_ix (by intro _ _; rfl) (de_var 1) (de_int)))) (dss_cons (ds_set cc.nd (i := 3) (by rfl) (by first | exact Or.inl rfl | exact Or.inr rfl) (de_max2 cc (by rfl) T.f_max (de_add (de_ix (by intro _ _; rfl) (de_var 0) (de_int)) (de_len (by rfl) T.f_len (de_ix (by intro _ _; rfl) (de_var 0) (de_int)))) (de_add (de_ix (by intro _ _; rfl) (de_var 1) (de_int)) (de_len (by rfl) T.f_len (de_ix (by intro _ _; rfl) (de_var 1) (de_int)))))) (dss_cons (ds_set cc.nd (i := 4) (by rfl) (by first | exact Or.inl rfl | exact Or.inr rfl) (de_mul (de_lst (da_cons (de_int) (da_nil))) (de_sub (de_var 3) (de_var 2)))) (dss_cons (ds_for PO cc.calm (dit_seq (de_tup (da_cons (de_var 0) (da_cons (de_var 1) (da_nil))))) (dg_tup cc.calm (dgs_cons (dg_name cc.nd (i := 5) (by rfl) (by first | exact Or.inl rfl | exact Or.inr rfl)) (dgs_cons (dg_name cc.nd (i := 6) (by rfl) (by first | exact Or.inl rfl | exact Or.inr rfl)) (dgs_nil)))) (dss_one (ds_for PO cc.calm (dit_enum2 (by rfl) T.f_enumerate (de_var 6)) (dg_tup cc.calm (dgs_cons (dg_name cc.nd (i := 7) (by rfl) (by first | exact Or.inl rfl | exact Or.inr rfl)) (dgs_cons (dg_name cc.nd (i := 8) (by rfl) (by first | exact Or.inl rfl | exact Or.inr rfl)) (dgs_nil)))) (dss_one (ds_augSA cc.nd (j := 4) (by rfl) (by first | exact Or.inl rfl | exact Or.inr (Or.inl rfl) | exact Or.inr (Or.inr rfl)) (de_add (de_sub (de_var 5) (de_var 2)) (de_var 7)) (de_var 8)))))) (dss_one (ds_ret (de_call cc ((ok2 T).mono (by decide)) (by rfl) T.g2 T.F2.kp T.b2_2.choose_spec.2 T.b2_2.choose_spec.1 (fun _ => .nil) (by rfl) (da_cons (de_var 2) (da_cons (de_var 4) (da_nil))))))))))
  exact ⟨_, der, body_def (N := ["first", "second", "low", "high", "sums", "start", "factors", "place", "factor"]) h (by decide)⟩
theorem sc4 : FnScope ["first", "second", "sums", "place", "factor", "other", "more"] ["first", "second"] (defScope s4) := ⟨rfl, rfl, rfl, by decide +kernel, rfl, by decide +kernel, by decide +kernel⟩
theorem ok4 (T : Txt K mg) : FnG Pr w K mg base 2 (He.ga K "multiplied") T.fd4 ["first", "second"] (spD K mg 2 f4) := by
  refine fnG_of T.F4 sc4 (fun vs H Q E h => spD_len h) fun cdv A outer s H vs Q E hr hg h => ?_
  have cc : Cc (cxOf (L2.CX Pr w) Pr w K mg base ["first", "second", "sums", "place", "factor", "other", "more"] "multiplied" (defScope s4) (He.ga K "multiplied") cdv A outer s H E) (fun cls d _ H' => E cls d H') 1 := ⟨rfl, hr, hg, sc4.nd, takes_of rfl rfl rfl rfl⟩
  have PO := passes_of (X := cxOf (L2.CX Pr w) Pr w K mg base ["first", "second", "sums", "place", "factor", "other", "more"] "multiplied" (defScope s4) (He.ga K "multiplied") cdv A outer s H E) rfl
  have der : DSs (cxOf (L2.CX Pr w) Pr w K mg base ["first", "second", "sums", "place", "factor", "other", "more"] "multiplied" (defScope s4) (He.ga K "multiplied") cdv A outer s H E) (fun cls d _ H' => E cls d H') (defBody s4) m4 := dss_cons (ds_if (dt_w (dw_or (dt_cmp (cmp_eq cc) (de_var 0) (de_gd (by rfl) T.gd_NOTHING) (by rfl)) (dw_or1 (dt_cmp (cmp_eq cc) (de_var 1) (de_gd (by rfl) T.gd_NOTHING) (by rfl))))) (dss_one (ds_ret (de_gd (by rfl) T.gd_NOTHING))) (dss_nil)) (dss_cons (ds_set cc.nd (i := 2) (by rfl) (by first | exact Or.inl rfl | exact Or.inr rfl) (de_mul (de_lst (da_cons (de_int) (da_nil))) (de_sub (de_add (de_len (by rfl) T.f_len (de_ix (by intro _ _; rfl) (de_var 0) (de_int))) (de_len (by rfl) T.f_len (de_ix (by intro _ _; rfl) (de_var 1) (de_int)))) (de_int)))) (dss_cons (ds_for PO cc.calm (dit_enum2 (by rfl) T.f_enumerate (de_ix (by intro _ _; rfl) (de_var 0) (de_int))) (dg_tup cc.calm (dgs_cons (dg_name cc.nd (i := 3) (by rfl) (by first | exact Or.inl rfl | exact Or.inr rfl)) (dgs_cons (dg_name cc.nd (i := 4) (by rfl) (by first | exact Or.inl rfl | exact Or.inr rfl)) (dgs_nil)))) (dss_one (ds_if (dt_cmp (cmp_ne cc) (de_var 4) (de_int) (by rfl)) (dss_one (ds_for PO cc.calm (dit_enum2 (by rfl) T.f_enumerate (de_ix (by intro _ _; rfl) (de_var 1) (de_int))) (dg_tup cc.calm (dgs_cons (dg_name cc.nd (i := 5) (by rfl) (by first | exact Or.inl rfl | exact Or.inr rfl)) (dgs_cons (dg_name cc.nd (i := 6) (by rfl) (by first | exact Or.inl rfl | exact Or.inr rfl)) (dgs_nil)))) (dss_one (ds_augSA cc.nd (j := 2) (by rfl) (by first | exact Or.inl rfl | exact Or.inr (Or.inl rfl) | exact Or.inr (Or.inr rfl)) (de_add (de_var 3) (de_var 5)) (de_mul (de_var 4) (de_var 6)))))) (dss_nil)))) (dss_one (ds_ret (de_call cc ((ok2 T).mono (by decide)) (by rfl) T.g2 T.F2.kp T.b2_2.choose_spec.2 T.b2_2.choose_spec.1 (fun _ => .nil) (by rfl) (da_cons (de_add (de_ix (by intro _ _; rfl) (de_var 0) (de_int)) (de_ix (by intro _ _; rfl) (de_var 1) (de_int))) (da_cons (de_var 2) (da_nil))))))))
  exact ⟨_, der, body_def (N := ["first", "second", "sums", "place", "factor", "other", "more"]) h (by decide)⟩
theorem sc5 : FnScope ["value", "factor"] ["value"] (defScope s5) := ⟨rfl, rfl, rfl, by decide +kernel, rfl, by decide +kernel, by decide +kernel⟩
theorem ok5 (T : Txt K mg) : FnG Pr w K mg base 3 (He.ga K "is_poly") T.fd5 ["value"] (spD K mg 1 f5) := by
  refine fnG_of T.F5 sc5 (fun vs H Q E h => spD_len h) fun cdv A outer s H vs Q E hr hg h => ?_
  have cc : Cc (cxOf (L2.CX Pr w) Pr w K mg base ["value", "factor"] "is_poly" (defScope s5) (He.ga K "is_poly") cdv A outer s H E) (fun cls d _ H' => E cls d H') 2 := ⟨rfl, hr, hg, sc5.nd, takes_of rfl rfl rfl rfl⟩
  have PO := passes_of (X := cxOf (L2.CX Pr w) Pr w K mg base ["value", "factor"] "is_poly" (defScope s5) (He.ga K "is_poly") cdv A outer s H E) rfl
  have der : DSs (cxOf (L2.CX Pr w) Pr w K mg base ["value", "factor"] "is_poly" (defScope s5) (He.ga K "is_poly") cdv A outer s H E) (fun cls d _ H' => E cls d H') (defBody s5) m5 := dss_cons (ds_if (dt_w (dw_or (dt_not (dt_val (de_isa (T := "tuple") (by decide) (by rfl) T.f_isinstance (by rfl) T.f_tuple (by decide +kernel) (de_var 0)))) (dw_or (dt_cmp (cmp_ne cc) (de_len (by rfl) T.f_len (de_var 0)) (de_int) (by rfl)) (dw_or1 (dt_not (dt_val (de_isa (T := "tuple") (by decide) (by rfl) T.f_isinstance (by rfl) T.f_tuple (by decide +kernel) (de_ix (by intro _ _; rfl) (de_var 0) (de_int))))))))) (dss_one (ds_ret (de_bl))) (dss_nil)) (dss_cons (ds_if (dt_w (dw_or (dt_not (dt_val (de_call cc ((ok1 T).mono (by decide)) (by rfl) T.g1 T.F1.kp T.b1_3.choose_spec.2 T.b1_3.choose_spec.1 (fun _ => .nil) (by rfl) (da_cons (de_ix (by intro _ _; rfl) (de_var 0) (de_int)) (da_cons (de_neg (de_gint (by rfl) T.c_MAX_DEGREE.choose_spec)) (da_cons (de_gint (by rfl) T.c_MAX_DEGREE.choose_spec) (da_nil))))))) (dw_or1 (dt_cmp cmp_gt (de_len (by rfl) T.f_len (de_ix (by intro _ _; rfl) (de_var 0) (de_int))) (de_gint (by rfl) T.c_MAX_DEGREE.choose_spec) (by rfl))))) (dss_one (ds_ret (de_bl))) (dss_nil)) (dss_cons (ds_if (dt_not (dt_val (de_all cc (by rfl) T.f_all (de_lc cc (dit_seq (de_ix (by intro _ _; rfl) (de_var 0) (de_int))) (own := [("factor", 1)]) (by first | exact (show blkC ["value", "factor"] (defScope s5) _ _ = true by decide +kernel) | kernel_rfl) (fun _ _ _ _ _ => by have cc0 := cc; exact tgc_name (i := 1) cc0.nd (by rfl) (by first | exact Or.inl rfl | exact Or.inr rfl) (by decide)) (fun _ _ _ _ _ cc => dts_nil) (fun _ _ _ _ _ cc => de_call cc ((ok1 T).mono (by decide)) (by rfl) T.g1 T.F1.kp T.b1_3.choose_spec.2 T.b1_3.choose_spec.1 (fun _ => .nil) (by rfl) (da_cons (de_var 1) (da_cons (de_neg (de_gint (by rfl) T.c_MAX_FACTOR.choose_spec)) (da_cons (de_gint (by rfl) T.c_MAX_FACTOR.choose_spec) (da_nil))))))))) (dss_one (ds_ret (de_bl))) (dss_nil)) (dss_one (ds_ret (de_cmp (cmp_eq cc) (de_var 0) (de_call cc ((ok2 T).mono (by decide)) (by rfl) T.g2 T.F2.kp T.b2_2.choose_spec.2 T.b2_2.choose_spec.1 (fun _ => .nil) (by rfl) (da_cons (de_ix (by intro _ _; rfl) (de_var 0) (de_int)) (da_cons (de_ix (by intro _ _; rfl) (de_var 0) (de_int)) (da_nil)))) (by rfl))))))
  exact ⟨_, der, body_def (N := ["value", "factor"]) h (by decide)⟩
theorem sc6 : FnScope ["value", "reason"] ["value", "reason"] (defScope s6) := ⟨rfl, rfl, rfl, by decide +kernel, rfl, by decide +kernel, by decide +kernel⟩
theorem ok6 (T : Txt K mg) : FnG Pr w K mg base 4 (He.ga K "demand_poly") T.fd6 ["value", "reason"] (spD K mg 2 f6) := by
  refine fnG_of T.F6 sc6 (fun vs H Q E h => spD_len h) fun cdv A outer s H vs Q E hr hg h => ?_
  have cc : Cc (cxOf (L2.CX Pr w) Pr w K mg base ["value", "reason"] "demand_poly" (defScope s6) (He.ga K "demand_poly") cdv A outer s H E) (fun cls d _ H' => E cls d H') 3 := ⟨rfl, hr, hg, sc6.nd, takes_of rfl rfl rfl rfl⟩
  have PO := passes_of (X := cxOf (L2.CX Pr w) Pr w K mg base ["value", "reason"] "demand_poly" (defScope s6) (He.ga K "demand_poly") cdv A outer s H E) rfl
  have der : DSs (cxOf (L2.CX Pr w) Pr w K mg base ["value", "reason"] "demand_poly" (defScope s6) (He.ga K "demand_poly") cdv A outer s H E) (fun cls d _ H' => E cls d H') (defBody s6) m6 := dss_one (ds_if (dt_not (dt_val (de_call cc ((ok5 T).mono (by decide)) (by rfl) T.g5 T.F5.kp T.b5_1.choose_spec.2 T.b5_1.choose_spec.1 (fun _ => .nil) (by rfl) (da_cons (de_var 0) (da_nil))))) (dss_one (ds_raise cc (er_ArgumentError T (by decide)) (by rfl) (by rfl) (de_var 1))) (dss_nil))
  exact ⟨_, der, body_def (N := ["value", "reason"]) h (by decide)⟩
theorem sc7 : FnScope ["first", "second"] ["first", "second"] (defScope s7) := ⟨rfl, rfl, rfl, by decide +kernel, rfl, by decide +kernel, by decide +kernel⟩
theorem ok7 (T : Txt K mg) : FnG Pr w K mg base 5 (He.ga K "poly_sum") T.fd7 ["first", "second"] (spD K mg 2 f7) := by
  refine fnG_of T.F7 sc7 (fun vs H Q E h => spD_len h) fun cdv A outer s H vs Q E hr hg h => ?_
  have cc : Cc (cxOf (L2.CX Pr w) Pr w K mg base ["first", "second"] "poly_sum" (defScope s7) (He.ga K "poly_sum") cdv A outer s H E) (fun cls d _ H' => E cls d H') 4 := ⟨rfl, hr, hg, sc7.nd, takes_of rfl rfl rfl rfl⟩
  have PO := passes_of (X := cxOf (L2.CX Pr w) Pr w K mg base ["first", "second"] "poly_sum" (defScope s7) (He.ga K "poly_sum") cdv A outer s H E) rfl
  have der : DSs (cxOf (L2.CX Pr w) Pr w K mg base ["first", "second"] "poly_sum" (defScope s7) (He.ga K "poly_sum") cdv A outer s H E) (fun cls d _ H' => E cls d H') (defBody s7) m7 := dss_cons (ds_expr (de_call cc ((ok6 T).mono (by decide)) (by rfl) T.g6 T.F6.kp T.b6_2.choose_spec.2 T.b6_2.choose_spec.1 (fun _ => .nil) (by rfl) (da_cons (de_var 0) (da_cons (de_str) (da_nil))))) (dss_cons (ds_expr (de_call cc ((ok6 T).mono (by decide)) (by rfl) T.g6 T.F6.kp T.b6_2.choose_spec.2 T.b6_2.choose_spec.1 (fun _ => .nil) (by rfl) (da_cons (de_var 1) (da_cons (de_str) (da_nil))))) (dss_one (ds_ret (de_call cc ((ok3 T).mono (by decide)) (by rfl) T.g3 T.F3.kp T.b3_2.choose_spec.2 T.b3_2.choose_spec.1 (fun _ => .nil) (by rfl) (da_cons (de_var 0) (da_cons (de_var 1) (da_nil)))))))
  exact ⟨_, der, body_def (N := ["first", "second"]) h (by decide)⟩
theorem sc8 : FnScope ["first", "second"] ["first", "second"] (defScope s8) := ⟨rfl, rfl, rfl, by decide +kernel, rfl, by decide +kernel, by decide +kernel⟩
theorem ok8 (T : Txt K mg) : FnG Pr w K mg base 5 (He.ga K "poly_product") T.fd8 ["first", "second"] (spD K mg 2 f8) := by
  refine fnG_of T.F8 sc8 (fun vs H Q E h => spD_len h) fun cdv A outer s H vs Q E hr hg h => ?_
  have cc : Cc (cxOf (L2.CX Pr w) Pr w K mg base ["first", "second"] "poly_product" (defScope s8) (He.ga K "poly_product") cdv A outer s H E) (fun cls d _ H' => E cls d H') 4 := ⟨rfl, hr, hg, sc8.nd, takes_of rfl rfl rfl rfl⟩
  have PO := passes_of (X := cxOf (L2.CX Pr w) Pr w K mg base ["first", "second"] "poly_product" (defScope s8) (He.ga K "poly_product") cdv A outer s H E) rfl
  have der : DSs (cxOf (L2.CX Pr w) Pr w K mg base ["first", "second"] "poly_product" (defScope s8) (He.ga K "poly_product") cdv A outer s H E) (fun cls d _ H' => E cls d H') (defBody s8) m8 := dss_cons (ds_expr (de_call cc ((ok6 T).mono (by decide)) (by rfl) T.g6 T.F6.kp T.b6_2.choose_spec.2 T.b6_2.choose_spec.1 (fun _ => .nil) (by rfl) (da_cons (de_var 0) (da_cons (de_str) (da_nil))))) (dss_cons (ds_expr (de_call cc ((ok6 T).mono (by decide)) (by rfl) T.g6 T.F6.kp T.b6_2.choose_spec.2 T.b6_2.choose_spec.1 (fun _ => .nil) (by rfl) (da_cons (de_var 1) (da_cons (de_str) (da_nil))))) (dss_one (ds_ret (de_call cc ((ok4 T).mono (by decide)) (by rfl) T.g4 T.F4.kp T.b4_2.choose_spec.2 T.b4_2.choose_spec.1 (fun _ => .nil) (by rfl) (da_cons (de_var 0) (da_cons (de_var 1) (da_nil)))))))
  exact ⟨_, der, body_def (N := ["first", "second"]) h (by decide)⟩
theorem sc10 : FnScope ["number", "exponent", "power", "_"] ["number", "exponent"] (defScope s10) := ⟨rfl, rfl, rfl, by decide +kernel, rfl, by decide +kernel, by decide +kernel⟩
theorem ok10 (T : Txt K mg) : FnG Pr w K mg base 1 (He.ga K "power_of") T.fd10 ["number", "exponent"] (spD K mg 2 f10) := by
  refine fnG_of T.F10 sc10 (fun vs H Q E h => spD_len h) fun cdv A outer s H vs Q E hr hg h => ?_
  have cc : Cc (cxOf (L2.CX Pr w) Pr w K mg base ["number", "exponent", "power", "_"] "power_of" (defScope s10) (He.ga K "power_of") cdv A outer s H E) (fun cls d _ H' => E cls d H') 0 := ⟨rfl, hr, hg, sc10.nd, takes_of rfl rfl rfl rfl⟩
  have PO := passes_of (X := cxOf (L2.CX Pr w) Pr w K mg base ["number", "exponent", "power", "_"] "power_of" (defScope s10) (He.ga K "power_of") cdv A outer s H E) rfl
  have der : DSs (cxOf (L2.CX Pr w) Pr w K mg base ["number", "exponent", "power", "_"] "power_of" (defScope s10) (He.ga K "power_of") cdv A outer s H E) (fun cls d _ H' => E cls d H') (defBody s10) m10 := dss_cons (ds_set cc.nd (i := 2) (by rfl) (by first | exact Or.inl rfl | exact Or.inr rfl) (de_int)) (dss_cons (ds_for PO cc.calm (dit_range1 (by rfl) T.f_range (de_var 1)) (dg_name cc.nd (i := 3) (by rfl) (by first | exact Or.inl rfl | exact Or.inr rfl)) (dss_one (ds_augM cc.nd (i := 2) (by rfl) (by first | exact Or.inl rfl | exact Or.inr rfl) (de_var 0)))) (dss_one (ds_ret (de_var 2))))
  exact ⟨_, der, body_def (N := ["number", "exponent", "power", "_"]) h (by decide)⟩
theorem sc12 : FnScope ["over", "under", "sign", "first", "second"] ["over", "under"] (defScope s12) := ⟨rfl, rfl, rfl, by decide +kernel, rfl, by decide +kernel, by decide +kernel⟩
theorem ok12 (T : Txt K mg) : FnG Pr w K mg base 1 (He.ga K "least_terms") T.fd12 ["over", "under"] (spD K mg 2 f12) := by
  refine fnG_of T.F12 sc12 (fun vs H Q E h => spD_len h) fun cdv A outer s H vs Q E hr hg h => ?_
  have cc : Cc (cxOf (L2.CX Pr w) Pr w K mg base ["over", "under", "sign", "first", "second"] "least_terms" (defScope s12) (He.ga K "least_terms") cdv A outer s H E) (fun cls d _ H' => E cls d H') 0 := ⟨rfl, hr, hg, sc12.nd, takes_of rfl rfl rfl rfl⟩
  have PO := passes_of (X := cxOf (L2.CX Pr w) Pr w K mg base ["over", "under", "sign", "first", "second"] "least_terms" (defScope s12) (He.ga K "least_terms") cdv A outer s H E) rfl
  have der : DSs (cxOf (L2.CX Pr w) Pr w K mg base ["over", "under", "sign", "first", "second"] "least_terms" (defScope s12) (He.ga K "least_terms") cdv A outer s H E) (fun cls d _ H' => E cls d H') (defBody s12) m12 := dss_cons (ds_par cc (i := 3) (j := 4) (by rfl) (by rfl) (by decide) (by rfl) (by rfl) (de_abs (by rfl) T.f_abs (de_var 0)) (de_abs (by rfl) T.f_abs (de_var 1)) (by rfl)) (dss_cons (ds_while PO (dt_cmp cmp_gt (de_var 4) (de_int) (by rfl)) (dss_one (ds_par cc (i := 3) (j := 4) (by rfl) (by rfl) (by decide) (by rfl) (by rfl) (de_var 4) (de_mod (de_var 3) (de_var 4)) (by rfl)))) (dss_cons (ds_set cc.nd (i := 2) (by rfl) (by first | exact Or.inl rfl | exact Or.inr rfl) (de_if (dt_cmp cmp_lt (de_var 1) (de_int) (by rfl)) (de_neg (de_int)) (de_int))) (dss_one (ds_ret (de_tup (da_cons (de_fdivG (de_mulG (de_var 2) (de_var 0)) (de_var 3)) (da_cons (de_fdivG (de_mulG (de_var 2) (de_var 1)) (de_var 3)) (da_nil))))))))
  exact ⟨_, der, body_def (N := ["over", "under", "sign", "first", "second"]) h (by decide)⟩
theorem sc11 : FnScope ["one", "over", "under", "degree", "top", "below", "place", "factor"] ["one", "over", "under"] (defScope s11) := ⟨rfl, rfl, rfl, by decide +kernel, rfl, by decide +kernel, by decide +kernel⟩
theorem ok11 (T : Txt K mg) : FnG Pr w K mg base 2 (He.ga K "value_at") T.fd11 ["one", "over", "under"] (spD K mg 3 f11) := by
  refine fnG_of T.F11 sc11 (fun vs H Q E h => spD_len h) fun cdv A outer s H vs Q E hr hg h => ?_
  have cc : Cc (cxOf (L2.CX Pr w) Pr w K mg base ["one", "over", "under", "degree", "top", "below", "place", "factor"] "value_at" (defScope s11) (He.ga K "value_at") cdv A outer s H E) (fun cls d _ H' => E cls d H') 1 := ⟨rfl, hr, hg, sc11.nd, takes_of rfl rfl rfl rfl⟩
  have PO := passes_of (X := cxOf (L2.CX Pr w) Pr w K mg base ["one", "over", "under", "degree", "top", "below", "place", "factor"] "value_at" (defScope s11) (He.ga K "value_at") cdv A outer s H E) rfl
  have der : DSs (cxOf (L2.CX Pr w) Pr w K mg base ["one", "over", "under", "degree", "top", "below", "place", "factor"] "value_at" (defScope s11) (He.ga K "value_at") cdv A outer s H E) (fun cls d _ H' => E cls d H') (defBody s11) m11 := dss_cons (ds_set cc.nd (i := 3) (by rfl) (by first | exact Or.inl rfl | exact Or.inr rfl) (de_sub (de_len (by rfl) T.f_len (de_ix (by intro _ _; rfl) (de_var 0) (de_int))) (de_int))) (dss_cons (ds_set cc.nd (i := 4) (by rfl) (by first | exact Or.inl rfl | exact Or.inr rfl) (de_int)) (dss_cons (ds_for PO cc.calm (dit_enum2 (by rfl) T.f_enumerate (de_ix (by intro _ _; rfl) (de_var 0) (de_int))) (dg_tup cc.calm (dgs_cons (dg_name cc.nd (i := 6) (by rfl) (by first | exact Or.inl rfl | exact Or.inr rfl)) (dgs_cons (dg_name cc.nd (i := 7) (by rfl) (by first | exact Or.inl rfl | exact Or.inr rfl)) (dgs_nil)))) (dss_one (ds_augX cc.nd (i := 4) (by rfl) (by first | exact Or.inl rfl | exact Or.inr rfl) (de_mulG (de_mulG (de_var 7) (de_call cc ((ok10 T).mono (by decide)) (by rfl) T.g10 T.F10.kp T.b10_2.choose_spec.2 T.b10_2.choose_spec.1 (fun _ => .nil) (by rfl) (da_cons (de_var 1) (da_cons (de_var 6) (da_nil))))) (de_call cc ((ok10 T).mono (by decide)) (by rfl) T.g10 T.F10.kp T.b10_2.choose_spec.2 T.b10_2.choose_spec.1 (fun _ => .nil) (by rfl) (da_cons (de_var 2) (da_cons (de_sub (de_var 3) (de_var 6)) (da_nil)))))))) (dss_cons (ds_set cc.nd (i := 5) (by rfl) (by first | exact Or.inl rfl | exact Or.inr rfl) (de_call cc ((ok10 T).mono (by decide)) (by rfl) T.g10 T.F10.kp T.b10_2.choose_spec.2 T.b10_2.choose_spec.1 (fun _ => .nil) (by rfl) (da_cons (de_var 2) (da_cons (de_max2 cc (by rfl) T.f_max (de_int) (de_var 3)) (da_nil))))) (dss_cons (ds_if (dt_cmp cmp_ge (de_ix (by intro _ _; rfl) (de_var 0) (de_int)) (de_int) (by rfl)) (dss_one (ds_ret (de_call cc ((ok12 T).mono (by decide)) (by rfl) T.g12 T.F12.kp T.b12_2.choose_spec.2 T.b12_2.choose_spec.1 (fun _ => .nil) (by rfl) (da_cons (de_mulG (de_var 4) (de_call cc ((ok10 T).mono (by decide)) (by rfl) T.g10 T.F10.kp T.b10_2.choose_spec.2 T.b10_2.choose_spec.1 (fun _ => .nil) (by rfl) (da_cons (de_var 1) (da_cons (de_ix (by intro _ _; rfl) (de_var 0) (de_int)) (da_nil))))) (da_cons (de_mulG (de_var 5) (de_call cc ((ok10 T).mono (by decide)) (by rfl) T.g10 T.F10.kp T.b10_2.choose_spec.2 T.b10_2.choose_spec.1 (fun _ => .nil) (by rfl) (da_cons (de_var 2) (da_cons (de_ix (by intro _ _; rfl) (de_var 0) (de_int)) (da_nil))))) (da_nil)))))) (dss_nil)) (dss_one (ds_ret (de_call cc ((ok12 T).mono (by decide)) (by rfl) T.g12 T.F12.kp T.b12_2.choose_spec.2 T.b12_2.choose_spec.1 (fun _ => .nil) (by rfl) (da_cons (de_mulG (de_var 4) (de_call cc ((ok10 T).mono (by decide)) (by rfl) T.g10 T.F10.kp T.b10_2.choose_spec.2 T.b10_2.choose_spec.1 (fun _ => .nil) (by rfl) (da_cons (de_var 2) (da_cons (de_neg (de_ix (by intro _ _; rfl) (de_var 0) (de_int))) (da_nil))))) (da_cons (de_mulG (de_var 5) (de_call cc ((ok10 T).mono (by decide)) (by rfl) T.g10 T.F10.kp T.b10_2.choose_spec.2 T.b10_2.choose_spec.1 (fun _ => .nil) (by rfl) (da_cons (de_var 1) (da_cons (de_neg (de_ix (by intro _ _; rfl) (de_var 0) (de_int))) (da_nil))))) (da_nil))))))))))
  exact ⟨_, der, body_def (N := ["one", "over", "under", "degree", "top", "below", "place", "factor"]) h (by decide)⟩
theorem sc9 : FnScope ["one", "over", "under"] ["one", "over", "under"] (defScope s9) := ⟨rfl, rfl, rfl, by decide +kernel, rfl, by decide +kernel, by decide +kernel⟩
theorem ok9 (T : Txt K mg) : FnG Pr w K mg base 5 (He.ga K "poly_value") T.fd9 ["one", "over", "under"] (spD K mg 3 f9) := by
  refine fnG_of T.F9 sc9 (fun vs H Q E h => spD_len h) fun cdv A outer s H vs Q E hr hg h => ?_
  have cc : Cc (cxOf (L2.CX Pr w) Pr w K mg base ["one", "over", "under"] "poly_value" (defScope s9) (He.ga K "poly_value") cdv A outer s H E) (fun cls d _ H' => E cls d H') 4 := ⟨rfl, hr, hg, sc9.nd, takes_of rfl rfl rfl rfl⟩
  have PO := passes_of (X := cxOf (L2.CX Pr w) Pr w K mg base ["one", "over", "under"] "poly_value" (defScope s9) (He.ga K "poly_value") cdv A outer s H E) rfl
  have der : DSs (cxOf (L2.CX Pr w) Pr w K mg base ["one", "over", "under"] "poly_value" (defScope s9) (He.ga K "poly_value") cdv A outer s H E) (fun cls d _ H' => E cls d H') (defBody s9) m9 := dss_cons (ds_expr (de_call cc ((ok6 T).mono (by decide)) (by rfl) T.g6 T.F6.kp T.b6_2.choose_spec.2 T.b6_2.choose_spec.1 (fun _ => .nil) (by rfl) (da_cons (de_var 0) (da_cons (de_str) (da_nil))))) (dss_cons (ds_if (dt_w (dw_or (dt_not (dt_val (de_call cc ((ok1 T).mono (by decide)) (by rfl) T.g1 T.F1.kp T.b1_3.choose_spec.2 T.b1_3.choose_spec.1 (fun _ => .nil) (by rfl) (da_cons (de_var 1) (da_cons (de_neg (de_gint (by rfl) T.c_MAX_FACTOR.choose_spec)) (da_cons (de_gint (by rfl) T.c_MAX_FACTOR.choose_spec) (da_nil))))))) (dw_or1 (dt_cmp (cmp_eq cc) (de_var 1) (de_int) (by rfl))))) (dss_one (ds_raise cc (er_ArgumentError T (by decide)) (by rfl) (by rfl) (de_str))) (dss_nil)) (dss_cons (ds_if (dt_not (dt_val (de_call cc ((ok1 T).mono (by decide)) (by rfl) T.g1 T.F1.kp T.b1_3.choose_spec.2 T.b1_3.choose_spec.1 (fun _ => .nil) (by rfl) (da_cons (de_var 2) (da_cons (de_int) (da_cons (de_gint (by rfl) T.c_MAX_FACTOR.choose_spec) (da_nil))))))) (dss_one (ds_raise cc (er_ArgumentError T (by decide)) (by rfl) (by rfl) (de_str))) (dss_nil)) (dss_one (ds_ret (de_call cc ((ok11 T).mono (by decide)) (by rfl) T.g11 T.F11.kp T.b11_3.choose_spec.2 T.b11_3.choose_spec.1 (fun _ => .nil) (by rfl) (da_cons (de_var 0) (da_cons (de_var 1) (da_cons (de_var 2) (da_nil)))))))))
  exact ⟨_, der, body_def (N := ["one", "over", "under"]) h (by decide)⟩
theorem sc13 : FnScope ["one"] ["one"] (defScope s13) := ⟨rfl, rfl, rfl, by decide +kernel, rfl, by decide +kernel, by decide +kernel⟩
theorem ok13 (T : Txt K mg) : FnG Pr w K mg base 5 (He.ga K "is_even_poly") T.fd13 ["one"] (spD K mg 1 f13) := by
  refine fnG_of T.F13 sc13 (fun vs H Q E h => spD_len h) fun cdv A outer s H vs Q E hr hg h => ?_
  have cc : Cc (cxOf (L2.CX Pr w) Pr w K mg base ["one"] "is_even_poly" (defScope s13) (He.ga K "is_even_poly") cdv A outer s H E) (fun cls d _ H' => E cls d H') 4 := ⟨rfl, hr, hg, sc13.nd, takes_of rfl rfl rfl rfl⟩
  have PO := passes_of (X := cxOf (L2.CX Pr w) Pr w K mg base ["one"] "is_even_poly" (defScope s13) (He.ga K "is_even_poly") cdv A outer s H E) rfl
  have der : DSs (cxOf (L2.CX Pr w) Pr w K mg base ["one"] "is_even_poly" (defScope s13) (He.ga K "is_even_poly") cdv A outer s H E) (fun cls d _ H' => E cls d H') (defBody s13) m13 := dss_cons (ds_expr (de_call cc ((ok6 T).mono (by decide)) (by rfl) T.g6 T.F6.kp T.b6_2.choose_spec.2 T.b6_2.choose_spec.1 (fun _ => .nil) (by rfl) (da_cons (de_var 0) (da_cons (de_str) (da_nil))))) (dss_one (ds_ret (de_cmp (cmp_eq cc) (de_ix (by intro _ _; rfl) (de_var 0) (de_int)) (de_back (de_ix (by intro _ _; rfl) (de_var 0) (de_int))) (by rfl))))
  exact ⟨_, der, body_def (N := ["one"]) h (by decide)⟩
theorem sc14 : FnScope ["script", "draws", "cell", "rest", "k", "mixed"] ["script"] (defScope s14) := ⟨rfl, rfl, rfl, by decide +kernel, rfl, by decide +kernel, by decide +kernel⟩
theorem ok14 (T : Txt K mg) : FnG Pr w K mg base 1 (He.ga K "_law_draws") T.fd14 ["script"] (spD K mg 1 f14) := by
  refine fnG_of T.F14 sc14 (fun vs H Q E h => spD_len h) fun cdv A outer s H vs Q E hr hg h => ?_
  have cc : Cc (cxOf (L2.CX Pr w) Pr w K mg base ["script", "draws", "cell", "rest", "k", "mixed"] "_law_draws" (defScope s14) (He.ga K "_law_draws") cdv A outer s H E) (fun cls d _ H' => E cls d H') 0 := ⟨rfl, hr, hg, sc14.nd, takes_of rfl rfl rfl rfl⟩
  have PO := passes_of (X := cxOf (L2.CX Pr w) Pr w K mg base ["script", "draws", "cell", "rest", "k", "mixed"] "_law_draws" (defScope s14) (He.ga K "_law_draws") cdv A outer s H E) rfl
  have der : DSs (cxOf (L2.CX Pr w) Pr w K mg base ["script", "draws", "cell", "rest", "k", "mixed"] "_law_draws" (defScope s14) (He.ga K "_law_draws") cdv A outer s H E) (fun cls d _ H' => E cls d H') (defBody s14) m14 := dss_cons (ds_set cc.nd (i := 1) (by rfl) (by first | exact Or.inl rfl | exact Or.inr rfl) (de_lst (da_nil))) (dss_cons (ds_for PO cc.calm (dit_seq (de_sliceH (de_var 0) (de_int))) (dg_name cc.nd (i := 2) (by rfl) (by first | exact Or.inl rfl | exact Or.inr rfl)) (dss_cons (ds_set cc.nd (i := 3) (by rfl) (by first | exact Or.inl rfl | exact Or.inr rfl) (de_abs (by rfl) T.f_abs (de_var 2))) (dss_one (ds_if (dt_cmp cmp_ge (de_var 3) (de_pow (de_int) (de_int)) (by rfl)) (dss_one (ds_for PO cc.calm (dit_range1 (by rfl) T.f_range (de_int)) (dg_name cc.nd (i := 4) (by rfl) (by first | exact Or.inl rfl | exact Or.inr rfl)) (dss_one (ds_if (dt_cmp cmp_gt (de_var 3) (de_int) (by rfl)) (dss_cons (ds_expr (de_append (j := 1) (by rfl) (by first | exact Or.inl rfl | exact Or.inr (Or.inl rfl) | exact Or.inr (Or.inr rfl)) (de_mod (de_intOf (by rfl) T.f_int (de_var 3)) (de_int)))) (dss_one (ds_set cc.nd (i := 3) (by rfl) (by first | exact Or.inl rfl | exact Or.inr rfl) (de_fdiv (de_var 3) (de_int))))) (dss_nil))))) (dss_cons (ds_set cc.nd (i := 5) (by rfl) (by first | exact Or.inl rfl | exact Or.inr rfl) (de_mod (de_intOf (by rfl) T.f_int (de_add (de_mul (de_var 3) (de_int)) (de_int))) (de_int))) (dss_one (ds_for PO cc.calm (dit_range1 (by rfl) T.f_range (de_int)) (dg_name cc.nd (i := 4) (by rfl) (by first | exact Or.inl rfl | exact Or.inr rfl)) (dss_cons (ds_set cc.nd (i := 5) (by rfl) (by first | exact Or.inl rfl | exact Or.inr rfl) (de_mod (de_intOf (by rfl) T.f_int (de_add (de_add (de_mul (de_var 5) (de_int)) (de_mul (de_int) (de_var 4))) (de_int))) (de_int))) (dss_one (ds_expr (de_append (j := 1) (by rfl) (by first | exact Or.inl rfl | exact Or.inr (Or.inl rfl) | exact Or.inr (Or.inr rfl)) (de_fdiv (de_var 5) (de_int))))))))))))) (dss_one (ds_ret (de_var 1))))
  exact ⟨_, der, body_def (N := ["script", "draws", "cell", "rest", "k", "mixed"]) h (by decide)⟩
theorem sc15 : FnScope ["draws", "place", "mixed", "k"] ["draws", "place"] (defScope s15) := ⟨rfl, rfl, rfl, by decide +kernel, rfl, by decide +kernel, by decide +kernel⟩
theorem ok15 (T : Txt K mg) : FnG Pr w K mg base 1 (He.ga K "_law_more") T.fd15 ["draws", "place"] (spD K mg 2 f15) := by
  refine fnG_of T.F15 sc15 (fun vs H Q E h => spD_len h) fun cdv A outer s H vs Q E hr hg h => ?_
  have cc : Cc (cxOf (L2.CX Pr w) Pr w K mg base ["draws", "place", "mixed", "k"] "_law_more" (defScope s15) (He.ga K "_law_more") cdv A outer s H E) (fun cls d _ H' => E cls d H') 0 := ⟨rfl, hr, hg, sc15.nd, takes_of rfl rfl rfl rfl⟩
  have PO := passes_of (X := cxOf (L2.CX Pr w) Pr w K mg base ["draws", "place", "mixed", "k"] "_law_more" (defScope s15) (He.ga K "_law_more") cdv A outer s H E) rfl
  have der : DSs (cxOf (L2.CX Pr w) Pr w K mg base ["draws", "place", "mixed", "k"] "_law_more" (defScope s15) (He.ga K "_law_more") cdv A outer s H E) (fun cls d _ H' => E cls d H') (defBody s15) m15 := dss_cons (ds_set cc.nd (i := 2) (by rfl) (by first | exact Or.inl rfl | exact Or.inr rfl) (de_mod (de_intOf (by rfl) T.f_int (de_add (de_add (de_mul (de_var 1) (de_int)) (de_len (by rfl) T.f_len (de_var 0))) (de_int))) (de_int))) (dss_cons (ds_for PO cc.calm (dit_range1 (by rfl) T.f_range (de_int)) (dg_name cc.nd (i := 3) (by rfl) (by first | exact Or.inl rfl | exact Or.inr rfl)) (dss_cons (ds_if (dt_val (de_var 0)) (dss_one (ds_set cc.nd (i := 2) (by rfl) (by first | exact Or.inl rfl | exact Or.inr rfl) (de_add (de_var 2) (de_ix (by intro _ _; rfl) (de_var 0) (de_mod (de_intOf (by rfl) T.f_int (de_add (de_mul (de_var 1) (de_add (de_var 3) (de_int))) (de_var 3))) (de_len (by rfl) T.f_len (de_var 0))))))) (dss_nil)) (dss_one (ds_set cc.nd (i := 2) (by rfl) (by first | exact Or.inl rfl | exact Or.inr rfl) (de_mod (de_intOf (by rfl) T.f_int (de_add (de_add (de_mul (de_var 2) (de_int)) (de_mul (de_int) (de_var 3))) (de_int))) (de_int)))))) (dss_one (ds_ret (de_fdiv (de_var 2) (de_int)))))
  exact ⟨_, der, body_def (N := ["draws", "place", "mixed", "k"]) h (by decide)⟩
theorem sc16 : FnScope ["draws", "at", "many", "place"] ["draws", "at", "many"] (defScope s16) := ⟨rfl, rfl, rfl, by decide +kernel, rfl, by decide +kernel, by decide +kernel⟩
theorem ok16 (T : Txt K mg) : FnG Pr w K mg base 2 (He.ga K "_law_take") T.fd16 ["draws", "at", "many"] (spD K mg 3 f16) := by
  refine fnG_of T.F16 sc16 (fun vs H Q E h => spD_len h) fun cdv A outer s H vs Q E hr hg h => ?_
  have cc : Cc (cxOf (L2.CX Pr w) Pr w K mg base ["draws", "at", "many", "place"] "_law_take" (defScope s16) (He.ga K "_law_take") cdv A outer s H E) (fun cls d _ H' => E cls d H') 1 := ⟨rfl, hr, hg, sc16.nd, takes_of rfl rfl rfl rfl⟩
  have PO := passes_of (X := cxOf (L2.CX Pr w) Pr w K mg base ["draws", "at", "many", "place"] "_law_take" (defScope s16) (He.ga K "_law_take") cdv A outer s H E) rfl
  have der : DSs (cxOf (L2.CX Pr w) Pr w K mg base ["draws", "at", "many", "place"] "_law_take" (defScope s16) (He.ga K "_law_take") cdv A outer s H E) (fun cls d _ H' => E cls d H') (defBody s16) m16 := dss_cons (ds_set cc.nd (i := 3) (by rfl) (by first | exact Or.inl rfl | exact Or.inr rfl) (de_ix (by intro _ _; rfl) (de_var 1) (de_int))) (dss_cons (ds_asg (de_add (de_var 3) (de_int)) (dg_store (j := 1) (by rfl) (by first | exact Or.inl rfl | exact Or.inr (Or.inl rfl) | exact Or.inr (Or.inr rfl)) (de_int)) (tgok_store 1 _)) (dss_one (ds_ret (de_mod (de_intOf (by rfl) T.f_int (de_if (dt_cmp cmp_lt (de_var 3) (de_len (by rfl) T.f_len (de_var 0)) (by rfl)) (de_ix (by intro _ _; rfl) (de_var 0) (de_var 3)) (de_call cc ((ok15 T).mono (by decide)) (by rfl) T.g15 T.F15.kp T.b15_2.choose_spec.2 T.b15_2.choose_spec.1 (fun _ => .nil) (by rfl) (da_cons (de_var 0) (da_cons (de_var 3) (da_nil)))))) (de_var 2)))))
  exact ⟨_, der, body_def (N := ["draws", "at", "many", "place"]) h (by decide)⟩
theorem sc17 : FnScope ["rows", "draws", "at"] ["rows", "draws", "at"] (defScope s17) := ⟨rfl, rfl, rfl, by decide +kernel, rfl, by decide +kernel, by decide +kernel⟩
theorem ok17 (T : Txt K mg) : FnG Pr w K mg base 3 (He.ga K "_law_one") T.fd17 ["rows", "draws", "at"] (spD K mg 3 f17) := by
  refine fnG_of T.F17 sc17 (fun vs H Q E h => spD_len h) fun cdv A outer s H vs Q E hr hg h => ?_
  have cc : Cc (cxOf (L2.CX Pr w) Pr w K mg base ["rows", "draws", "at"] "_law_one" (defScope s17) (He.ga K "_law_one") cdv A outer s H E) (fun cls d _ H' => E cls d H') 2 := ⟨rfl, hr, hg, sc17.nd, takes_of rfl rfl rfl rfl⟩
  have PO := passes_of (X := cxOf (L2.CX Pr w) Pr w K mg base ["rows", "draws", "at"] "_law_one" (defScope s17) (He.ga K "_law_one") cdv A outer s H E) rfl
  have der : DSs (cxOf (L2.CX Pr w) Pr w K mg base ["rows", "draws", "at"] "_law_one" (defScope s17) (He.ga K "_law_one") cdv A outer s H E) (fun cls d _ H' => E cls d H') (defBody s17) m17 := dss_one (ds_ret (de_ix (by intro _ _; rfl) (de_var 0) (de_call cc ((ok16 T).mono (by decide)) (by rfl) T.g16 T.F16.kp T.b16_3.choose_spec.2 T.b16_3.choose_spec.1 (fun _ => .nil) (by rfl) (da_cons (de_var 1) (da_cons (de_var 2) (da_cons (de_len (by rfl) T.f_len (de_var 0)) (da_nil)))))))
  exact ⟨_, der, body_def (N := ["rows", "draws", "at"]) h (by decide)⟩
theorem sc18 : FnScope ["low", "factors"] ["low", "factors"] (defScope s18) := ⟨rfl, rfl, rfl, by decide +kernel, rfl, by decide +kernel, by decide +kernel⟩
theorem ok18 (T : Txt K mg) : FnG Pr w K mg base 1 (He.ga K "_law_plain") T.fd18 ["low", "factors"] (spD K mg 2 f18) := by
  refine fnG_of T.F18 sc18 (fun vs H Q E h => spD_len h) fun cdv A outer s H vs Q E hr hg h => ?_
  have cc : Cc (cxOf (L2.CX Pr w) Pr w K mg base ["low", "factors"] "_law_plain" (defScope s18) (He.ga K "_law_plain") cdv A outer s H E) (fun cls d _ H' => E cls d H') 0 := ⟨rfl, hr, hg, sc18.nd, takes_of rfl rfl rfl rfl⟩
  have PO := passes_of (X := cxOf (L2.CX Pr w) Pr w K mg base ["low", "factors"] "_law_plain" (defScope s18) (He.ga K "_law_plain") cdv A outer s H E) rfl
  have der : DSs (cxOf (L2.CX Pr w) Pr w K mg base ["low", "factors"] "_law_plain" (defScope s18) (He.ga K "_law_plain") cdv A outer s H E) (fun cls d _ H' => E cls d H') (defBody s18) m18 := dss_cons (ds_set cc.nd (i := 1) (by rfl) (by first | exact Or.inl rfl | exact Or.inr rfl) (de_listOf (by rfl) T.f_list (de_var 1))) (dss_cons (ds_while PO (dt_w (dw_and (dt_val (de_var 1)) (dw_and1 (dt_cmp (cmp_eq cc) (de_ix (by intro _ _; rfl) (de_var 1) (de_neg (de_int))) (de_int) (by rfl))))) (dss_one (ds_set cc.nd (i := 1) (by rfl) (by first | exact Or.inl rfl | exact Or.inr rfl) (de_sliceH (de_var 1) (de_neg (de_int)))))) (dss_cons (ds_while PO (dt_w (dw_and (dt_val (de_var 1)) (dw_and1 (dt_cmp (cmp_eq cc) (de_ix (by intro _ _; rfl) (de_var 1) (de_int)) (de_int) (by rfl))))) (dss_cons (ds_set cc.nd (i := 1) (by rfl) (by first | exact Or.inl rfl | exact Or.inr rfl) (de_sliceL (de_var 1) (de_int))) (dss_one (ds_set cc.nd (i := 0) (by rfl) (by first | exact Or.inl rfl | exact Or.inr rfl) (de_add (de_var 0) (de_int)))))) (dss_one (ds_ret (de_if (dt_val (de_var 1)) (de_tup (da_cons (de_var 0) (da_cons (de_tupleOf (by rfl) T.f_tuple (de_var 1)) (da_nil)))) (de_tup (da_cons (de_int) (da_cons (de_tup (da_nil)) (da_nil)))))))))
  exact ⟨_, der, body_def (N := ["low", "factors"]) h (by decide)⟩
theorem sc19 : FnScope ["one", "other", "low", "high", "row", "k"] ["one", "other"] (defScope s19) := ⟨rfl, rfl, rfl, by decide +kernel, rfl, by decide +kernel, by decide +kernel⟩
theorem ok19 (T : Txt K mg) : FnG Pr w K mg base 2 (He.ga K "_law_sum") T.fd19 ["one", "other"] (spD K mg 2 f19) := by
  refine fnG_of T.F19 sc19 (fun vs H Q E h => spD_len h) fun cdv A outer s H vs Q E hr hg h => ?_
  have cc : Cc (cxOf (L2.CX Pr w) Pr w K mg base ["one", "other", "low", "high", "row", "k"] "_law_sum" (defScope s19) (He.ga K "_law_sum") cdv A outer s H E) (fun cls d _ H' => E cls d H') 1 := ⟨rfl, hr, hg, sc19.nd, takes_of rfl rfl rfl rfl⟩
  have PO := passes_of (X := cxOf (L2.CX Pr w) Pr w K mg base ["one", "other", "low", "high", "row", "k"] "_law_sum" (defScope s19) (He.ga K "_law_sum") cdv A outer s H E) rfl
  have der : DSs (cxOf (L2.CX Pr w) Pr w K mg base ["one", "other", "low", "high", "row", "k"] "_law_sum" (defScope s19) (He.ga K "_law_sum") cdv A outer s H E) (fun cls d _ H' => E cls d H') (defBody s19) m19 := dss_cons (ds_if (dt_w (dw_or (dt_not (dt_val (de_ix (by intro _ _; rfl) (de_var 0) (de_int)))) (dw_or1 (dt_not (dt_val (de_ix (by intro _ _; rfl) (de_var 1) (de_int))))))) (dss_one (ds_ret (de_if (dt_val (de_ix (by intro _ _; rfl) (de_var 0) (de_int))) (de_var 0) (de_var 1)))) (dss_nil)) (dss_cons (ds_set cc.nd (i := 2) (by rfl) (by first | exact Or.inl rfl | exact Or.inr rfl) (de_min2 cc (by rfl) T.f_min (de_ix (by intro _ _; rfl) (de_var 0) (de_int)) (de_ix (by intro _ _; rfl) (de_var 1) (de_int)))) (dss_cons (ds_set cc.nd (i := 3) (by rfl) (by first | exact Or.inl rfl | exact Or.inr rfl) (de_max2 cc (by rfl) T.f_max (de_add (de_ix (by intro _ _; rfl) (de_var 0) (de_int)) (de_len (by rfl) T.f_len (de_ix (by intro _ _; rfl) (de_var 0) (de_int)))) (de_add (de_ix (by intro _ _; rfl) (de_var 1) (de_int)) (de_len (by rfl) T.f_len (de_ix (by intro _ _; rfl) (de_var 1) (de_int)))))) (dss_cons (ds_set cc.nd (i := 4) (by rfl) (by first | exact Or.inl rfl | exact Or.inr rfl) (de_mul (de_lst (da_cons (de_int) (da_nil))) (de_sub (de_var 3) (de_var 2)))) (dss_cons (ds_for PO cc.calm (dit_range1 (by rfl) T.f_range (de_len (by rfl) T.f_len (de_ix (by intro _ _; rfl) (de_var 0) (de_int)))) (dg_name cc.nd (i := 5) (by rfl) (by first | exact Or.inl rfl | exact Or.inr rfl)) (dss_one (ds_asg (de_add (de_ix (by intro _ _; rfl) (de_var 4) (de_add (de_sub (de_ix (by intro _ _; rfl) (de_var 0) (de_int)) (de_var 2)) (de_var 5))) (de_ix (by intro _ _; rfl) (de_ix (by intro _ _; rfl) (de_var 0) (de_int)) (de_var 5))) (dg_store (j := 4) (by rfl) (by first | exact Or.inl rfl | exact Or.inr (Or.inl rfl) | exact Or.inr (Or.inr rfl)) (de_add (de_sub (de_ix (by intro _ _; rfl) (de_var 0) (de_int)) (de_var 2)) (de_var 5))) (tgok_store 4 _)))) (dss_cons (ds_for PO cc.calm (dit_range1 (by rfl) T.f_range (de_len (by rfl) T.f_len (de_ix (by intro _ _; rfl) (de_var 1) (de_int)))) (dg_name cc.nd (i := 5) (by rfl) (by first | exact Or.inl rfl | exact Or.inr rfl)) (dss_one (ds_asg (de_add (de_ix (by intro _ _; rfl) (de_var 4) (de_add (de_sub (de_ix (by intro _ _; rfl) (de_var 1) (de_int)) (de_var 2)) (de_var 5))) (de_ix (by intro _ _; rfl) (de_ix (by intro _ _; rfl) (de_var 1) (de_int)) (de_var 5))) (dg_store (j := 4) (by rfl) (by first | exact Or.inl rfl | exact Or.inr (Or.inl rfl) | exact Or.inr (Or.inr rfl)) (de_add (de_sub (de_ix (by intro _ _; rfl) (de_var 1) (de_int)) (de_var 2)) (de_var 5))) (tgok_store 4 _)))) (dss_one (ds_ret (de_call cc ((ok18 T).mono (by decide)) (by rfl) T.g18 T.F18.kp T.b18_2.choose_spec.2 T.b18_2.choose_spec.1 (fun _ => .nil) (by rfl) (da_cons (de_var 2) (da_cons (de_var 4) (da_nil)))))))))))
  exact ⟨_, der, body_def (N := ["one", "other", "low", "high", "row", "k"]) h (by decide)⟩
theorem sc20 : FnScope ["one", "other", "row", "k", "j"] ["one", "other"] (defScope s20) := ⟨rfl, rfl, rfl, by decide +kernel, rfl, by decide +kernel, by decide +kernel⟩
theorem ok20 (T : Txt K mg) : FnG Pr w K mg base 2 (He.ga K "_law_product") T.fd20 ["one", "other"] (spD K mg 2 f20) := by
  refine fnG_of T.F20 sc20 (fun vs H Q E h => spD_len h) fun cdv A outer s H vs Q E hr hg h => ?_
  have cc : Cc (cxOf (L2.CX Pr w) Pr w K mg base ["one", "other", "row", "k", "j"] "_law_product" (defScope s20) (He.ga K "_law_product") cdv A outer s H E) (fun cls d _ H' => E cls d H') 1 := ⟨rfl, hr, hg, sc20.nd, takes_of rfl rfl rfl rfl⟩
  have PO := passes_of (X := cxOf (L2.CX Pr w) Pr w K mg base ["one", "other", "row", "k", "j"] "_law_product" (defScope s20) (He.ga K "_law_product") cdv A outer s H E) rfl
  have der : DSs (cxOf (L2.CX Pr w) Pr w K mg base ["one", "other", "row", "k", "j"] "_law_product" (defScope s20) (He.ga K "_law_product") cdv A outer s H E) (fun cls d _ H' => E cls d H') (defBody s20) m20 := dss_cons (ds_if (dt_w (dw_or (dt_not (dt_val (de_ix (by intro _ _; rfl) (de_var 0) (de_int)))) (dw_or1 (dt_not (dt_val (de_ix (by intro _ _; rfl) (de_var 1) (de_int))))))) (dss_one (ds_ret (de_tup (da_cons (de_int) (da_cons (de_tup (da_nil)) (da_nil)))))) (dss_nil)) (dss_cons (ds_set cc.nd (i := 2) (by rfl) (by first | exact Or.inl rfl | exact Or.inr rfl) (de_mul (de_lst (da_cons (de_int) (da_nil))) (de_sub (de_add (de_len (by rfl) T.f_len (de_ix (by intro _ _; rfl) (de_var 0) (de_int))) (de_len (by rfl) T.f_len (de_ix (by intro _ _; rfl) (de_var 1) (de_int)))) (de_int)))) (dss_cons (ds_for PO cc.calm (dit_range1 (by rfl) T.f_range (de_len (by rfl) T.f_len (de_ix (by intro _ _; rfl) (de_var 0) (de_int)))) (dg_name cc.nd (i := 3) (by rfl) (by first | exact Or.inl rfl | exact Or.inr rfl)) (dss_one (ds_for PO cc.calm (dit_range1 (by rfl) T.f_range (de_len (by rfl) T.f_len (de_ix (by intro _ _; rfl) (de_var 1) (de_int)))) (dg_name cc.nd (i := 4) (by rfl) (by first | exact Or.inl rfl | exact Or.inr rfl)) (dss_one (ds_asg (de_add (de_ix (by intro _ _; rfl) (de_var 2) (de_add (de_var 3) (de_var 4))) (de_mul (de_ix (by intro _ _; rfl) (de_ix (by intro _ _; rfl) (de_var 0) (de_int)) (de_var 3)) (de_ix (by intro _ _; rfl) (de_ix (by intro _ _; rfl) (de_var 1) (de_int)) (de_var 4)))) (dg_store (j := 2) (by rfl) (by first | exact Or.inl rfl | exact Or.inr (Or.inl rfl) | exact Or.inr (Or.inr rfl)) (de_add (de_var 3) (de_var 4))) (tgok_store 2 _)))))) (dss_one (ds_ret (de_call cc ((ok18 T).mono (by decide)) (by rfl) T.g18 T.F18.kp T.b18_2.choose_spec.2 T.b18_2.choose_spec.1 (fun _ => .nil) (by rfl) (da_cons (de_add (de_ix (by intro _ _; rfl) (de_var 0) (de_int)) (de_ix (by intro _ _; rfl) (de_var 1) (de_int))) (da_cons (de_var 2) (da_nil))))))))
  exact ⟨_, der, body_def (N := ["one", "other", "row", "k", "j"]) h (by decide)⟩
theorem sc21 : FnScope ["one", "part"] ["one"] (defScope s21) := ⟨rfl, rfl, rfl, by decide +kernel, rfl, by decide +kernel, by decide +kernel⟩
theorem ok21 (T : Txt K mg) : FnG Pr w K mg base 1 (He.ga K "_law_less") T.fd21 ["one"] (spD K mg 1 f21) := by
  refine fnG_of T.F21 sc21 (fun vs H Q E h => spD_len h) fun cdv A outer s H vs Q E hr hg h => ?_
  have cc : Cc (cxOf (L2.CX Pr w) Pr w K mg base ["one", "part"] "_law_less" (defScope s21) (He.ga K "_law_less") cdv A outer s H E) (fun cls d _ H' => E cls d H') 0 := ⟨rfl, hr, hg, sc21.nd, takes_of rfl rfl rfl rfl⟩
  have PO := passes_of (X := cxOf (L2.CX Pr w) Pr w K mg base ["one", "part"] "_law_less" (defScope s21) (He.ga K "_law_less") cdv A outer s H E) rfl
  have der : DSs (cxOf (L2.CX Pr w) Pr w K mg base ["one", "part"] "_law_less" (defScope s21) (He.ga K "_law_less") cdv A outer s H E) (fun cls d _ H' => E cls d H') (defBody s21) m21 := dss_one (ds_ret (de_tup (da_cons (de_ix (by intro _ _; rfl) (de_var 0) (de_int)) (da_cons (de_tupleOf (by rfl) T.f_tuple (de_lc cc (dit_seq (de_ix (by intro _ _; rfl) (de_var 0) (de_int))) (own := [("part", 1)]) (by first | exact (show blkC ["one", "part"] (defScope s21) _ _ = true by decide +kernel) | kernel_rfl) (fun _ _ _ _ _ => by have cc0 := cc; exact tgc_name (i := 1) cc0.nd (by rfl) (by first | exact Or.inl rfl | exact Or.inr rfl) (by decide)) (fun _ _ _ _ _ cc => dts_nil) (fun _ _ _ _ _ cc => de_sub (de_int) (de_var 1)))) (da_nil)))))
  exact ⟨_, der, body_def (N := ["one", "part"]) h (by decide)⟩
theorem sc22 : FnScope ["actual", "due"] ["actual", "due"] (defScope s22) := ⟨rfl, rfl, rfl, by decide +kernel, rfl, by decide +kernel, by decide +kernel⟩
theorem ok22 (T : Txt K mg) : FnG Pr w K mg base 1 (He.ga K "_law_same_as") T.fd22 ["actual", "due"] (spD K mg 2 f22) := by
  refine fnG_of T.F22 sc22 (fun vs H Q E h => spD_len h) fun cdv A outer s H vs Q E hr hg h => ?_
  have cc : Cc (cxOf (L2.CX Pr w) Pr w K mg base ["actual", "due"] "_law_same_as" (defScope s22) (He.ga K "_law_same_as") cdv A outer s H E) (fun cls d _ H' => E cls d H') 0 := ⟨rfl, hr, hg, sc22.nd, takes_of rfl rfl rfl rfl⟩
  have PO := passes_of (X := cxOf (L2.CX Pr w) Pr w K mg base ["actual", "due"] "_law_same_as" (defScope s22) (He.ga K "_law_same_as") cdv A outer s H E) rfl
  have der : DSs (cxOf (L2.CX Pr w) Pr w K mg base ["actual", "due"] "_law_same_as" (defScope s22) (He.ga K "_law_same_as") cdv A outer s H E) (fun cls d _ H' => E cls d H') (defBody s22) m22 := dss_one (ds_ret (de_and (de_cmp (cmp_eq cc) (de_var 0) (de_var 1) (by rfl)) (de_one (de_cmp (cmp_eq cc) (de_repr cc (by rfl) T.f_repr (de_var 0)) (de_repr cc (by rfl) T.f_repr (de_var 1)) (by rfl)))))
  exact ⟨_, der, body_def (N := ["actual", "due"]) h (by decide)⟩
theorem sc23 : FnScope ["over", "under", "first", "second"] ["over", "under"] (defScope s23) := ⟨rfl, rfl, rfl, by decide +kernel, rfl, by decide +kernel, by decide +kernel⟩
theorem ok23 (T : Txt K mg) : FnG Pr w K mg base 1 (He.ga K "_law_least_terms") T.fd23 ["over", "under"] (spD K mg 2 f23) := by
  refine fnG_of T.F23 sc23 (fun vs H Q E h => spD_len h) fun cdv A outer s H vs Q E hr hg h => ?_
  have cc : Cc (cxOf (L2.CX Pr w) Pr w K mg base ["over", "under", "first", "second"] "_law_least_terms" (defScope s23) (He.ga K "_law_least_terms") cdv A outer s H E) (fun cls d _ H' => E cls d H') 0 := ⟨rfl, hr, hg, sc23.nd, takes_of rfl rfl rfl rfl⟩
  have PO := passes_of (X := cxOf (L2.CX Pr w) Pr w K mg base ["over", "under", "first", "second"] "_law_least_terms" (defScope s23) (He.ga K "_law_least_terms") cdv A outer s H E) rfl
  have der : DSs (cxOf (L2.CX Pr w) Pr w K mg base ["over", "under", "first", "second"] "_law_least_terms" (defScope s23) (He.ga K "_law_least_terms") cdv A outer s H E) (fun cls d _ H' => E cls d H') (defBody s23) m23 := dss_cons (ds_par cc (i := 2) (j := 3) (by rfl) (by rfl) (by decide) (by rfl) (by rfl) (de_abs (by rfl) T.f_abs (de_var 0)) (de_var 1) (by rfl)) (dss_cons (ds_while PO (dt_cmp cmp_gt (de_var 3) (de_int) (by rfl)) (dss_one (ds_par cc (i := 2) (j := 3) (by rfl) (by rfl) (by decide) (by rfl) (by rfl) (de_var 3) (de_mod (de_intOf (by rfl) T.f_int (de_var 2)) (de_var 3)) (by rfl)))) (dss_one (ds_ret (de_tup (da_cons (de_fdivG (de_var 0) (de_var 2)) (da_cons (de_fdivG (de_var 1) (de_var 2)) (da_nil)))))))
  exact ⟨_, der, body_def (N := ["over", "under", "first", "second"]) h (by decide)⟩
theorem sc24 : FnScope ["one", "other"] ["one", "other"] (defScope s24) := ⟨rfl, rfl, rfl, by decide +kernel, rfl, by decide +kernel, by decide +kernel⟩
theorem ok24 (T : Txt K mg) : FnG Pr w K mg base 2 (He.ga K "_law_plus") T.fd24 ["one", "other"] (spD K mg 2 f24) := by
  refine fnG_of T.F24 sc24 (fun vs H Q E h => spD_len h) fun cdv A outer s H vs Q E hr hg h => ?_
  have cc : Cc (cxOf (L2.CX Pr w) Pr w K mg base ["one", "other"] "_law_plus" (defScope s24) (He.ga K "_law_plus") cdv A outer s H E) (fun cls d _ H' => E cls d H') 1 := ⟨rfl, hr, hg, sc24.nd, takes_of rfl rfl rfl rfl⟩
  have PO := passes_of (X := cxOf (L2.CX Pr w) Pr w K mg base ["one", "other"] "_law_plus" (defScope s24) (He.ga K "_law_plus") cdv A outer s H E) rfl
  have der : DSs (cxOf (L2.CX Pr w) Pr w K mg base ["one", "other"] "_law_plus" (defScope s24) (He.ga K "_law_plus") cdv A outer s H E) (fun cls d _ H' => E cls d H') (defBody s24) m24 := dss_one (ds_ret (de_call cc ((ok23 T).mono (by decide)) (by rfl) T.g23 T.F23.kp T.b23_2.choose_spec.2 T.b23_2.choose_spec.1 (fun _ => .nil) (by rfl) (da_cons (de_add (de_mulG (de_ix (by intro _ _; rfl) (de_var 0) (de_int)) (de_ix (by intro _ _; rfl) (de_var 1) (de_int))) (de_mulG (de_ix (by intro _ _; rfl) (de_var 1) (de_int)) (de_ix (by intro _ _; rfl) (de_var 0) (de_int)))) (da_cons (de_mulG (de_ix (by intro _ _; rfl) (de_var 0) (de_int)) (de_ix (by intro _ _; rfl) (de_var 1) (de_int))) (da_nil)))))
  exact ⟨_, der, body_def (N := ["one", "other"]) h (by decide)⟩
theorem sc25 : FnScope ["one", "other"] ["one", "other"] (defScope s25) := ⟨rfl, rfl, rfl, by decide +kernel, rfl, by decide +kernel, by decide +kernel⟩
theorem ok25 (T : Txt K mg) : FnG Pr w K mg base 2 (He.ga K "_law_times") T.fd25 ["one", "other"] (spD K mg 2 f25) := by
  refine fnG_of T.F25 sc25 (fun vs H Q E h => spD_len h) fun cdv A outer s H vs Q E hr hg h => ?_
  have cc : Cc (cxOf (L2.CX Pr w) Pr w K mg base ["one", "other"] "_law_times" (defScope s25) (He.ga K "_law_times") cdv A outer s H E) (fun cls d _ H' => E cls d H') 1 := ⟨rfl, hr, hg, sc25.nd, takes_of rfl rfl rfl rfl⟩
  have PO := passes_of (X := cxOf (L2.CX Pr w) Pr w K mg base ["one", "other"] "_law_times" (defScope s25) (He.ga K "_law_times") cdv A outer s H E) rfl
  have der : DSs (cxOf (L2.CX Pr w) Pr w K mg base ["one", "other"] "_law_times" (defScope s25) (He.ga K "_law_times") cdv A outer s H E) (fun cls d _ H' => E cls d H') (defBody s25) m25 := dss_one (ds_ret (de_call cc ((ok23 T).mono (by decide)) (by rfl) T.g23 T.F23.kp T.b23_2.choose_spec.2 T.b23_2.choose_spec.1 (fun _ => .nil) (by rfl) (da_cons (de_mulG (de_ix (by intro _ _; rfl) (de_var 0) (de_int)) (de_ix (by intro _ _; rfl) (de_var 1) (de_int))) (da_cons (de_mulG (de_ix (by intro _ _; rfl) (de_var 0) (de_int)) (de_ix (by intro _ _; rfl) (de_var 1) (de_int))) (da_nil)))))
  exact ⟨_, der, body_def (N := ["one", "other"]) h (by decide)⟩
theorem sc26 : FnScope ["one", "other"] ["one", "other"] (defScope s26) := ⟨rfl, rfl, rfl, by decide +kernel, rfl, by decide +kernel, by decide +kernel⟩
theorem ok26 (T : Txt K mg) : FnG Pr w K mg base 1 (He.ga K "_law_below") T.fd26 ["one", "other"] (spD K mg 2 f26) := by
  refine fnG_of T.F26 sc26 (fun vs H Q E h => spD_len h) fun cdv A outer s H vs Q E hr hg h => ?_
  have cc : Cc (cxOf (L2.CX Pr w) Pr w K mg base ["one", "other"] "_law_below" (defScope s26) (He.ga K "_law_below") cdv A outer s H E) (fun cls d _ H' => E cls d H') 0 := ⟨rfl, hr, hg, sc26.nd, takes_of rfl rfl rfl rfl⟩
  have PO := passes_of (X := cxOf (L2.CX Pr w) Pr w K mg base ["one", "other"] "_law_below" (defScope s26) (He.ga K "_law_below") cdv A outer s H E) rfl
  have der : DSs (cxOf (L2.CX Pr w) Pr w K mg base ["one", "other"] "_law_below" (defScope s26) (He.ga K "_law_below") cdv A outer s H E) (fun cls d _ H' => E cls d H') (defBody s26) m26 := dss_one (ds_ret (de_cmp cmp_lt (de_mul (de_ix (by intro _ _; rfl) (de_var 0) (de_int)) (de_ix (by intro _ _; rfl) (de_var 1) (de_int))) (de_mul (de_ix (by intro _ _; rfl) (de_var 1) (de_int)) (de_ix (by intro _ _; rfl) (de_var 0) (de_int))) (by rfl)))
  exact ⟨_, der, body_def (N := ["one", "other"]) h (by decide)⟩
theorem sc27 : FnScope ["draws", "at", "far", "size", "row", "low", "found", "k"] ["draws", "at"] (defScope s27) := ⟨rfl, rfl, rfl, by decide +kernel, rfl, by decide +kernel, by decide +kernel⟩
theorem ok27 (T : Txt K mg) : FnG Pr w K mg base 4 (He.ga K "_law_poly") T.fd27 ["draws", "at"] (spD K mg 2 f27) := by
  refine fnG_of T.F27 sc27 (fun vs H Q E h => spD_len h) fun cdv A outer s H vs Q E hr hg h => ?_
  have cc : Cc (cxOf (L2.CX Pr w) Pr w K mg base ["draws", "at", "far", "size", "row", "low", "found", "k"] "_law_poly" (defScope s27) (He.ga K "_law_poly") cdv A outer s H E) (fun cls d _ H' => E cls d H') 3 := ⟨rfl, hr, hg, sc27.nd, takes_of rfl rfl rfl rfl⟩
  have PO := passes_of (X := cxOf (L2.CX Pr w) Pr w K mg base ["draws", "at", "far", "size", "row", "low", "found", "k"] "_law_poly" (defScope s27) (He.ga K "_law_poly") cdv A outer s H E) rfl
  have der : DSs (cxOf (L2.CX Pr w) Pr w K mg base ["draws", "at", "far", "size", "row", "low", "found", "k"] "_law_poly" (defScope s27) (He.ga K "_law_poly") cdv A outer s H E) (fun cls d _ H' => E cls d H') (defBody s27) m27 := dss_cons (ds_set cc.nd (i := 2) (by rfl) (by first | exact Or.inl rfl | exact Or.inr rfl) (de_call cc ((ok17 T).mono (by decide)) (by rfl) T.g17 T.F17.kp T.b17_3.choose_spec.2 T.b17_3.choose_spec.1 (fun _ => .nil) (by rfl) (da_cons (de_lst (da_cons (de_int) (da_cons (de_int) (da_cons (de_int) (da_cons (de_int) (da_nil)))))) (da_cons (de_var 0) (da_cons (de_var 1) (da_nil)))))) (dss_cons (ds_set cc.nd (i := 3) (by rfl) (by first | exact Or.inl rfl | exact Or.inr rfl) (de_call cc ((ok17 T).mono (by decide)) (by rfl) T.g17 T.F17.kp T.b17_3.choose_spec.2 T.b17_3.choose_spec.1 (fun _ => .nil) (by rfl) (da_cons (de_lst (da_cons (de_int) (da_cons (de_int) (da_cons (de_int) (da_cons (de_int) (da_cons (de_int) (da_nil))))))) (da_cons (de_var 0) (da_cons (de_var 1) (da_nil)))))) (dss_cons (ds_setLc cc (i := 4) (by rfl) (by rfl) (sw_true (by rfl) (by rfl) (by rfl) (by decide +kernel)) (dit_range1 (by rfl) T.f_range (de_var 3)) (own := [("k", 7)]) (by first | exact (show blkC ["draws", "at", "far", "size", "row", "low", "found", "k"] (defScope s27) _ _ = true by decide +kernel) | kernel_rfl) (fun _ _ _ _ _ => by have cc0 := cc; exact tgc_name (i := 7) cc0.nd (by rfl) (by first | exact Or.inl rfl | exact Or.inr rfl) (by decide)) (fun _ _ _ _ _ cc => dts_nil) (fun _ _ _ _ _ cc => de_add (de_sub (de_call cc ((ok16 T).mono (by decide)) (by rfl) T.g16 T.F16.kp T.b16_3.choose_spec.2 T.b16_3.choose_spec.1 (fun _ => .nil) (by rfl) (da_cons (de_var 0) (da_cons (de_var 1) (da_cons (de_sub (de_mul (de_int) (de_var 2)) (de_int)) (da_nil))))) (de_var 2)) (de_int))) (dss_cons (ds_if (dt_cmp (cmp_eq cc) (de_call cc ((ok16 T).mono (by decide)) (by rfl) T.g16 T.F16.kp T.b16_3.choose_spec.2 T.b16_3.choose_spec.1 (fun _ => .nil) (by rfl) (da_cons (de_var 0) (da_cons (de_var 1) (da_cons (de_int) (da_nil))))) (de_int) (by rfl)) (dss_one (ds_set cc.nd (i := 4) (by rfl) (by first | exact Or.inl rfl | exact Or.inr rfl) (de_add (de_sliceH (de_var 4) (de_fdiv (de_add (de_var 3) (de_int)) (de_int))) (de_back (de_sliceH (de_var 4) (de_fdiv (de_var 3) (de_int))))))) (dss_nil)) (dss_cons (ds_set cc.nd (i := 5) (by rfl) (by first | exact Or.inl rfl | exact Or.inr rfl) (de_call cc ((ok17 T).mono (by decide)) (by rfl) T.g17 T.F17.kp T.b17_3.choose_spec.2 T.b17_3.choose_spec.1 (fun _ => .nil) (by rfl) (da_cons (de_lst (da_cons (de_int) (da_cons (de_int) (da_cons (de_sub (de_call cc ((ok16 T).mono (by decide)) (by rfl) T.g16 T.F16.kp T.b16_3.choose_spec.2 T.b16_3.choose_spec.1 (fun _ => .nil) (by rfl) (da_cons (de_var 0) (da_cons (de_var 1) (da_cons (de_int) (da_nil))))) (de_int)) (da_cons (de_neg (de_int)) (da_cons (de_sub (de_int) (de_var 3)) (da_nil))))))) (da_cons (de_var 0) (da_cons (de_var 1) (da_nil)))))) (dss_cons (ds_set cc.nd (i := 6) (by rfl) (by first | exact Or.inl rfl | exact Or.inr rfl) (de_call cc ((ok18 T).mono (by decide)) (by rfl) T.g18 T.F18.kp T.b18_2.choose_spec.2 T.b18_2.choose_spec.1 (fun _ => .nil) (by rfl) (da_cons (de_var 5) (da_cons (de_var 4) (da_nil))))) (dss_one (ds_ret (de_if (dt_cmp cmp_lt (de_ix (by intro _ _; rfl) (de_var 6) (de_int)) (de_int) (by rfl)) (de_var 6) (de_tup (da_cons (de_int) (da_cons (de_tup (da_nil)) (da_nil))))))))))))
  exact ⟨_, der, body_def (N := ["draws", "at", "far", "size", "row", "low", "found", "k"]) h (by decide)⟩
theorem sc28 : FnScope ["one", "over", "under", "total", "power", "sign", "step", "k", "factor"] ["one", "over", "under"] (defScope s28) := ⟨rfl, rfl, rfl, by decide +kernel, rfl, by decide +kernel, by decide +kernel⟩
theorem ok28 (T : Txt K mg) : FnG Pr w K mg base 3 (He.ga K "_law_value") T.fd28 ["one", "over", "under"] (spD K mg 3 f28) := by
  refine fnG_of T.F28 sc28 (fun vs H Q E h => spD_len h) fun cdv A outer s H vs Q E hr hg h => ?_
  have cc : Cc (cxOf (L2.CX Pr w) Pr w K mg base ["one", "over", "under", "total", "power", "sign", "step", "k", "factor"] "_law_value" (defScope s28) (He.ga K "_law_value") cdv A outer s H E) (fun cls d _ H' => E cls d H') 2 := ⟨rfl, hr, hg, sc28.nd, takes_of rfl rfl rfl rfl⟩
  have PO := passes_of (X := cxOf (L2.CX Pr w) Pr w K mg base ["one", "over", "under", "total", "power", "sign", "step", "k", "factor"] "_law_value" (defScope s28) (He.ga K "_law_value") cdv A outer s H E) rfl
  have der : DSs (cxOf (L2.CX Pr w) Pr w K mg base ["one", "over", "under", "total", "power", "sign", "step", "k", "factor"] "_law_value" (defScope s28) (He.ga K "_law_value") cdv A outer s H E) (fun cls d _ H' => E cls d H') (defBody s28) m28 := dss_cons (ds_set cc.nd (i := 3) (by rfl) (by first | exact Or.inl rfl | exact Or.inr rfl) (de_tup (da_cons (de_int) (da_cons (de_int) (da_nil))))) (dss_cons (ds_set cc.nd (i := 4) (by rfl) (by first | exact Or.inl rfl | exact Or.inr rfl) (de_tup (da_cons (de_int) (da_cons (de_int) (da_nil))))) (dss_cons (ds_set cc.nd (i := 5) (by rfl) (by first | exact Or.inl rfl | exact Or.inr rfl) (de_if (dt_cmp cmp_gt (de_var 1) (de_int) (by rfl)) (de_int) (de_neg (de_int)))) (dss_cons (ds_set cc.nd (i := 6) (by rfl) (by first | exact Or.inl rfl | exact Or.inr rfl) (de_if (dt_cmp cmp_ge (de_ix (by intro _ _; rfl) (de_var 0) (de_int)) (de_int) (by rfl)) (de_tup (da_cons (de_var 1) (da_cons (de_var 2) (da_nil)))) (de_tup (da_cons (de_mul (de_var 5) (de_var 2)) (da_cons (de_mul (de_var 5) (de_var 1)) (da_nil)))))) (dss_cons (ds_for PO cc.calm (dit_range1 (by rfl) T.f_range (de_abs (by rfl) T.f_abs (de_ix (by intro _ _; rfl) (de_var 0) (de_int)))) (dg_name cc.nd (i := 7) (by rfl) (by first | exact Or.inl rfl | exact Or.inr rfl)) (dss_one (ds_set cc.nd (i := 4) (by rfl) (by first | exact Or.inl rfl | exact Or.inr rfl) (de_call cc ((ok25 T).mono (by decide)) (by rfl) T.g25 T.F25.kp T.b25_2.choose_spec.2 T.b25_2.choose_spec.1 (fun _ => .nil) (by rfl) (da_cons (de_var 4) (da_cons (de_call cc ((ok23 T).mono (by decide)) (by rfl) T.g23 T.F23.kp T.b23_2.choose_spec.2 T.b23_2.choose_spec.1 (fun _ => .nil) (by rfl) (da_cons (de_ix (by intro _ _; rfl) (de_var 6) (de_int)) (da_cons (de_ix (by intro _ _; rfl) (de_var 6) (de_int)) (da_nil)))) (da_nil))))))) (dss_cons (ds_for PO cc.calm (dit_seq (de_ix (by intro _ _; rfl) (de_var 0) (de_int))) (dg_name cc.nd (i := 8) (by rfl) (by first | exact Or.inl rfl | exact Or.inr rfl)) (dss_cons (ds_set cc.nd (i := 3) (by rfl) (by first | exact Or.inl rfl | exact Or.inr rfl) (de_call cc ((ok24 T).mono (by decide)) (by rfl) T.g24 T.F24.kp T.b24_2.choose_spec.2 T.b24_2.choose_spec.1 (fun _ => .nil) (by rfl) (da_cons (de_var 3) (da_cons (de_call cc ((ok25 T).mono (by decide)) (by rfl) T.g25 T.F25.kp T.b25_2.choose_spec.2 T.b25_2.choose_spec.1 (fun _ => .nil) (by rfl) (da_cons (de_var 4) (da_cons (de_tup (da_cons (de_var 8) (da_cons (de_int) (da_nil)))) (da_nil)))) (da_nil))))) (dss_one (ds_set cc.nd (i := 4) (by rfl) (by first | exact Or.inl rfl | exact Or.inr rfl) (de_call cc ((ok25 T).mono (by decide)) (by rfl) T.g25 T.F25.kp T.b25_2.choose_spec.2 T.b25_2.choose_spec.1 (fun _ => .nil) (by rfl) (da_cons (de_var 4) (da_cons (de_call cc ((ok23 T).mono (by decide)) (by rfl) T.g23 T.F23.kp T.b23_2.choose_spec.2 T.b23_2.choose_spec.1 (fun _ => .nil) (by rfl) (da_cons (de_var 1) (da_cons (de_var 2) (da_nil)))) (da_nil)))))))) (dss_one (ds_ret (de_var 3))))))))
  exact ⟨_, der, body_def (N := ["one", "over", "under", "total", "power", "sign", "step", "k", "factor"]) h (by decide)⟩
theorem sc29 : FnScope ["which", "one", "other", "under", "e"] ["which", "one", "other", "under"] (defScope s29) := ⟨rfl, rfl, rfl, by decide +kernel, rfl, by decide +kernel, by decide +kernel⟩
theorem ok29 (T : Txt K mg) : FnG Pr w K mg base 6 (He.ga K "_law_told") T.fd29 ["which", "one", "other", "under"] (spD K mg 4 f29) := by
  refine fnG_of T.F29 sc29 (fun vs H Q E h => spD_len h) fun cdv A outer s H vs Q E hr hg h => ?_
  have cc : Cc (cxOf (L2.CX Pr w) Pr w K mg base ["which", "one", "other", "under", "e"] "_law_told" (defScope s29) (He.ga K "_law_told") cdv A outer s H E) (fun cls d _ H' => E cls d H') 5 := ⟨rfl, hr, hg, sc29.nd, takes_of rfl rfl rfl rfl⟩
  have PO := passes_of (X := cxOf (L2.CX Pr w) Pr w K mg base ["which", "one", "other", "under", "e"] "_law_told" (defScope s29) (He.ga K "_law_told") cdv A outer s H E) rfl
  have der : DSs (cxOf (L2.CX Pr w) Pr w K mg base ["which", "one", "other", "under", "e"] "_law_told" (defScope s29) (He.ga K "_law_told") cdv A outer s H E) (fun cls d _ H' => E cls d H') (defBody s29) m29 := dss_one (ds_tryN cc rfl rfl (fun W pn xe cc PO => dss_cons (ds_if (dt_cmp cmp_lt (de_var 0) (de_int) (by rfl)) (dss_one (ds_ret (de_if (dt_cmp (cmp_eq cc) (de_var 0) (de_int) (by rfl)) (de_call cc ((ok7 T).mono (by decide)) (by rfl) T.g7 T.F7.kp T.b7_2.choose_spec.2 T.b7_2.choose_spec.1 (fun _ => .nil) (by rfl) (da_cons (de_var 1) (da_cons (de_var 2) (da_nil)))) (de_call cc ((ok8 T).mono (by decide)) (by rfl) T.g8 T.F8.kp T.b8_2.choose_spec.2 T.b8_2.choose_spec.1 (fun _ => .nil) (by rfl) (da_cons (de_var 1) (da_cons (de_var 2) (da_nil))))))) (dss_nil)) (dss_one (ds_ret (de_if (dt_cmp (cmp_eq cc) (de_var 0) (de_int) (by rfl)) (de_call cc ((ok9 T).mono (by decide)) (by rfl) T.g9 T.F9.kp T.b9_3.choose_spec.2 T.b9_3.choose_spec.1 (fun _ => .nil) (by rfl) (da_cons (de_var 1) (da_cons (de_var 2) (da_cons (de_var 3) (da_nil))))) (de_call cc ((ok13 T).mono (by decide)) (by rfl) T.g13 T.F13.kp T.b13_1.choose_spec.2 T.b13_1.choose_spec.1 (fun _ => .nil) (by rfl) (da_cons (de_var 1) (da_nil))))))) (.asN ⟨by rfl, by decide, .inl T.m_ArgumentError⟩ rfl (by rfl) (by rfl) (acts_yes T.m_ArgumentError T.x_ArgumentError_ArgumentError (fun a oe d pn hz hf => he_tup (hs_cons (he_str) (hs_cons (he_fld (DX.errB_xf T.e_ArgumentError).1 (DX.errB_xf T.e_ArgumentError).2 hz hf (by rfl) (by first | exact Or.inl rfl | exact Or.inr (Or.inl rfl) | exact Or.inr (Or.inr rfl))) (hs_nil)))) (acts_nil)) (.nil)))
  exact ⟨_, der, body_def (N := ["which", "one", "other", "under", "e"]) h (by decide)⟩
theorem sc30 : FnScope ["script", "draws", "at", "turn", "bad", "wrong", "which", "odd", "ill", "due", "pair", "over", "under", "one", "other"] ["script"] (defScope s30) := ⟨rfl, rfl, rfl, by decide +kernel, rfl, by decide +kernel, by decide +kernel⟩
theorem ok30 (T : Txt K mg) : FnG Pr w K mg base 7 (He.ga K "law") T.fd30 ["script"] (spD K mg 1 f30) := by
  refine fnG_of T.F30 sc30 (fun vs H Q E h => spD_len h) fun cdv A outer s H vs Q E hr hg h => ?_
  have cc : Cc (cxOf (L2.CX Pr w) Pr w K mg base ["script", "draws", "at", "turn", "bad", "wrong", "which", "odd", "ill", "due", "pair", "over", "under", "one", "other"] "law" (defScope s30) (He.ga K "law") cdv A outer s H E) (fun cls d _ H' => E cls d H') 6 := ⟨rfl, hr, hg, sc30.nd, takes_of rfl rfl rfl rfl⟩
  have PO := passes_of (X := cxOf (L2.CX Pr w) Pr w K mg base ["script", "draws", "at", "turn", "bad", "wrong", "which", "odd", "ill", "due", "pair", "over", "under", "one", "other"] "law" (defScope s30) (He.ga K "law") cdv A outer s H E) rfl
  have der : DSs (cxOf (L2.CX Pr w) Pr w K mg base ["script", "draws", "at", "turn", "bad", "wrong", "which", "odd", "ill", "due", "pair", "over", "under", "one", "other"] "law" (defScope s30) (He.ga K "law") cdv A outer s H E) (fun cls d _ H' => E cls d H') (defBody s30) m30 := dss_cons (ds_set cc.nd (i := 1) (by rfl) (by first | exact Or.inl rfl | exact Or.inr rfl) (de_call cc ((ok14 T).mono (by decide)) (by rfl) T.g14 T.F14.kp T.b14_1.choose_spec.2 T.b14_1.choose_spec.1 (fun _ => .nil) (by rfl) (da_cons (de_var 0) (da_nil)))) (dss_cons (ds_set cc.nd (i := 2) (by rfl) (by first | exact Or.inl rfl | exact Or.inr rfl) (de_lst (da_cons (de_int) (da_nil)))) (dss_cons (ds_for PO cc.calm (dit_range1 (by rfl) T.f_range (de_int)) (dg_name cc.nd (i := 3) (by rfl) (by first | exact Or.inl rfl | exact Or.inr rfl)) (dss_cons (ds_par cc (i := 13) (j := 14) (by rfl) (by rfl) (by decide) (by rfl) (by rfl) (de_call cc ((ok27 T).mono (by decide)) (by rfl) T.g27 T.F27.kp T.b27_2.choose_spec.2 T.b27_2.choose_spec.1 (fun _ => .nil) (by rfl) (da_cons (de_var 1) (da_cons (de_var 2) (da_nil)))) (de_call cc ((ok27 T).mono (by decide)) (by rfl) T.g27 T.F27.kp T.b27_2.choose_spec.2 T.b27_2.choose_spec.1 (fun _ => .nil) (by rfl) (da_cons (de_var 1) (da_cons (de_var 2) (da_nil)))) (by rfl)) (dss_cons (ds_set cc.nd (i := 9) (by rfl) (by first | exact Or.inl rfl | exact Or.inr rfl) (de_tup (da_cons (de_call cc ((ok19 T).mono (by decide)) (by rfl) T.g19 T.F19.kp T.b19_2.choose_spec.2 T.b19_2.choose_spec.1 (fun _ => .nil) (by rfl) (da_cons (de_var 13) (da_cons (de_var 14) (da_nil)))) (da_cons (de_call cc ((ok20 T).mono (by decide)) (by rfl) T.g20 T.F20.kp T.b20_2.choose_spec.2 T.b20_2.choose_spec.1 (fun _ => .nil) (by rfl) (da_cons (de_var 13) (da_cons (de_var 14) (da_nil)))) (da_nil))))) (dss_cons (ds_for PO cc.calm (dit_seq (de_lst (da_cons (de_tup (da_cons (de_var 13) (da_cons (de_var 14) (da_nil)))) (da_cons (de_tup (da_cons (de_var 14) (da_cons (de_var 13) (da_nil)))) (da_nil))))) (dg_name cc.nd (i := 10) (by rfl) (by first | exact Or.inl rfl | exact Or.inr rfl)) (dss_one (ds_if (dt_not (dt_val (de_call cc ((ok22 T).mono (by decide)) (by rfl) T.g22 T.F22.kp T.b22_2.choose_spec.2 T.b22_2.choose_spec.1 (fun _ => .nil) (by rfl) (da_cons (de_tup (da_cons (de_call cc ((ok29 T).mono (by decide)) (by rfl) T.g29 T.F29.kp T.b29_4.choose_spec.2 T.b29_4.choose_spec.1 (fun _ => .nil) (by rfl) (da_cons (de_int) (da_cons (de_ix (by intro _ _; rfl) (de_var 10) (de_int)) (da_cons (de_ix (by intro _ _; rfl) (de_var 10) (de_int)) (da_cons (de_non) (da_nil)))))) (da_cons (de_call cc ((ok29 T).mono (by decide)) (by rfl) T.g29 T.F29.kp T.b29_4.choose_spec.2 T.b29_4.choose_spec.1 (fun _ => .nil) (by rfl) (da_cons (de_int) (da_cons (de_ix (by intro _ _; rfl) (de_var 10) (de_int)) (da_cons (de_ix (by intro _ _; rfl) (de_var 10) (de_int)) (da_cons (de_non) (da_nil)))))) (da_nil)))) (da_cons (de_var 9) (da_nil)))))) (dss_one (ds_ret (de_bl))) (dss_nil)))) (dss_cons (ds_if (dt_not (dt_val (de_call cc ((ok22 T).mono (by decide)) (by rfl) T.g22 T.F22.kp T.b22_2.choose_spec.2 T.b22_2.choose_spec.1 (fun _ => .nil) (by rfl) (da_cons (de_call cc ((ok29 T).mono (by decide)) (by rfl) T.g29 T.F29.kp T.b29_4.choose_spec.2 T.b29_4.choose_spec.1 (fun _ => .nil) (by rfl) (da_cons (de_int) (da_cons (de_var 13) (da_cons (de_non) (da_cons (de_non) (da_nil)))))) (da_cons (de_cmp (cmp_eq cc) (de_ix (by intro _ _; rfl) (de_var 13) (de_int)) (de_back (de_ix (by intro _ _; rfl) (de_var 13) (de_int))) (by rfl)) (da_nil)))))) (dss_one (ds_ret (de_bl))) (dss_nil)) (dss_cons (ds_set cc.nd (i := 11) (by rfl) (by first | exact Or.inl rfl | exact Or.inr rfl) (de_if (dt_w (dw_and (dt_cmp cmp_lt (de_len (by rfl) T.f_len (de_ix (by intro _ _; rfl) (de_var 13) (de_int))) (de_int) (by rfl)) (dw_and1 (dt_cmp cmp_lt (de_abs (by rfl) T.f_abs (de_ix (by intro _ _; rfl) (de_var 13) (de_int))) (de_int) (by rfl))))) (de_call cc ((ok17 T).mono (by decide)) (by rfl) T.g17 T.F17.kp T.b17_3.choose_spec.2 T.b17_3.choose_spec.1 (fun _ => .nil) (by rfl) (da_cons (de_lst (da_cons (de_int) (da_cons (de_neg (de_int)) (da_cons (de_int) (da_cons (de_neg (de_int)) (da_cons (de_int) (da_cons (de_int) (da_cons (de_neg (de_int)) (da_nil))))))))) (da_cons (de_var 1) (da_cons (de_var 2) (da_nil))))) (de_call cc ((ok17 T).mono (by decide)) (by rfl) T.g17 T.F17.kp T.b17_3.choose_spec.2 T.b17_3.choose_spec.1 (fun _ => .nil) (by rfl) (da_cons (de_lst (da_cons (de_int) (da_cons (de_neg (de_int)) (da_cons (de_int) (da_cons (de_neg (de_int)) (da_nil)))))) (da_cons (de_var 1) (da_cons (de_var 2) (da_nil))))))) (dss_cons (ds_set cc.nd (i := 12) (by rfl) (by first | exact Or.inl rfl | exact Or.inr rfl) (de_if (dt_cmp cmp_gt (de_abs (by rfl) T.f_abs (de_var 11)) (de_int) (by rfl)) (de_call cc ((ok17 T).mono (by decide)) (by rfl) T.g17 T.F17.kp T.b17_3.choose_spec.2 T.b17_3.choose_spec.1 (fun _ => .nil) (by rfl) (da_cons (de_lst (da_cons (de_int) (da_cons (de_int) (da_cons (de_int) (da_cons (de_int) (da_cons (de_int) (da_nil))))))) (da_cons (de_var 1) (da_cons (de_var 2) (da_nil))))) (de_call cc ((ok17 T).mono (by decide)) (by rfl) T.g17 T.F17.kp T.b17_3.choose_spec.2 T.b17_3.choose_spec.1 (fun _ => .nil) (by rfl) (da_cons (de_lst (da_cons (de_int) (da_cons (de_int) (da_nil)))) (da_cons (de_var 1) (da_cons (de_var 2) (da_nil))))))) (dss_one (ds_if (dt_not (dt_val (de_call cc ((ok22 T).mono (by decide)) (by rfl) T.g22 T.F22.kp T.b22_2.choose_spec.2 T.b22_2.choose_spec.1 (fun _ => .nil) (by rfl) (da_cons (de_call cc ((ok29 T).mono (by decide)) (by rfl) T.g29 T.F29.kp T.b29_4.choose_spec.2 T.b29_4.choose_spec.1 (fun _ => .nil) (by rfl) (da_cons (de_int) (da_cons (de_var 13) (da_cons (de_var 11) (da_cons (de_var 12) (da_nil)))))) (da_cons (de_call cc ((ok28 T).mono (by decide)) (by rfl) T.g28 T.F28.kp T.b28_3.choose_spec.2 T.b28_3.choose_spec.1 (fun _ => .nil) (by rfl) (da_cons (de_var 13) (da_cons (de_var 11) (da_cons (de_var 12) (da_nil))))) (da_nil)))))) (dss_one (ds_ret (de_bl))) (dss_nil)))))))))) (dss_cons (ds_set cc.nd (i := 4) (by rfl) (by first | exact Or.inl rfl | exact Or.inr rfl) (de_lst (da_cons (de_non) (da_cons (de_int) (da_cons (de_tup (da_cons (de_int) (da_nil))) (da_cons (de_tup (da_cons (de_int) (da_cons (de_tup (da_nil)) (da_cons (de_int) (da_nil))))) (da_cons (de_tup (da_cons (de_int) (da_cons (de_tup (da_nil)) (da_nil)))) (da_cons (de_tup (da_cons (de_int) (da_cons (de_tup (da_cons (de_int) (da_cons (de_int) (da_nil)))) (da_nil)))) (da_cons (de_tup (da_cons (de_int) (da_cons (de_tup (da_cons (de_int) (da_cons (de_int) (da_nil)))) (da_nil)))) (da_cons (de_tup (da_cons (de_int) (da_cons (de_tup (da_cons (de_int) (da_cons (de_bl) (da_nil)))) (da_nil)))) (da_cons (de_tup (da_cons (de_bl) (da_cons (de_tup (da_cons (de_int) (da_nil))) (da_nil)))) (da_cons (de_tup (da_cons (de_int) (da_cons (de_tup (da_cons (de_int) (da_nil))) (da_nil)))) (da_cons (de_tup (da_cons (de_neg (de_int)) (da_cons (de_tup (da_cons (de_int) (da_nil))) (da_nil)))) (da_cons (de_tup (da_cons (de_int) (da_cons (de_tup (da_cons (de_int) (da_nil))) (da_nil)))) (da_cons (de_tup (da_cons (de_int) (da_cons (de_mulX (de_tup (da_cons (de_int) (da_nil))) (de_int)) (da_nil)))) (da_cons (de_tup (da_cons (de_int) (da_cons (de_tup (da_cons (de_int) (da_cons (de_non) (da_nil)))) (da_nil)))) (da_cons (de_tup (da_cons (de_int) (da_cons (de_int) (da_nil)))) (da_nil)))))))))))))))))) (dss_cons (ds_set cc.nd (i := 5) (by rfl) (by first | exact Or.inl rfl | exact Or.inr rfl) (de_call cc ((ok17 T).mono (by decide)) (by rfl) T.g17 T.F17.kp T.b17_3.choose_spec.2 T.b17_3.choose_spec.1 (fun _ => .nil) (by rfl) (da_cons (de_var 4) (da_cons (de_var 1) (da_cons (de_var 2) (da_nil)))))) (dss_cons (ds_for PO cc.calm (dit_range1 (by rfl) T.f_range (de_int)) (dg_name cc.nd (i := 6) (by rfl) (by first | exact Or.inl rfl | exact Or.inr rfl)) (dss_one (ds_if (dt_w (dw_or (dt_cmp (cmp_ne cc) (de_call cc ((ok29 T).mono (by decide)) (by rfl) T.g29 T.F29.kp T.b29_4.choose_spec.2 T.b29_4.choose_spec.1 (fun _ => .nil) (by rfl) (da_cons (de_var 6) (da_cons (de_var 5) (da_cons (de_var 5) (da_cons (de_non) (da_nil)))))) (de_tup (da_cons (de_str) (da_cons (de_str) (da_nil)))) (by rfl)) (dw_or1 (dt_cmp (cmp_ne cc) (de_call cc ((ok29 T).mono (by decide)) (by rfl) T.g29 T.F29.kp T.b29_4.choose_spec.2 T.b29_4.choose_spec.1 (fun _ => .nil) (by rfl) (da_cons (de_var 6) (da_cons (de_var 13) (da_cons (de_var 5) (da_cons (de_non) (da_nil)))))) (de_tup (da_cons (de_str) (da_cons (de_str) (da_nil)))) (by rfl))))) (dss_one (ds_ret (de_bl))) (dss_nil)))) (dss_cons (ds_if (dt_w (dw_or (dt_cmp (cmp_ne cc) (de_call cc ((ok29 T).mono (by decide)) (by rfl) T.g29 T.F29.kp T.b29_4.choose_spec.2 T.b29_4.choose_spec.1 (fun _ => .nil) (by rfl) (da_cons (de_int) (da_cons (de_var 5) (da_cons (de_int) (da_cons (de_int) (da_nil)))))) (de_tup (da_cons (de_str) (da_cons (de_str) (da_nil)))) (by rfl)) (dw_or1 (dt_cmp (cmp_ne cc) (de_call cc ((ok29 T).mono (by decide)) (by rfl) T.g29 T.F29.kp T.b29_4.choose_spec.2 T.b29_4.choose_spec.1 (fun _ => .nil) (by rfl) (da_cons (de_int) (da_cons (de_var 5) (da_cons (de_non) (da_cons (de_non) (da_nil)))))) (de_tup (da_cons (de_str) (da_cons (de_str) (da_nil)))) (by rfl))))) (dss_one (ds_ret (de_bl))) (dss_nil)) (dss_cons (ds_set cc.nd (i := 7) (by rfl) (by first | exact Or.inl rfl | exact Or.inr rfl) (de_call cc ((ok17 T).mono (by decide)) (by rfl) T.g17 T.F17.kp T.b17_3.choose_spec.2 T.b17_3.choose_spec.1 (fun _ => .nil) (by rfl) (da_cons (de_lst (da_cons (de_int) (da_cons (de_non) (da_cons (de_bl) (da_cons (de_int) (da_cons (de_neg (de_int)) (da_cons (de_str) (da_nil)))))))) (da_cons (de_var 1) (da_cons (de_var 2) (da_nil)))))) (dss_cons (ds_set cc.nd (i := 8) (by rfl) (by first | exact Or.inl rfl | exact Or.inr rfl) (de_call cc ((ok17 T).mono (by decide)) (by rfl) T.g17 T.F17.kp T.b17_3.choose_spec.2 T.b17_3.choose_spec.1 (fun _ => .nil) (by rfl) (da_cons (de_lst (da_cons (de_int) (da_cons (de_neg (de_int)) (da_cons (de_non) (da_cons (de_bl) (da_cons (de_int) (da_nil))))))) (da_cons (de_var 1) (da_cons (de_var 2) (da_nil)))))) (dss_one (ds_ret (de_and (de_cmp (cmp_eq cc) (de_call cc ((ok29 T).mono (by decide)) (by rfl) T.g29 T.F29.kp T.b29_4.choose_spec.2 T.b29_4.choose_spec.1 (fun _ => .nil) (by rfl) (da_cons (de_int) (da_cons (de_var 13) (da_cons (de_var 7) (da_cons (de_var 8) (da_nil)))))) (de_tup (da_cons (de_str) (da_cons (de_str) (da_nil)))) (by rfl)) (de_one (de_cmp (cmp_eq cc) (de_call cc ((ok29 T).mono (by decide)) (by rfl) T.g29 T.F29.kp T.b29_4.choose_spec.2 T.b29_4.choose_spec.1 (fun _ => .nil) (by rfl) (da_cons (de_int) (da_cons (de_var 13) (da_cons (de_int) (da_cons (de_var 8) (da_nil)))))) (de_tup (da_cons (de_str) (da_cons (de_str) (da_nil)))) (by rfl))))))))))))))
  exact ⟨_, der, body_def (N := ["script", "draws", "at", "turn", "bad", "wrong", "which", "odd", "ill", "due", "pair", "over", "under", "one", "other"]) h (by decide)⟩
end
/-! the head -/
abbrev Rr : PySem.W.OpenRow := PySem.W.OpenLaw.row PySem.Challenge.rw_plaitwrought_k52_whole_polynomials
abbrev hk : PySem.W.Hook := DX.hookI 4 fa fn ini er
def ob (s : PySem.W.SharedT) : DX.AlI := DX.obsIG 4 fa fn ini er (HandSHeadRun.getT s)
theorem ob_eq (s : PySem.W.SharedT) : ob s = hk.obs s.abs := DX.obsIG_eq (HandSHeadRun.getT_eq s)
def loose : List PySem.Str := [("is_integer" : PySem.Str), ("in_range" : PySem.Str), ("PlaitError" : PySem.Str), ("ReasonError" : PySem.Str), ("ArgumentError" : PySem.Str), ("MAX_DEGREE" : PySem.Str), ("MAX_FACTOR" : PySem.Str), ("NOTHING" : PySem.Str), ("trimmed" : PySem.Str), ("added" : PySem.Str), ("multiplied" : PySem.Str), ("is_poly" : PySem.Str), ("demand_poly" : PySem.Str), ("poly_sum" : PySem.Str), ("poly_product" : PySem.Str), ("poly_value" : PySem.Str), ("power_of" : PySem.Str), ("value_at" : PySem.Str), ("least_terms" : PySem.Str), ("is_even_poly" : PySem.Str), ("_law_draws" : PySem.Str), ("_law_more" : PySem.Str), ("_law_take" : PySem.Str), ("_law_one" : PySem.Str), ("_law_plain" : PySem.Str), ("_law_sum" : PySem.Str), ("_law_product" : PySem.Str), ("_law_less" : PySem.Str), ("_law_same_as" : PySem.Str), ("_law_least_terms" : PySem.Str), ("_law_plus" : PySem.Str), ("_law_times" : PySem.Str), ("_law_below" : PySem.Str), ("_law_poly" : PySem.Str), ("_law_value" : PySem.Str), ("_law_told" : PySem.Str)]
theorem run (w : World) : HandSHeadRun.RunEq Rr (PySem.W.view Rr.prog [40]) hk ob 4000 loose w := by
  intro os
  kernel_rfl
theorem txt {K : PySem.W.Frag} {h : Heap} {mg : Str → Option Value} (X : K.In h) (G : h.Ns mainGlobals mg) (c0 : DX.SaysI fa fn ini er K) : Nonempty (Txt K mg) := by
  have c := c0.d
  obtain ⟨er1, er2⟩ := Bool.and_eq_true_iff.mp c0.er
  obtain ⟨er2, er3⟩ := Bool.and_eq_true_iff.mp er2
  obtain ⟨fd0, F0⟩ := c.def_ 0 (d := d0) rfl
  obtain ⟨fd1, F1⟩ := c.def_ 1 (d := d1) rfl
  obtain ⟨fd2, F2⟩ := c.def_ 2 (d := d2) rfl
  obtain ⟨fd3, F3⟩ := c.def_ 3 (d := d3) rfl
  obtain ⟨fd4, F4⟩ := c.def_ 4 (d := d4) rfl
  obtain ⟨fd5, F5⟩ := c.def_ 5 (d := d5) rfl
  obtain ⟨fd6, F6⟩ := c.def_ 6 (d := d6) rfl
  obtain ⟨fd7, F7⟩ := c.def_ 7 (d := d7) rfl
  obtain ⟨fd8, F8⟩ := c.def_ 8 (d := d8) rfl
  obtain ⟨fd9, F9⟩ := c.def_ 9 (d := d9) rfl
  obtain ⟨fd10, F10⟩ := c.def_ 10 (d := d10) rfl
  obtain ⟨fd11, F11⟩ := c.def_ 11 (d := d11) rfl
  obtain ⟨fd12, F12⟩ := c.def_ 12 (d := d12) rfl
  obtain ⟨fd13, F13⟩ := c.def_ 13 (d := d13) rfl
  obtain ⟨fd14, F14⟩ := c.def_ 14 (d := d14) rfl
  obtain ⟨fd15, F15⟩ := c.def_ 15 (d := d15) rfl
  obtain ⟨fd16, F16⟩ := c.def_ 16 (d := d16) rfl
  obtain ⟨fd17, F17⟩ := c.def_ 17 (d := d17) rfl
  obtain ⟨fd18, F18⟩ := c.def_ 18 (d := d18) rfl
  obtain ⟨fd19, F19⟩ := c.def_ 19 (d := d19) rfl
  obtain ⟨fd20, F20⟩ := c.def_ 20 (d := d20) rfl
  obtain ⟨fd21, F21⟩ := c.def_ 21 (d := d21) rfl
  obtain ⟨fd22, F22⟩ := c.def_ 22 (d := d22) rfl
  obtain ⟨fd23, F23⟩ := c.def_ 23 (d := d23) rfl
  obtain ⟨fd24, F24⟩ := c.def_ 24 (d := d24) rfl
  obtain ⟨fd25, F25⟩ := c.def_ 25 (d := d25) rfl
  obtain ⟨fd26, F26⟩ := c.def_ 26 (d := d26) rfl
  obtain ⟨fd27, F27⟩ := c.def_ 27 (d := d27) rfl
  obtain ⟨fd28, F28⟩ := c.def_ 28 (d := d28) rfl
  obtain ⟨fd29, F29⟩ := c.def_ 29 (d := d29) rfl
  obtain ⟨fd30, F30⟩ := c.def_ 30 (d := d30) rfl
  exact ⟨⟨He.free_ok X G (c.fact 31 (f := .free "abs") rfl),
    He.free_ok X G (c.fact 32 (f := .free "all") rfl),
    He.free_ok X G (c.fact 33 (f := .free "bool") rfl),
    He.free_ok X G (c.fact 34 (f := .free "enumerate") rfl),
    He.free_ok X G (c.fact 35 (f := .free "int") rfl),
    He.free_ok X G (c.fact 36 (f := .free "isinstance") rfl),
    He.free_ok X G (c.fact 37 (f := .free "len") rfl),
    He.free_ok X G (c.fact 38 (f := .free "list") rfl),
    He.free_ok X G (c.fact 39 (f := .free "max") rfl),
    He.free_ok X G (c.fact 40 (f := .free "min") rfl),
    He.free_ok X G (c.fact 41 (f := .free "range") rfl),
    He.free_ok X G (c.fact 42 (f := .free "repr") rfl),
    He.free_ok X G (c.fact 43 (f := .free "super") rfl),
    He.free_ok X G (c.fact 44 (f := .free "tuple") rfl),
    He.int_ok X G (c.fact 45 (f := .int "MAX_DEGREE" 120) rfl),
    He.int_ok X G (c.fact 46 (f := .int "MAX_FACTOR" 1000000) rfl),
    He.glo_ok X G (c.fact 0 (f := .glo "is_integer") rfl), fd0, F0,
    He.glo_ok X G (c.fact 1 (f := .glo "in_range") rfl), fd1, F1,
    He.glo_ok X G (c.fact 2 (f := .glo "trimmed") rfl), fd2, F2,
    He.glo_ok X G (c.fact 3 (f := .glo "added") rfl), fd3, F3,
    He.glo_ok X G (c.fact 4 (f := .glo "multiplied") rfl), fd4, F4,
    He.glo_ok X G (c.fact 5 (f := .glo "is_poly") rfl), fd5, F5,
    He.glo_ok X G (c.fact 6 (f := .glo "demand_poly") rfl), fd6, F6,
    He.glo_ok X G (c.fact 7 (f := .glo "poly_sum") rfl), fd7, F7,
    He.glo_ok X G (c.fact 8 (f := .glo "poly_product") rfl), fd8, F8,
    He.glo_ok X G (c.fact 9 (f := .glo "poly_value") rfl), fd9, F9,
    He.glo_ok X G (c.fact 10 (f := .glo "power_of") rfl), fd10, F10,
    He.glo_ok X G (c.fact 11 (f := .glo "value_at") rfl), fd11, F11,
    He.glo_ok X G (c.fact 12 (f := .glo "least_terms") rfl), fd12, F12,
    He.glo_ok X G (c.fact 13 (f := .glo "is_even_poly") rfl), fd13, F13,
    He.glo_ok X G (c.fact 14 (f := .glo "_law_draws") rfl), fd14, F14,
    He.glo_ok X G (c.fact 15 (f := .glo "_law_more") rfl), fd15, F15,
    He.glo_ok X G (c.fact 16 (f := .glo "_law_take") rfl), fd16, F16,
    He.glo_ok X G (c.fact 17 (f := .glo "_law_one") rfl), fd17, F17,
    He.glo_ok X G (c.fact 18 (f := .glo "_law_plain") rfl), fd18, F18,
    He.glo_ok X G (c.fact 19 (f := .glo "_law_sum") rfl), fd19, F19,
    He.glo_ok X G (c.fact 20 (f := .glo "_law_product") rfl), fd20, F20,
    He.glo_ok X G (c.fact 21 (f := .glo "_law_less") rfl), fd21, F21,
    He.glo_ok X G (c.fact 22 (f := .glo "_law_same_as") rfl), fd22, F22,
    He.glo_ok X G (c.fact 23 (f := .glo "_law_least_terms") rfl), fd23, F23,
    He.glo_ok X G (c.fact 24 (f := .glo "_law_plus") rfl), fd24, F24,
    He.glo_ok X G (c.fact 25 (f := .glo "_law_times") rfl), fd25, F25,
    He.glo_ok X G (c.fact 26 (f := .glo "_law_below") rfl), fd26, F26,
    He.glo_ok X G (c.fact 27 (f := .glo "_law_poly") rfl), fd27, F27,
    He.glo_ok X G (c.fact 28 (f := .glo "_law_value") rfl), fd28, F28,
    He.glo_ok X G (c.fact 29 (f := .glo "_law_told") rfl), fd29, F29,
    He.glo_ok X G (c.fact 30 (f := .glo "law") rfl), fd30, F30,
    ⟨[], .nil, FunD.bindsN (ps := ["value"]) F0 fun _ _ _ _ _ _ us hl => match us, hl with | [_], _ => rfl⟩,
    ⟨[], .nil, FunD.bindsN (ps := ["value", "least", "most"]) F1 fun _ _ _ _ _ _ us hl => match us, hl with | [_, _, _], _ => rfl⟩,
    ⟨[], .nil, FunD.bindsN (ps := ["low", "factors"]) F2 fun _ _ _ _ _ _ us hl => match us, hl with | [_, _], _ => rfl⟩,
    ⟨[], .nil, FunD.bindsN (ps := ["first", "second"]) F3 fun _ _ _ _ _ _ us hl => match us, hl with | [_, _], _ => rfl⟩,
    ⟨[], .nil, FunD.bindsN (ps := ["first", "second"]) F4 fun _ _ _ _ _ _ us hl => match us, hl with | [_, _], _ => rfl⟩,
    ⟨[], .nil, FunD.bindsN (ps := ["value"]) F5 fun _ _ _ _ _ _ us hl => match us, hl with | [_], _ => rfl⟩,
    ⟨[], .nil, FunD.bindsN (ps := ["value", "reason"]) F6 fun _ _ _ _ _ _ us hl => match us, hl with | [_, _], _ => rfl⟩,
    ⟨[], .nil, FunD.bindsN (ps := ["first", "second"]) F7 fun _ _ _ _ _ _ us hl => match us, hl with | [_, _], _ => rfl⟩,
    ⟨[], .nil, FunD.bindsN (ps := ["first", "second"]) F8 fun _ _ _ _ _ _ us hl => match us, hl with | [_, _], _ => rfl⟩,
    ⟨[], .nil, FunD.bindsN (ps := ["one", "over", "under"]) F9 fun _ _ _ _ _ _ us hl => match us, hl with | [_, _, _], _ => rfl⟩,
    ⟨[], .nil, FunD.bindsN (ps := ["number", "exponent"]) F10 fun _ _ _ _ _ _ us hl => match us, hl with | [_, _], _ => rfl⟩,
    ⟨[], .nil, FunD.bindsN (ps := ["one", "over", "under"]) F11 fun _ _ _ _ _ _ us hl => match us, hl with | [_, _, _], _ => rfl⟩,
    ⟨[], .nil, FunD.bindsN (ps := ["over", "under"]) F12 fun _ _ _ _ _ _ us hl => match us, hl with | [_, _], _ => rfl⟩,
    ⟨[], .nil, FunD.bindsN (ps := ["one"]) F13 fun _ _ _ _ _ _ us hl => match us, hl with | [_], _ => rfl⟩,
    ⟨[], .nil, FunD.bindsN (ps := ["script"]) F14 fun _ _ _ _ _ _ us hl => match us, hl with | [_], _ => rfl⟩,
    ⟨[], .nil, FunD.bindsN (ps := ["draws", "place"]) F15 fun _ _ _ _ _ _ us hl => match us, hl with | [_, _], _ => rfl⟩,
    ⟨[], .nil, FunD.bindsN (ps := ["draws", "at", "many"]) F16 fun _ _ _ _ _ _ us hl => match us, hl with | [_, _, _], _ => rfl⟩,
    ⟨[], .nil, FunD.bindsN (ps := ["rows", "draws", "at"]) F17 fun _ _ _ _ _ _ us hl => match us, hl with | [_, _, _], _ => rfl⟩,
    ⟨[], .nil, FunD.bindsN (ps := ["low", "factors"]) F18 fun _ _ _ _ _ _ us hl => match us, hl with | [_, _], _ => rfl⟩,
    ⟨[], .nil, FunD.bindsN (ps := ["one", "other"]) F19 fun _ _ _ _ _ _ us hl => match us, hl with | [_, _], _ => rfl⟩,
    ⟨[], .nil, FunD.bindsN (ps := ["one", "other"]) F20 fun _ _ _ _ _ _ us hl => match us, hl with | [_, _], _ => rfl⟩,
    ⟨[], .nil, FunD.bindsN (ps := ["actual", "due"]) F22 fun _ _ _ _ _ _ us hl => match us, hl with | [_, _], _ => rfl⟩,
    ⟨[], .nil, FunD.bindsN (ps := ["over", "under"]) F23 fun _ _ _ _ _ _ us hl => match us, hl with | [_, _], _ => rfl⟩,
    ⟨[], .nil, FunD.bindsN (ps := ["one", "other"]) F24 fun _ _ _ _ _ _ us hl => match us, hl with | [_, _], _ => rfl⟩,
    ⟨[], .nil, FunD.bindsN (ps := ["one", "other"]) F25 fun _ _ _ _ _ _ us hl => match us, hl with | [_, _], _ => rfl⟩,
    ⟨[], .nil, FunD.bindsN (ps := ["draws", "at"]) F27 fun _ _ _ _ _ _ us hl => match us, hl with | [_, _], _ => rfl⟩,
    ⟨[], .nil, FunD.bindsN (ps := ["one", "over", "under"]) F28 fun _ _ _ _ _ _ us hl => match us, hl with | [_, _, _], _ => rfl⟩,
    ⟨[], .nil, FunD.bindsN (ps := ["which", "one", "other", "under"]) F29 fun _ _ _ _ _ _ us hl => match us, hl with | [_, _, _, _], _ => rfl⟩,
    He.glo_ok X G (c.fact 47 (f := .glo "ArgumentError") rfl),
    List.all_eq_true.mp er1 _ (List.mem_of_getElem? (i := 0) rfl),
    He.exm_ok (c.fact 48 (f := .exm "ArgumentError" "ArgumentError" true) rfl),
    gdB_ok X G (List.all_eq_true.mp er3 _ (List.mem_of_getElem? (i := 0) rfl)),
    DX.ini_ok (c0.ini _ (List.mem_of_getElem? (i := 0) rfl)).1 (c0.ini _ (List.mem_of_getElem? (i := 0) rfl)).2⟩⟩
end Kx

namespace Kx
open PySem PySem.Spec PyProof.Rows L2 DD
open Classical
local macro_rules
  | `(tactic| push_cast [$a,*]) => `(tactic| simp only [q_mulG, q_mulGI, q_mulGL, q_divG, q_augS, q_fAddI, q_fSubI, q_fMulI, q_augX, q_augL, q_orV, q_ttup, q_par, q_mulX, q_mulXT, q_aug, q_fAdd, q_raise, q_try, q_tryRt, q_tryNx, q_tryErr, q_tupDw, q_rgIt1, q_rgIt2, q_rgIt3, q_chain, q_slLH, q_ok, q_err, q_stuck, q_okS, q_errS, q_stuckS, q_nx, q_rt, q_bk, q_ct, q_errN, q_bind, q_thenS, q_seq, q_if, q_ret, q_retN, q_expr, q_pass, q_no, q_brk, q_cnt, q_asg, q_setD, q_setL, q_setF, q_var, q_c, q_mret, q_rdv, q_rds, q_rdDv, q_rdDs, q_n1, q_n2, q_n3, q_n4, q_n5, q_ownv, q_owns, q_op2, q_op1, q_fin2, q_fin1, q_sub, q_neg, q_div, q_mod, q_add, q_addI, q_addL, q_addT, q_mul, q_mulI, q_mulL, q_cmp, q_ii, q_true, q_tru, q_finT, q_tbl, q_tint, q_tlst, q_not, q_and, q_or, q_mif, q_ix, q_ixT, q_ixP, q_ixL, q_ixF, q_args0, q_args1, q_tup, q_lst, q_rdDs0, q_rdDs1, q_call1, q_call2, q_abs, q_int, q_lenT, q_lenP, q_lenL, q_lenF, q_tupT, q_tupL, q_lstT, q_lstL, q_max, q_min, q_mut, q_mkF, q_mkT, q_store, q_gtup, q_gpt, q_each0, q_each1, q_append, q_pop, q_isa, q_finV, q_gisa, q_back, q_mint, q_asI, q_slL, q_slH, q_svT, q_svL, q_svF, q_rg1, q_rg2, q_lrg, q_trg, q_andV, q_notV, q_callD, List.set_cons_zero, List.set_cons_succ, List.getElem?_cons_zero, List.getElem?_cons_succ, List.getElem?_nil, List.length_cons, List.length_nil, List.length_set, List.length_map, List.length_append, List.filterMap_cons, List.filterMap_nil, List.map_nil, List.map_cons, List.append_nil, List.nil_append, List.cons_append, reduceIte, Bool.not_true, Bool.not_false, Bool.false_eq_true, Nat.reduceAdd, Nat.zero_add, Nat.reduceEqDiff, argsIn, argIn, lsl, takeE, giveE, give1, List.nodup_cons, List.mem_cons, List.not_mem_nil, or_false, Nat.reduceEqDiff, Nat.succ_ne_self, not_false_eq_true, List.nodup_nil, and_self, $a,*])
  | `(tactic| push_cast [$a,*] at $h) => `(tactic| simp only [q_mulG, q_mulGI, q_mulGL, q_divG, q_augS, q_fAddI, q_fSubI, q_fMulI, q_augX, q_augL, q_orV, q_ttup, q_par, q_mulX, q_mulXT, q_aug, q_fAdd, q_raise, q_try, q_tryRt, q_tryNx, q_tryErr, q_tupDw, q_rgIt1, q_rgIt2, q_rgIt3, q_chain, q_slLH, q_ok, q_err, q_stuck, q_okS, q_errS, q_stuckS, q_nx, q_rt, q_bk, q_ct, q_errN, q_bind, q_thenS, q_seq, q_if, q_ret, q_retN, q_expr, q_pass, q_no, q_brk, q_cnt, q_asg, q_setD, q_setL, q_setF, q_var, q_c, q_mret, q_rdv, q_rds, q_rdDv, q_rdDs, q_n1, q_n2, q_n3, q_n4, q_n5, q_ownv, q_owns, q_op2, q_op1, q_fin2, q_fin1, q_sub, q_neg, q_div, q_mod, q_add, q_addI, q_addL, q_addT, q_mul, q_mulI, q_mulL, q_cmp, q_ii, q_true, q_tru, q_finT, q_tbl, q_tint, q_tlst, q_not, q_and, q_or, q_mif, q_ix, q_ixT, q_ixP, q_ixL, q_ixF, q_args0, q_args1, q_tup, q_lst, q_rdDs0, q_rdDs1, q_call1, q_call2, q_abs, q_int, q_lenT, q_lenP, q_lenL, q_lenF, q_tupT, q_tupL, q_lstT, q_lstL, q_max, q_min, q_mut, q_mkF, q_mkT, q_store, q_gtup, q_gpt, q_each0, q_each1, q_append, q_pop, q_isa, q_finV, q_gisa, q_back, q_mint, q_asI, q_slL, q_slH, q_svT, q_svL, q_svF, q_rg1, q_rg2, q_lrg, q_trg, q_andV, q_notV, q_callD, List.set_cons_zero, List.set_cons_succ, List.getElem?_cons_zero, List.getElem?_cons_succ, List.getElem?_nil, List.length_cons, List.length_nil, List.length_set, List.length_map, List.length_append, List.filterMap_cons, List.filterMap_nil, List.map_nil, List.map_cons, List.append_nil, List.nil_append, List.cons_append, reduceIte, Bool.not_true, Bool.not_false, Bool.false_eq_true, Nat.reduceAdd, Nat.zero_add, Nat.reduceEqDiff, argsIn, argIn, lsl, takeE, giveE, give1, List.nodup_cons, List.mem_cons, List.not_mem_nil, or_false, Nat.reduceEqDiff, Nat.succ_ne_self, not_false_eq_true, List.nodup_nil, and_self, $a,*] at $h)
/-! the draws -/
theorem tdr_a {v0 v2 v5 a : Option Val} {ds : List Int} {rest : Int} {i : D} (hl : ds.length < sizeLine) : ∃ ds' rest', turn1 (gSet 4) b14_0 i [v0, some (vL ds), v2, some (vI rest), a, v5] = .nx [v0, some (vL ds'), v2, some (vI rest'), some (.d i), v5] ∧ ds'.length ≤ ds.length + 1 := by
  by_cases q : 0 < rest
  · refine ⟨ds ++ [rest % 1009], rest / 1009, ?_, by simp⟩
    unfold turn1 b14_0
    push_cast [q, decide_true, p1009, cdv, hl, snocI]
  · refine ⟨ds, rest, ?_, by omega⟩
    unfold turn1 b14_0
    push_cast [q, decide_false]
theorem tdr_b {v0 v2 v3 a : Option Val} {ds : List Int} {m i : Int} (hl : ds.length < sizeLine) : ∃ ds' m', turn1 (gSet 4) b14_2 (.int i) [v0, some (vL ds), v2, v3, a, some (vI m)] = .nx [v0, some (vL ds'), v2, v3, some (vI i), some (vI m')] ∧ ds'.length ≤ ds.length + 1 := by
  refine ⟨ds ++ [((m * 16807 + 69621 * i + 5) % 2147483629) / 1009], (m * 16807 + 69621 * i + 5) % 2147483629, ?_, by simp⟩
  unfold turn1 b14_2
  push_cast [pbig1, cdv, cms, cml, hl, snocI]
theorem ldr_a {v0 v2 v5 a : Option Val} {ds : List Int} {rest : Int} (hl : ds.length + 60 ≤ sizeLine) : ∃ ds' rest' a', l14_1 [v0, some (vL ds), v2, some (vI rest), a, v5] = .nx [v0, some (vL ds'), v2, some (vI rest'), a', v5] ∧ ds'.length ≤ ds.length + 60 := by
  obtain ⟨η', h1, ds', rest', a', h2, h3⟩ := sFor_free (t := gSet 4) (body := b14_0) (rg_it (n := 60) (k := 60) (η := [v0, some (vL ds), v2, some (vI rest), a, v5]) (by decide) (by decide)) rfl (fun i η => ∃ ds' rest' a', η = [v0, some (vL ds'), v2, some (vI rest'), a', v5] ∧ ds'.length ≤ ds.length + i) ⟨ds, rest, a, rfl, by omega⟩ (by
    rintro j x η hx ⟨ds1, r1, a1, rfl, h4⟩
    obtain ⟨hj, rfl⟩ := rg_get hx
    obtain ⟨ds2, r2, h5, h6⟩ := tdr_a (v0 := v0) (v2 := v2) (v5 := v5) (a := a1) (rest := r1) (i := .int j) (ds := ds1) (by omega)
    exact ⟨_, h5, ds2, r2, _, rfl, by omega⟩)
  exact ⟨ds', rest', a', by unfold l14_1; rw [← h2]; exact h1, by rw [rgD_len] at h3; exact h3⟩
theorem ldr_b {v0 v2 v3 a : Option Val} {ds : List Int} {m : Int} (hl : ds.length + 12 ≤ sizeLine) : ∃ ds' m' a', l14_3 [v0, some (vL ds), v2, v3, a, some (vI m)] = .nx [v0, some (vL ds'), v2, v3, a', some (vI m')] ∧ ds'.length ≤ ds.length + 60 := by
  obtain ⟨η', h1, ds', m', a', h2, h3⟩ := sFor_free (t := gSet 4) (body := b14_2) (rg_it (n := 12) (k := 12) (η := [v0, some (vL ds), v2, v3, a, some (vI m)]) (by decide) (by decide)) rfl (fun i η => ∃ ds' m' a', η = [v0, some (vL ds'), v2, v3, a', some (vI m')] ∧ ds'.length ≤ ds.length + i) ⟨ds, m, a, rfl, by omega⟩ (by
    rintro j x η hx ⟨ds1, r1, a1, rfl, h4⟩
    obtain ⟨hj, rfl⟩ := rg_get hx
    obtain ⟨ds2, r2, h5, h6⟩ := tdr_b (v0 := v0) (v2 := v2) (v3 := v3) (a := a1) (m := r1) (i := j) (ds := ds1) (by omega)
    exact ⟨_, h5, ds2, r2, _, rfl, by omega⟩)
  exact ⟨ds', m', a', by unfold l14_3; rw [← h2]; exact h1, by rw [rgD_len] at h3; omega⟩
theorem tdr {v0 a b d e : Option Val} {ds : List Int} {c : Int} (hl : ds.length + 60 ≤ sizeLine) : ∃ ds' b' d' e', turn1 (gSet 2) b14_4 (.int c) [v0, some (vL ds), a, b, d, e] = .nx [v0, some (vL ds'), some (vI c), b', d', e'] ∧ ds'.length ≤ ds.length + 60 := by
  by_cases q : (1000000000000000000 : Int) ≤ (c.natAbs : Int)
  · obtain ⟨ds', r', a', h1, h2⟩ := ldr_a (v0 := v0) (v2 := some (vI c)) (v5 := e) (a := d) (ds := ds) (rest := (c.natAbs : Int)) hl
    refine ⟨ds', some (vI r'), a', e, ?_, h2⟩
    unfold turn1 b14_4
    push_cast [pow18, q, decide_true, h1]
  · obtain ⟨ds', r', a', h1, h2⟩ := ldr_b (v0 := v0) (v2 := some (vI c)) (v3 := some (vI c.natAbs)) (a := d) (ds := ds) (m := ((c.natAbs : Int) * 48271 + 11) % 2147483647) (by omega)
    refine ⟨ds', some (vI c.natAbs), a', some (vI r'), ?_, h2⟩
    unfold turn1 b14_4
    push_cast [pow18, q, decide_false, cmr, pbig2, h1]
theorem e_draws {ns : List Int} (h : ns.length ≤ 63) : ∃ ds : List Int, f14 [.fz (ns.map D.int)] = .ok (vL ds) [none] := by
  have hc : cutD (ns.map D.int) none (some 63) = ns.map D.int := by
    have := cut_hi (xs := ns.map D.int) (k := 63)
    refine this.trans (List.take_of_length_le (by simpa using h))
  obtain ⟨η', h1, ds, a, b, d, e, h2, h3⟩ := sFor_free (mi := (mSliceH (mVar 0) (mC (.int 63))) >>= itOf) (t := gSet 2) (body := b14_4) (η := [some (.fz (ns.map D.int)), some (vL []), none, none, none, none])
    (it := { items := ns.map D.int, src := ns.map D.int }) (η0 := [some (.fz (ns.map D.int)), some (vL []), none, none, none, none]) (by push_cast [hc]; rfl) rfl (fun i η => ∃ ds a b d e, η = [some (.fz (ns.map D.int)), some (vL ds), a, b, d, e] ∧ ds.length ≤ 60 * i) ⟨[], none, none, none, none, rfl, by simp⟩ (by
      rintro j x η hx ⟨ds, a, b, d, e, rfl, h4⟩
      have hj : j < ns.length := by
        have := (List.getElem?_eq_some_iff.mp hx).1
        simpa using this
      obtain ⟨w, hw, rfl⟩ := get_ints hx
      obtain ⟨ds', b', d', e', h5, h6⟩ := tdr (v0 := some (.fz (ns.map D.int))) (a := a) (b := b) (d := d) (e := e) (ds := ds) (c := w) (by have := z4000; omega)
      exact ⟨_, h5, ds', _, b', d', e', rfl, by omega⟩)
  have h4 : l14_5 [some (.fz (ns.map D.int)), some (.l []), none, none, none, none] = .nx [some (.fz (ns.map D.int)), some (vL ds), a, b, d, e] := by
    unfold l14_5
    rw [← h2]
    exact h1
  refine ⟨ds, ?_⟩
  unfold f14 fnD m14
  push_cast [List.replicate, Nat.reduceSub, Nat.zero_le, h4, SOut.fin, backs, bk1, List.drop_succ_cons, List.drop_zero, List.drop_nil]
theorem tmo {ds : List Int} {p m : Int} {j : Nat} {a : Option Val} (hj : j < 3) : ∃ m', turn1 (gSet 3) b15_0 (.int j) [some (vB ds), some (vI p), some (vI m), a] = .nx [some (vB ds), some (vI p), some (vI m'), some (vI j)] := by
  have cm : CMul p ((j : Int) + 5) = True := eq_true (.inr ⟨by omega, by omega⟩)
  cases ds with
  | nil =>
    refine ⟨(m * 16807 + 69621 * (j : Int) + 5) % 2147483629, ?_⟩
    unfold turn1 b15_0
    push_cast [List.isEmpty_nil, cms, cml, pbig1]
  | cons d ds =>
    obtain ⟨y, hy⟩ := atI_mod (ds := d :: ds) (z := p * ((j : Int) + 5) + j) (by simp)
    have hl : (0 : Int) < (((d :: ds).map D.int).length : Int) := by rw [List.length_map, List.length_cons]; omega
    have hl2 : (((d :: ds).map D.int).length : Int) = ((d :: ds).length : Int) := by simp
    have he : ((d :: ds).map D.int).isEmpty = false := rfl
    generalize (d :: ds) = e at *
    refine ⟨((m + y) * 16807 + 69621 * (j : Int) + 5) % 2147483629, ?_⟩
    unfold turn1 b15_0
    rw [hl2] at hl
    push_cast [he, cm, cms, cml, pbig1, hl, hl2, hy]
theorem e_more {ds : List Int} {p : Int} : ∃ r, f15 [vB ds, vI p] = .ok (vI r) [some (vB ds), none] := by
  obtain ⟨η', h1, m, a, h2⟩ := sFor_free (t := gSet 3) (body := b15_0) (rg_it (n := 3) (k := 3) (η := [some (vB ds), some (vI p), some (vI ((p * 48271 + (ds.length : Int) + 11) % 2147483629)), none]) (by decide) (by decide)) rfl (fun i η => ∃ m a, η = [some (vB ds), some (vI p), some (vI m), a]) ⟨_, none, rfl⟩ (by
    rintro j x η hx ⟨m, a, rfl⟩
    obtain ⟨hj, rfl⟩ := rg_get hx
    obtain ⟨m', h⟩ := tmo (ds := ds) (p := p) (m := m) (a := a) hj
    exact ⟨_, h, _, _, rfl⟩)
  have h3 : l15_1 [some (vB ds), some (vI p), some (vI ((p * 48271 + (ds.length : Int) + 11) % 2147483629)), none] = .nx [some (vB ds), some (vI p), some (vI m), a] := by
    unfold l15_1
    rw [← h2]
    exact h1
  refine ⟨m / 1009, ?_⟩
  unfold f15 fnD m15
  push_cast [List.replicate, Nat.reduceSub, cmr, pbig1, h3, cdv, SOut.fin, backs, bk1, List.drop_succ_cons, List.drop_zero, List.drop_nil]
theorem e_take {ds : List Int} {p many : Int} (hp : 0 ≤ p) (hm : 0 < many) : ∃ r, 0 ≤ r ∧ r < many ∧ f16 [vB ds, (.bw [.int p]), vI many] = .ok (vI r) [some (vB ds), some (.bw [.int (p + 1)]), none] := by
  have q1 : atI [D.int p] 0 = some (.int p) := atI_nat (j := 0) rfl
  have q2 : ixN 1 0 = some 0 := by decide
  by_cases q : p < (ds.length : Int)
  · have q3 : atI (ds.map D.int) p = some (.int (ds[p.toNat]'(by omega))) := by
      have e : p = (p.toNat : Int) := by omega
      conv => lhs; rw [e]
      rw [atI_ok (by rw [List.length_map]; omega), List.getElem_map]
    refine ⟨ds[p.toNat]'(by omega) % many, Int.emod_nonneg _ (by omega), Int.emod_lt_of_pos _ hm, ?_⟩
    generalize ds[p.toNat]'(by omega) = y at q3
    unfold f16 fnD m16
    push_cast [List.replicate, Nat.reduceSub, q1, q2, q3, q, decide_true, hm, SOut.fin, backs, bk1, List.drop_succ_cons, List.drop_zero, List.drop_nil]
  · obtain ⟨y, hy⟩ := e_more (ds := ds) (p := p)
    refine ⟨y % many, Int.emod_nonneg _ (by omega), Int.emod_lt_of_pos _ hm, ?_⟩
    unfold f16 fnD m16
    push_cast [List.replicate, Nat.reduceSub, q1, q2, q, decide_false, hm, argsIn, argIn, lsl, takeE, giveE, give1, hy, List.nodup_cons, List.not_mem_nil, not_false_eq_true, List.nodup_nil, and_self, SOut.fin, backs, bk1, List.drop_succ_cons, List.drop_zero, List.drop_nil]
theorem e_one {ds xs : List Int} {p : Int} (hp : 0 ≤ p) (hx : xs ≠ []) : ∃ y ∈ xs, f17 [vL xs, vB ds, (.bw [.int p])] = .ok (vI y) [none, some (vB ds), some (.bw [.int (p + 1)])] := by
  have hl : 0 < xs.length := List.length_pos_iff.mpr hx
  obtain ⟨r, r1, r2, hr⟩ := e_take (ds := ds) (p := p) (many := xs.length) hp (by omega)
  have q3 : atI (xs.map D.int) r = some (.int (xs[r.toNat]'(by omega))) := by
    have e : r = (r.toNat : Int) := by omega
    conv => lhs; rw [e]
    rw [atI_ok (by rw [List.length_map]; omega), List.getElem_map]
  refine ⟨xs[r.toNat]'(by omega), List.getElem_mem _, ?_⟩
  generalize xs[r.toNat]'(by omega) = y at q3
  unfold f17 fnD m17
  push_cast [List.replicate, Nat.reduceSub, argsIn, argIn, lsl, takeE, giveE, give1, hr, q3, List.nodup_cons, List.mem_cons, List.not_mem_nil, or_false, Nat.reduceEqDiff, Nat.succ_ne_self, not_false_eq_true, List.nodup_nil, and_self, SOut.fin, backs, bk1, List.drop_succ_cons, List.drop_zero, List.drop_nil, eq_self]
theorem e_oneD {ds : List Int} {xs : List D} {p : Int} (hp : 0 ≤ p) (hx : xs ≠ []) : ∃ y ∈ xs, f17 [.l xs, vB ds, (.bw [.int p])] = .ok (.d y) [none, some (vB ds), some (.bw [.int (p + 1)])] := by
  have hl : 0 < xs.length := List.length_pos_iff.mpr hx
  obtain ⟨r, r1, r2, hr⟩ := e_take (ds := ds) (p := p) (many := xs.length) hp (by omega)
  have q3 : atI xs r = some (xs[r.toNat]'(by omega)) := by
    have e : r = (r.toNat : Int) := by omega
    conv => lhs; rw [e]
    rw [atI_ok (by omega)]
  refine ⟨xs[r.toNat]'(by omega), List.getElem_mem _, ?_⟩
  generalize xs[r.toNat]'(by omega) = y at q3
  (unfold f17 fnD m17; generalize f16 = Gf16 at *; as_aux_lemma => push_cast [q_finRt, q_finSl, q_finNx, q_finErr, backs, bk1, List.drop_succ_cons, List.drop_zero, List.drop_nil, List.replicate, Nat.reduceSub, List.getElem?_cons_zero, hr, q3, eq_self])
theorem e_oneB {ds : List Int} {xs : List D} {p : Int} (hp : 0 ≤ p) (hx : xs ≠ []) : ∃ y ∈ xs, f17 [.bw xs, vB ds, (.bw [.int p])] = .ok (.d y) [some (.bw xs), some (vB ds), some (.bw [.int (p + 1)])] := by
  have hl : 0 < xs.length := List.length_pos_iff.mpr hx
  obtain ⟨r, r1, r2, hr⟩ := e_take (ds := ds) (p := p) (many := xs.length) hp (by omega)
  have q3 : atI xs r = some (xs[r.toNat]'(by omega)) := by
    have e : r = (r.toNat : Int) := by omega
    conv => lhs; rw [e]
    rw [atI_ok (by omega)]
  refine ⟨xs[r.toNat]'(by omega), List.getElem_mem _, ?_⟩
  generalize xs[r.toNat]'(by omega) = y at q3
  (unfold f17 fnD m17; generalize f16 = Gf16 at *; as_aux_lemma => push_cast [q_finRt, q_finSl, q_finNx, q_finErr, backs, bk1, List.drop_succ_cons, List.drop_zero, List.drop_nil, List.replicate, Nat.reduceSub, List.getElem?_cons_zero, hr, q3, eq_self])
theorem e_oneT {ds : List Int} {xs : List D} {p : Int} (hp : 0 ≤ p) (hx : xs ≠ []) : ∃ y ∈ xs, f17 [.d (.tup xs), vB ds, (.bw [.int p])] = .ok (.d y) [none, some (vB ds), some (.bw [.int (p + 1)])] := by
  have hl : 0 < xs.length := List.length_pos_iff.mpr hx
  obtain ⟨r, r1, r2, hr⟩ := e_take (ds := ds) (p := p) (many := xs.length) hp (by omega)
  have q3 : atI xs r = some (xs[r.toNat]'(by omega)) := by
    have e : r = (r.toNat : Int) := by omega
    conv => lhs; rw [e]
    rw [atI_ok (by omega)]
  refine ⟨xs[r.toNat]'(by omega), List.getElem_mem _, ?_⟩
  generalize xs[r.toNat]'(by omega) = y at q3
  (unfold f17 fnD m17; generalize f16 = Gf16 at *; as_aux_lemma => push_cast [q_finRt, q_finSl, q_finNx, q_finErr, backs, bk1, List.drop_succ_cons, List.drop_zero, List.drop_nil, List.replicate, Nat.reduceSub, List.getElem?_cons_zero, hr, q3, eq_self])
/-! the basics -/
/-- a whole number in a range -/
def inR (x : D) (lo hi : Int) : Bool := match x with
  | .int v => decide (lo ≤ v) && decide (v ≤ hi)
  | _ => false
theorem e_int {v : Int} : f0 [vI v] = .ok (.d (.bl true)) [none] := by rfl
theorem e_rng (x : D) (lo hi : Int) : f1 [.d x, vI lo, vI hi] = .ok (.d (.bl (inR x lo hi))) [none, none, none] := by
  cases x with
  | int v =>
    have h := e_int (v := v)
    by_cases h1 : lo ≤ v
    · by_cases h2 : v ≤ hi
      · (unfold f1 fnD m1; generalize f0 = Gf0 at *; as_aux_lemma => push_cast [q_finRt, q_finSl, q_finNx, q_finErr, backs, bk1, List.drop_succ_cons, List.drop_zero, List.drop_nil, List.replicate, Nat.reduceSub, List.getElem?_cons_zero, h, h1, h2, decide_true, inR, Bool.and_self, Bool.and_true])
      · (unfold f1 fnD m1; generalize f0 = Gf0 at *; as_aux_lemma => push_cast [q_finRt, q_finSl, q_finNx, q_finErr, backs, bk1, List.drop_succ_cons, List.drop_zero, List.drop_nil, List.replicate, Nat.reduceSub, List.getElem?_cons_zero, h, h1, h2, decide_true, decide_false, inR, Bool.and_false])
    · (unfold f1 fnD m1; generalize f0 = Gf0 at *; as_aux_lemma => push_cast [q_finRt, q_finSl, q_finNx, q_finErr, backs, bk1, List.drop_succ_cons, List.drop_zero, List.drop_nil, List.replicate, Nat.reduceSub, List.getElem?_cons_zero, h, h1, decide_false, inR, Bool.false_and])
  | non => rfl
  | bl b => rfl
  | str s => rfl
  | tup xs => rfl
  | pt xs => rfl
abbrev aErr (r : String) : Exn := ⟨"ArgumentError", [("reason", .str r)]⟩
theorem ia_tt {xs : List D} : isaB (tyD (.tup xs)) "tuple" = true := nr rfl
theorem ia_nt : isaB (tyD .non) "tuple" = false := nr rfl
theorem ia_it {i : Int} : isaB (tyD (.int i)) "tuple" = false := nr rfl
theorem ia_bt {b : Bool} : isaB (tyD (.bl b)) "tuple" = false := nr rfl
theorem asBools_of : ∀ (bs : List Bool), asBools (bs.map D.bl) = some bs
  | [] => rfl
  | b :: bs => by simp [asBools, asBools_of bs]
theorem gAll_of (bs : List Bool) : gAll (.l (bs.map D.bl)) = some (.d (.bl (bs.all id))) := by
  show (asBools _).map _ = _
  rw [asBools_of]
  rfl
end Kx

namespace Kx
open PySem PySem.Spec PyProof.Rows L2 DD
open Classical
local macro_rules
  | `(tactic| push_cast [$a,*]) => `(tactic| simp only [q_mulG, q_mulGI, q_mulGL, q_divG, q_augS, q_fAddI, q_fSubI, q_fMulI, q_augX, q_augL, q_orV, q_ttup, q_par, q_mulX, q_mulXT, q_aug, q_fAdd, q_raise, q_try, q_tryRt, q_tryNx, q_tryErr, q_tupDw, q_rgIt1, q_rgIt2, q_rgIt3, q_chain, q_slLH, q_ok, q_err, q_stuck, q_okS, q_errS, q_stuckS, q_nx, q_rt, q_bk, q_ct, q_errN, q_bind, q_thenS, q_seq, q_if, q_ret, q_retN, q_expr, q_pass, q_no, q_brk, q_cnt, q_asg, q_setD, q_setL, q_setF, q_var, q_c, q_mret, q_rdv, q_rds, q_rdDv, q_rdDs, q_n1, q_n2, q_n3, q_n4, q_n5, q_ownv, q_owns, q_op2, q_op1, q_fin2, q_fin1, q_sub, q_neg, q_div, q_mod, q_add, q_addI, q_addL, q_addT, q_mul, q_mulI, q_mulL, q_cmp, q_ii, q_true, q_tru, q_finT, q_tbl, q_tint, q_tlst, q_not, q_and, q_or, q_mif, q_ix, q_ixT, q_ixP, q_ixL, q_ixF, q_args0, q_args1, q_tup, q_lst, q_rdDs0, q_rdDs1, q_call1, q_call2, q_abs, q_int, q_lenT, q_lenP, q_lenL, q_lenF, q_tupT, q_tupL, q_lstT, q_lstL, q_max, q_min, q_mut, q_mkF, q_mkT, q_store, q_gtup, q_gpt, q_each0, q_each1, q_append, q_pop, q_isa, q_finV, q_gisa, q_back, q_mint, q_asI, q_slL, q_slH, q_svT, q_svL, q_svF, q_rg1, q_rg2, q_lrg, q_trg, q_andV, q_notV, q_callD, List.set_cons_zero, List.set_cons_succ, List.getElem?_cons_zero, List.getElem?_cons_succ, List.getElem?_nil, List.length_cons, List.length_nil, List.length_set, List.length_map, List.length_append, List.filterMap_cons, List.filterMap_nil, List.map_nil, List.map_cons, List.append_nil, List.nil_append, List.cons_append, reduceIte, Bool.not_true, Bool.not_false, Bool.false_eq_true, Nat.reduceAdd, Nat.zero_add, Nat.reduceEqDiff, argsIn, argIn, lsl, takeE, giveE, give1, List.nodup_cons, List.mem_cons, List.not_mem_nil, or_false, Nat.reduceEqDiff, Nat.succ_ne_self, not_false_eq_true, List.nodup_nil, and_self, $a,*])
  | `(tactic| push_cast [$a,*] at $h) => `(tactic| simp only [q_mulG, q_mulGI, q_mulGL, q_divG, q_augS, q_fAddI, q_fSubI, q_fMulI, q_augX, q_augL, q_orV, q_ttup, q_par, q_mulX, q_mulXT, q_aug, q_fAdd, q_raise, q_try, q_tryRt, q_tryNx, q_tryErr, q_tupDw, q_rgIt1, q_rgIt2, q_rgIt3, q_chain, q_slLH, q_ok, q_err, q_stuck, q_okS, q_errS, q_stuckS, q_nx, q_rt, q_bk, q_ct, q_errN, q_bind, q_thenS, q_seq, q_if, q_ret, q_retN, q_expr, q_pass, q_no, q_brk, q_cnt, q_asg, q_setD, q_setL, q_setF, q_var, q_c, q_mret, q_rdv, q_rds, q_rdDv, q_rdDs, q_n1, q_n2, q_n3, q_n4, q_n5, q_ownv, q_owns, q_op2, q_op1, q_fin2, q_fin1, q_sub, q_neg, q_div, q_mod, q_add, q_addI, q_addL, q_addT, q_mul, q_mulI, q_mulL, q_cmp, q_ii, q_true, q_tru, q_finT, q_tbl, q_tint, q_tlst, q_not, q_and, q_or, q_mif, q_ix, q_ixT, q_ixP, q_ixL, q_ixF, q_args0, q_args1, q_tup, q_lst, q_rdDs0, q_rdDs1, q_call1, q_call2, q_abs, q_int, q_lenT, q_lenP, q_lenL, q_lenF, q_tupT, q_tupL, q_lstT, q_lstL, q_max, q_min, q_mut, q_mkF, q_mkT, q_store, q_gtup, q_gpt, q_each0, q_each1, q_append, q_pop, q_isa, q_finV, q_gisa, q_back, q_mint, q_asI, q_slL, q_slH, q_svT, q_svL, q_svF, q_rg1, q_rg2, q_lrg, q_trg, q_andV, q_notV, q_callD, List.set_cons_zero, List.set_cons_succ, List.getElem?_cons_zero, List.getElem?_cons_succ, List.getElem?_nil, List.length_cons, List.length_nil, List.length_set, List.length_map, List.length_append, List.filterMap_cons, List.filterMap_nil, List.map_nil, List.map_cons, List.append_nil, List.nil_append, List.cons_append, reduceIte, Bool.not_true, Bool.not_false, Bool.false_eq_true, Nat.reduceAdd, Nat.zero_add, Nat.reduceEqDiff, argsIn, argIn, lsl, takeE, giveE, give1, List.nodup_cons, List.mem_cons, List.not_mem_nil, or_false, Nat.reduceEqDiff, Nat.succ_ne_self, not_false_eq_true, List.nodup_nil, and_self, $a,*] at $h)
/-! what is trimmed -/
def Tight (m : List Int) : Prop := m ≠ [] ∧ m.head? ≠ some 0 ∧ m.getLast? ≠ some 0
def Trm (l : Int) (fs : List Int) (r : Int × List Int) : Prop := ((∀ x ∈ fs, x = 0) ∧ r = (0, [])) ∨ ∃ (a b : Nat) (mid : List Int), fs = List.replicate a 0 ++ mid ++ List.replicate b 0 ∧ Tight mid ∧ r = (l + a, mid)
theorem dw_rep {x : List Int} (h : x.head? ≠ some 0) : ∀ a : Nat, (List.replicate a 0 ++ x).dropWhile (fun i => decide (i = 0)) = x
  | 0 => by
    rw [List.replicate_zero, List.nil_append]
    cases x with
    | nil => rfl
    | cons y x =>
      have : ¬ y = 0 := fun e => h (by rw [e]; rfl)
      rw [List.dropWhile_cons, if_neg (by simpa using this)]
  | a + 1 => by rw [List.replicate_succ, List.cons_append, List.dropWhile_cons, if_pos (by rfl), dw_rep h a]
theorem tw_rep {x : List Int} (h : x.head? ≠ some 0) : ∀ a : Nat, (List.replicate a 0 ++ x).takeWhile (fun i => decide (i = 0)) = List.replicate a 0
  | 0 => by
    rw [List.replicate_zero, List.nil_append]
    cases x with
    | nil => rfl
    | cons y x =>
      have : ¬ y = 0 := fun e => h (by rw [e]; rfl)
      rw [List.takeWhile_cons, if_neg (by simpa using this)]
  | a + 1 => by rw [List.replicate_succ, List.cons_append, List.takeWhile_cons, if_pos (by rfl), tw_rep h a]
def trm (l : Int) (fs : List Int) : Int × List Int :=
  if ((fs.dropWhile fun i => decide (i = 0)).reverse.dropWhile fun i => decide (i = 0)).reverse = [] then (0, []) else (l + (fs.takeWhile fun i => decide (i = 0)).length, ((fs.dropWhile fun i => decide (i = 0)).reverse.dropWhile fun i => decide (i = 0)).reverse)
theorem trm_of {l : Int} {fs : List Int} {r : Int × List Int} (h : Trm l fs r) : r = trm l fs := by
  unfold trm
  rcases h with ⟨h, rfl⟩ | ⟨a, b, mid, rfl, ⟨h1, h2, h3⟩, rfl⟩
  · have e : fs = List.replicate fs.length 0 ++ [] := by
      rw [List.append_nil]
      exact List.eq_replicate_iff.mpr ⟨rfl, h⟩
    have e2 : fs.dropWhile (fun i => decide (i = 0)) = [] := by
      rw [e]
      exact dw_rep (x := []) (by simp) _
    rw [e2, if_pos (by rfl)]
  · have hh : (mid ++ List.replicate b 0).head? ≠ some 0 := by
      cases mid with
      | nil => exact (h1 rfl).elim
      | cons y mid => exact h2
    rw [List.append_assoc, dw_rep hh, tw_rep hh, List.reverse_append, List.reverse_replicate, dw_rep (by rw [List.head?_reverse]; exact h3), List.reverse_reverse, if_neg h1, List.length_replicate]
theorem trm_tight {l : Int} {m : List Int} (h : Tight m) : trm l m = (l, m) := (trm_of (.inr ⟨0, 0, m, by simp, h, by simp⟩)).symm
theorem trm_nil {l : Int} : trm l [] = (0, []) := (trm_of (.inl ⟨by simp, rfl⟩)).symm
def pD (r : Int × List Int) : D := .tup [.int r.1, .tup (r.2.map D.int)]
section
variable {l : Int} {fs : List Int}
theorem at_get {fs : List Int} {n : Nat} {x : Int} (h : fs[n]? = some x) : atI (fs.map D.int) (n : Int) = some (.int x) := by
  refine atI_nat ?_
  rw [List.getElem?_map, h]
  rfl
theorem take_rep {fs : List Int} {n : Nat} (h : fs.take n = List.replicate n 0) (h2 : fs[n]? = some 0) : fs.take (n + 1) = List.replicate (n + 1) 0 := by
  rw [take_snoc h2, h, List.replicate_succ']
theorem drop_rep {fs : List Int} {m k : Nat} (hm : 0 < m) (h : fs.drop m = List.replicate k 0) (h2 : fs[m - 1]? = some 0) : fs.drop (m - 1) = List.replicate (k + 1) 0 := by
  obtain ⟨hj, e⟩ := List.getElem?_eq_some_iff.mp h2
  rw [List.drop_eq_getElem_cons hj, e, show m - 1 + 1 = m by omega, h, List.replicate_succ]
theorem e_trimT (hl : fs.length ≤ 100000) : f2 [vI l, .d (.tup (fs.map D.int))] = .ok (.d (pD (trm l fs))) [none, none] := by
  have zz : 100000 ≤ sizeLine := by decide
  (unfold f2; generalize hr_ : fnD _ _ _ _ = r_; revert r_; refine fn_R fun R hR => ?_; unfold m2; simp only [List.map_cons, List.map_nil, List.replicate, Nat.reduceSub, List.cons_append, List.nil_append])
  (refine sq_any (by push_cast [q_ok]; (first | done | rfl)) ?_; (first | refine go_nx' ?_ | refine go_rt' ?_ | refine go_err' ?_))
  unfold l2_1 b2_0
  refine sq_while (fun (n : Nat) => [some (vI l), some (.d (.tup (fs.map D.int))), some (vI (n : Nat)), none]) (fun n => n ≤ fs.length ∧ fs.take n = List.replicate n 0) (fun n => fs.length - n) 0 (by rfl) ⟨Nat.zero_le _, by simp⟩ ?_
  rintro n ⟨h1, h2⟩
  have key : (∃ x, fs[n]? = some x ∧ x = 0) ∨ (n = fs.length ∨ ∃ x, fs[n]? = some x ∧ x ≠ 0) := by
    by_cases hn : n < fs.length
    · by_cases hx : fs[n] = 0
      · exact .inl ⟨fs[n], List.getElem?_eq_getElem hn, hx⟩
      · exact .inr (.inr ⟨fs[n], List.getElem?_eq_getElem hn, hx⟩)
    · exact .inr (.inl (by omega))
  rcases key with ⟨x, hx, rfl⟩ | hout
  · have hn := (List.getElem?_eq_some_iff.mp hx).1
    have hn2 : (n : Int) < (fs.length : Int) := by omega
    have hat := at_get hx
    refine .inr ⟨[some (vI l), some (.d (.tup (fs.map D.int))), some (vI (n : Nat)), none], by push_cast [hn2, hat, decide_true, DD.eq_int], ?_⟩
    refine as_R fun R' hR' => ?_
    (refine sq_one (by push_cast [q_ok]; (first | done | rfl)) ?_)
    refine hR' _ ⟨n + 1, rfl, ⟨hn, take_rep h2 hx⟩, ?_⟩
    omega
  · refine .inl ⟨[some (vI l), some (.d (.tup (fs.map D.int))), some (vI (n : Nat)), none], ?_, ?_⟩
    · rcases hout with rfl | ⟨x, hx, hx0⟩
      · have hn2 : ¬ (fs.length : Int) < (fs.length : Int) := by omega
        push_cast [hn2, decide_false]
      · have hn2 : (n : Int) < (fs.length : Int) := by have := (List.getElem?_eq_some_iff.mp hx).1; omega
        have hat := at_get hx
        push_cast [hn2, hat, decide_true, hx0, decide_false, DD.eq_int]
    (refine sq_any (by push_cast [q_ok]; (first | done | rfl)) ?_; (first | refine go_nx' ?_ | refine go_rt' ?_ | refine go_err' ?_))
    unfold l2_3 b2_2
    refine sq_while (fun (m : Nat) => [some (vI l), some (.d (.tup (fs.map D.int))), some (vI (n : Nat)), some (vI (m : Nat))]) (fun m => n ≤ m ∧ m ≤ fs.length ∧ fs.drop m = List.replicate (fs.length - m) 0) (fun m => m) fs.length (by rfl) ⟨h1, Nat.le_refl _, by simp⟩ ?_
    rintro m ⟨g1, g2, g3⟩
    have key : (n < m ∧ ∃ x, fs[m - 1]? = some x ∧ x = 0) ∨ (m = n ∨ (n < m ∧ ∃ x, fs[m - 1]? = some x ∧ x ≠ 0)) := by
      by_cases hn : n < m
      · have hm1 : m - 1 < fs.length := by omega
        by_cases hx : fs[m - 1] = 0
        · exact .inl ⟨hn, fs[m - 1], List.getElem?_eq_getElem hm1, hx⟩
        · exact .inr (.inr ⟨hn, fs[m - 1], List.getElem?_eq_getElem hm1, hx⟩)
      · exact .inr (.inl (by omega))
    rcases key with ⟨hn, x, hx, rfl⟩ | hout2
    · have hn2 : (n : Int) < (m : Int) := by omega
      have hat := at_get hx
      have e : (m : Int) - 1 = ((m - 1 : Nat) : Int) := by omega
      refine .inr ⟨[some (vI l), some (.d (.tup (fs.map D.int))), some (vI (n : Nat)), some (vI (m : Nat))], by push_cast [hn2, e, hat, decide_true, DD.eq_int], ?_⟩
      refine as_R fun R' hR' => ?_
      (refine sq_one (by push_cast [e]; (first | done | rfl)) ?_)
      refine hR' _ ⟨m - 1, rfl, ⟨by omega, by omega, ?_⟩, by omega⟩
      rw [show fs.length - (m - 1) = (fs.length - m) + 1 by omega]
      exact drop_rep (by omega) g3 hx
    · refine .inl ⟨[some (vI l), some (.d (.tup (fs.map D.int))), some (vI (n : Nat)), some (vI (m : Nat))], ?_, ?_⟩
      · rcases hout2 with rfl | ⟨hn, x, hx, hx0⟩
        · have hn2 : ¬ (m : Int) < (m : Int) := by omega
          push_cast [hn2, decide_false]
        · have hn2 : (n : Int) < (m : Int) := by omega
          have hat := at_get hx
          have e : (m : Int) - 1 = ((m - 1 : Nat) : Int) := by omega
          push_cast [hn2, e, hat, decide_true, hx0, decide_false, DD.eq_int]
      have hlen : ((fs.drop n).take (m - n)).length ≤ sizeLine := by rw [List.length_take, List.length_drop]; omega
      rcases hout2 with rfl | ⟨hn, x, hx, hx0⟩
      · have hn2 : ¬ (m : Int) < (m : Int) := by omega
        (refine sq_one (by push_cast [hn2, decide_false]; (first | done | rfl)) ?_)
        have et : trm l fs = (0, []) := by
          refine (trm_of (.inl ⟨?_, rfl⟩)).symm
          rcases hout with hout | ⟨x, hx, hx0⟩
          · rw [hout, List.take_length] at h2
            intro x hx
            rw [h2] at hx
            exact List.eq_of_mem_replicate hx
          · exfalso
            obtain ⟨hj, e⟩ := List.getElem?_eq_some_iff.mp hx
            rw [List.drop_eq_getElem_cons hj] at g3
            have : fs[m] ∈ List.replicate (fs.length - m) (0 : Int) := by rw [← g3]; exact List.mem_cons_self
            exact hx0 (by rw [← e]; exact List.eq_of_mem_replicate this)
        (refine hR _ ?_; simp only [q_finRt, q_finSl, q_finNx, q_finErr, backs, bk1, List.drop_succ_cons, List.drop_zero, List.drop_nil, List.replicate, Nat.reduceSub, List.getElem?_cons_zero, et, pD, List.map_nil])
      · have hn2 : (n : Int) < (m : Int) := by omega
        have ec : cutD (fs.map D.int) (some (n : Int)) (some (m : Int)) = ((fs.drop n).take (m - n)).map D.int := by rw [cut_lh, List.map_take, List.map_drop]
        (refine sq_one (by push_cast [hn2, decide_true, ec, z2]; (first | done | rfl)) ?_)
        have et : trm l fs = (l + n, (fs.drop n).take (m - n)) := by
          refine (trm_of (.inr ⟨n, fs.length - m, (fs.drop n).take (m - n), ?_, ⟨?_, ?_, ?_⟩, rfl⟩)).symm
          · rw [← h2, ← g3]
            conv => lhs; rw [← List.take_append_drop n fs, ← List.take_append_drop (m - n) (fs.drop n)]
            rw [List.drop_drop, show n + (m - n) = m by omega, List.append_assoc]
          · intro z
            have := congrArg List.length z
            rw [List.length_take, List.length_drop] at this
            simp at this
            omega
          · rw [List.head?_take, if_neg (by omega), List.head?_drop]
            rcases hout with hout | ⟨y, hy, hy0⟩
            · omega
            · rw [hy]
              simpa using hy0
          · rw [List.getLast?_take, if_neg (by omega), List.getElem?_drop, show n + (m - n - 1) = m - 1 by omega, hx]
            simpa using hx0
        (refine hR _ ?_; simp only [q_finRt, q_finSl, q_finNx, q_finErr, backs, bk1, List.drop_succ_cons, List.drop_zero, List.drop_nil, List.replicate, Nat.reduceSub, List.getElem?_cons_zero, et, pD, List.map_nil])
theorem e_trimB (hl : fs.length ≤ 100000) : f2 [vI l, .bw (fs.map D.int)] = .ok (.d (pD (trm l fs))) [none, some (.bw (fs.map D.int))] := by
  have zz : 100000 ≤ sizeLine := by decide
  (unfold f2; generalize hr_ : fnD _ _ _ _ = r_; revert r_; refine fn_R fun R hR => ?_; unfold m2; simp only [List.map_cons, List.map_nil, List.replicate, Nat.reduceSub, List.cons_append, List.nil_append])
  (refine sq_any (by push_cast [q_ok]; (first | done | rfl)) ?_; (first | refine go_nx' ?_ | refine go_rt' ?_ | refine go_err' ?_))
  unfold l2_1 b2_0
  refine sq_while (fun (n : Nat) => [some (vI l), some (.bw (fs.map D.int)), some (vI (n : Nat)), none]) (fun n => n ≤ fs.length ∧ fs.take n = List.replicate n 0) (fun n => fs.length - n) 0 (by rfl) ⟨Nat.zero_le _, by simp⟩ ?_
  rintro n ⟨h1, h2⟩
  have key : (∃ x, fs[n]? = some x ∧ x = 0) ∨ (n = fs.length ∨ ∃ x, fs[n]? = some x ∧ x ≠ 0) := by
    by_cases hn : n < fs.length
    · by_cases hx : fs[n] = 0
      · exact .inl ⟨fs[n], List.getElem?_eq_getElem hn, hx⟩
      · exact .inr (.inr ⟨fs[n], List.getElem?_eq_getElem hn, hx⟩)
    · exact .inr (.inl (by omega))
  rcases key with ⟨x, hx, rfl⟩ | hout
  · have hn := (List.getElem?_eq_some_iff.mp hx).1
    have hn2 : (n : Int) < (fs.length : Int) := by omega
    have hat := at_get hx
    refine .inr ⟨[some (vI l), some (.bw (fs.map D.int)), some (vI (n : Nat)), none], by push_cast [hn2, hat, decide_true, DD.eq_int], ?_⟩
    refine as_R fun R' hR' => ?_
    (refine sq_one (by push_cast [q_ok]; (first | done | rfl)) ?_)
    refine hR' _ ⟨n + 1, rfl, ⟨hn, take_rep h2 hx⟩, ?_⟩
    omega
  · refine .inl ⟨[some (vI l), some (.bw (fs.map D.int)), some (vI (n : Nat)), none], ?_, ?_⟩
    · rcases hout with rfl | ⟨x, hx, hx0⟩
      · have hn2 : ¬ (fs.length : Int) < (fs.length : Int) := by omega
        push_cast [hn2, decide_false]
      · have hn2 : (n : Int) < (fs.length : Int) := by have := (List.getElem?_eq_some_iff.mp hx).1; omega
        have hat := at_get hx
        push_cast [hn2, hat, decide_true, hx0, decide_false, DD.eq_int]
    (refine sq_any (by push_cast [q_ok]; (first | done | rfl)) ?_; (first | refine go_nx' ?_ | refine go_rt' ?_ | refine go_err' ?_))
    unfold l2_3 b2_2
    refine sq_while (fun (m : Nat) => [some (vI l), some (.bw (fs.map D.int)), some (vI (n : Nat)), some (vI (m : Nat))]) (fun m => n ≤ m ∧ m ≤ fs.length ∧ fs.drop m = List.replicate (fs.length - m) 0) (fun m => m) fs.length (by rfl) ⟨h1, Nat.le_refl _, by simp⟩ ?_
    rintro m ⟨g1, g2, g3⟩
    have key : (n < m ∧ ∃ x, fs[m - 1]? = some x ∧ x = 0) ∨ (m = n ∨ (n < m ∧ ∃ x, fs[m - 1]? = some x ∧ x ≠ 0)) := by
      by_cases hn : n < m
      · have hm1 : m - 1 < fs.length := by omega
        by_cases hx : fs[m - 1] = 0
        · exact .inl ⟨hn, fs[m - 1], List.getElem?_eq_getElem hm1, hx⟩
        · exact .inr (.inr ⟨hn, fs[m - 1], List.getElem?_eq_getElem hm1, hx⟩)
      · exact .inr (.inl (by omega))
    rcases key with ⟨hn, x, hx, rfl⟩ | hout2
    · have hn2 : (n : Int) < (m : Int) := by omega
      have hat := at_get hx
      have e : (m : Int) - 1 = ((m - 1 : Nat) : Int) := by omega
      refine .inr ⟨[some (vI l), some (.bw (fs.map D.int)), some (vI (n : Nat)), some (vI (m : Nat))], by push_cast [hn2, e, hat, decide_true, DD.eq_int], ?_⟩
      refine as_R fun R' hR' => ?_
      (refine sq_one (by push_cast [e]; (first | done | rfl)) ?_)
      refine hR' _ ⟨m - 1, rfl, ⟨by omega, by omega, ?_⟩, by omega⟩
      rw [show fs.length - (m - 1) = (fs.length - m) + 1 by omega]
      exact drop_rep (by omega) g3 hx
    · refine .inl ⟨[some (vI l), some (.bw (fs.map D.int)), some (vI (n : Nat)), some (vI (m : Nat))], ?_, ?_⟩
      · rcases hout2 with rfl | ⟨hn, x, hx, hx0⟩
        · have hn2 : ¬ (m : Int) < (m : Int) := by omega
          push_cast [hn2, decide_false]
        · have hn2 : (n : Int) < (m : Int) := by omega
          have hat := at_get hx
          have e : (m : Int) - 1 = ((m - 1 : Nat) : Int) := by omega
          push_cast [hn2, e, hat, decide_true, hx0, decide_false, DD.eq_int]
      have hlen : ((fs.drop n).take (m - n)).length ≤ sizeLine := by rw [List.length_take, List.length_drop]; omega
      rcases hout2 with rfl | ⟨hn, x, hx, hx0⟩
      · have hn2 : ¬ (m : Int) < (m : Int) := by omega
        (refine sq_one (by push_cast [hn2, decide_false]; (first | done | rfl)) ?_)
        have et : trm l fs = (0, []) := by
          refine (trm_of (.inl ⟨?_, rfl⟩)).symm
          rcases hout with hout | ⟨x, hx, hx0⟩
          · rw [hout, List.take_length] at h2
            intro x hx
            rw [h2] at hx
            exact List.eq_of_mem_replicate hx
          · exfalso
            obtain ⟨hj, e⟩ := List.getElem?_eq_some_iff.mp hx
            rw [List.drop_eq_getElem_cons hj] at g3
            have : fs[m] ∈ List.replicate (fs.length - m) (0 : Int) := by rw [← g3]; exact List.mem_cons_self
            exact hx0 (by rw [← e]; exact List.eq_of_mem_replicate this)
        (refine hR _ ?_; simp only [q_finRt, q_finSl, q_finNx, q_finErr, backs, bk1, List.drop_succ_cons, List.drop_zero, List.drop_nil, List.replicate, Nat.reduceSub, List.getElem?_cons_zero, et, pD, List.map_nil])
      · have hn2 : (n : Int) < (m : Int) := by omega
        have ec : cutD (fs.map D.int) (some (n : Int)) (some (m : Int)) = ((fs.drop n).take (m - n)).map D.int := by rw [cut_lh, List.map_take, List.map_drop]
        (refine sq_one (by push_cast [hn2, decide_true, ec, z2]; (first | done | rfl)) ?_)
        have et : trm l fs = (l + n, (fs.drop n).take (m - n)) := by
          refine (trm_of (.inr ⟨n, fs.length - m, (fs.drop n).take (m - n), ?_, ⟨?_, ?_, ?_⟩, rfl⟩)).symm
          · rw [← h2, ← g3]
            conv => lhs; rw [← List.take_append_drop n fs, ← List.take_append_drop (m - n) (fs.drop n)]
            rw [List.drop_drop, show n + (m - n) = m by omega, List.append_assoc]
          · intro z
            have := congrArg List.length z
            rw [List.length_take, List.length_drop] at this
            simp at this
            omega
          · rw [List.head?_take, if_neg (by omega), List.head?_drop]
            rcases hout with hout | ⟨y, hy, hy0⟩
            · omega
            · rw [hy]
              simpa using hy0
          · rw [List.getLast?_take, if_neg (by omega), List.getElem?_drop, show n + (m - n - 1) = m - 1 by omega, hx]
            simpa using hx0
        (refine hR _ ?_; simp only [q_finRt, q_finSl, q_finNx, q_finErr, backs, bk1, List.drop_succ_cons, List.drop_zero, List.drop_nil, List.replicate, Nat.reduceSub, List.getElem?_cons_zero, et, pD, List.map_nil])
end
end Kx

namespace Kx
open PySem PySem.Spec PyProof.Rows L2 DD
open Classical
local macro_rules
  | `(tactic| push_cast [$a,*]) => `(tactic| simp only [q_mulG, q_mulGI, q_mulGL, q_divG, q_augS, q_fAddI, q_fSubI, q_fMulI, q_augX, q_augL, q_orV, q_ttup, q_par, q_mulX, q_mulXT, q_aug, q_fAdd, q_raise, q_try, q_tryRt, q_tryNx, q_tryErr, q_tupDw, q_rgIt1, q_rgIt2, q_rgIt3, q_chain, q_slLH, q_ok, q_err, q_stuck, q_okS, q_errS, q_stuckS, q_nx, q_rt, q_bk, q_ct, q_errN, q_bind, q_thenS, q_seq, q_if, q_ret, q_retN, q_expr, q_pass, q_no, q_brk, q_cnt, q_asg, q_setD, q_setL, q_setF, q_var, q_c, q_mret, q_rdv, q_rds, q_rdDv, q_rdDs, q_n1, q_n2, q_n3, q_n4, q_n5, q_ownv, q_owns, q_op2, q_op1, q_fin2, q_fin1, q_sub, q_neg, q_div, q_mod, q_add, q_addI, q_addL, q_addT, q_mul, q_mulI, q_mulL, q_cmp, q_ii, q_true, q_tru, q_finT, q_tbl, q_tint, q_tlst, q_not, q_and, q_or, q_mif, q_ix, q_ixT, q_ixP, q_ixL, q_ixF, q_args0, q_args1, q_tup, q_lst, q_rdDs0, q_rdDs1, q_call1, q_call2, q_abs, q_int, q_lenT, q_lenP, q_lenL, q_lenF, q_tupT, q_tupL, q_lstT, q_lstL, q_max, q_min, q_mut, q_mkF, q_mkT, q_store, q_gtup, q_gpt, q_each0, q_each1, q_append, q_pop, q_isa, q_finV, q_gisa, q_back, q_mint, q_asI, q_slL, q_slH, q_svT, q_svL, q_svF, q_rg1, q_rg2, q_lrg, q_trg, q_andV, q_notV, q_callD, List.set_cons_zero, List.set_cons_succ, List.getElem?_cons_zero, List.getElem?_cons_succ, List.getElem?_nil, List.length_cons, List.length_nil, List.length_set, List.length_map, List.length_append, List.filterMap_cons, List.filterMap_nil, List.map_nil, List.map_cons, List.append_nil, List.nil_append, List.cons_append, reduceIte, Bool.not_true, Bool.not_false, Bool.false_eq_true, Nat.reduceAdd, Nat.zero_add, Nat.reduceEqDiff, argsIn, argIn, lsl, takeE, giveE, give1, List.nodup_cons, List.mem_cons, List.not_mem_nil, or_false, Nat.reduceEqDiff, Nat.succ_ne_self, not_false_eq_true, List.nodup_nil, and_self, $a,*])
  | `(tactic| push_cast [$a,*] at $h) => `(tactic| simp only [q_mulG, q_mulGI, q_mulGL, q_divG, q_augS, q_fAddI, q_fSubI, q_fMulI, q_augX, q_augL, q_orV, q_ttup, q_par, q_mulX, q_mulXT, q_aug, q_fAdd, q_raise, q_try, q_tryRt, q_tryNx, q_tryErr, q_tupDw, q_rgIt1, q_rgIt2, q_rgIt3, q_chain, q_slLH, q_ok, q_err, q_stuck, q_okS, q_errS, q_stuckS, q_nx, q_rt, q_bk, q_ct, q_errN, q_bind, q_thenS, q_seq, q_if, q_ret, q_retN, q_expr, q_pass, q_no, q_brk, q_cnt, q_asg, q_setD, q_setL, q_setF, q_var, q_c, q_mret, q_rdv, q_rds, q_rdDv, q_rdDs, q_n1, q_n2, q_n3, q_n4, q_n5, q_ownv, q_owns, q_op2, q_op1, q_fin2, q_fin1, q_sub, q_neg, q_div, q_mod, q_add, q_addI, q_addL, q_addT, q_mul, q_mulI, q_mulL, q_cmp, q_ii, q_true, q_tru, q_finT, q_tbl, q_tint, q_tlst, q_not, q_and, q_or, q_mif, q_ix, q_ixT, q_ixP, q_ixL, q_ixF, q_args0, q_args1, q_tup, q_lst, q_rdDs0, q_rdDs1, q_call1, q_call2, q_abs, q_int, q_lenT, q_lenP, q_lenL, q_lenF, q_tupT, q_tupL, q_lstT, q_lstL, q_max, q_min, q_mut, q_mkF, q_mkT, q_store, q_gtup, q_gpt, q_each0, q_each1, q_append, q_pop, q_isa, q_finV, q_gisa, q_back, q_mint, q_asI, q_slL, q_slH, q_svT, q_svL, q_svF, q_rg1, q_rg2, q_lrg, q_trg, q_andV, q_notV, q_callD, List.set_cons_zero, List.set_cons_succ, List.getElem?_cons_zero, List.getElem?_cons_succ, List.getElem?_nil, List.length_cons, List.length_nil, List.length_set, List.length_map, List.length_append, List.filterMap_cons, List.filterMap_nil, List.map_nil, List.map_cons, List.append_nil, List.nil_append, List.cons_append, reduceIte, Bool.not_true, Bool.not_false, Bool.false_eq_true, Nat.reduceAdd, Nat.zero_add, Nat.reduceEqDiff, argsIn, argIn, lsl, takeE, giveE, give1, List.nodup_cons, List.mem_cons, List.not_mem_nil, or_false, Nat.reduceEqDiff, Nat.succ_ne_self, not_false_eq_true, List.nodup_nil, and_self, $a,*] at $h)
/-! the law's own -/
theorem rev_cases (w : List Int) : w = [] ∨ ∃ u a, w = u ++ [a] := by
  rcases List.eq_nil_or_concat w with h | ⟨u, a, h⟩
  · exact .inl h
  · exact .inr ⟨u, a, by rw [h, List.concat_eq_append]⟩
theorem cut_last {xs : List D} : cutD xs none (some (-1)) = xs.dropLast := by
  unfold DD.cutD
  rw [HT.sIx_none]
  have e : HT.sIx xs.length xs.length (some (-1)) = xs.length - 1 := by
    show (if (-1 : Int) < 0 then ((-1 : Int) + (xs.length : Int)).toNat else min (-1 : Int).toNat xs.length) = xs.length - 1
    rw [if_pos (by decide)]
    omega
  rw [e, List.drop_zero, Nat.sub_zero, List.dropLast_eq_take]
theorem at_last {u : List Int} {a : Int} : atI ((u ++ [a]).map D.int) (-1) = some (.int a) := by
  rw [atI_neg1 (by simp), List.length_map, List.getElem?_map]
  simp
theorem a0 {x : D} {xs : List D} : atI (x :: xs) 0 = some x := atI_nat (j := 0) rfl
theorem a1 {x y : D} {xs : List D} : atI (x :: y :: xs) 1 = some y := atI_nat (j := 1) rfl
theorem cut1 {x : D} {xs : List D} : cutD (x :: xs) (some 1) none = xs := cut_lo (k := 1)
section
variable {l : Int} {fs : List Int}
theorem e_plain (hl : fs.length ≤ 100000) : f18 [vI l, .bw (fs.map D.int)] = .ok (.d (pD (trm l fs))) [none, none] := by
  have zz : 100000 ≤ sizeLine := by decide
  (unfold f18; generalize hr_ : fnD _ _ _ _ = r_; revert r_; refine fn_R fun R hR => ?_; unfold m18; simp only [List.map_cons, List.map_nil, List.replicate, Nat.reduceSub, List.cons_append, List.nil_append])
  (refine sq_any (by push_cast [q_ok]; (first | done | rfl)) ?_; (first | refine go_nx' ?_ | refine go_rt' ?_ | refine go_err' ?_))
  unfold l18_1 b18_0
  refine sq_while (fun (g : List Int) => [some (vI l), some (vL g)]) (fun g => ∃ k, fs = g ++ List.replicate k 0) (fun g => g.length) fs (by rfl) ⟨0, by simp⟩ ?_
  rintro g ⟨k, hk⟩
  have key : (∃ u, g = u ++ [0]) ∨ (g = [] ∨ ∃ u a, g = u ++ [a] ∧ a ≠ 0) := by
    rcases rev_cases g with h | ⟨u, a, h⟩
    · exact .inr (.inl h)
    · by_cases ha : a = 0
      · exact .inl ⟨u, by rw [h, ha]⟩
      · exact .inr (.inr ⟨u, a, h, ha⟩)
  rcases key with ⟨u, rfl⟩ | hout
  · have hat := at_last (u := u) (a := 0)
    have hne : ((u ++ [0]).map D.int).isEmpty = false := by simp
    have hcl : cutD ((u ++ [0]).map D.int) none (some (-1)) = u.map D.int := by rw [cut_last]; simp
    refine .inr ⟨[some (vI l), some (vL (u ++ [0]))], ?_, ?_⟩
    · generalize u ++ [0] = G at *
      push_cast [hne, hat, DD.eq_int, decide_true]
    refine as_R fun R' hR' => ?_
    have : b18_0 [some (vI l), some (vL (u ++ [0]))] = .nx [some (vI l), some (vL u)] := by
      unfold b18_0
      generalize u ++ [0] = G at *
      push_cast [hcl]
    unfold b18_0 at this
    rw [this]
    refine hR' _ ⟨u, rfl, ⟨k + 1, by rw [hk, List.replicate_succ, List.append_assoc]; rfl⟩, by simp⟩
  · refine .inl ⟨[some (vI l), some (vL g)], ?_, ?_⟩
    · rcases hout with rfl | ⟨u, a, rfl, ha⟩
      · push_cast [List.isEmpty_nil]
      · have hat := at_last (u := u) (a := a)
        have hne : ((u ++ [a]).map D.int).isEmpty = false := by simp
        generalize u ++ [a] = G at *
        push_cast [hne, hat, DD.eq_int, ha, decide_false]
    unfold l18_3 b18_2
    refine sq_while (fun (x : Nat × List Int) => [some (vI (l + (x.1 : Nat))), some (vL x.2)]) (fun x => g = List.replicate x.1 0 ++ x.2) (fun x => x.2.length) (0, g) (by simp) (by simp) ?_
    rintro ⟨n, h⟩ hn
    dsimp only at hn ⊢
    cases h with
    | nil =>
      refine .inl ⟨[some (vI (l + (n : Nat))), some (vL [])], by push_cast [List.isEmpty_nil], ?_⟩
      (refine sq_one (by push_cast [List.isEmpty_nil, Nat.zero_le, z2]; (first | done | rfl)) ?_)
      have et : trm l fs = (0, []) := (trm_of (.inl ⟨fun x hx => by
        rw [hk, hn, List.append_nil] at hx
        rcases List.mem_append.mp hx with hx | hx
        · exact List.eq_of_mem_replicate hx
        · exact List.eq_of_mem_replicate hx, rfl⟩)).symm
      (refine hR _ ?_; simp only [q_finRt, q_finSl, q_finNx, q_finErr, backs, bk1, List.drop_succ_cons, List.drop_zero, List.drop_nil, List.replicate, Nat.reduceSub, List.getElem?_cons_zero, et, pD, List.map_nil])
    | cons a r =>
      by_cases ha : a = 0
      · subst ha
        refine .inr ⟨[some (vI (l + (n : Nat))), some (vL (0 :: r))], by push_cast [List.isEmpty_cons, a0, DD.eq_int, decide_true], ?_⟩
        refine as_R fun R' hR' => ?_
        (refine sq_any (by push_cast [cut1]; (first | done | rfl)) ?_; (first | refine go_nx' ?_ | refine go_rt' ?_ | refine go_err' ?_))
        (refine sq_one (by push_cast [q_ok]; (first | done | rfl)) ?_)
        refine hR' _ ⟨(n + 1, r), ?_, ?_, by simp⟩
        · dsimp only
          rw [show l + (n : Int) + 1 = l + ((n + 1 : Nat) : Int) by omega]
        · dsimp only
          rw [hn, List.replicate_succ', List.append_assoc]
          rfl
      · refine .inl ⟨[some (vI (l + (n : Nat))), some (vL (a :: r))], by push_cast [List.isEmpty_cons, a0, DD.eq_int, ha, decide_false], ?_⟩
        (refine sq_one (by push_cast [List.isEmpty_cons, z2]; (first | done | rfl)) ?_)
        have et : trm l fs = (l + n, a :: r) := by
          refine (trm_of (.inr ⟨n, k, a :: r, by rw [hk, hn], ⟨by simp, by simpa using ha, ?_⟩, rfl⟩)).symm
          rcases hout with rfl | ⟨u, b, hu, hb⟩
          · have := congrArg List.length hn
            simp at this
          · have e : (List.replicate n 0 ++ a :: r).getLast? = some b := by rw [← hn, hu]; simp
            rw [List.getLast?_append] at e
            cases q : (a :: r).getLast? with
            | none => simp at q
            | some z =>
              rw [q, Option.some_or] at e
              rw [e]
              simpa using hb
        (refine hR _ ?_; simp only [q_finRt, q_finSl, q_finNx, q_finErr, backs, bk1, List.drop_succ_cons, List.drop_zero, List.drop_nil, List.replicate, Nat.reduceSub, List.getElem?_cons_zero, et, pD, List.map_cons])
end
end Kx

namespace Kx
open PySem PySem.Spec PyProof.Rows L2 DD
open Classical
local macro_rules
  | `(tactic| push_cast [$a,*]) => `(tactic| simp only [q_mulG, q_mulGI, q_mulGL, q_divG, q_augS, q_fAddI, q_fSubI, q_fMulI, q_augX, q_augL, q_orV, q_ttup, q_par, q_mulX, q_mulXT, q_aug, q_fAdd, q_raise, q_try, q_tryRt, q_tryNx, q_tryErr, q_tupDw, q_rgIt1, q_rgIt2, q_rgIt3, q_chain, q_slLH, q_ok, q_err, q_stuck, q_okS, q_errS, q_stuckS, q_nx, q_rt, q_bk, q_ct, q_errN, q_bind, q_thenS, q_seq, q_if, q_ret, q_retN, q_expr, q_pass, q_no, q_brk, q_cnt, q_asg, q_setD, q_setL, q_setF, q_var, q_c, q_mret, q_rdv, q_rds, q_rdDv, q_rdDs, q_n1, q_n2, q_n3, q_n4, q_n5, q_ownv, q_owns, q_op2, q_op1, q_fin2, q_fin1, q_sub, q_neg, q_div, q_mod, q_add, q_addI, q_addL, q_addT, q_mul, q_mulI, q_mulL, q_cmp, q_ii, q_true, q_tru, q_finT, q_tbl, q_tint, q_tlst, q_not, q_and, q_or, q_mif, q_ix, q_ixT, q_ixP, q_ixL, q_ixF, q_args0, q_args1, q_tup, q_lst, q_rdDs0, q_rdDs1, q_call1, q_call2, q_abs, q_int, q_lenT, q_lenP, q_lenL, q_lenF, q_tupT, q_tupL, q_lstT, q_lstL, q_max, q_min, q_mut, q_mkF, q_mkT, q_store, q_gtup, q_gpt, q_each0, q_each1, q_append, q_pop, q_isa, q_finV, q_gisa, q_back, q_mint, q_asI, q_slL, q_slH, q_svT, q_svL, q_svF, q_rg1, q_rg2, q_lrg, q_trg, q_andV, q_notV, q_callD, List.set_cons_zero, List.set_cons_succ, List.getElem?_cons_zero, List.getElem?_cons_succ, List.getElem?_nil, List.length_cons, List.length_nil, List.length_set, List.length_map, List.length_append, List.filterMap_cons, List.filterMap_nil, List.map_nil, List.map_cons, List.append_nil, List.nil_append, List.cons_append, reduceIte, Bool.not_true, Bool.not_false, Bool.false_eq_true, Nat.reduceAdd, Nat.zero_add, Nat.reduceEqDiff, argsIn, argIn, lsl, takeE, giveE, give1, List.nodup_cons, List.mem_cons, List.not_mem_nil, or_false, Nat.reduceEqDiff, Nat.succ_ne_self, not_false_eq_true, List.nodup_nil, and_self, $a,*])
  | `(tactic| push_cast [$a,*] at $h) => `(tactic| simp only [q_mulG, q_mulGI, q_mulGL, q_divG, q_augS, q_fAddI, q_fSubI, q_fMulI, q_augX, q_augL, q_orV, q_ttup, q_par, q_mulX, q_mulXT, q_aug, q_fAdd, q_raise, q_try, q_tryRt, q_tryNx, q_tryErr, q_tupDw, q_rgIt1, q_rgIt2, q_rgIt3, q_chain, q_slLH, q_ok, q_err, q_stuck, q_okS, q_errS, q_stuckS, q_nx, q_rt, q_bk, q_ct, q_errN, q_bind, q_thenS, q_seq, q_if, q_ret, q_retN, q_expr, q_pass, q_no, q_brk, q_cnt, q_asg, q_setD, q_setL, q_setF, q_var, q_c, q_mret, q_rdv, q_rds, q_rdDv, q_rdDs, q_n1, q_n2, q_n3, q_n4, q_n5, q_ownv, q_owns, q_op2, q_op1, q_fin2, q_fin1, q_sub, q_neg, q_div, q_mod, q_add, q_addI, q_addL, q_addT, q_mul, q_mulI, q_mulL, q_cmp, q_ii, q_true, q_tru, q_finT, q_tbl, q_tint, q_tlst, q_not, q_and, q_or, q_mif, q_ix, q_ixT, q_ixP, q_ixL, q_ixF, q_args0, q_args1, q_tup, q_lst, q_rdDs0, q_rdDs1, q_call1, q_call2, q_abs, q_int, q_lenT, q_lenP, q_lenL, q_lenF, q_tupT, q_tupL, q_lstT, q_lstL, q_max, q_min, q_mut, q_mkF, q_mkT, q_store, q_gtup, q_gpt, q_each0, q_each1, q_append, q_pop, q_isa, q_finV, q_gisa, q_back, q_mint, q_asI, q_slL, q_slH, q_svT, q_svL, q_svF, q_rg1, q_rg2, q_lrg, q_trg, q_andV, q_notV, q_callD, List.set_cons_zero, List.set_cons_succ, List.getElem?_cons_zero, List.getElem?_cons_succ, List.getElem?_nil, List.length_cons, List.length_nil, List.length_set, List.length_map, List.length_append, List.filterMap_cons, List.filterMap_nil, List.map_nil, List.map_cons, List.append_nil, List.nil_append, List.cons_append, reduceIte, Bool.not_true, Bool.not_false, Bool.false_eq_true, Nat.reduceAdd, Nat.zero_add, Nat.reduceEqDiff, argsIn, argIn, lsl, takeE, giveE, give1, List.nodup_cons, List.mem_cons, List.not_mem_nil, or_false, Nat.reduceEqDiff, Nat.succ_ne_self, not_false_eq_true, List.nodup_nil, and_self, $a,*] at $h)
/-! sums and products -/
/-- a row, from a place on more -/
def addAt : List Int → Nat → List Int → List Int
  | s, _, [] => s
  | s, o, x :: xs => addAt (s.set o (s.getD o 0 + x)) (o + 1) xs
theorem addAt_len : ∀ {xs s : List Int} {o : Nat}, (addAt s o xs).length = s.length
  | [], s, o => rfl
  | x :: xs, s, o => by unfold addAt; rw [addAt_len, List.length_set]
theorem addAt_zero : ∀ {n : Nat} {s : List Int} {o : Nat}, addAt s o (List.replicate n 0) = s
  | 0, s, o => rfl
  | n + 1, s, o => by
    rw [List.replicate_succ]
    unfold addAt
    have e : s.set o (s.getD o 0 + 0) = s := by
      rw [Int.add_zero]
      by_cases h : o < s.length
      · rw [List.getD_eq_getElem?_getD, List.getElem?_eq_getElem h, Option.getD_some, List.set_getElem_self]
      · rw [List.set_eq_of_length_le (by omega)]
    rw [e, addAt_zero]
theorem addAt_snoc : ∀ {xs s : List Int} {o : Nat} {x : Int}, addAt s o (xs ++ [x]) = (addAt s o xs).set (o + xs.length) ((addAt s o xs).getD (o + xs.length) 0 + x)
  | [], s, o, x => rfl
  | y :: xs, s, o, x => by
    rw [List.cons_append]
    unfold addAt
    rw [addAt_snoc, List.length_cons, show o + 1 + xs.length = o + (xs.length + 1) by omega]
structure Pl (l : Int) (fs : List Int) : Prop where
  lo : -120 ≤ l
  hi : l ≤ 120
  len : fs.length ≤ 120
  sm : ∀ x ∈ fs, -1000000 ≤ x ∧ x ≤ 1000000
  ok : (fs = [] ∧ l = 0) ∨ Tight fs
theorem Pl.t {l : Int} {fs : List Int} (h : Pl l fs) : trm l fs = (l, fs) := by
  rcases h.ok with ⟨rfl, rfl⟩ | h
  · rfl
  · exact trm_tight h
/-- bounds of a row -/
def Bd (b : Int) (s : List Int) : Prop := ∀ x ∈ s, -b ≤ x ∧ x ≤ b
theorem bd_get {b : Int} {s : List Int} (h : Bd b s) (hb : 0 ≤ b) (o : Nat) : -b ≤ s.getD o 0 ∧ s.getD o 0 ≤ b := by
  by_cases ho : o < s.length
  · rw [List.getD_eq_getElem?_getD, List.getElem?_eq_getElem ho]
    exact h _ (List.getElem_mem ho)
  · rw [List.getD_eq_getElem?_getD, List.getElem?_eq_none (by omega)]
    simpa using hb
theorem bd_set {b c x : Int} {s : List Int} {o : Nat} (h : Bd b s) (hb : b ≤ c) (hx : -c ≤ x ∧ x ≤ c) : Bd c (s.set o x) := fun y hy => by
  rcases List.mem_or_eq_of_mem_set hy with h' | rfl
  · have := h y h'; omega
  · exact hx
theorem bd_add {c : Int} (hc : 0 ≤ c) : ∀ {xs s : List Int} {o : Nat} {b : Int}, Bd b s → 0 ≤ b → Bd c xs → Bd (b + c * xs.length) (addAt s o xs)
  | [], s, o, b, h, hb, _ => by simpa [addAt] using h
  | x :: xs, s, o, b, h, hb, hx => by
    unfold addAt
    have h1 := bd_get h hb o
    have h2 := hx x List.mem_cons_self
    have h3 := bd_add hc (xs := xs) (s := s.set o (s.getD o 0 + x)) (o := o + 1) (b := b + c) (bd_set h (by omega) ⟨by omega, by omega⟩) (by omega) fun y hy => hx y (List.mem_cons_of_mem _ hy)
    intro y hy
    have h4 := h3 y hy
    rw [List.length_cons, show c * ((xs.length + 1 : Nat) : Int) = c * xs.length + c by rw [Int.natCast_add, Int.mul_add]; omega]
    omega
def spn (l1 : Int) (f1 : List Int) (l2 : Int) (f2 : List Int) : Int × Nat × Nat × Nat :=
  let lo := if l2 < l1 then l2 else l1
  let hi := if l1 + f1.length < l2 + f2.length then l2 + f2.length else l1 + f1.length
  (lo, (hi - lo).toNat, (l1 - lo).toNat, (l2 - lo).toNat)
def psum (l1 : Int) (f1 : List Int) (l2 : Int) (f2 : List Int) : Int × List Int :=
  if f1 = [] ∨ f2 = [] then (if f1 = [] then (l2, f2) else (l1, f1)) else
    trm (spn l1 f1 l2 f2).1 (addAt (addAt (List.replicate (spn l1 f1 l2 f2).2.1 0) (spn l1 f1 l2 f2).2.2.1 f1) (spn l1 f1 l2 f2).2.2.2 f2)
theorem pl_none {l : Int} {fs : List Int} (h : Pl l fs) : eqV2 (.d (pD (l, fs))) (.d (.tup [.int 0, .tup []])) = some (decide (fs = [])) := by
  have e := lay_eqT (k := 1) (xs := [.int l, .tup (fs.map D.int)]) (ys := [.int 0, .tup []]) (by simpa using ⟨lay_int, lay_ints⟩) (by simpa using ⟨lay_int, lay_tup (k := 0) (by simp)⟩) (by decide)
  show eqV2 (.d (.tup [.int l, .tup (fs.map D.int)])) _ = _
  rw [e]
  rcases h.ok with ⟨rfl, rfl⟩ | h
  · rfl
  · cases fs with
    | nil => exact (h.1 rfl).elim
    | cons x fs =>
      rw [decide_eq_false (by simp)]
      simp only [D.pys, D.py, PyData.eqvAll, PyData.eqv, List.map_cons, Bool.and_false, Bool.and_true]
theorem ixn {n p : Nat} (h : p < n) : ixN n (p : Int) = some p := ixN_ok h
theorem atD {s : List Int} {o : Nat} (h : o < s.length) : atI (s.map D.int) (o : Int) = some (.int (s.getD o 0)) := by
  refine at_get ?_
  rw [List.getD_eq_getElem?_getD, List.getElem?_eq_getElem h]
  rfl
theorem rep0 {n : Nat} : (List.replicate n [D.int 0]).flatten = (List.replicate n (0 : Int)).map D.int := by
  rw [List.map_replicate]
  induction n with
  | zero => rfl
  | succ n ih => rw [List.replicate_succ, List.flatten_cons, ih]; rfl
theorem z100k : (100000 : Nat) ≤ sizeLine := by decide
section
variable {l1 l2 : Int} {f1 f2 : List Int}
theorem spn_facts (h1 : Pl l1 f1) (h2 : Pl l2 f2) (n1 : f1 ≠ []) : ∃ (lo hi : Int) (n o1 o2 : Nat), spn l1 f1 l2 f2 = (lo, n, o1, o2) ∧ lo = (if l2 < l1 then l2 else l1) ∧ hi = (if l1 + f1.length < l2 + f2.length then l2 + f2.length else l1 + f1.length) ∧ hi - lo = (n : Nat) ∧ l1 - lo = (o1 : Nat) ∧ l2 - lo = (o2 : Nat) ∧ o1 + f1.length ≤ n ∧ o2 + f2.length ≤ n ∧ n ≤ 600 := by
  have := h1.len
  have := h2.len
  have := h1.lo
  have := h1.hi
  have := h2.lo
  have := h2.hi
  have : 0 < f1.length := List.length_pos_iff.mpr n1
  have p1 : (if l2 < l1 then l2 else l1) ≤ l1 := by split <;> omega
  have p2 : (if l2 < l1 then l2 else l1) ≤ l2 := by split <;> omega
  have p3 : l1 + f1.length ≤ (if l1 + f1.length < l2 + f2.length then l2 + f2.length else l1 + f1.length) := by split <;> omega
  have p4 : l2 + f2.length ≤ (if l1 + f1.length < l2 + f2.length then l2 + f2.length else l1 + f1.length) := by split <;> omega
  have p5 : -120 ≤ (if l2 < l1 then l2 else l1) := by split <;> omega
  have p6 : (if l1 + f1.length < l2 + f2.length then l2 + f2.length else l1 + f1.length) ≤ 240 := by split <;> omega
  generalize hlo : (if l2 < l1 then l2 else l1) = lo at *
  generalize hhi : (if l1 + f1.length < l2 + f2.length then l2 + (f2.length : Int) else l1 + f1.length) = hi at *
  refine ⟨lo, hi, (hi - lo).toNat, (l1 - lo).toNat, (l2 - lo).toNat, ?_, rfl, rfl, by omega, by omega, by omega, by omega, by omega, by omega⟩
  unfold spn
  dsimp only
  rw [hlo, hhi]
end
end Kx

namespace Kx
open PySem PySem.Spec PyProof.Rows L2 DD
open Classical
local macro_rules
  | `(tactic| push_cast [$a,*]) => `(tactic| simp only [q_mulG, q_mulGI, q_mulGL, q_divG, q_augS, q_fAddI, q_fSubI, q_fMulI, q_augX, q_augL, q_orV, q_ttup, q_par, q_mulX, q_mulXT, q_aug, q_fAdd, q_raise, q_try, q_tryRt, q_tryNx, q_tryErr, q_tupDw, q_rgIt1, q_rgIt2, q_rgIt3, q_chain, q_slLH, q_ok, q_err, q_stuck, q_okS, q_errS, q_stuckS, q_nx, q_rt, q_bk, q_ct, q_errN, q_bind, q_thenS, q_seq, q_if, q_ret, q_retN, q_expr, q_pass, q_no, q_brk, q_cnt, q_asg, q_setD, q_setL, q_setF, q_var, q_c, q_mret, q_rdv, q_rds, q_rdDv, q_rdDs, q_n1, q_n2, q_n3, q_n4, q_n5, q_ownv, q_owns, q_op2, q_op1, q_fin2, q_fin1, q_sub, q_neg, q_div, q_mod, q_add, q_addI, q_addL, q_addT, q_mul, q_mulI, q_mulL, q_cmp, q_ii, q_true, q_tru, q_finT, q_tbl, q_tint, q_tlst, q_not, q_and, q_or, q_mif, q_ix, q_ixT, q_ixP, q_ixL, q_ixF, q_args0, q_args1, q_tup, q_lst, q_rdDs0, q_rdDs1, q_call1, q_call2, q_abs, q_int, q_lenT, q_lenP, q_lenL, q_lenF, q_tupT, q_tupL, q_lstT, q_lstL, q_max, q_min, q_mut, q_mkF, q_mkT, q_store, q_gtup, q_gpt, q_each0, q_each1, q_append, q_pop, q_isa, q_finV, q_gisa, q_back, q_mint, q_asI, q_slL, q_slH, q_svT, q_svL, q_svF, q_rg1, q_rg2, q_lrg, q_trg, q_andV, q_notV, q_callD, List.set_cons_zero, List.set_cons_succ, List.getElem?_cons_zero, List.getElem?_cons_succ, List.getElem?_nil, List.length_cons, List.length_nil, List.length_set, List.length_map, List.length_append, List.filterMap_cons, List.filterMap_nil, List.map_nil, List.map_cons, List.append_nil, List.nil_append, List.cons_append, reduceIte, Bool.not_true, Bool.not_false, Bool.false_eq_true, Nat.reduceAdd, Nat.zero_add, Nat.reduceEqDiff, argsIn, argIn, lsl, takeE, giveE, give1, List.nodup_cons, List.mem_cons, List.not_mem_nil, or_false, Nat.reduceEqDiff, Nat.succ_ne_self, not_false_eq_true, List.nodup_nil, and_self, $a,*])
  | `(tactic| push_cast [$a,*] at $h) => `(tactic| simp only [q_mulG, q_mulGI, q_mulGL, q_divG, q_augS, q_fAddI, q_fSubI, q_fMulI, q_augX, q_augL, q_orV, q_ttup, q_par, q_mulX, q_mulXT, q_aug, q_fAdd, q_raise, q_try, q_tryRt, q_tryNx, q_tryErr, q_tupDw, q_rgIt1, q_rgIt2, q_rgIt3, q_chain, q_slLH, q_ok, q_err, q_stuck, q_okS, q_errS, q_stuckS, q_nx, q_rt, q_bk, q_ct, q_errN, q_bind, q_thenS, q_seq, q_if, q_ret, q_retN, q_expr, q_pass, q_no, q_brk, q_cnt, q_asg, q_setD, q_setL, q_setF, q_var, q_c, q_mret, q_rdv, q_rds, q_rdDv, q_rdDs, q_n1, q_n2, q_n3, q_n4, q_n5, q_ownv, q_owns, q_op2, q_op1, q_fin2, q_fin1, q_sub, q_neg, q_div, q_mod, q_add, q_addI, q_addL, q_addT, q_mul, q_mulI, q_mulL, q_cmp, q_ii, q_true, q_tru, q_finT, q_tbl, q_tint, q_tlst, q_not, q_and, q_or, q_mif, q_ix, q_ixT, q_ixP, q_ixL, q_ixF, q_args0, q_args1, q_tup, q_lst, q_rdDs0, q_rdDs1, q_call1, q_call2, q_abs, q_int, q_lenT, q_lenP, q_lenL, q_lenF, q_tupT, q_tupL, q_lstT, q_lstL, q_max, q_min, q_mut, q_mkF, q_mkT, q_store, q_gtup, q_gpt, q_each0, q_each1, q_append, q_pop, q_isa, q_finV, q_gisa, q_back, q_mint, q_asI, q_slL, q_slH, q_svT, q_svL, q_svF, q_rg1, q_rg2, q_lrg, q_trg, q_andV, q_notV, q_callD, List.set_cons_zero, List.set_cons_succ, List.getElem?_cons_zero, List.getElem?_cons_succ, List.getElem?_nil, List.length_cons, List.length_nil, List.length_set, List.length_map, List.length_append, List.filterMap_cons, List.filterMap_nil, List.map_nil, List.map_cons, List.append_nil, List.nil_append, List.cons_append, reduceIte, Bool.not_true, Bool.not_false, Bool.false_eq_true, Nat.reduceAdd, Nat.zero_add, Nat.reduceEqDiff, argsIn, argIn, lsl, takeE, giveE, give1, List.nodup_cons, List.mem_cons, List.not_mem_nil, or_false, Nat.reduceEqDiff, Nat.succ_ne_self, not_false_eq_true, List.nodup_nil, and_self, $a,*] at $h)
theorem rep0n {n : Nat} : (List.replicate (n : Int).toNat [D.int 0]).flatten = (List.replicate n (0 : Int)).map D.int := by rw [Int.toNat_natCast, rep0]
abbrev pV (l : Int) (fs : List Int) : Val := .d (.tup [.int l, .tup (fs.map D.int)])
theorem pl_noneV {l : Int} {fs : List Int} (h : Pl l fs) : eqV2 (pV l fs) (.d (.tup [.int 0, .tup []])) = some (decide (fs = [])) := pl_none h
theorem k3_of {n : Nat} (h : n ≤ 100000) : (-(2 ^ 63) ≤ (n : Int) ∧ (n : Int) < 2 ^ 63 ∧ 1 * (n : Int).toNat ≤ sizeLine) = True := eq_true (by
  have zz := z100k
  refine ⟨by omega, by omega, by rw [Int.toNat_natCast]; omega⟩)
section
variable {l lo : Int} {f s : List Int} {o : Nat} {R : SOut → Prop} {c0 c1 c3 v7 v8 : Option Val}
abbrev E3 (c0 c1 : Option Val) (lo : Int) (c3 : Option Val) (s : List Int) (l : Int) (f : List Int) (v7 v8 : Option Val) : DD.Env := [c0, c1, some (vI lo), c3, some (vL s), some (vI l), some (vT f), v7, v8]
theorem in3 (h : l - lo = (o : Nat)) (hl : o + f.length ≤ s.length) (k : ∀ a b, R (.nx (E3 c0 c1 lo c3 (addAt s o f) l f a b))) : R (l3_1 (E3 c0 c1 lo c3 s l f v7 v8)) := by
  refine sq_last ?_
  unfold l3_1
  refine sq_for (it := { items := enD 0 (f.map D.int), src := f.map D.int, tup := true }) (fun (x : List Int × Option Val × Option Val) => E3 c0 c1 lo c3 x.1 l f x.2.1 x.2.2) (fun j x => x.1 = addAt s o (f.take j)) (s, v7, v8) (by rfl) rfl rfl ?_ ?_
  · rintro j x ⟨t, a, b⟩ hx ht
    dsimp only at ht
    obtain ⟨y, hy, rfl⟩ := get_en hx
    obtain ⟨v, hv, rfl⟩ := get_ints hy
    have hj := (List.getElem?_eq_some_iff.mp hv).1
    have htl : t.length = s.length := by rw [ht, addAt_len]
    refine ⟨E3 c0 c1 lo c3 t l f (some (vI (j : Nat))) (some (vI v)), by push_cast [q_ok], ?_⟩
    unfold b3_0
    have e : l - lo + (j : Int) = ((o + j : Nat) : Int) := by omega
    have hat := atD (s := t) (o := o + j) (by omega)
    have hix := ixn (n := t.length) (p := o + j) (by omega)
    (refine sq_one (by push_cast [e, hat, hix, DD.set_map]; (first | done | rfl)) ?_)
    refine ⟨(t.set (o + j) (t.getD (o + j) 0 + v), _, _), rfl, ?_⟩
    dsimp only
    rw [take_snoc hv, addAt_snoc, ← ht, List.length_take, Nat.min_eq_left (by omega)]
  · rintro ⟨t, a, b⟩ ht
    dsimp only at ht
    rw [show ({ items := enD 0 (f.map D.int), src := f.map D.int, tup := true } : ItD).items.length = f.length by simp [enD_len], List.take_length] at ht
    subst ht
    exact k a b
end
section
variable {l1 l2 : Int} {f1 f2 : List Int}
theorem e_added (h1 : Pl l1 f1) (h2 : Pl l2 f2) : f3 [pV l1 f1, pV l2 f2] = .ok (.d (pD (psum l1 f1 l2 f2))) [none, none] := by
  have zz := z100k
  have e1 := pl_noneV h1
  have e2 := pl_noneV h2
  by_cases n1 : f1 = []
  · rw [decide_eq_true n1] at e1
    have et : psum l1 f1 l2 f2 = (l2, f2) := by unfold psum; rw [if_pos (.inl n1), if_pos n1]
    rw [et]
    (unfold f3 fnD m3; generalize l3_3 = Gl3_3 at *; generalize f2 = Gf2 at *; as_aux_lemma => push_cast [q_finRt, q_finSl, q_finNx, q_finErr, backs, bk1, List.drop_succ_cons, List.drop_zero, List.drop_nil, List.replicate, Nat.reduceSub, List.getElem?_cons_zero, e1, pD])
  · by_cases n2 : f2 = []
    · rw [decide_eq_false n1] at e1
      rw [decide_eq_true n2] at e2
      have et : psum l1 f1 l2 f2 = (l1, f1) := by unfold psum; rw [if_pos (.inr n2), if_neg n1]
      rw [et]
      (unfold f3 fnD m3; generalize l3_3 = Gl3_3 at *; generalize f2 = Gf2 at *; as_aux_lemma => push_cast [q_finRt, q_finSl, q_finNx, q_finErr, backs, bk1, List.drop_succ_cons, List.drop_zero, List.drop_nil, List.replicate, Nat.reduceSub, List.getElem?_cons_zero, e1, e2, pD])
    · rw [decide_eq_false n1] at e1
      rw [decide_eq_false n2] at e2
      obtain ⟨lo, hi, n, o1, o2, hs, hlo, hhi, hn, ho1, ho2, q1, q2, q3⟩ := spn_facts h1 h2 n1
      have et : psum l1 f1 l2 f2 = trm lo (addAt (addAt (List.replicate n 0) o1 f1) o2 f2) := by
        unfold psum
        rw [if_neg (fun z => z.elim n1 n2), hs]
      rw [et]
      have htr := fun (fs : List Int) (h : fs.length ≤ 100000) => e_trimB (l := lo) (fs := fs) h
      (unfold f3; generalize hr_ : fnD _ _ _ _ = r_; revert r_; refine fn_R fun R hR => ?_; unfold m3; simp only [List.map_cons, List.map_nil, List.replicate, Nat.reduceSub, List.cons_append, List.nil_append])
      (refine sq_any (by push_cast [e1, e2]; (first | done | rfl)) ?_; (first | refine go_nx' ?_ | refine go_rt' ?_ | refine go_err' ?_))
      (refine sq_any (by push_cast [a0, ← hlo]; (first | done | rfl)) ?_; (first | refine go_nx' ?_ | refine go_rt' ?_ | refine go_err' ?_))
      (refine sq_any (by push_cast [a0, a1, ← hhi]; (first | done | rfl)) ?_; (first | refine go_nx' ?_ | refine go_rt' ?_ | refine go_err' ?_))
      have k3 := k3_of (n := n) (by omega)
      (refine sq_any (by push_cast [hn, z1, k3, rep0n]; (first | done | rfl)) ?_; (first | refine go_nx' ?_ | refine go_rt' ?_ | refine go_err' ?_))
      unfold l3_3 b3_2
      refine sq_for (it := { items := [.tup [.int l1, .tup (f1.map D.int)], .tup [.int l2, .tup (f2.map D.int)]], src := [.tup [.int l1, .tup (f1.map D.int)], .tup [.int l2, .tup (f2.map D.int)]], tup := true }) (fun (x : List Int × Option Val × Option Val × Option Val × Option Val) => [some (pV l1 f1), some (pV l2 f2), some (vI lo), some (vI hi), some (vL x.1), x.2.1, x.2.2.1, x.2.2.2.1, x.2.2.2.2])
        (fun j x => x.1 = (if j = 0 then List.replicate n 0 else if j = 1 then addAt (List.replicate n 0) o1 f1 else addAt (addAt (List.replicate n 0) o1 f1) o2 f2)) (List.replicate n 0, none, none, none, none) (by push_cast [z2]; rfl) rfl rfl ?_ ?_
      · rintro j x ⟨t, a, b, c, d⟩ hx ht
        dsimp only at ht
        match j, hx, ht with
        | 0, hx, ht =>
          rw [if_pos rfl] at ht
          subst ht
          cases hx
          refine ⟨_, by push_cast [q_ok]; rfl, ?_⟩
          refine in3 (l := l1) (o := o1) (f := f1) ho1 (by rw [List.length_replicate]; omega) fun a b => ?_
          exact ⟨(_, _, _, _, _), rfl, rfl⟩
        | 1, hx, ht =>
          rw [if_neg (by decide), if_pos rfl] at ht
          subst ht
          cases hx
          refine ⟨_, by push_cast [q_ok]; rfl, ?_⟩
          refine in3 (l := l2) (o := o2) (f := f2) ho2 (by rw [addAt_len, List.length_replicate]; omega) fun a b => ?_
          exact ⟨(_, _, _, _, _), rfl, rfl⟩
        | j + 2, hx, ht => simp at hx
      · rintro ⟨t, a, b, c, d⟩ ht
        dsimp only at ht
        rw [show ({ items := [D.tup [.int l1, .tup (f1.map D.int)], .tup [.int l2, .tup (f2.map D.int)]], src := [.tup [.int l1, .tup (f1.map D.int)], .tup [.int l2, .tup (f2.map D.int)]], tup := true } : ItD).items.length = 2 from rfl, if_neg (by decide), if_neg (by decide)] at ht
        subst ht
        have htr := htr (addAt (addAt (List.replicate n 0) o1 f1) o2 f2) (by rw [addAt_len, addAt_len, List.length_replicate]; omega)
        generalize f2 = F at *
        (refine sq_one (by push_cast [htr]; (first | done | rfl)) ?_)
        (refine hR _ ?_; simp only [q_finRt, q_finSl, q_finNx, q_finErr, backs, bk1, List.drop_succ_cons, List.drop_zero, List.drop_nil, List.replicate, Nat.reduceSub, List.getElem?_cons_zero])
abbrev E4 (c0 c1 : Option Val) (lo : Int) (c3 : Option Val) (s : List Int) (v5 : Option Val) : DD.Env := [c0, c1, some (vI lo), c3, some (vL s), v5]
theorem in19a {l lo : Int} {f s : List Int} {o : Nat} {R : SOut → Prop} {c0 c1 c3 v5 : Option Val} (h : l - lo = (o : Nat)) (hl : o + f.length ≤ s.length) (hf : f.length < 1000) (k : ∀ a, R (.nx [some (pV l f), c1, some (vI lo), c3, some (vL (addAt s o f)), a])) : R (l19_1 [some (pV l f), c1, some (vI lo), c3, some (vL s), v5]) := by
  refine sq_last ?_
  unfold l19_1
  refine sq_for (it := { items := rgD 0 f.length }) (fun (x : List Int × Option Val) => [some (pV l f), c1, some (vI lo), c3, some (vL x.1), x.2]) (fun j x => x.1 = addAt s o (f.take j)) (s, v5) (by push_cast [a1, q_rg, rg_i hf]) rfl rfl ?_ ?_
  · rintro j x ⟨t, a⟩ hx ht
    dsimp only at ht
    obtain ⟨hj, rfl⟩ := rg_get hx
    have htl : t.length = s.length := by rw [ht, addAt_len]
    refine ⟨[some (pV l f), c1, some (vI lo), c3, some (vL t), some (vI (j : Nat))], by push_cast [q_ok], ?_⟩
    unfold b19_0
    have e : l - lo + (j : Int) = ((o + j : Nat) : Int) := by omega
    have hat := atD (s := t) (o := o + j) (by omega)
    have hat2 := atD (s := f) (o := j) hj
    have hix := ixn (n := t.length) (p := o + j) (by omega)
    (refine sq_one (by push_cast [a0, a1, e, hat, hat2, hix, DD.set_map]; (first | done | rfl)) ?_)
    refine ⟨(t.set (o + j) (t.getD (o + j) 0 + f.getD j 0), _), rfl, ?_⟩
    dsimp only
    have hv : f[j]? = some (f.getD j 0) := by rw [List.getD_eq_getElem?_getD, List.getElem?_eq_getElem hj]; rfl
    rw [take_snoc hv, addAt_snoc, ← ht, List.length_take, Nat.min_eq_left (by omega)]
  · rintro ⟨t, a⟩ ht
    dsimp only at ht
    rw [show ({ items := rgD 0 f.length } : ItD).items.length = f.length from rgD_len, List.take_length] at ht
    subst ht
    exact k a
theorem in19b {l lo : Int} {f s : List Int} {o : Nat} {R : SOut → Prop} {c0 c1 c3 v5 : Option Val} (h : l - lo = (o : Nat)) (hl : o + f.length ≤ s.length) (hf : f.length < 1000) (k : ∀ a, R (.nx [c0, some (pV l f), some (vI lo), c3, some (vL (addAt s o f)), a])) : R (l19_3 [c0, some (pV l f), some (vI lo), c3, some (vL s), v5]) := by
  refine sq_last ?_
  unfold l19_3
  refine sq_for (it := { items := rgD 0 f.length }) (fun (x : List Int × Option Val) => [c0, some (pV l f), some (vI lo), c3, some (vL x.1), x.2]) (fun j x => x.1 = addAt s o (f.take j)) (s, v5) (by push_cast [a1, q_rg, rg_i hf]) rfl rfl ?_ ?_
  · rintro j x ⟨t, a⟩ hx ht
    dsimp only at ht
    obtain ⟨hj, rfl⟩ := rg_get hx
    have htl : t.length = s.length := by rw [ht, addAt_len]
    refine ⟨[c0, some (pV l f), some (vI lo), c3, some (vL t), some (vI (j : Nat))], by push_cast [q_ok], ?_⟩
    unfold b19_2
    have e : l - lo + (j : Int) = ((o + j : Nat) : Int) := by omega
    have hat := atD (s := t) (o := o + j) (by omega)
    have hat2 := atD (s := f) (o := j) hj
    have hix := ixn (n := t.length) (p := o + j) (by omega)
    (refine sq_one (by push_cast [a0, a1, e, hat, hat2, hix, DD.set_map]; (first | done | rfl)) ?_)
    refine ⟨(t.set (o + j) (t.getD (o + j) 0 + f.getD j 0), _), rfl, ?_⟩
    dsimp only
    have hv : f[j]? = some (f.getD j 0) := by rw [List.getD_eq_getElem?_getD, List.getElem?_eq_getElem hj]; rfl
    rw [take_snoc hv, addAt_snoc, ← ht, List.length_take, Nat.min_eq_left (by omega)]
  · rintro ⟨t, a⟩ ht
    dsimp only at ht
    rw [show ({ items := rgD 0 f.length } : ItD).items.length = f.length from rgD_len, List.take_length] at ht
    subst ht
    exact k a
theorem e_lsum (h1 : Pl l1 f1) (h2 : Pl l2 f2) : f19 [pV l1 f1, pV l2 f2] = .ok (.d (pD (psum l1 f1 l2 f2))) [none, none] := by
  have zz := z100k
  by_cases n1 : f1 = []
  · subst n1
    have et : psum l1 [] l2 f2 = (l2, f2) := by unfold psum; rw [if_pos (.inl rfl), if_pos rfl]
    rw [et]
    (unfold f19 fnD m19; generalize l19_1 = Gl19_1 at *; generalize l19_3 = Gl19_3 at *; generalize f18 = Gf18 at *; as_aux_lemma => push_cast [q_finRt, q_finSl, q_finNx, q_finErr, backs, bk1, List.drop_succ_cons, List.drop_zero, List.drop_nil, List.replicate, Nat.reduceSub, List.getElem?_cons_zero, a1, List.isEmpty_nil, pD])
  · have i1 : (f1.map D.int).isEmpty = false := by cases f1 with
      | nil => exact (n1 rfl).elim
      | cons _ _ => rfl
    by_cases n2 : f2 = []
    · subst n2
      have et : psum l1 f1 l2 [] = (l1, f1) := by unfold psum; rw [if_pos (.inr rfl), if_neg n1]
      rw [et]
      (unfold f19 fnD m19; generalize l19_1 = Gl19_1 at *; generalize l19_3 = Gl19_3 at *; generalize f18 = Gf18 at *; as_aux_lemma => push_cast [q_finRt, q_finSl, q_finNx, q_finErr, backs, bk1, List.drop_succ_cons, List.drop_zero, List.drop_nil, List.replicate, Nat.reduceSub, List.getElem?_cons_zero, a1, List.isEmpty_nil, i1, pD])
    · have i2 : (f2.map D.int).isEmpty = false := by cases f2 with
        | nil => exact (n2 rfl).elim
        | cons _ _ => rfl
      obtain ⟨lo, hi, n, o1, o2, hs, hlo, hhi, hn, ho1, ho2, q1, q2, q3⟩ := spn_facts h1 h2 n1
      have et : psum l1 f1 l2 f2 = trm lo (addAt (addAt (List.replicate n 0) o1 f1) o2 f2) := by
        unfold psum
        rw [if_neg (fun z => z.elim n1 n2), hs]
      rw [et]
      have htr := e_plain (l := lo) (fs := addAt (addAt (List.replicate n 0) o1 f1) o2 f2) (by rw [addAt_len, addAt_len, List.length_replicate]; omega)
      (unfold f19; generalize hr_ : fnD _ _ _ _ = r_; revert r_; refine fn_R fun R hR => ?_; unfold m19; simp only [List.map_cons, List.map_nil, List.replicate, Nat.reduceSub, List.cons_append, List.nil_append])
      (refine sq_any (by push_cast [a1, i1, i2]; (first | done | rfl)) ?_; (first | refine go_nx' ?_ | refine go_rt' ?_ | refine go_err' ?_))
      (refine sq_any (by push_cast [a0, ← hlo]; (first | done | rfl)) ?_; (first | refine go_nx' ?_ | refine go_rt' ?_ | refine go_err' ?_))
      (refine sq_any (by push_cast [a0, a1, ← hhi]; (first | done | rfl)) ?_; (first | refine go_nx' ?_ | refine go_rt' ?_ | refine go_err' ?_))
      have k3 := k3_of (n := n) (by omega)
      (refine sq_any (by push_cast [hn, z1, k3, rep0n]; (first | done | rfl)) ?_; (first | refine go_nx' ?_ | refine go_rt' ?_ | refine go_err' ?_))
      refine sq_in fun R' hR' => in19a (c0 := none) (o := o1) ho1 (by rw [List.length_replicate]; omega) (by have := h1.len; omega) fun a => hR' _ (go_nx' ?_)
      refine sq_in fun R' hR' => in19b (c1 := none) (o := o2) ho2 (by rw [addAt_len, List.length_replicate]; omega) (by have := h2.len; omega) fun a => hR' _ (go_nx' ?_)
      generalize f18 = F at *
      (refine sq_one (by push_cast [htr]; (first | done | rfl)) ?_)
      (refine hR _ ?_; simp only [q_finRt, q_finSl, q_finNx, q_finErr, backs, bk1, List.drop_succ_cons, List.drop_zero, List.drop_nil, List.replicate, Nat.reduceSub, List.getElem?_cons_zero])
end
end Kx

namespace Kx
open PySem PySem.Spec PyProof.Rows L2 DD
open Classical
local macro_rules
  | `(tactic| push_cast [$a,*]) => `(tactic| simp only [q_mulG, q_mulGI, q_mulGL, q_divG, q_augS, q_fAddI, q_fSubI, q_fMulI, q_augX, q_augL, q_orV, q_ttup, q_par, q_mulX, q_mulXT, q_aug, q_fAdd, q_raise, q_try, q_tryRt, q_tryNx, q_tryErr, q_tupDw, q_rgIt1, q_rgIt2, q_rgIt3, q_chain, q_slLH, q_ok, q_err, q_stuck, q_okS, q_errS, q_stuckS, q_nx, q_rt, q_bk, q_ct, q_errN, q_bind, q_thenS, q_seq, q_if, q_ret, q_retN, q_expr, q_pass, q_no, q_brk, q_cnt, q_asg, q_setD, q_setL, q_setF, q_var, q_c, q_mret, q_rdv, q_rds, q_rdDv, q_rdDs, q_n1, q_n2, q_n3, q_n4, q_n5, q_ownv, q_owns, q_op2, q_op1, q_fin2, q_fin1, q_sub, q_neg, q_div, q_mod, q_add, q_addI, q_addL, q_addT, q_mul, q_mulI, q_mulL, q_cmp, q_ii, q_true, q_tru, q_finT, q_tbl, q_tint, q_tlst, q_not, q_and, q_or, q_mif, q_ix, q_ixT, q_ixP, q_ixL, q_ixF, q_args0, q_args1, q_tup, q_lst, q_rdDs0, q_rdDs1, q_call1, q_call2, q_abs, q_int, q_lenT, q_lenP, q_lenL, q_lenF, q_tupT, q_tupL, q_lstT, q_lstL, q_max, q_min, q_mut, q_mkF, q_mkT, q_store, q_gtup, q_gpt, q_each0, q_each1, q_append, q_pop, q_isa, q_finV, q_gisa, q_back, q_mint, q_asI, q_slL, q_slH, q_svT, q_svL, q_svF, q_rg1, q_rg2, q_lrg, q_trg, q_andV, q_notV, q_callD, List.set_cons_zero, List.set_cons_succ, List.getElem?_cons_zero, List.getElem?_cons_succ, List.getElem?_nil, List.length_cons, List.length_nil, List.length_set, List.length_map, List.length_append, List.filterMap_cons, List.filterMap_nil, List.map_nil, List.map_cons, List.append_nil, List.nil_append, List.cons_append, reduceIte, Bool.not_true, Bool.not_false, Bool.false_eq_true, Nat.reduceAdd, Nat.zero_add, Nat.reduceEqDiff, argsIn, argIn, lsl, takeE, giveE, give1, List.nodup_cons, List.mem_cons, List.not_mem_nil, or_false, Nat.reduceEqDiff, Nat.succ_ne_self, not_false_eq_true, List.nodup_nil, and_self, $a,*])
  | `(tactic| push_cast [$a,*] at $h) => `(tactic| simp only [q_mulG, q_mulGI, q_mulGL, q_divG, q_augS, q_fAddI, q_fSubI, q_fMulI, q_augX, q_augL, q_orV, q_ttup, q_par, q_mulX, q_mulXT, q_aug, q_fAdd, q_raise, q_try, q_tryRt, q_tryNx, q_tryErr, q_tupDw, q_rgIt1, q_rgIt2, q_rgIt3, q_chain, q_slLH, q_ok, q_err, q_stuck, q_okS, q_errS, q_stuckS, q_nx, q_rt, q_bk, q_ct, q_errN, q_bind, q_thenS, q_seq, q_if, q_ret, q_retN, q_expr, q_pass, q_no, q_brk, q_cnt, q_asg, q_setD, q_setL, q_setF, q_var, q_c, q_mret, q_rdv, q_rds, q_rdDv, q_rdDs, q_n1, q_n2, q_n3, q_n4, q_n5, q_ownv, q_owns, q_op2, q_op1, q_fin2, q_fin1, q_sub, q_neg, q_div, q_mod, q_add, q_addI, q_addL, q_addT, q_mul, q_mulI, q_mulL, q_cmp, q_ii, q_true, q_tru, q_finT, q_tbl, q_tint, q_tlst, q_not, q_and, q_or, q_mif, q_ix, q_ixT, q_ixP, q_ixL, q_ixF, q_args0, q_args1, q_tup, q_lst, q_rdDs0, q_rdDs1, q_call1, q_call2, q_abs, q_int, q_lenT, q_lenP, q_lenL, q_lenF, q_tupT, q_tupL, q_lstT, q_lstL, q_max, q_min, q_mut, q_mkF, q_mkT, q_store, q_gtup, q_gpt, q_each0, q_each1, q_append, q_pop, q_isa, q_finV, q_gisa, q_back, q_mint, q_asI, q_slL, q_slH, q_svT, q_svL, q_svF, q_rg1, q_rg2, q_lrg, q_trg, q_andV, q_notV, q_callD, List.set_cons_zero, List.set_cons_succ, List.getElem?_cons_zero, List.getElem?_cons_succ, List.getElem?_nil, List.length_cons, List.length_nil, List.length_set, List.length_map, List.length_append, List.filterMap_cons, List.filterMap_nil, List.map_nil, List.map_cons, List.append_nil, List.nil_append, List.cons_append, reduceIte, Bool.not_true, Bool.not_false, Bool.false_eq_true, Nat.reduceAdd, Nat.zero_add, Nat.reduceEqDiff, argsIn, argIn, lsl, takeE, giveE, give1, List.nodup_cons, List.mem_cons, List.not_mem_nil, or_false, Nat.reduceEqDiff, Nat.succ_ne_self, not_false_eq_true, List.nodup_nil, and_self, $a,*] at $h)
def pm (f2 : List Int) : List Int → Nat → List Int → List Int
  | s, _, [] => s
  | s, o, c :: r => pm f2 (addAt s o (f2.map (c * ·))) (o + 1) r
theorem pm_len {f2 : List Int} : ∀ {xs s : List Int} {o : Nat}, (pm f2 s o xs).length = s.length
  | [], s, o => rfl
  | x :: xs, s, o => by unfold pm; rw [pm_len, addAt_len]
theorem pm_snoc {f2 : List Int} : ∀ {xs s : List Int} {o : Nat} {c : Int}, pm f2 s o (xs ++ [c]) = addAt (pm f2 s o xs) (o + xs.length) (f2.map (c * ·))
  | [], s, o, x => rfl
  | y :: xs, s, o, x => by
    rw [List.cons_append]
    unfold pm
    rw [pm_snoc, List.length_cons, show o + 1 + xs.length = o + (xs.length + 1) by omega]
theorem map0 {f2 : List Int} : f2.map ((0 : Int) * ·) = List.replicate f2.length 0 := by
  induction f2 with
  | nil => rfl
  | cons x xs ih => rw [List.map_cons, ih, Int.zero_mul, List.length_cons, List.replicate_succ]
def pprod (l1 : Int) (f1 : List Int) (l2 : Int) (f2 : List Int) : Int × List Int :=
  if f1 = [] ∨ f2 = [] then (0, []) else trm (l1 + l2) (pm f2 (List.replicate (f1.length + f2.length - 1) 0) 0 f1)
section
variable {f s : List Int} {o k : Nat} {c : Int} {R : SOut → Prop} {l1 l2 : Int} {f1 f2 : List Int}
theorem cm_sm {a b : Int} (ha : -1000000 ≤ a ∧ a ≤ 1000000) : CMul a b = True := eq_true (.inl ⟨by omega, by omega⟩)
theorem in4 {v0 v5 v6 : Option Val} (hc : -1000000 ≤ c ∧ c ≤ 1000000) (hl : k + f.length ≤ s.length) (kk : ∀ a b, R (.nx [v0, some (pV l2 f), some (vL (addAt s k (f.map (c * ·)))), some (vI (k : Nat)), some (vI c), a, b])) :
    R (l4_1 [v0, some (pV l2 f), some (vL s), some (vI (k : Nat)), some (vI c), v5, v6]) := by
  refine sq_last ?_
  unfold l4_1
  refine sq_for (it := { items := enD 0 (f.map D.int), src := f.map D.int, tup := true }) (fun (x : List Int × Option Val × Option Val) => [v0, some (pV l2 f), some (vL x.1), some (vI (k : Nat)), some (vI c), x.2.1, x.2.2]) (fun j x => x.1 = addAt s k ((f.take j).map (c * ·))) (s, v5, v6) (by push_cast [a1]; rfl) rfl rfl ?_ ?_
  · rintro j x ⟨t, a, b⟩ hx ht
    dsimp only at ht
    obtain ⟨y, hy, rfl⟩ := get_en hx
    obtain ⟨v, hv, rfl⟩ := get_ints hy
    have hj := (List.getElem?_eq_some_iff.mp hv).1
    have htl : t.length = s.length := by rw [ht, addAt_len]
    refine ⟨[v0, some (pV l2 f), some (vL t), some (vI (k : Nat)), some (vI c), some (vI (j : Nat)), some (vI v)], by push_cast [q_ok], ?_⟩
    unfold b4_0
    have e : (k : Int) + (j : Int) = ((k + j : Nat) : Int) := by omega
    have hat := atD (s := t) (o := k + j) (by omega)
    have hix := ixn (n := t.length) (p := k + j) (by omega)
    have cm := cm_sm (b := v) hc
    (refine sq_one (by push_cast [e, hat, hix, cm, DD.set_map]; (first | done | rfl)) ?_)
    refine ⟨(t.set (k + j) (t.getD (k + j) 0 + c * v), _, _), rfl, ?_⟩
    dsimp only
    rw [take_snoc hv, List.map_append, List.map_singleton, addAt_snoc, ← ht, List.length_map, List.length_take, Nat.min_eq_left (by omega)]
  · rintro ⟨t, a, b⟩ ht
    dsimp only at ht
    rw [show ({ items := enD 0 (f.map D.int), src := f.map D.int, tup := true } : ItD).items.length = f.length by simp [enD_len], List.take_length] at ht
    subst ht
    exact kk a b
theorem e_mult (h1 : Pl l1 f1) (h2 : Pl l2 f2) : f4 [pV l1 f1, pV l2 f2] = .ok (.d (pD (pprod l1 f1 l2 f2))) [none, none] := by
  have zz := z100k
  have e1 := pl_noneV h1
  have e2 := pl_noneV h2
  by_cases n1 : f1 = []
  · rw [decide_eq_true n1] at e1
    have et : pprod l1 f1 l2 f2 = (0, []) := by unfold pprod; rw [if_pos (.inl n1)]
    rw [et]
    (unfold f4 fnD m4; generalize l4_3 = Gl4_3 at *; generalize f2 = Gf2 at *; as_aux_lemma => push_cast [q_finRt, q_finSl, q_finNx, q_finErr, backs, bk1, List.drop_succ_cons, List.drop_zero, List.drop_nil, List.replicate, Nat.reduceSub, List.getElem?_cons_zero, e1, pD, List.map_nil])
  · by_cases n2 : f2 = []
    · rw [decide_eq_false n1] at e1
      rw [decide_eq_true n2] at e2
      have et : pprod l1 f1 l2 f2 = (0, []) := by unfold pprod; rw [if_pos (.inr n2)]
      rw [et]
      (unfold f4 fnD m4; generalize l4_3 = Gl4_3 at *; generalize f2 = Gf2 at *; as_aux_lemma => push_cast [q_finRt, q_finSl, q_finNx, q_finErr, backs, bk1, List.drop_succ_cons, List.drop_zero, List.drop_nil, List.replicate, Nat.reduceSub, List.getElem?_cons_zero, e1, e2, pD, List.map_nil])
    · rw [decide_eq_false n1] at e1
      rw [decide_eq_false n2] at e2
      have q1 := h1.len
      have q2 := h2.len
      have p1 : 0 < f1.length := List.length_pos_iff.mpr n1
      have p2 : 0 < f2.length := List.length_pos_iff.mpr n2
      have et : pprod l1 f1 l2 f2 = trm (l1 + l2) (pm f2 (List.replicate (f1.length + f2.length - 1) 0) 0 f1) := by
        unfold pprod
        rw [if_neg (fun z => z.elim n1 n2)]
      rw [et]
      have htr := e_trimB (l := l1 + l2) (fs := pm f2 (List.replicate (f1.length + f2.length - 1) 0) 0 f1) (by rw [pm_len, List.length_replicate]; omega)
      (unfold f4; generalize hr_ : fnD _ _ _ _ = r_; revert r_; refine fn_R fun R hR => ?_; unfold m4; simp only [List.map_cons, List.map_nil, List.replicate, Nat.reduceSub, List.cons_append, List.nil_append])
      (refine sq_any (by push_cast [e1, e2]; (first | done | rfl)) ?_; (first | refine go_nx' ?_ | refine go_rt' ?_ | refine go_err' ?_))
      have hn : (f1.length : Int) + (f2.length : Int) - 1 = ((f1.length + f2.length - 1 : Nat) : Int) := by omega
      have k3 := k3_of (n := f1.length + f2.length - 1) (by omega)
      (refine sq_any (by push_cast [a1, hn, z1, k3, rep0n]; (first | done | rfl)) ?_; (first | refine go_nx' ?_ | refine go_rt' ?_ | refine go_err' ?_))
      unfold l4_3
      refine sq_for (it := { items := enD 0 (f1.map D.int), src := f1.map D.int, tup := true }) (fun (x : List Int × Option Val × Option Val × Option Val × Option Val) => [some (pV l1 f1), some (pV l2 f2), some (vL x.1), x.2.1, x.2.2.1, x.2.2.2.1, x.2.2.2.2]) (fun j x => x.1 = pm f2 (List.replicate (f1.length + f2.length - 1) 0) 0 (f1.take j)) (List.replicate (f1.length + f2.length - 1) 0, none, none, none, none) (by push_cast [a1]; rfl) rfl rfl ?_ ?_
      · rintro j x ⟨t, a, b, cc, d⟩ hx ht
        dsimp only at ht
        obtain ⟨y, hy, rfl⟩ := get_en hx
        obtain ⟨v, hv, rfl⟩ := get_ints hy
        have hj := (List.getElem?_eq_some_iff.mp hv).1
        have htl : t.length = f1.length + f2.length - 1 := by rw [ht, pm_len, List.length_replicate]
        refine ⟨[some (pV l1 f1), some (pV l2 f2), some (vL t), some (vI (j : Nat)), some (vI v), cc, d], by push_cast [q_ok], ?_⟩
        have nx : pm f2 (List.replicate (f1.length + f2.length - 1) 0) 0 (f1.take (j + 1)) = addAt t j (f2.map (v * ·)) := by
          rw [take_snoc hv, pm_snoc, ← ht, List.length_take, Nat.min_eq_left (by omega), Nat.zero_add]
        unfold b4_2
        by_cases hv0 : v = 0
        · generalize l4_1 = L at *
          (refine sq_one (by push_cast [DD.eq_int, hv0, decide_true, Option.map_some]; (first | done | rfl)) ?_)
          refine ⟨(t, _, _, _, _), rfl, ?_⟩
          dsimp only
          rw [nx, hv0, map0, addAt_zero]
        · (refine ifl_t (by push_cast [DD.eq_int, hv0, decide_false, Option.map_some]; (first | done | rfl)) ?_)
          refine as_R fun R' hR' => ?_
          refine in4 (l2 := l2) (f := f2) (k := j) (c := v) (h1.sm v (List.mem_of_getElem? hv)) (by omega) fun a b => hR' _ ?_
          exact ⟨(_, _, _, _, _), rfl, nx.symm⟩
      · rintro ⟨t, a, b, cc, d⟩ ht
        dsimp only at ht
        rw [show ({ items := enD 0 (f1.map D.int), src := f1.map D.int, tup := true } : ItD).items.length = f1.length by simp [enD_len], List.take_length] at ht
        subst ht
        generalize f2 = F at *
        (refine sq_one (by push_cast [a0, htr]; (first | done | rfl)) ?_)
        (refine hR _ ?_; simp only [q_finRt, q_finSl, q_finNx, q_finErr, backs, bk1, List.drop_succ_cons, List.drop_zero, List.drop_nil, List.replicate, Nat.reduceSub, List.getElem?_cons_zero])
end
end Kx

namespace Kx
open PySem PySem.Spec PyProof.Rows L2 DD
open Classical
local macro_rules
  | `(tactic| push_cast [$a,*]) => `(tactic| simp only [q_mulG, q_mulGI, q_mulGL, q_divG, q_augS, q_fAddI, q_fSubI, q_fMulI, q_augX, q_augL, q_orV, q_ttup, q_par, q_mulX, q_mulXT, q_aug, q_fAdd, q_raise, q_try, q_tryRt, q_tryNx, q_tryErr, q_tupDw, q_rgIt1, q_rgIt2, q_rgIt3, q_chain, q_slLH, q_ok, q_err, q_stuck, q_okS, q_errS, q_stuckS, q_nx, q_rt, q_bk, q_ct, q_errN, q_bind, q_thenS, q_seq, q_if, q_ret, q_retN, q_expr, q_pass, q_no, q_brk, q_cnt, q_asg, q_setD, q_setL, q_setF, q_var, q_c, q_mret, q_rdv, q_rds, q_rdDv, q_rdDs, q_n1, q_n2, q_n3, q_n4, q_n5, q_ownv, q_owns, q_op2, q_op1, q_fin2, q_fin1, q_sub, q_neg, q_div, q_mod, q_add, q_addI, q_addL, q_addT, q_mul, q_mulI, q_mulL, q_cmp, q_ii, q_true, q_tru, q_finT, q_tbl, q_tint, q_tlst, q_not, q_and, q_or, q_mif, q_ix, q_ixT, q_ixP, q_ixL, q_ixF, q_args0, q_args1, q_tup, q_lst, q_rdDs0, q_rdDs1, q_call1, q_call2, q_abs, q_int, q_lenT, q_lenP, q_lenL, q_lenF, q_tupT, q_tupL, q_lstT, q_lstL, q_max, q_min, q_mut, q_mkF, q_mkT, q_store, q_gtup, q_gpt, q_each0, q_each1, q_append, q_pop, q_isa, q_finV, q_gisa, q_back, q_mint, q_asI, q_slL, q_slH, q_svT, q_svL, q_svF, q_rg1, q_rg2, q_lrg, q_trg, q_andV, q_notV, q_callD, List.set_cons_zero, List.set_cons_succ, List.getElem?_cons_zero, List.getElem?_cons_succ, List.getElem?_nil, List.length_cons, List.length_nil, List.length_set, List.length_map, List.length_append, List.filterMap_cons, List.filterMap_nil, List.map_nil, List.map_cons, List.append_nil, List.nil_append, List.cons_append, reduceIte, Bool.not_true, Bool.not_false, Bool.false_eq_true, Nat.reduceAdd, Nat.zero_add, Nat.reduceEqDiff, argsIn, argIn, lsl, takeE, giveE, give1, List.nodup_cons, List.mem_cons, List.not_mem_nil, or_false, Nat.reduceEqDiff, Nat.succ_ne_self, not_false_eq_true, List.nodup_nil, and_self, $a,*])
  | `(tactic| push_cast [$a,*] at $h) => `(tactic| simp only [q_mulG, q_mulGI, q_mulGL, q_divG, q_augS, q_fAddI, q_fSubI, q_fMulI, q_augX, q_augL, q_orV, q_ttup, q_par, q_mulX, q_mulXT, q_aug, q_fAdd, q_raise, q_try, q_tryRt, q_tryNx, q_tryErr, q_tupDw, q_rgIt1, q_rgIt2, q_rgIt3, q_chain, q_slLH, q_ok, q_err, q_stuck, q_okS, q_errS, q_stuckS, q_nx, q_rt, q_bk, q_ct, q_errN, q_bind, q_thenS, q_seq, q_if, q_ret, q_retN, q_expr, q_pass, q_no, q_brk, q_cnt, q_asg, q_setD, q_setL, q_setF, q_var, q_c, q_mret, q_rdv, q_rds, q_rdDv, q_rdDs, q_n1, q_n2, q_n3, q_n4, q_n5, q_ownv, q_owns, q_op2, q_op1, q_fin2, q_fin1, q_sub, q_neg, q_div, q_mod, q_add, q_addI, q_addL, q_addT, q_mul, q_mulI, q_mulL, q_cmp, q_ii, q_true, q_tru, q_finT, q_tbl, q_tint, q_tlst, q_not, q_and, q_or, q_mif, q_ix, q_ixT, q_ixP, q_ixL, q_ixF, q_args0, q_args1, q_tup, q_lst, q_rdDs0, q_rdDs1, q_call1, q_call2, q_abs, q_int, q_lenT, q_lenP, q_lenL, q_lenF, q_tupT, q_tupL, q_lstT, q_lstL, q_max, q_min, q_mut, q_mkF, q_mkT, q_store, q_gtup, q_gpt, q_each0, q_each1, q_append, q_pop, q_isa, q_finV, q_gisa, q_back, q_mint, q_asI, q_slL, q_slH, q_svT, q_svL, q_svF, q_rg1, q_rg2, q_lrg, q_trg, q_andV, q_notV, q_callD, List.set_cons_zero, List.set_cons_succ, List.getElem?_cons_zero, List.getElem?_cons_succ, List.getElem?_nil, List.length_cons, List.length_nil, List.length_set, List.length_map, List.length_append, List.filterMap_cons, List.filterMap_nil, List.map_nil, List.map_cons, List.append_nil, List.nil_append, List.cons_append, reduceIte, Bool.not_true, Bool.not_false, Bool.false_eq_true, Nat.reduceAdd, Nat.zero_add, Nat.reduceEqDiff, argsIn, argIn, lsl, takeE, giveE, give1, List.nodup_cons, List.mem_cons, List.not_mem_nil, or_false, Nat.reduceEqDiff, Nat.succ_ne_self, not_false_eq_true, List.nodup_nil, and_self, $a,*] at $h)
section
variable {f s : List Int} {o k : Nat} {c : Int} {R : SOut → Prop} {l l1 l2 : Int} {f1 f2 fs : List Int}
theorem in20 {v4 : Option Val} (hc : -1000000 ≤ c ∧ c ≤ 1000000) (hk : f1[k]? = some c) (hl : k + f2.length ≤ s.length) (hf : f2.length < 1000) (kk : ∀ a, R (.nx [some (pV l1 f1), some (pV l2 f2), some (vL (addAt s k (f2.map (c * ·)))), some (vI (k : Nat)), a])) :
    R (l20_1 [some (pV l1 f1), some (pV l2 f2), some (vL s), some (vI (k : Nat)), v4]) := by
  refine sq_last ?_
  unfold l20_1
  refine sq_for (it := { items := rgD 0 f2.length }) (fun (x : List Int × Option Val) => [some (pV l1 f1), some (pV l2 f2), some (vL x.1), some (vI (k : Nat)), x.2]) (fun j x => x.1 = addAt s k ((f2.take j).map (c * ·))) (s, v4) (by push_cast [a1, q_rg, rg_i hf]) rfl rfl ?_ ?_
  · rintro j x ⟨t, a⟩ hx ht
    dsimp only at ht
    obtain ⟨hj, rfl⟩ := rg_get hx
    have htl : t.length = s.length := by rw [ht, addAt_len]
    refine ⟨[some (pV l1 f1), some (pV l2 f2), some (vL t), some (vI (k : Nat)), some (vI (j : Nat))], by push_cast [q_ok], ?_⟩
    unfold b20_0
    have e : (k : Int) + (j : Int) = ((k + j : Nat) : Int) := by omega
    have hat := atD (s := t) (o := k + j) (by omega)
    have hat1 := at_get hk
    have hat2 := atD (s := f2) (o := j) hj
    have hix := ixn (n := t.length) (p := k + j) (by omega)
    have cm := cm_sm (b := f2.getD j 0) hc
    (refine sq_one (by push_cast [a1, e, hat, hat1, hat2, hix, cm, DD.set_map]; (first | done | rfl)) ?_)
    refine ⟨(t.set (k + j) (t.getD (k + j) 0 + c * f2.getD j 0), _), rfl, ?_⟩
    dsimp only
    have hv : f2[j]? = some (f2.getD j 0) := by rw [List.getD_eq_getElem?_getD, List.getElem?_eq_getElem hj]; rfl
    rw [take_snoc hv, List.map_append, List.map_singleton, addAt_snoc, ← ht, List.length_map, List.length_take, Nat.min_eq_left (by omega)]
  · rintro ⟨t, a⟩ ht
    dsimp only at ht
    rw [show ({ items := rgD 0 f2.length } : ItD).items.length = f2.length from rgD_len, List.take_length] at ht
    subst ht
    exact kk a
theorem e_lprod (h1 : Pl l1 f1) (h2 : Pl l2 f2) : f20 [pV l1 f1, pV l2 f2] = .ok (.d (pD (pprod l1 f1 l2 f2))) [none, none] := by
  have zz := z100k
  by_cases n1 : f1 = []
  · subst n1
    have et : pprod l1 [] l2 f2 = (0, []) := by unfold pprod; rw [if_pos (.inl rfl)]
    rw [et]
    (unfold f20 fnD m20; generalize l20_3 = Gl20_3 at *; generalize f18 = Gf18 at *; as_aux_lemma => push_cast [q_finRt, q_finSl, q_finNx, q_finErr, backs, bk1, List.drop_succ_cons, List.drop_zero, List.drop_nil, List.replicate, Nat.reduceSub, List.getElem?_cons_zero, a1, List.isEmpty_nil, pD, List.map_nil, z2, Nat.zero_le])
  · have i1 : (f1.map D.int).isEmpty = false := by cases f1 with
      | nil => exact (n1 rfl).elim
      | cons _ _ => rfl
    by_cases n2 : f2 = []
    · subst n2
      have et : pprod l1 f1 l2 [] = (0, []) := by unfold pprod; rw [if_pos (.inr rfl)]
      rw [et]
      (unfold f20 fnD m20; generalize l20_3 = Gl20_3 at *; generalize f18 = Gf18 at *; as_aux_lemma => push_cast [q_finRt, q_finSl, q_finNx, q_finErr, backs, bk1, List.drop_succ_cons, List.drop_zero, List.drop_nil, List.replicate, Nat.reduceSub, List.getElem?_cons_zero, a1, List.isEmpty_nil, i1, pD, List.map_nil, z2, Nat.zero_le])
    · have i2 : (f2.map D.int).isEmpty = false := by cases f2 with
        | nil => exact (n2 rfl).elim
        | cons _ _ => rfl
      have q1 := h1.len
      have q2 := h2.len
      have p1 : 0 < f1.length := List.length_pos_iff.mpr n1
      have p2 : 0 < f2.length := List.length_pos_iff.mpr n2
      have et : pprod l1 f1 l2 f2 = trm (l1 + l2) (pm f2 (List.replicate (f1.length + f2.length - 1) 0) 0 f1) := by
        unfold pprod
        rw [if_neg (fun z => z.elim n1 n2)]
      rw [et]
      have htr := e_plain (l := l1 + l2) (fs := pm f2 (List.replicate (f1.length + f2.length - 1) 0) 0 f1) (by rw [pm_len, List.length_replicate]; omega)
      (unfold f20; generalize hr_ : fnD _ _ _ _ = r_; revert r_; refine fn_R fun R hR => ?_; unfold m20; simp only [List.map_cons, List.map_nil, List.replicate, Nat.reduceSub, List.cons_append, List.nil_append])
      (refine sq_any (by push_cast [a1, i1, i2]; (first | done | rfl)) ?_; (first | refine go_nx' ?_ | refine go_rt' ?_ | refine go_err' ?_))
      have hn : (f1.length : Int) + (f2.length : Int) - 1 = ((f1.length + f2.length - 1 : Nat) : Int) := by omega
      have k3 := k3_of (n := f1.length + f2.length - 1) (by omega)
      (refine sq_any (by push_cast [a1, hn, z1, k3, rep0n]; (first | done | rfl)) ?_; (first | refine go_nx' ?_ | refine go_rt' ?_ | refine go_err' ?_))
      unfold l20_3 b20_2
      refine sq_for (it := { items := rgD 0 f1.length }) (fun (x : List Int × Option Val × Option Val) => [some (pV l1 f1), some (pV l2 f2), some (vL x.1), x.2.1, x.2.2]) (fun j x => x.1 = pm f2 (List.replicate (f1.length + f2.length - 1) 0) 0 (f1.take j)) (List.replicate (f1.length + f2.length - 1) 0, none, none) (by push_cast [a1, q_rg, rg_i (show f1.length < 1000 by omega)]) rfl rfl ?_ ?_
      · rintro j x ⟨t, a, b⟩ hx ht
        dsimp only at ht
        obtain ⟨hj, rfl⟩ := rg_get hx
        have hv := List.getElem?_eq_getElem hj
        generalize f1[j] = v at hv
        have htl : t.length = f1.length + f2.length - 1 := by rw [ht, pm_len, List.length_replicate]
        refine ⟨[some (pV l1 f1), some (pV l2 f2), some (vL t), some (vI (j : Nat)), b], by push_cast [q_ok], ?_⟩

        have g1 : j + f2.length ≤ t.length := by omega
        have g2 : f2.length < 1000 := by omega
        have g3 := h1.sm v (List.mem_of_getElem? hv)
        have X := fun (R : SOut → Prop) kk => in20 (R := R) (l1 := l1) (f1 := f1) (s := t) (v4 := b) (l2 := l2) (f2 := f2) (k := j) (c := v) g3 hv g1 g2 kk
        generalize l20_1 = LL at *
        apply X
        intro a
        refine ⟨(_, _, _), rfl, ?_⟩
        dsimp only
        rw [take_snoc hv, pm_snoc, ← ht, List.length_take, Nat.min_eq_left (by omega), Nat.zero_add]
      · rintro ⟨t, a, b⟩ ht
        dsimp only at ht
        rw [show ({ items := rgD 0 f1.length } : ItD).items.length = f1.length from rgD_len, List.take_length] at ht
        subst ht
        generalize f18 = F at *
        (refine sq_one (by push_cast [a0, htr]; (first | done | rfl)) ?_)
        (refine hR _ ?_; simp only [q_finRt, q_finSl, q_finNx, q_finErr, backs, bk1, List.drop_succ_cons, List.drop_zero, List.drop_nil, List.replicate, Nat.reduceSub, List.getElem?_cons_zero])
/-! what is a polynomial -/
theorem c_poly {x : D} {ys : List D} {v1 : Option Val} (hl : ys.length ≤ sizeLine) : c5_0 [some (.d (.tup [x, .tup ys])), v1] = .ok (.vl (.l ((ys.map (inR · (-1000000) 1000000)).map D.bl))) [some (.d (.tup [x, .tup ys])), none] := by
  have e := mLc_map (mi := (mIx (mVar 0) (mC (.int 1))) >>= itOf) (vs := [1]) (t := gSet 1) (c := mYes) (el := (mCallD f1 [] [mVar 1, mOp1 fNeg (mC (.int 1000000)), mC (.int 1000000)])) (η := [some (.d (.tup [x, .tup ys])), v1])
    (it := { items := ys, src := ys, tup := true }) (η1 := [some (.d (.tup [x, .tup ys])), v1]) (by push_cast [a1]; rfl) rfl hl (fun y => some (.bl (inR y (-1000000) 1000000))) (fun y hy => ?_)
  · rw [fm_map] at e
    rw [List.map_map]
    exact e
  · refine ⟨[some (.d (.tup [x, .tup ys])), some (.d y)], rfl, .inr ⟨[some (.d (.tup [x, .tup ys])), some (.d y)], .vl (.d (.bl (inR y (-1000000) 1000000))), [some (.d (.tup [x, .tup ys])), some (.d y)], _, rfl, rfl, ?_, rfl, rfl⟩⟩
    have h := e_rng y (-1000000) 1000000
    (generalize f1 = Gfin_range at *; as_aux_lemma => push_cast [h])
theorem eq_p {a c : Int} {b d : List Int} : eqV2 (pV a b) (pV c d) = some (decide ((a, b) = (c, d))) := by
  have e := lay_eqT (k := 1) (xs := [.int a, .tup (b.map D.int)]) (ys := [.int c, .tup (d.map D.int)]) (by simpa using ⟨lay_int, lay_ints⟩) (by simpa using ⟨lay_int, lay_ints⟩) (by decide)
  show eqV2 (.d (.tup [.int a, .tup (b.map D.int)])) (.d (.tup [.int c, .tup (d.map D.int)])) = _
  rw [e]
  simp only [D.py, D.pys, PyData.eqv, PyData.eqvAll, ints_eqv, Bool.and_true]
  by_cases p1 : a = c <;> by_cases p2 : b = d <;> simp [p1, p2]
theorem j22 : (((2 : Nat) : Int) = 2) = True := eq_true (by decide)
theorem e_isp_no {x : D} {ys : List D} (hx : inR x (-120) 120 = true) (hl : ys.length ≤ 120) (hy : ys.all (inR · (-1000000) 1000000) = false) : f5 [.d (.tup [x, .tup ys])] = .ok (.d (.bl false)) [none] := by
  have zz := z100k
  have h1 := e_rng x (-120) 120
  rw [hx] at h1
  have hc := c_poly (x := x) (ys := ys) (v1 := none) (by omega)
  have g : gAll (.l ((ys.map (inR · (-1000000) 1000000)).map D.bl)) = some (.d (.bl false)) := by rw [gAll_of, List.all_map]; rw [← hy]; rfl
  have hl2 : ¬ (120 : Int) < (ys.length : Int) := by omega
  (unfold f5 fnD m5; generalize f1 = Gf1 at *; generalize c5_0 = Gc5_0 at *; generalize f2 = Gf2 at *; as_aux_lemma => push_cast [q_finRt, q_finSl, q_finNx, q_finErr, backs, bk1, List.drop_succ_cons, List.drop_zero, List.drop_nil, List.replicate, Nat.reduceSub, List.getElem?_cons_zero, ia_tt, a0, a1, DD.eq_int, j22, decide_true, decide_false, Option.map_some, h1, hl2, hc, g])
theorem e_isp {l : Int} {fs : List Int} (hx : -120 ≤ l ∧ l ≤ 120) (hl : fs.length ≤ 120) (hy : ∀ x ∈ fs, -1000000 ≤ x ∧ x ≤ 1000000) : f5 [pV l fs] = .ok (.d (.bl (decide ((l, fs) = trm l fs)))) [none] := by
  have zz := z100k
  have h1 := e_rng (.int l) (-120) 120
  have hr : inR (.int l) (-120) 120 = true := by simp [inR, hx]
  rw [hr] at h1
  have hc := c_poly (x := .int l) (ys := fs.map D.int) (v1 := none) (by rw [List.length_map]; omega)
  have ha : (fs.map D.int).all (inR · (-1000000) 1000000) = true := List.all_eq_true.mpr fun x hx => by
    obtain ⟨i, hi, rfl⟩ := List.mem_map.mp hx
    have := hy i hi
    simp [inR, this.1, this.2]
  have g : gAll (.l (((fs.map D.int).map (inR · (-1000000) 1000000)).map D.bl)) = some (.d (.bl true)) := by rw [gAll_of, List.all_map]; rw [← ha]; rfl
  have hl2 : ¬ (120 : Int) < (fs.length : Int) := by omega
  have ht := e_trimT (l := l) (fs := fs) (by omega)
  have he := eq_p (a := l) (b := fs) (c := (trm l fs).1) (d := (trm l fs).2)
  have he2 : (decide ((l, fs) = ((trm l fs).1, (trm l fs).2))) = decide ((l, fs) = trm l fs) := rfl
  rw [he2] at he
  unfold pD at ht
  generalize decide ((l, fs) = trm l fs) = B at *
  (unfold f5 fnD m5; generalize f1 = Gf1 at *; generalize c5_0 = Gc5_0 at *; generalize f2 = Gf2 at *; as_aux_lemma => push_cast [q_finRt, q_finSl, q_finNx, q_finErr, backs, bk1, List.drop_succ_cons, List.drop_zero, List.drop_nil, List.replicate, Nat.reduceSub, List.getElem?_cons_zero, ia_tt, a0, a1, DD.eq_int, j22, decide_true, decide_false, Option.map_some, h1, hl2, hc, g, ht, he])
theorem e_isp_ok (h : Pl l fs) : f5 [pV l fs] = .ok (.d (.bl true)) [none] := by
  rw [e_isp ⟨h.lo, h.hi⟩ h.len h.sm, h.t, decide_eq_true rfl]
def bads : List D := [.non, .int 5, .tup [.int 0], .tup [.int 0, .tup [], .int 1], .tup [.int 1, .tup []], .tup [.int 0, .tup [.int 0, .int 1]], .tup [.int 0, .tup [.int 1, .int 0]], .tup [.int 0, .tup [.int 1, .bl true]], .tup [.bl true, .tup [.int 1]], .tup [.int 121, .tup [.int 1]], .tup [.int (-121), .tup [.int 1]], .tup [.int 0, .tup [.int 1000001]], .tup [.int 0, .tup (List.replicate (121 : Int).toNat [D.int 1]).flatten], .tup [.int 0, .tup [.int 1, .non]], .tup [.int 0, .int 5]]
theorem isp_bad : ∀ x ∈ bads, f5 [.d x] = .ok (.d (.bl false)) [none] := by
  intro x hx
  simp only [bads, List.mem_cons, List.not_mem_nil, or_false] at hx
  rcases hx with rfl | rfl | rfl | rfl | rfl | rfl | rfl | rfl | rfl | rfl | rfl | rfl | rfl | rfl | rfl
  · rfl
  · rfl
  · rfl
  · rfl
  · exact (e_isp (l := 1) (fs := []) (by decide) (by decide) (by simp)).trans (by rfl)
  · exact (e_isp (l := 0) (fs := [0, 1]) (by decide) (by decide) (by decide)).trans (by rfl)
  · exact (e_isp (l := 0) (fs := [1, 0]) (by decide) (by decide) (by decide)).trans (by rfl)
  · exact e_isp_no (by rfl) (by decide) (by rfl)
  · rfl
  · rfl
  · rfl
  · exact e_isp_no (by rfl) (by decide) (by rfl)
  · rfl
  · exact e_isp_no (by rfl) (by decide) (by rfl)
  · rfl
theorem dem_ok (h : Pl l fs) (r : Str) : f6 [pV l fs, .d (.str r)] = .ok (.d .non) [none, none] := by
  have h1 := e_isp_ok h
  (unfold f6 fnD m6; generalize f5 = Gf5 at *; as_aux_lemma => push_cast [q_finRt, q_finSl, q_finNx, q_finErr, backs, bk1, List.drop_succ_cons, List.drop_zero, List.drop_nil, List.replicate, Nat.reduceSub, List.getElem?_cons_zero, h1])
theorem dem_no {x : D} (h : x ∈ bads) (r : String) : f6 [.d x, .d (.str r)] = .err (aErr r) [none, none] := by
  have h1 := isp_bad x h
  (unfold f6 fnD m6; generalize f5 = Gf5 at *; as_aux_lemma => push_cast [q_finRt, q_finSl, q_finNx, q_finErr, backs, bk1, List.drop_succ_cons, List.drop_zero, List.drop_nil, List.replicate, Nat.reduceSub, List.getElem?_cons_zero, h1])
theorem e_psum (h1 : Pl l1 f1) (h2 : Pl l2 f2) : f7 [pV l1 f1, pV l2 f2] = .ok (.d (pD (psum l1 f1 l2 f2))) [none, none] := by
  have d1 := dem_ok h1 "first"
  have d2 := dem_ok h2 "second"
  have h := e_added h1 h2
  generalize pD (psum l1 f1 l2 f2) = Y at *
  (unfold f7 fnD m7; generalize f6 = Gf6 at *; generalize f3 = Gf3 at *; as_aux_lemma => push_cast [q_finRt, q_finSl, q_finNx, q_finErr, backs, bk1, List.drop_succ_cons, List.drop_zero, List.drop_nil, List.replicate, Nat.reduceSub, List.getElem?_cons_zero, d1, d2, h])
theorem e_pprod (h1 : Pl l1 f1) (h2 : Pl l2 f2) : f8 [pV l1 f1, pV l2 f2] = .ok (.d (pD (pprod l1 f1 l2 f2))) [none, none] := by
  have d1 := dem_ok h1 "first"
  have d2 := dem_ok h2 "second"
  have h := e_mult h1 h2
  generalize pD (pprod l1 f1 l2 f2) = Y at *
  (unfold f8 fnD m8; generalize f6 = Gf6 at *; generalize f4 = Gf4 at *; as_aux_lemma => push_cast [q_finRt, q_finSl, q_finNx, q_finErr, backs, bk1, List.drop_succ_cons, List.drop_zero, List.drop_nil, List.replicate, Nat.reduceSub, List.getElem?_cons_zero, d1, d2, h])
theorem e_even (h : Pl l fs) : f13 [pV l fs] = .ok (.d (.bl (decide (fs = fs.reverse)))) [none] := by
  have d1 := dem_ok h "poly"
  have he : eqV2 (.d (.tup (fs.map D.int))) (.d (.tup (fs.map D.int).reverse)) = some (decide (fs = fs.reverse)) := by rw [← List.map_reverse]; exact DD.eq_tup fs fs.reverse
  (unfold f13 fnD m13; generalize f6 = Gf6 at *; as_aux_lemma => push_cast [q_finRt, q_finSl, q_finNx, q_finErr, backs, bk1, List.drop_succ_cons, List.drop_zero, List.drop_nil, List.replicate, Nat.reduceSub, List.getElem?_cons_zero, d1, a1, he])
theorem e_sum1 {x y : D} (h : x ∈ bads) : f7 [.d x, .d y] = .err (aErr "first") [none, none] := by
  have d1 := dem_no h "first"
  (unfold f7 fnD m7; generalize f6 = Gf6 at *; generalize f3 = Gf3 at *; as_aux_lemma => push_cast [q_finRt, q_finSl, q_finNx, q_finErr, backs, bk1, List.drop_succ_cons, List.drop_zero, List.drop_nil, List.replicate, Nat.reduceSub, List.getElem?_cons_zero, d1])
theorem e_sum2 {y : D} (h1 : Pl l1 f1) (h : y ∈ bads) : f7 [pV l1 f1, .d y] = .err (aErr "second") [none, none] := by
  have d1 := dem_ok h1 "first"
  have d2 := dem_no h "second"
  (unfold f7 fnD m7; generalize f6 = Gf6 at *; generalize f3 = Gf3 at *; as_aux_lemma => push_cast [q_finRt, q_finSl, q_finNx, q_finErr, backs, bk1, List.drop_succ_cons, List.drop_zero, List.drop_nil, List.replicate, Nat.reduceSub, List.getElem?_cons_zero, d1, d2])
theorem e_prod1 {x y : D} (h : x ∈ bads) : f8 [.d x, .d y] = .err (aErr "first") [none, none] := by
  have d1 := dem_no h "first"
  (unfold f8 fnD m8; generalize f6 = Gf6 at *; generalize f4 = Gf4 at *; as_aux_lemma => push_cast [q_finRt, q_finSl, q_finNx, q_finErr, backs, bk1, List.drop_succ_cons, List.drop_zero, List.drop_nil, List.replicate, Nat.reduceSub, List.getElem?_cons_zero, d1])
theorem e_prod2 {y : D} (h1 : Pl l1 f1) (h : y ∈ bads) : f8 [pV l1 f1, .d y] = .err (aErr "second") [none, none] := by
  have d1 := dem_ok h1 "first"
  have d2 := dem_no h "second"
  (unfold f8 fnD m8; generalize f6 = Gf6 at *; generalize f4 = Gf4 at *; as_aux_lemma => push_cast [q_finRt, q_finSl, q_finNx, q_finErr, backs, bk1, List.drop_succ_cons, List.drop_zero, List.drop_nil, List.replicate, Nat.reduceSub, List.getElem?_cons_zero, d1, d2])
theorem e_val1 {x y z : D} (h : x ∈ bads) : f9 [.d x, .d y, .d z] = .err (aErr "poly") [none, none, none] := by
  have d1 := dem_no h "poly"
  (unfold f9 fnD m9; generalize f6 = Gf6 at *; generalize f1 = Gf1 at *; generalize f11 = Gf11 at *; as_aux_lemma => push_cast [q_finRt, q_finSl, q_finNx, q_finErr, backs, bk1, List.drop_succ_cons, List.drop_zero, List.drop_nil, List.replicate, Nat.reduceSub, List.getElem?_cons_zero, d1])
theorem e_even1 {x : D} (h : x ∈ bads) : f13 [.d x] = .err (aErr "poly") [none] := by
  have d1 := dem_no h "poly"
  (unfold f13 fnD m13; generalize f6 = Gf6 at *; as_aux_lemma => push_cast [q_finRt, q_finSl, q_finNx, q_finErr, backs, bk1, List.drop_succ_cons, List.drop_zero, List.drop_nil, List.replicate, Nat.reduceSub, List.getElem?_cons_zero, d1])
theorem e_val2 {y z : D} (h1 : Pl l1 f1) (h : inR y (-1000000) 1000000 = false ∨ y = .int 0) : f9 [pV l1 f1, .d y, .d z] = .err (aErr "over") [none, none, none] := by
  have d1 := dem_ok h1 "poly"
  rcases h with h | rfl
  · have d2 := e_rng y (-1000000) 1000000
    rw [h] at d2
    (unfold f9 fnD m9; generalize f6 = Gf6 at *; generalize f1 = Gf1 at *; generalize f11 = Gf11 at *; as_aux_lemma => push_cast [q_finRt, q_finSl, q_finNx, q_finErr, backs, bk1, List.drop_succ_cons, List.drop_zero, List.drop_nil, List.replicate, Nat.reduceSub, List.getElem?_cons_zero, d1, d2])
  · have d2 : Kx.f1 [vI 0, vI (-1000000), vI 1000000] = .ok (.d (.bl true)) [none, none, none] := e_rng (.int 0) (-1000000) 1000000
    (unfold f9 fnD m9; generalize f6 = Gf6 at *; generalize f1 = Gf1 at *; generalize f11 = Gf11 at *; as_aux_lemma => push_cast [q_finRt, q_finSl, q_finNx, q_finErr, backs, bk1, List.drop_succ_cons, List.drop_zero, List.drop_nil, List.replicate, Nat.reduceSub, List.getElem?_cons_zero, d1, d2, DD.eq_int, decide_true])
theorem e_val3 {z : D} (h1 : Pl l1 f1) (h : inR z 1 1000000 = false) : f9 [pV l1 f1, vI 1, .d z] = .err (aErr "under") [none, none, none] := by
  have d1 := dem_ok h1 "poly"
  have d2 : Kx.f1 [vI 1, vI (-1000000), vI 1000000] = .ok (.d (.bl true)) [none, none, none] := e_rng (.int 1) (-1000000) 1000000
  have d3 := e_rng z 1 1000000
  rw [h] at d3
  have e : decide ((1 : Int) = 0) = false := by decide
  (unfold f9 fnD m9; generalize f6 = Gf6 at *; generalize f1 = Gf1 at *; generalize f11 = Gf11 at *; as_aux_lemma => push_cast [q_finRt, q_finSl, q_finNx, q_finErr, backs, bk1, List.drop_succ_cons, List.drop_zero, List.drop_nil, List.replicate, Nat.reduceSub, List.getElem?_cons_zero, d1, d2, d3, DD.eq_int, e])
end
end Kx

namespace Kx
open PySem PySem.Spec PyProof.Rows L2 DD
open Classical
local macro_rules
  | `(tactic| push_cast [$a,*]) => `(tactic| simp only [q_mulG, q_mulGI, q_mulGL, q_divG, q_augS, q_fAddI, q_fSubI, q_fMulI, q_augX, q_augL, q_orV, q_ttup, q_par, q_mulX, q_mulXT, q_aug, q_fAdd, q_raise, q_try, q_tryRt, q_tryNx, q_tryErr, q_tupDw, q_rgIt1, q_rgIt2, q_rgIt3, q_chain, q_slLH, q_ok, q_err, q_stuck, q_okS, q_errS, q_stuckS, q_nx, q_rt, q_bk, q_ct, q_errN, q_bind, q_thenS, q_seq, q_if, q_ret, q_retN, q_expr, q_pass, q_no, q_brk, q_cnt, q_asg, q_setD, q_setL, q_setF, q_var, q_c, q_mret, q_rdv, q_rds, q_rdDv, q_rdDs, q_n1, q_n2, q_n3, q_n4, q_n5, q_ownv, q_owns, q_op2, q_op1, q_fin2, q_fin1, q_sub, q_neg, q_div, q_mod, q_add, q_addI, q_addL, q_addT, q_mul, q_mulI, q_mulL, q_cmp, q_ii, q_true, q_tru, q_finT, q_tbl, q_tint, q_tlst, q_not, q_and, q_or, q_mif, q_ix, q_ixT, q_ixP, q_ixL, q_ixF, q_args0, q_args1, q_tup, q_lst, q_rdDs0, q_rdDs1, q_call1, q_call2, q_abs, q_int, q_lenT, q_lenP, q_lenL, q_lenF, q_tupT, q_tupL, q_lstT, q_lstL, q_max, q_min, q_mut, q_mkF, q_mkT, q_store, q_gtup, q_gpt, q_each0, q_each1, q_append, q_pop, q_isa, q_finV, q_gisa, q_back, q_mint, q_asI, q_slL, q_slH, q_svT, q_svL, q_svF, q_rg1, q_rg2, q_lrg, q_trg, q_andV, q_notV, q_callD, List.set_cons_zero, List.set_cons_succ, List.getElem?_cons_zero, List.getElem?_cons_succ, List.getElem?_nil, List.length_cons, List.length_nil, List.length_set, List.length_map, List.length_append, List.filterMap_cons, List.filterMap_nil, List.map_nil, List.map_cons, List.append_nil, List.nil_append, List.cons_append, reduceIte, Bool.not_true, Bool.not_false, Bool.false_eq_true, Nat.reduceAdd, Nat.zero_add, Nat.reduceEqDiff, argsIn, argIn, lsl, takeE, giveE, give1, List.nodup_cons, List.mem_cons, List.not_mem_nil, or_false, Nat.reduceEqDiff, Nat.succ_ne_self, not_false_eq_true, List.nodup_nil, and_self, $a,*])
  | `(tactic| push_cast [$a,*] at $h) => `(tactic| simp only [q_mulG, q_mulGI, q_mulGL, q_divG, q_augS, q_fAddI, q_fSubI, q_fMulI, q_augX, q_augL, q_orV, q_ttup, q_par, q_mulX, q_mulXT, q_aug, q_fAdd, q_raise, q_try, q_tryRt, q_tryNx, q_tryErr, q_tupDw, q_rgIt1, q_rgIt2, q_rgIt3, q_chain, q_slLH, q_ok, q_err, q_stuck, q_okS, q_errS, q_stuckS, q_nx, q_rt, q_bk, q_ct, q_errN, q_bind, q_thenS, q_seq, q_if, q_ret, q_retN, q_expr, q_pass, q_no, q_brk, q_cnt, q_asg, q_setD, q_setL, q_setF, q_var, q_c, q_mret, q_rdv, q_rds, q_rdDv, q_rdDs, q_n1, q_n2, q_n3, q_n4, q_n5, q_ownv, q_owns, q_op2, q_op1, q_fin2, q_fin1, q_sub, q_neg, q_div, q_mod, q_add, q_addI, q_addL, q_addT, q_mul, q_mulI, q_mulL, q_cmp, q_ii, q_true, q_tru, q_finT, q_tbl, q_tint, q_tlst, q_not, q_and, q_or, q_mif, q_ix, q_ixT, q_ixP, q_ixL, q_ixF, q_args0, q_args1, q_tup, q_lst, q_rdDs0, q_rdDs1, q_call1, q_call2, q_abs, q_int, q_lenT, q_lenP, q_lenL, q_lenF, q_tupT, q_tupL, q_lstT, q_lstL, q_max, q_min, q_mut, q_mkF, q_mkT, q_store, q_gtup, q_gpt, q_each0, q_each1, q_append, q_pop, q_isa, q_finV, q_gisa, q_back, q_mint, q_asI, q_slL, q_slH, q_svT, q_svL, q_svF, q_rg1, q_rg2, q_lrg, q_trg, q_andV, q_notV, q_callD, List.set_cons_zero, List.set_cons_succ, List.getElem?_cons_zero, List.getElem?_cons_succ, List.getElem?_nil, List.length_cons, List.length_nil, List.length_set, List.length_map, List.length_append, List.filterMap_cons, List.filterMap_nil, List.map_nil, List.map_cons, List.append_nil, List.nil_append, List.cons_append, reduceIte, Bool.not_true, Bool.not_false, Bool.false_eq_true, Nat.reduceAdd, Nat.zero_add, Nat.reduceEqDiff, argsIn, argIn, lsl, takeE, giveE, give1, List.nodup_cons, List.mem_cons, List.not_mem_nil, or_false, Nat.reduceEqDiff, Nat.succ_ne_self, not_false_eq_true, List.nodup_nil, and_self, $a,*] at $h)
/-! fractions in least terms -/
def rdp (n d : Int) : Int × Int := (n / (Int.gcd n d : Int), d / (Int.gcd n d : Int))
theorem rdp_parts {n d : Int} (hd : 0 < d) : ∃ (g : Int) (a b : Int), 0 < g ∧ n = g * a ∧ d = g * b ∧ 0 < b ∧ Int.gcd a b = 1 ∧ rdp n d = (a, b) ∧ (Int.gcd n d : Int) = g := by
  have hg : 0 < (Int.gcd n d : Int) := by
    have : Int.gcd n d ≠ 0 := fun z => by
      have := (Int.gcd_eq_zero_iff.mp z).2
      omega
    omega
  obtain ⟨a, ha⟩ := Int.gcd_dvd_left n d
  obtain ⟨b, hb⟩ := Int.gcd_dvd_right n d
  generalize hgg : (Int.gcd n d : Int) = g at *
  have hb0 : 0 < b := by
    apply Decidable.byContradiction
    intro z
    have : g * b ≤ 0 := Int.mul_nonpos_of_nonneg_of_nonpos (by omega) (by omega)
    omega
  refine ⟨g, a, b, hg, ha, hb, hb0, ?_, ?_, rfl⟩
  · have e := Int.gcd_mul_left g a b
    rw [← ha, ← hb] at e
    have e2 : (Int.gcd n d : Int) = (g.natAbs * Int.gcd a b : Nat) := by rw [e]
    rw [hgg] at e2
    have e3 : (g.natAbs : Int) = g := by omega
    rw [Int.natCast_mul, e3] at e2
    have e4 : g * ((Int.gcd a b : Int) - 1) = 0 := by rw [Int.mul_sub]; omega
    rcases Int.mul_eq_zero.mp e4 with h | h <;> omega
  · unfold rdp
    rw [hgg]
    conv => lhs; rw [ha, hb]
    rw [Int.mul_ediv_cancel_left _ (by omega), Int.mul_ediv_cancel_left _ (by omega)]
theorem rdp_eq {n d n' d' : Int} (hd : 0 < d) (hd' : 0 < d') (h : n * d' = n' * d) : rdp n d = rdp n' d' := by
  obtain ⟨g, a, b, hg, rfl, rfl, hb, hc, e, _⟩ := rdp_parts (n := n) hd
  obtain ⟨g', a', b', hg', rfl, rfl, hb', hc', e', _⟩ := rdp_parts (n := n') hd'
  rw [e, e']
  have hx : a * b' = a' * b := by
    have h1 : (g * g') * (a * b' - a' * b) = 0 := by
      have : (g * g') * (a * b' - a' * b) = g * a * (g' * b') - g' * a' * (g * b) := by grind
      rw [this]
      omega
    rcases Int.mul_eq_zero.mp h1 with h | h
    · have := Int.mul_pos hg hg'
      omega
    · omega
  have d1 : b.natAbs ∣ b'.natAbs := by
    refine Nat.Coprime.dvd_of_dvd_mul_left (m := a.natAbs) ?_ ?_
    · rw [Nat.coprime_comm]; exact hc
    · rw [← Int.natAbs_mul, hx, Int.natAbs_mul]
      exact Nat.dvd_mul_left _ _
  have d2 : b'.natAbs ∣ b.natAbs := by
    refine Nat.Coprime.dvd_of_dvd_mul_left (m := a'.natAbs) ?_ ?_
    · rw [Nat.coprime_comm]; exact hc'
    · rw [← Int.natAbs_mul, ← hx, Int.natAbs_mul]
      exact Nat.dvd_mul_left _ _
  have hbb : b = b' := by
    have := Nat.dvd_antisymm d1 d2
    omega
  subst hbb
  have : (a - a') * b = 0 := by rw [Int.sub_mul]; omega
  rcases Int.mul_eq_zero.mp this with h | h
  · rw [show a = a' by omega]
  · omega
theorem rdp_cross {n d : Int} (hd : 0 < d) : (rdp n d).1 * d = n * (rdp n d).2 := by
  obtain ⟨g, a, b, hg, rfl, rfl, hb, hc, e, _⟩ := rdp_parts (n := n) hd
  rw [e]
  grind
theorem rdp_pos {n d : Int} (hd : 0 < d) : 0 < (rdp n d).2 := by
  obtain ⟨g, a, b, hg, rfl, rfl, hb, hc, e, _⟩ := rdp_parts (n := n) hd
  rw [e]
  exact hb
theorem na_le {g a : Int} (hg : 0 < g) : a.natAbs ≤ (g * a).natAbs := by
  rw [Int.natAbs_mul]
  exact Nat.le_mul_of_pos_left _ (by omega)
theorem rdp_le {n d : Int} (hd : 0 < d) : (rdp n d).1.natAbs ≤ n.natAbs ∧ (rdp n d).2.natAbs ≤ d.natAbs := by
  obtain ⟨g, a, b, hg, rfl, rfl, hb, hc, e, _⟩ := rdp_parts (n := n) hd
  rw [e]
  exact ⟨na_le hg, na_le hg⟩
theorem rdp_one {n : Int} : rdp n 1 = (n, 1) := by
  unfold rdp
  rw [Int.gcd_one]
  simp
theorem rdp_zero {d : Int} (hd : 0 < d) : rdp 0 d = (0, 1) := by
  rw [rdp_eq (n' := 0) (d' := 1) hd (by omega) (by omega), rdp_one]
theorem rdp_plus {a b c d : Int} (hb : 0 < b) (hd : 0 < d) : rdp ((rdp a b).1 * (rdp c d).2 + (rdp c d).1 * (rdp a b).2) ((rdp a b).2 * (rdp c d).2) = rdp (a * d + c * b) (b * d) := by
  have h1 := rdp_cross (n := a) hb
  have h2 := rdp_cross (n := c) hd
  have p1 := rdp_pos (n := a) hb
  have p2 := rdp_pos (n := c) hd
  refine rdp_eq (Int.mul_pos p1 p2) (Int.mul_pos hb hd) ?_
  generalize (rdp a b).1 = x at *
  generalize (rdp a b).2 = y at *
  generalize (rdp c d).1 = z at *
  generalize (rdp c d).2 = w at *
  grind
theorem rdp_times {a b c d : Int} (hb : 0 < b) (hd : 0 < d) : rdp ((rdp a b).1 * (rdp c d).1) ((rdp a b).2 * (rdp c d).2) = rdp (a * c) (b * d) := by
  have h1 := rdp_cross (n := a) hb
  have h2 := rdp_cross (n := c) hd
  have p1 := rdp_pos (n := a) hb
  have p2 := rdp_pos (n := c) hd
  refine rdp_eq (Int.mul_pos p1 p2) (Int.mul_pos hb hd) ?_
  generalize (rdp a b).1 = x at *
  generalize (rdp a b).2 = y at *
  generalize (rdp c d).1 = z at *
  generalize (rdp c d).2 = w at *
  grind
def qD (q : Int × Int) : D := .tup [.int q.1, .int q.2]
abbrev qV (a b : Int) : Val := .d (.tup [.int a, .int b])
theorem cmW {a b : Int} {k m : Nat} (ha : a.natAbs < 2 ^ k) (hb : b.natAbs < 2 ^ m) (h0 : 0 < k) (h1 : 0 < m) (h : k + m ≤ 100000) : CMulG a b = True := eq_true (.inr (wide_mul ha hb h0 h1 (by omega)))
section
variable {n d : Int}
theorem gcd_step {a b : Nat} : Nat.gcd a b = Nat.gcd b (a % b) := by
  rw [Nat.gcd_comm a b, Nat.gcd_rec b a, Nat.gcd_comm]
/-- Euclid's way -/
theorem e_llt (hd : 0 < d) (hb : d.natAbs < 2 ^ 8000) : f23 [vI n, vI d] = .ok (.d (qD (rdp n d))) [none, none] := by
  obtain ⟨g, _, _, hg, _, hdg, hb0, _, _, hgg⟩ := rdp_parts (n := n) hd
  obtain ⟨d0, rfl⟩ := Int.eq_ofNat_of_zero_le (show 0 ≤ d by omega)
  have hgd : (Int.gcd n (d0 : Nat) : Nat) ≤ d0 := Nat.le_of_dvd (by omega) (by
    have := Int.gcd_dvd_right n (d0 : Nat)
    omega)
  (unfold f23; generalize hr_ : fnD _ _ _ _ = r_; revert r_; refine fn_R fun R hR => ?_; unfold m23; simp only [List.map_cons, List.map_nil, List.replicate, Nat.reduceSub, List.cons_append, List.nil_append])
  (refine sq_any (by push_cast [q_ok]; (first | done | rfl)) ?_; (first | refine go_nx' ?_ | refine go_rt' ?_ | refine go_err' ?_))
  unfold l23_1 b23_0
  refine sq_while (fun (x : Nat × Nat) => [some (vI n), some (vI (d0 : Nat)), some (vI (x.1 : Nat)), some (vI (x.2 : Nat))]) (fun x => Nat.gcd x.1 x.2 = Int.gcd n (d0 : Nat)) (fun x => x.2) (n.natAbs, d0) (by rfl) (by rfl) ?_
  rintro ⟨a, b⟩ hI
  dsimp only at hI ⊢
  by_cases hb1 : 0 < b
  · have hb2 : (0 : Int) < (b : Int) := by omega
    refine .inr ⟨[some (vI n), some (vI (d0 : Nat)), some (vI (a : Nat)), some (vI (b : Nat))], by push_cast [hb2, decide_true], ?_⟩
    refine as_R fun R' hR' => ?_
    (refine sq_one (by push_cast [hb2, ← Int.natCast_emod]; (first | done | rfl)) ?_)
    refine hR' _ ⟨(b, a % b), rfl, ?_, Nat.mod_lt _ hb1⟩
    show Nat.gcd b (a % b) = _
    rw [← gcd_step, hI]
  · have hb2 : ¬ (0 : Int) < (b : Int) := by omega
    refine .inl ⟨[some (vI n), some (vI (d0 : Nat)), some (vI (a : Nat)), some (vI (b : Nat))], by push_cast [hb2, decide_false], ?_⟩
    have hb3 : b = 0 := by omega
    subst hb3
    rw [Nat.gcd_zero_right] at hI
    subst hI
    have hc : ∀ x : Int, CDivG x (Int.gcd n (d0 : Nat) : Nat) = True := fun x => eq_true (.inr (wide_div (b := 8000) (by rw [hgg]; exact hg) (by
      have : ((Int.gcd n (d0 : Nat) : Nat) : Int).natAbs = Int.gcd n (d0 : Nat) := by omega
      rw [this]
      refine Nat.lt_of_le_of_lt hgd ?_
      simpa using hb) (by omega) (by omega)))
    (refine sq_one (by push_cast [hc, z2]; (first | done | rfl)) ?_)
    (refine hR _ ?_; simp only [q_finRt, q_finSl, q_finNx, q_finErr, backs, bk1, List.drop_succ_cons, List.drop_zero, List.drop_nil, List.replicate, Nat.reduceSub, List.getElem?_cons_zero, qD, rdp])
end
end Kx

namespace Kx
open PySem PySem.Spec PyProof.Rows L2 DD
open Classical
local macro_rules
  | `(tactic| push_cast [$a,*]) => `(tactic| simp only [q_mulG, q_mulGI, q_mulGL, q_divG, q_augS, q_fAddI, q_fSubI, q_fMulI, q_augX, q_augL, q_orV, q_ttup, q_par, q_mulX, q_mulXT, q_aug, q_fAdd, q_raise, q_try, q_tryRt, q_tryNx, q_tryErr, q_tupDw, q_rgIt1, q_rgIt2, q_rgIt3, q_chain, q_slLH, q_ok, q_err, q_stuck, q_okS, q_errS, q_stuckS, q_nx, q_rt, q_bk, q_ct, q_errN, q_bind, q_thenS, q_seq, q_if, q_ret, q_retN, q_expr, q_pass, q_no, q_brk, q_cnt, q_asg, q_setD, q_setL, q_setF, q_var, q_c, q_mret, q_rdv, q_rds, q_rdDv, q_rdDs, q_n1, q_n2, q_n3, q_n4, q_n5, q_ownv, q_owns, q_op2, q_op1, q_fin2, q_fin1, q_sub, q_neg, q_div, q_mod, q_add, q_addI, q_addL, q_addT, q_mul, q_mulI, q_mulL, q_cmp, q_ii, q_true, q_tru, q_finT, q_tbl, q_tint, q_tlst, q_not, q_and, q_or, q_mif, q_ix, q_ixT, q_ixP, q_ixL, q_ixF, q_args0, q_args1, q_tup, q_lst, q_rdDs0, q_rdDs1, q_call1, q_call2, q_abs, q_int, q_lenT, q_lenP, q_lenL, q_lenF, q_tupT, q_tupL, q_lstT, q_lstL, q_max, q_min, q_mut, q_mkF, q_mkT, q_store, q_gtup, q_gpt, q_each0, q_each1, q_append, q_pop, q_isa, q_finV, q_gisa, q_back, q_mint, q_asI, q_slL, q_slH, q_svT, q_svL, q_svF, q_rg1, q_rg2, q_lrg, q_trg, q_andV, q_notV, q_callD, List.set_cons_zero, List.set_cons_succ, List.getElem?_cons_zero, List.getElem?_cons_succ, List.getElem?_nil, List.length_cons, List.length_nil, List.length_set, List.length_map, List.length_append, List.filterMap_cons, List.filterMap_nil, List.map_nil, List.map_cons, List.append_nil, List.nil_append, List.cons_append, reduceIte, Bool.not_true, Bool.not_false, Bool.false_eq_true, Nat.reduceAdd, Nat.zero_add, Nat.reduceEqDiff, argsIn, argIn, lsl, takeE, giveE, give1, List.nodup_cons, List.mem_cons, List.not_mem_nil, or_false, Nat.reduceEqDiff, Nat.succ_ne_self, not_false_eq_true, List.nodup_nil, and_self, $a,*])
  | `(tactic| push_cast [$a,*] at $h) => `(tactic| simp only [q_mulG, q_mulGI, q_mulGL, q_divG, q_augS, q_fAddI, q_fSubI, q_fMulI, q_augX, q_augL, q_orV, q_ttup, q_par, q_mulX, q_mulXT, q_aug, q_fAdd, q_raise, q_try, q_tryRt, q_tryNx, q_tryErr, q_tupDw, q_rgIt1, q_rgIt2, q_rgIt3, q_chain, q_slLH, q_ok, q_err, q_stuck, q_okS, q_errS, q_stuckS, q_nx, q_rt, q_bk, q_ct, q_errN, q_bind, q_thenS, q_seq, q_if, q_ret, q_retN, q_expr, q_pass, q_no, q_brk, q_cnt, q_asg, q_setD, q_setL, q_setF, q_var, q_c, q_mret, q_rdv, q_rds, q_rdDv, q_rdDs, q_n1, q_n2, q_n3, q_n4, q_n5, q_ownv, q_owns, q_op2, q_op1, q_fin2, q_fin1, q_sub, q_neg, q_div, q_mod, q_add, q_addI, q_addL, q_addT, q_mul, q_mulI, q_mulL, q_cmp, q_ii, q_true, q_tru, q_finT, q_tbl, q_tint, q_tlst, q_not, q_and, q_or, q_mif, q_ix, q_ixT, q_ixP, q_ixL, q_ixF, q_args0, q_args1, q_tup, q_lst, q_rdDs0, q_rdDs1, q_call1, q_call2, q_abs, q_int, q_lenT, q_lenP, q_lenL, q_lenF, q_tupT, q_tupL, q_lstT, q_lstL, q_max, q_min, q_mut, q_mkF, q_mkT, q_store, q_gtup, q_gpt, q_each0, q_each1, q_append, q_pop, q_isa, q_finV, q_gisa, q_back, q_mint, q_asI, q_slL, q_slH, q_svT, q_svL, q_svF, q_rg1, q_rg2, q_lrg, q_trg, q_andV, q_notV, q_callD, List.set_cons_zero, List.set_cons_succ, List.getElem?_cons_zero, List.getElem?_cons_succ, List.getElem?_nil, List.length_cons, List.length_nil, List.length_set, List.length_map, List.length_append, List.filterMap_cons, List.filterMap_nil, List.map_nil, List.map_cons, List.append_nil, List.nil_append, List.cons_append, reduceIte, Bool.not_true, Bool.not_false, Bool.false_eq_true, Nat.reduceAdd, Nat.zero_add, Nat.reduceEqDiff, argsIn, argIn, lsl, takeE, giveE, give1, List.nodup_cons, List.mem_cons, List.not_mem_nil, or_false, Nat.reduceEqDiff, Nat.succ_ne_self, not_false_eq_true, List.nodup_nil, and_self, $a,*] at $h)
section
variable {n d a b c : Int}
def sgn (d : Int) : Int := if d < 0 then -1 else 1
theorem sgn_abs {d : Int} : sgn d * d = (d.natAbs : Int) := by
  unfold sgn
  split <;> omega
theorem sgn_gcd {n d : Int} : Int.gcd (sgn d * n) (d.natAbs : Int) = Int.gcd n d := by
  have h1 : (sgn d * n).natAbs = n.natAbs := by
    unfold sgn
    split <;> omega
  unfold Int.gcd
  rw [h1]
  rfl
theorem e_lt (hd : d ≠ 0) (hb : d.natAbs < 2 ^ 8000) : f12 [vI n, vI d] = .ok (.d (qD (rdp (sgn d * n) (d.natAbs : Int)))) [none, none] := by
  obtain ⟨g, _, _, hg, _, hdg, hb0, _, _, hgg⟩ := rdp_parts (n := sgn d * n) (d := (d.natAbs : Int)) (by omega)
  rw [sgn_gcd] at hgg
  have hgd : (Int.gcd n d : Nat) ≤ d.natAbs := Nat.le_of_dvd (by omega) (by
    have := Int.gcd_dvd_right n d
    exact Int.natAbs_dvd_natAbs.mpr this |> fun h => by simpa using h)
  (unfold f12; generalize hr_ : fnD _ _ _ _ = r_; revert r_; refine fn_R fun R hR => ?_; unfold m12; simp only [List.map_cons, List.map_nil, List.replicate, Nat.reduceSub, List.cons_append, List.nil_append])
  (refine sq_any (by push_cast [q_ok]; (first | done | rfl)) ?_; (first | refine go_nx' ?_ | refine go_rt' ?_ | refine go_err' ?_))
  unfold l12_1 b12_0
  refine sq_while (fun (x : Nat × Nat) => [some (vI n), some (vI d), none, some (vI (x.1 : Nat)), some (vI (x.2 : Nat))]) (fun x => Nat.gcd x.1 x.2 = Int.gcd n d) (fun x => x.2) (n.natAbs, d.natAbs) (by rfl) (by rfl) ?_
  rintro ⟨a, b⟩ hI
  dsimp only at hI ⊢
  by_cases hb1 : 0 < b
  · have hb2 : (0 : Int) < (b : Int) := by omega
    refine .inr ⟨[some (vI n), some (vI d), none, some (vI (a : Nat)), some (vI (b : Nat))], by push_cast [hb2, decide_true], ?_⟩
    refine as_R fun R' hR' => ?_
    (refine sq_one (by push_cast [hb2, ← Int.natCast_emod]; (first | done | rfl)) ?_)
    refine hR' _ ⟨(b, a % b), rfl, ?_, Nat.mod_lt _ hb1⟩
    show Nat.gcd b (a % b) = _
    rw [← gcd_step, hI]
  · have hb2 : ¬ (0 : Int) < (b : Int) := by omega
    refine .inl ⟨[some (vI n), some (vI d), none, some (vI (a : Nat)), some (vI (b : Nat))], by push_cast [hb2, decide_false], ?_⟩
    have hb3 : b = 0 := by omega
    subst hb3
    rw [Nat.gcd_zero_right] at hI
    subst hI
    have hc : ∀ x : Int, CDivG x (Int.gcd n d : Nat) = True := fun x => eq_true (.inr (wide_div (b := 8000) (by rw [hgg]; exact hg) (by
      have : ((Int.gcd n d : Nat) : Int).natAbs = Int.gcd n d := by omega
      rw [this]
      exact Nat.lt_of_le_of_lt hgd hb) (by omega) (by omega)))
    have cm : ∀ y : Int, CMulG (sgn d) y = True := fun y => eq_true (.inl (.inl (by unfold sgn; split <;> exact ⟨by omega, by omega⟩)))
    have hs : (if decide (d < 0) = true then (-1 : Int) else 1) = sgn d := by unfold sgn; simp
    refine sq (η' := [some (vI n), some (vI d), some (vI (sgn d)), some (vI (Int.gcd n d : Nat)), some (vI (0 : Nat))]) ?_ ?_
    · by_cases q : d < 0
      · have e : sgn d = -1 := by unfold sgn; rw [if_pos q]
        rw [e]
        push_cast [q, decide_true]
      · have e : sgn d = 1 := by unfold sgn; rw [if_neg q]
        rw [e]
        push_cast [q, decide_false]
    (refine sq_one (by push_cast [hc, cm, z2]; (first | done | rfl)) ?_)
    refine hR _ ?_
    simp only [q_finRt, q_finSl, q_finNx, q_finErr, backs, bk1, List.drop_succ_cons, List.drop_zero, List.drop_nil, List.replicate, Nat.reduceSub, List.getElem?_cons_zero, List.getElem?_cons_succ, qD, rdp, sgn_gcd, sgn_abs]
theorem pow_bd {k p : Nat} (h : a.natAbs ≤ 2 ^ k) : (a ^ p).natAbs ≤ 2 ^ (k * p) := by
  rw [Int.natAbs_pow, Nat.pow_mul]
  exact Nat.pow_le_pow_left h p
theorem e_pow {p : Nat} (h : a.natAbs < 2 ^ 64) (hp : p < 1000) : f10 [vI a, vI (p : Nat)] = .ok (vI (a ^ p)) [none, none] := by
  (unfold f10; generalize hr_ : fnD _ _ _ _ = r_; revert r_; refine fn_R fun R hR => ?_; unfold m10; simp only [List.map_cons, List.map_nil, List.replicate, Nat.reduceSub, List.cons_append, List.nil_append])
  (refine sq_any (by push_cast [q_ok]; (first | done | rfl)) ?_; (first | refine go_nx' ?_ | refine go_rt' ?_ | refine go_err' ?_))
  unfold l10_1 b10_0
  refine sq_for (it := { items := rgD 0 p }) (fun (x : Int × Option Val) => [some (vI a), some (vI (p : Nat)), some (vI x.1), x.2]) (fun j x => x.1 = a ^ j) (1, none) (by push_cast [q_rg, rg_i hp]) rfl (by simp) ?_ ?_
  · rintro j x ⟨t, u⟩ hx ht
    dsimp only at ht
    obtain ⟨hj, rfl⟩ := rg_get hx
    have cm : CMul t a = True := eq_true (.inr ⟨by omega, by omega⟩)
    refine ⟨[some (vI a), some (vI (p : Nat)), some (vI t), some (vI (j : Nat))], by push_cast [q_ok], ?_⟩
    refine as_R fun R' hR' => ?_
    (refine sq_one (by push_cast [cm]; (first | done | rfl)) ?_)
    refine hR' _ ⟨(t * a, _), rfl, ?_⟩
    dsimp only
    rw [ht, Int.pow_succ]
  · rintro ⟨t, u⟩ ht
    dsimp only at ht
    rw [show ({ items := rgD 0 p } : ItD).items.length = p from rgD_len] at ht
    subst ht
    (refine sq_one (by push_cast [q_ok]; (first | done | rfl)) ?_)
    (refine hR _ ?_; simp only [q_finRt, q_finSl, q_finNx, q_finErr, backs, bk1, List.drop_succ_cons, List.drop_zero, List.drop_nil, List.replicate, Nat.reduceSub, List.getElem?_cons_zero, List.getElem?_cons_succ])
theorem na_mul {k m : Nat} (ha : a.natAbs < 2 ^ k) (hb : b.natAbs < 2 ^ m) : (a * b).natAbs < 2 ^ (k + m) := wide_lt ha hb
theorem na_add {k : Nat} (ha : a.natAbs < 2 ^ k) (hb : b.natAbs < 2 ^ k) : (a + b).natAbs < 2 ^ (k + 1) := by
  have := Int.natAbs_add_le a b
  rw [Nat.pow_succ]
  omega
theorem e_plus (hb : 0 < b) (hd : 0 < d) (h1 : a.natAbs < 2 ^ 2000) (h2 : b.natAbs < 2 ^ 2000) (h3 : c.natAbs < 2 ^ 2000) (h4 : d.natAbs < 2 ^ 2000) :
    f24 [.d (qD (rdp a b)), .d (qD (rdp c d))] = .ok (.d (qD (rdp (a * d + c * b) (b * d)))) [none, none] := by
  obtain ⟨q1, q2⟩ := rdp_le (n := a) hb
  obtain ⟨q3, q4⟩ := rdp_le (n := c) hd
  have p1 := rdp_pos (n := a) hb
  have p2 := rdp_pos (n := c) hd
  have e := rdp_plus (a := a) (c := c) hb hd
  have b1 := Nat.lt_of_le_of_lt q1 h1
  have b2 := Nat.lt_of_le_of_lt q2 h2
  have b3 := Nat.lt_of_le_of_lt q3 h3
  have b4 := Nat.lt_of_le_of_lt q4 h4
  unfold qD
  generalize (rdp a b).1 = x at *
  generalize (rdp a b).2 = y at *
  generalize (rdp c d).1 = z at *
  generalize (rdp c d).2 = w at *
  have cm1 := cmW b1 b4 (by omega) (by omega) (by omega)
  have cm2 := cmW b3 b2 (by omega) (by omega) (by omega)
  have cm3 := cmW b2 b4 (by omega) (by omega) (by omega)
  have m3 := na_mul b2 b4
  have h := e_llt (n := x * w + z * y) (d := y * w) (Int.mul_pos p1 p2) (Nat.lt_of_lt_of_le m3 (Nat.pow_le_pow_right (by omega) (by omega)))
  rw [e] at h
  unfold qD at h
  (unfold f24 fnD m24; generalize f23 = Gf23 at *; as_aux_lemma => push_cast [q_finRt, q_finSl, q_finNx, q_finErr, backs, bk1, List.drop_succ_cons, List.drop_zero, List.drop_nil, List.replicate, Nat.reduceSub, List.getElem?_cons_zero, List.getElem?_cons_succ, a0, a1, cm1, cm2, cm3, h])
theorem e_times (hb : 0 < b) (hd : 0 < d) (h1 : a.natAbs < 2 ^ 2000) (h2 : b.natAbs < 2 ^ 2000) (h3 : c.natAbs < 2 ^ 2000) (h4 : d.natAbs < 2 ^ 2000) :
    f25 [.d (qD (rdp a b)), .d (qD (rdp c d))] = .ok (.d (qD (rdp (a * c) (b * d)))) [none, none] := by
  obtain ⟨q1, q2⟩ := rdp_le (n := a) hb
  obtain ⟨q3, q4⟩ := rdp_le (n := c) hd
  have p1 := rdp_pos (n := a) hb
  have p2 := rdp_pos (n := c) hd
  have e := rdp_times (a := a) (c := c) hb hd
  have b1 := Nat.lt_of_le_of_lt q1 h1
  have b2 := Nat.lt_of_le_of_lt q2 h2
  have b3 := Nat.lt_of_le_of_lt q3 h3
  have b4 := Nat.lt_of_le_of_lt q4 h4
  unfold qD
  generalize (rdp a b).1 = x at *
  generalize (rdp a b).2 = y at *
  generalize (rdp c d).1 = z at *
  generalize (rdp c d).2 = w at *
  have cm1 := cmW b1 b3 (by omega) (by omega) (by omega)
  have cm3 := cmW b2 b4 (by omega) (by omega) (by omega)
  have m3 := na_mul b2 b4
  have h := e_llt (n := x * z) (d := y * w) (Int.mul_pos p1 p2) (Nat.lt_of_lt_of_le m3 (Nat.pow_le_pow_right (by omega) (by omega)))
  rw [e] at h
  unfold qD at h
  (unfold f25 fnD m25; generalize f23 = Gf23 at *; as_aux_lemma => push_cast [q_finRt, q_finSl, q_finNx, q_finErr, backs, bk1, List.drop_succ_cons, List.drop_zero, List.drop_nil, List.replicate, Nat.reduceSub, List.getElem?_cons_zero, List.getElem?_cons_succ, a0, a1, cm1, cm3, h])
end
/-! the sums -/
def tps (o u : Int) (g : Nat) : List Int → Nat → Int
  | [], _ => 0
  | c :: r, p => c * o ^ p * u ^ (g - p) + tps o u g r (p + 1)
theorem tps_snoc {o u : Int} {g : Nat} : ∀ {xs : List Int} {p : Nat} {c : Int}, tps o u g (xs ++ [c]) p = tps o u g xs p + c * o ^ (p + xs.length) * u ^ (g - (p + xs.length))
  | [], p, c => by simp [tps]
  | x :: xs, p, c => by
    rw [List.cons_append]
    unfold tps
    rw [tps_snoc, List.length_cons, show p + 1 + xs.length = p + (xs.length + 1) by omega]
    omega
theorem tps_up {o u : Int} {g : Nat} : ∀ {xs : List Int} {p : Nat}, p + xs.length ≤ g + 1 → tps o u (g + 1) xs p = u * tps o u g xs p
  | [], p, _ => by simp [tps]
  | x :: xs, p, h => by
    rw [List.length_cons] at h
    unfold tps
    rw [tps_up (by omega), show g + 1 - p = (g - p) + 1 by omega, Int.pow_succ]
    grind
theorem pow_le2 {k m : Nat} (h : k ≤ m) : (2 : Nat) ^ k ≤ 2 ^ m := Nat.pow_le_pow_right (by omega) h
theorem tps_bd {o u : Int} {g k : Nat} (ho : o.natAbs ≤ 2 ^ k) (hu : u.natAbs ≤ 2 ^ k) : ∀ {xs : List Int} {p : Nat}, (∀ x ∈ xs, -1000000 ≤ x ∧ x ≤ 1000000) → p + xs.length ≤ g + 1 → (tps o u g xs p).natAbs ≤ xs.length * 2 ^ (20 + k * g)
  | [], p, _, _ => by simp [tps]
  | x :: xs, p, h, hl => by
    rw [List.length_cons] at hl
    unfold tps
    have ih := tps_bd (g := g) ho hu (xs := xs) (p := p + 1) (fun y hy => h y (List.mem_cons_of_mem _ hy)) (by omega)
    have hx := h x List.mem_cons_self
    have h1 : x.natAbs ≤ 2 ^ 20 := by
      have : (2 : Nat) ^ 20 = 1048576 := by decide
      omega
    have h2 := pow_bd (p := p) ho
    have h3 := pow_bd (p := g - p) hu
    have h4 : (x * o ^ p * u ^ (g - p)).natAbs ≤ 2 ^ (20 + k * g) := by
      rw [Int.natAbs_mul, Int.natAbs_mul]
      have e : 20 + k * g = 20 + k * p + k * (g - p) := by
        rw [Nat.add_assoc, ← Nat.mul_add]
        congr 2
        omega
      rw [e, Nat.pow_add, Nat.pow_add]
      exact Nat.mul_le_mul (Nat.mul_le_mul h1 h2) h3
    have h5 := Int.natAbs_add_le (x * o ^ p * u ^ (g - p)) (tps o u g xs (p + 1))
    rw [List.length_cons, Nat.add_mul, Nat.one_mul]
    omega
end Kx

namespace Kx
open PySem PySem.Spec PyProof.Rows L2 DD
open Classical
local macro_rules
  | `(tactic| push_cast [$a,*]) => `(tactic| simp only [q_mulG, q_mulGI, q_mulGL, q_divG, q_augS, q_fAddI, q_fSubI, q_fMulI, q_augX, q_augL, q_orV, q_ttup, q_par, q_mulX, q_mulXT, q_aug, q_fAdd, q_raise, q_try, q_tryRt, q_tryNx, q_tryErr, q_tupDw, q_rgIt1, q_rgIt2, q_rgIt3, q_chain, q_slLH, q_ok, q_err, q_stuck, q_okS, q_errS, q_stuckS, q_nx, q_rt, q_bk, q_ct, q_errN, q_bind, q_thenS, q_seq, q_if, q_ret, q_retN, q_expr, q_pass, q_no, q_brk, q_cnt, q_asg, q_setD, q_setL, q_setF, q_var, q_c, q_mret, q_rdv, q_rds, q_rdDv, q_rdDs, q_n1, q_n2, q_n3, q_n4, q_n5, q_ownv, q_owns, q_op2, q_op1, q_fin2, q_fin1, q_sub, q_neg, q_div, q_mod, q_add, q_addI, q_addL, q_addT, q_mul, q_mulI, q_mulL, q_cmp, q_ii, q_true, q_tru, q_finT, q_tbl, q_tint, q_tlst, q_not, q_and, q_or, q_mif, q_ix, q_ixT, q_ixP, q_ixL, q_ixF, q_args0, q_args1, q_tup, q_lst, q_rdDs0, q_rdDs1, q_call1, q_call2, q_abs, q_int, q_lenT, q_lenP, q_lenL, q_lenF, q_tupT, q_tupL, q_lstT, q_lstL, q_max, q_min, q_mut, q_mkF, q_mkT, q_store, q_gtup, q_gpt, q_each0, q_each1, q_append, q_pop, q_isa, q_finV, q_gisa, q_back, q_mint, q_asI, q_slL, q_slH, q_svT, q_svL, q_svF, q_rg1, q_rg2, q_lrg, q_trg, q_andV, q_notV, q_callD, List.set_cons_zero, List.set_cons_succ, List.getElem?_cons_zero, List.getElem?_cons_succ, List.getElem?_nil, List.length_cons, List.length_nil, List.length_set, List.length_map, List.length_append, List.filterMap_cons, List.filterMap_nil, List.map_nil, List.map_cons, List.append_nil, List.nil_append, List.cons_append, reduceIte, Bool.not_true, Bool.not_false, Bool.false_eq_true, Nat.reduceAdd, Nat.zero_add, Nat.reduceEqDiff, argsIn, argIn, lsl, takeE, giveE, give1, List.nodup_cons, List.mem_cons, List.not_mem_nil, or_false, Nat.reduceEqDiff, Nat.succ_ne_self, not_false_eq_true, List.nodup_nil, and_self, $a,*])
  | `(tactic| push_cast [$a,*] at $h) => `(tactic| simp only [q_mulG, q_mulGI, q_mulGL, q_divG, q_augS, q_fAddI, q_fSubI, q_fMulI, q_augX, q_augL, q_orV, q_ttup, q_par, q_mulX, q_mulXT, q_aug, q_fAdd, q_raise, q_try, q_tryRt, q_tryNx, q_tryErr, q_tupDw, q_rgIt1, q_rgIt2, q_rgIt3, q_chain, q_slLH, q_ok, q_err, q_stuck, q_okS, q_errS, q_stuckS, q_nx, q_rt, q_bk, q_ct, q_errN, q_bind, q_thenS, q_seq, q_if, q_ret, q_retN, q_expr, q_pass, q_no, q_brk, q_cnt, q_asg, q_setD, q_setL, q_setF, q_var, q_c, q_mret, q_rdv, q_rds, q_rdDv, q_rdDs, q_n1, q_n2, q_n3, q_n4, q_n5, q_ownv, q_owns, q_op2, q_op1, q_fin2, q_fin1, q_sub, q_neg, q_div, q_mod, q_add, q_addI, q_addL, q_addT, q_mul, q_mulI, q_mulL, q_cmp, q_ii, q_true, q_tru, q_finT, q_tbl, q_tint, q_tlst, q_not, q_and, q_or, q_mif, q_ix, q_ixT, q_ixP, q_ixL, q_ixF, q_args0, q_args1, q_tup, q_lst, q_rdDs0, q_rdDs1, q_call1, q_call2, q_abs, q_int, q_lenT, q_lenP, q_lenL, q_lenF, q_tupT, q_tupL, q_lstT, q_lstL, q_max, q_min, q_mut, q_mkF, q_mkT, q_store, q_gtup, q_gpt, q_each0, q_each1, q_append, q_pop, q_isa, q_finV, q_gisa, q_back, q_mint, q_asI, q_slL, q_slH, q_svT, q_svL, q_svF, q_rg1, q_rg2, q_lrg, q_trg, q_andV, q_notV, q_callD, List.set_cons_zero, List.set_cons_succ, List.getElem?_cons_zero, List.getElem?_cons_succ, List.getElem?_nil, List.length_cons, List.length_nil, List.length_set, List.length_map, List.length_append, List.filterMap_cons, List.filterMap_nil, List.map_nil, List.map_cons, List.append_nil, List.nil_append, List.cons_append, reduceIte, Bool.not_true, Bool.not_false, Bool.false_eq_true, Nat.reduceAdd, Nat.zero_add, Nat.reduceEqDiff, argsIn, argIn, lsl, takeE, giveE, give1, List.nodup_cons, List.mem_cons, List.not_mem_nil, or_false, Nat.reduceEqDiff, Nat.succ_ne_self, not_false_eq_true, List.nodup_nil, and_self, $a,*] at $h)
/-! values -/
/-- numbers that are small enough -/
structure Vb (l : Int) (fs : List Int) (o u : Int) (k : Nat) : Prop where
  p : Pl l fs
  o0 : o ≠ 0
  ob : o.natAbs ≤ 2 ^ k
  u0 : 0 < u
  ub : u.natAbs ≤ 2 ^ k
  k20 : k ≤ 20
  n : k * (fs.length + l.natAbs) ≤ 800
theorem e_ltM {n d : Int} {M : Nat} (hd : d ≠ 0) (hb : d.natAbs < 2 ^ M) (hM : M ≤ 8000) : f12 [vI n, vI d] = .ok (.d (qD (rdp (sgn d * n) (d.natAbs : Int)))) [none, none] := e_lt hd (Nat.lt_of_lt_of_le hb (Nat.pow_le_pow_right (by omega) hM))
def vN (l : Int) (fs : List Int) (o u : Int) : Int := tps o u (fs.length - 1) fs 0 * (if 0 ≤ l then o ^ l.natAbs else u ^ l.natAbs)
def vM (l : Int) (fs : List Int) (o u : Int) : Int := u ^ (fs.length - 1) * (if 0 ≤ l then u ^ l.natAbs else o ^ l.natAbs)
def val (l : Int) (fs : List Int) (o u : Int) : Int × Int := rdp (sgn (vM l fs o u) * vN l fs o u) ((vM l fs o u).natAbs : Int)
section
variable {l o u : Int} {fs : List Int} {k : Nat}
theorem Vb.small (h : Vb l fs o u k) : o.natAbs < 2 ^ 64 ∧ u.natAbs < 2 ^ 64 := by
  have := pow_le2 h.k20
  have e : (2 : Nat) ^ 20 = 1048576 := by decide
  have e2 : (2 : Nat) ^ 64 = 18446744073709551616 := by decide
  have := h.ob
  have := h.ub
  omega
theorem lt_le {a : Int} {m n : Nat} (h : a.natAbs ≤ 2 ^ m) (hn : m < n) : a.natAbs < 2 ^ n := Nat.lt_of_le_of_lt h (Nat.pow_lt_pow_right (by omega) hn)
theorem Vb.pw (h : Vb l fs o u k) {p : Nat} (hp : p ≤ fs.length + l.natAbs) : k * p ≤ 800 := Nat.le_trans (Nat.mul_le_mul_left k hp) h.n
theorem Vb.tb (h : Vb l fs o u k) {j g : Nat} (hj : j ≤ fs.length) (hg : j ≤ g + 1) (hg2 : g ≤ fs.length) {N : Nat} (hN : 830 ≤ N) : (tps o u g (fs.take j) 0).natAbs < 2 ^ N := by
  have h1 := tps_bd (g := g) (p := 0) h.ob h.ub (xs := fs.take j) (fun x hx => h.p.sm x (List.mem_of_mem_take hx)) (by rw [List.length_take]; omega)
  have h2 := h.pw (p := g) (by omega)
  have h3 := h.p.len
  have h4 : (fs.take j).length ≤ 2 ^ 7 := by rw [List.length_take]; have : (2 : Nat) ^ 7 = 128 := by decide
                                             omega
  refine Nat.lt_of_le_of_lt (Nat.le_trans h1 (Nat.mul_le_mul_right _ h4)) ?_
  rw [← Nat.pow_add]
  exact Nat.pow_lt_pow_right (by omega) (by omega)
theorem vM_ne (h : Vb l fs o u k) : vM l fs o u ≠ 0 := by
  unfold vM
  have hu : u ≠ 0 := by have := h.u0; omega
  intro z
  rcases Int.mul_eq_zero.mp z with z | z
  · exact Int.pow_ne_zero hu z
  · split at z
    · exact Int.pow_ne_zero hu z
    · exact Int.pow_ne_zero h.o0 z
theorem vM_bd (h : Vb l fs o u k) {N M : Nat} (h3 : 800 < N) (h4 : N + N ≤ M) : (vM l fs o u).natAbs < 2 ^ M := by
  unfold vM
  have h1 := pow_bd (p := fs.length - 1) h.ub
  have q1 := h.pw (p := fs.length - 1) (by omega)
  have q2 := h.pw (p := l.natAbs) (by omega)
  have h2 : (if 0 ≤ l then u ^ l.natAbs else o ^ l.natAbs).natAbs ≤ 2 ^ (k * l.natAbs) := by
    split
    · exact pow_bd h.ub
    · exact pow_bd h.ob
  exact Nat.lt_of_lt_of_le (na_mul (lt_le h1 (n := N) (by omega)) (lt_le h2 (n := N) (by omega))) (pow_le2 h4)
abbrev S5v := Int × Option Val × Option Val
theorem e_vat (h : Vb l fs o u k) : f11 [pV l fs, vI o, vI u] = .ok (.d (qD (val l fs o u))) [none, none, none] := by
  have zz := z100k
  have hlen := h.p.len
  obtain ⟨so, su⟩ := h.small
  have hpo := fun (p : Nat) (hp : p < 1000) => e_pow (a := o) (p := p) so hp
  have hpu := fun (p : Nat) (hp : p < 1000) => e_pow (a := u) (p := p) su hp
  obtain ⟨N, hN1, hN2⟩ : ∃ N : Nat, 840 ≤ N ∧ N ≤ 850 := ⟨850, by omega, by omega⟩
  have hfin := e_ltM (n := vN l fs o u) (vM_ne h) (vM_bd h (N := N) (M := N + N) (by omega) (Nat.le_refl _)) (by omega)
  (unfold f11; generalize hr_ : fnD _ _ _ _ = r_; revert r_; refine fn_R fun R hR => ?_; unfold m11; simp only [List.map_cons, List.map_nil, List.replicate, Nat.reduceSub, List.cons_append, List.nil_append])
  unfold l11_1 b11_0
  generalize f10 = P at *
  generalize f12 = Q at *
  as_aux_lemma =>
    (refine sq_any (by push_cast [a1]; (first | done | rfl)) ?_; (first | refine go_nx' ?_ | refine go_rt' ?_ | refine go_err' ?_))
    (refine sq_any (by push_cast [q_ok]; (first | done | rfl)) ?_; (first | refine go_nx' ?_ | refine go_rt' ?_ | refine go_err' ?_))
    refine sq_for (it := { items := enD 0 (fs.map D.int), src := fs.map D.int, tup := true }) (fun (x : Int × Option Val × Option Val) => [some (pV l fs), some (vI o), some (vI u), some (vI ((fs.length : Int) - 1)), some (vI x.1), none, x.2.1, x.2.2]) (fun j x => x.1 = tps o u (fs.length - 1) (fs.take j) 0) (0, none, none) (by push_cast [a1]; rfl) rfl (by simp [tps]) ?_ ?_
    · rintro j x ⟨t, a, b⟩ hx ht
      dsimp only at ht
      obtain ⟨y, hy, rfl⟩ := get_en hx
      obtain ⟨v, hv, rfl⟩ := get_ints hy
      have hj := (List.getElem?_eq_some_iff.mp hv).1
      refine ⟨[some (pV l fs), some (vI o), some (vI u), some (vI ((fs.length : Int) - 1)), some (vI t), none, some (vI (j : Nat)), some (vI v)], by push_cast [q_ok], ?_⟩
      refine as_R fun R' hR' => ?_
      have e : (fs.length : Int) - 1 - (j : Int) = ((fs.length - 1 - j : Nat) : Int) := by omega
      have h1 := hpo j (by omega)
      have h2 := hpu (fs.length - 1 - j) (by omega)
      have hvs := h.p.sm v (List.mem_of_getElem? hv)
      have c1 : CMulG v (o ^ j) = True := eq_true (.inl (.inl ⟨by omega, by omega⟩))
      have bo := pow_bd (p := j) h.ob
      have bu := pow_bd (p := fs.length - 1 - j) h.ub
      have q1 := h.pw (p := j) (by omega)
      have q2 := h.pw (p := fs.length - 1 - j) (by omega)
      have bv : v.natAbs < 2 ^ 20 := by
        have : (2 : Nat) ^ 20 = 1048576 := by decide
        omega
      have c2 := cmW (na_mul bv (lt_le bo (n := N) (by omega))) (lt_le bu (n := N) (by omega)) (by omega) (by omega) (by omega)
      have nx : tps o u (fs.length - 1) (fs.take (j + 1)) 0 = t + v * o ^ j * u ^ (fs.length - 1 - j) := by
        rw [take_snoc hv, tps_snoc, ← ht, List.length_take, Nat.min_eq_left (by omega), Nat.zero_add]
      refine sq_one (o := .nx [some (pV l fs), some (vI o), some (vI u), some (vI ((fs.length : Int) - 1)), some (vI (t + v * o ^ j * u ^ (fs.length - 1 - j))), none, some (vI (j : Nat)), some (vI v)]) ?_ ?_
      · as_aux_lemma => push_cast [h1, e, h2, c1, c2]
      · exact hR' _ ⟨(t + v * o ^ j * u ^ (fs.length - 1 - j), _, _), rfl, nx.symm⟩
    · rintro ⟨t, a, b⟩ ht
      dsimp only at ht
      rw [show ({ items := enD 0 (fs.map D.int), src := fs.map D.int, tup := true } : ItD).items.length = fs.length by simp [enD_len]] at ht
      have tb := h.tb (j := fs.length) (g := fs.length - 1) (Nat.le_refl _) (by omega) (by omega) (N := N) (by omega)
      rw [← ht] at tb
      rw [List.take_length] at ht
      have em : (if (0 : Int) < (fs.length : Int) - 1 then (fs.length : Int) - 1 else 0) = ((fs.length - 1 : Nat) : Int) := by split <;> omega
      have h1 := hpu (fs.length - 1) (by omega)
      have bu := pow_bd (p := fs.length - 1) h.ub
      have q1 := h.pw (p := fs.length - 1) (by omega)
      have q2 := h.pw (p := l.natAbs) (by omega)
      have bl := h.p.hi
      have bl2 := h.p.lo
      (refine sq_any (by push_cast [em, h1]; (first | done | rfl)) ?_; (first | refine go_nx' ?_ | refine go_rt' ?_ | refine go_err' ?_))
      have bo2 := pow_bd (p := l.natAbs) h.ob
      have bu2 := pow_bd (p := l.natAbs) h.ub
      have ho2 := hpo l.natAbs (by omega)
      have hu2 := hpu l.natAbs (by omega)
      have c1 := cmW tb (lt_le bo2 (n := N) (by omega)) (by omega) (by omega) (by omega)
      have c2 := cmW (lt_le bu (n := N) (by omega)) (lt_le bu2 (n := N) (by omega)) (by omega) (by omega) (by omega)
      have c3 := cmW tb (lt_le bu2 (n := N) (by omega)) (by omega) (by omega) (by omega)
      have c4 := cmW (lt_le bu (n := N) (by omega)) (lt_le bo2 (n := N) (by omega)) (by omega) (by omega) (by omega)
      by_cases hl : 0 ≤ l
      · have el : ((l.natAbs : Nat) : Int) = l := by omega
        unfold vN vM at hfin
        rw [if_pos hl, if_pos hl, ← ht] at hfin
        rw [el] at ho2 hu2
        have hv : val l fs o u = rdp (sgn (u ^ (fs.length - 1) * u ^ l.natAbs) * (t * o ^ l.natAbs)) ((u ^ (fs.length - 1) * u ^ l.natAbs).natAbs : Int) := by
          unfold val vN vM
          rw [if_pos hl, if_pos hl, ht]
        rw [← hv] at hfin
        (refine sq_any (by push_cast [a0, hl, decide_true, ho2, hu2, c1, c2, hfin]; (first | done | rfl)) ?_; (first | refine go_nx' ?_ | refine go_rt' ?_ | refine go_err' ?_))
        (refine hR _ ?_; simp only [q_finRt, q_finSl, q_finNx, q_finErr, backs, bk1, List.drop_succ_cons, List.drop_zero, List.drop_nil, List.replicate, Nat.reduceSub, List.getElem?_cons_zero, List.getElem?_cons_succ])
      · have el : ((l.natAbs : Nat) : Int) = -l := by omega
        unfold vN vM at hfin
        rw [if_neg hl, if_neg hl, ← ht] at hfin
        rw [el] at ho2 hu2
        have hv : val l fs o u = rdp (sgn (u ^ (fs.length - 1) * o ^ l.natAbs) * (t * u ^ l.natAbs)) ((u ^ (fs.length - 1) * o ^ l.natAbs).natAbs : Int) := by
          unfold val vN vM
          rw [if_neg hl, if_neg hl, ht]
        rw [← hv] at hfin
        (refine sq_any (by push_cast [a0, hl, decide_false]; (first | done | rfl)) ?_; (first | refine go_nx' ?_ | refine go_rt' ?_ | refine go_err' ?_))
        (refine sq_one (by push_cast [a0, ho2, hu2, c3, c4, hfin]; (first | done | rfl)) ?_)
        (refine hR _ ?_; simp only [q_finRt, q_finSl, q_finNx, q_finErr, backs, bk1, List.drop_succ_cons, List.drop_zero, List.drop_nil, List.replicate, Nat.reduceSub, List.getElem?_cons_zero, List.getElem?_cons_succ])
end
end Kx

namespace Kx
open PySem PySem.Spec PyProof.Rows L2 DD
open Classical
local macro_rules
  | `(tactic| push_cast [$a,*]) => `(tactic| simp only [q_mulG, q_mulGI, q_mulGL, q_divG, q_augS, q_fAddI, q_fSubI, q_fMulI, q_augX, q_augL, q_orV, q_ttup, q_par, q_mulX, q_mulXT, q_aug, q_fAdd, q_raise, q_try, q_tryRt, q_tryNx, q_tryErr, q_tupDw, q_rgIt1, q_rgIt2, q_rgIt3, q_chain, q_slLH, q_ok, q_err, q_stuck, q_okS, q_errS, q_stuckS, q_nx, q_rt, q_bk, q_ct, q_errN, q_bind, q_thenS, q_seq, q_if, q_ret, q_retN, q_expr, q_pass, q_no, q_brk, q_cnt, q_asg, q_setD, q_setL, q_setF, q_var, q_c, q_mret, q_rdv, q_rds, q_rdDv, q_rdDs, q_n1, q_n2, q_n3, q_n4, q_n5, q_ownv, q_owns, q_op2, q_op1, q_fin2, q_fin1, q_sub, q_neg, q_div, q_mod, q_add, q_addI, q_addL, q_addT, q_mul, q_mulI, q_mulL, q_cmp, q_ii, q_true, q_tru, q_finT, q_tbl, q_tint, q_tlst, q_not, q_and, q_or, q_mif, q_ix, q_ixT, q_ixP, q_ixL, q_ixF, q_args0, q_args1, q_tup, q_lst, q_rdDs0, q_rdDs1, q_call1, q_call2, q_abs, q_int, q_lenT, q_lenP, q_lenL, q_lenF, q_tupT, q_tupL, q_lstT, q_lstL, q_max, q_min, q_mut, q_mkF, q_mkT, q_store, q_gtup, q_gpt, q_each0, q_each1, q_append, q_pop, q_isa, q_finV, q_gisa, q_back, q_mint, q_asI, q_slL, q_slH, q_svT, q_svL, q_svF, q_rg1, q_rg2, q_lrg, q_trg, q_andV, q_notV, q_callD, List.set_cons_zero, List.set_cons_succ, List.getElem?_cons_zero, List.getElem?_cons_succ, List.getElem?_nil, List.length_cons, List.length_nil, List.length_set, List.length_map, List.length_append, List.filterMap_cons, List.filterMap_nil, List.map_nil, List.map_cons, List.append_nil, List.nil_append, List.cons_append, reduceIte, Bool.not_true, Bool.not_false, Bool.false_eq_true, Nat.reduceAdd, Nat.zero_add, Nat.reduceEqDiff, argsIn, argIn, lsl, takeE, giveE, give1, List.nodup_cons, List.mem_cons, List.not_mem_nil, or_false, Nat.reduceEqDiff, Nat.succ_ne_self, not_false_eq_true, List.nodup_nil, and_self, $a,*])
  | `(tactic| push_cast [$a,*] at $h) => `(tactic| simp only [q_mulG, q_mulGI, q_mulGL, q_divG, q_augS, q_fAddI, q_fSubI, q_fMulI, q_augX, q_augL, q_orV, q_ttup, q_par, q_mulX, q_mulXT, q_aug, q_fAdd, q_raise, q_try, q_tryRt, q_tryNx, q_tryErr, q_tupDw, q_rgIt1, q_rgIt2, q_rgIt3, q_chain, q_slLH, q_ok, q_err, q_stuck, q_okS, q_errS, q_stuckS, q_nx, q_rt, q_bk, q_ct, q_errN, q_bind, q_thenS, q_seq, q_if, q_ret, q_retN, q_expr, q_pass, q_no, q_brk, q_cnt, q_asg, q_setD, q_setL, q_setF, q_var, q_c, q_mret, q_rdv, q_rds, q_rdDv, q_rdDs, q_n1, q_n2, q_n3, q_n4, q_n5, q_ownv, q_owns, q_op2, q_op1, q_fin2, q_fin1, q_sub, q_neg, q_div, q_mod, q_add, q_addI, q_addL, q_addT, q_mul, q_mulI, q_mulL, q_cmp, q_ii, q_true, q_tru, q_finT, q_tbl, q_tint, q_tlst, q_not, q_and, q_or, q_mif, q_ix, q_ixT, q_ixP, q_ixL, q_ixF, q_args0, q_args1, q_tup, q_lst, q_rdDs0, q_rdDs1, q_call1, q_call2, q_abs, q_int, q_lenT, q_lenP, q_lenL, q_lenF, q_tupT, q_tupL, q_lstT, q_lstL, q_max, q_min, q_mut, q_mkF, q_mkT, q_store, q_gtup, q_gpt, q_each0, q_each1, q_append, q_pop, q_isa, q_finV, q_gisa, q_back, q_mint, q_asI, q_slL, q_slH, q_svT, q_svL, q_svF, q_rg1, q_rg2, q_lrg, q_trg, q_andV, q_notV, q_callD, List.set_cons_zero, List.set_cons_succ, List.getElem?_cons_zero, List.getElem?_cons_succ, List.getElem?_nil, List.length_cons, List.length_nil, List.length_set, List.length_map, List.length_append, List.filterMap_cons, List.filterMap_nil, List.map_nil, List.map_cons, List.append_nil, List.nil_append, List.cons_append, reduceIte, Bool.not_true, Bool.not_false, Bool.false_eq_true, Nat.reduceAdd, Nat.zero_add, Nat.reduceEqDiff, argsIn, argIn, lsl, takeE, giveE, give1, List.nodup_cons, List.mem_cons, List.not_mem_nil, or_false, Nat.reduceEqDiff, Nat.succ_ne_self, not_false_eq_true, List.nodup_nil, and_self, $a,*] at $h)
section
variable {l o u : Int} {fs : List Int} {k : Nat}
theorem e_timesM {a b c d : Int} {M : Nat} (hM : M ≤ 2000) (hb : 0 < b) (hd : 0 < d) (h1 : a.natAbs < 2 ^ M) (h2 : b.natAbs < 2 ^ M) (h3 : c.natAbs < 2 ^ M) (h4 : d.natAbs < 2 ^ M) : f25 [.d (qD (rdp a b)), .d (qD (rdp c d))] = .ok (.d (qD (rdp (a * c) (b * d)))) [none, none] :=
  have q : ∀ {x : Int}, x.natAbs < 2 ^ M → x.natAbs < 2 ^ 2000 := fun h => Nat.lt_of_lt_of_le h (Nat.pow_le_pow_right (by omega) hM)
  e_times hb hd (q h1) (q h2) (q h3) (q h4)
theorem e_plusM {a b c d : Int} {M : Nat} (hM : M ≤ 2000) (hb : 0 < b) (hd : 0 < d) (h1 : a.natAbs < 2 ^ M) (h2 : b.natAbs < 2 ^ M) (h3 : c.natAbs < 2 ^ M) (h4 : d.natAbs < 2 ^ M) : f24 [.d (qD (rdp a b)), .d (qD (rdp c d))] = .ok (.d (qD (rdp (a * d + c * b) (b * d)))) [none, none] :=
  have q : ∀ {x : Int}, x.natAbs < 2 ^ M → x.natAbs < 2 ^ 2000 := fun h => Nat.lt_of_lt_of_le h (Nat.pow_le_pow_right (by omega) hM)
  e_plus hb hd (q h1) (q h2) (q h3) (q h4)
theorem e_lltM {n d : Int} {M : Nat} (hM : M ≤ 2000) (hd : 0 < d) (h : d.natAbs < 2 ^ M) : f23 [vI n, vI d] = .ok (.d (qD (rdp n d))) [none, none] := e_llt hd (Nat.lt_of_lt_of_le h (Nat.pow_le_pow_right (by omega) (by omega)))
def st0 (l o u : Int) : Int := if 0 ≤ l then o else (if 0 < o then 1 else -1) * u
def st1 (l o u : Int) : Int := if 0 ≤ l then u else (if 0 < o then 1 else -1) * o
theorem st_facts (h : Vb l fs o u k) : 0 < st1 l o u ∧ (st0 l o u).natAbs ≤ 2 ^ k ∧ (st1 l o u).natAbs ≤ 2 ^ k := by
  have := h.o0
  have := h.u0
  have := h.ob
  have := h.ub
  unfold st0 st1
  split
  · exact ⟨by omega, by omega, by omega⟩
  · split
    · rw [Int.one_mul, Int.one_mul]; exact ⟨by omega, by omega, by omega⟩
    · rw [Int.neg_mul, Int.one_mul, Int.neg_mul, Int.one_mul]; exact ⟨by omega, by omega, by omega⟩
theorem val_is (h : Vb l fs o u k) : val l fs o u = rdp (tps o u fs.length fs 0 * st0 l o u ^ l.natAbs) (u ^ fs.length * st1 l o u ^ l.natAbs) := by
  have hu := h.u0
  obtain ⟨hs1, _, _⟩ := st_facts h
  have hM := vM_ne h
  have p1 : 0 < u ^ fs.length * st1 l o u ^ l.natAbs := Int.mul_pos (Int.pow_pos hu) (Int.pow_pos hs1)
  have p2 : (0 : Int) < ((vM l fs o u).natAbs : Int) := by omega
  unfold val
  cases fs with
  | nil =>
    have e : vN l [] o u = 0 := by unfold vN; simp [tps]
    have e2 : tps o u ([] : List Int).length [] 0 = 0 := by simp [tps]
    rw [e, e2, Int.mul_zero, Int.zero_mul, rdp_zero p2, rdp_zero p1]
  | cons c r =>
    refine rdp_eq p2 p1 ?_
    have et : tps o u (c :: r).length (c :: r) 0 = u * tps o u ((c :: r).length - 1) (c :: r) 0 := by
      have := tps_up (o := o) (u := u) (g := (c :: r).length - 1) (xs := c :: r) (p := 0) (by rw [List.length_cons]; omega)
      rw [show (c :: r).length - 1 + 1 = (c :: r).length by rw [List.length_cons]; omega] at this
      exact this
    have eu : u ^ (c :: r).length = u * u ^ ((c :: r).length - 1) := by
      rw [List.length_cons, Nat.add_sub_cancel, Int.pow_succ, Int.mul_comm]
    rw [et, eu, ← sgn_abs]
    unfold vN vM st0 st1
    generalize tps o u ((c :: r).length - 1) (c :: r) 0 = T
    generalize u ^ ((c :: r).length - 1) = U
    by_cases hl : 0 ≤ l
    · simp only [if_pos hl]
      grind
    · simp only [if_neg hl]
      by_cases ho : 0 < o
      · simp only [if_pos ho, Int.one_mul]
        grind
      · simp only [if_neg ho]
        rw [Int.mul_pow, Int.mul_pow]
        grind
theorem sgn_o (h : o ≠ 0) : (if decide (0 < o) = true then (1 : Int) else -1) = if 0 < o then 1 else -1 := by
  by_cases q : 0 < o <;> simp [q]
abbrev S6v := Option Val × Option Val
theorem e_lval (h : Vb l fs o u k) : f28 [pV l fs, vI o, vI u] = .ok (.d (qD (val l fs o u))) [none, none, none] := by
  have zz := z100k
  have hlen := h.p.len
  have bl := h.p.hi
  have bl2 := h.p.lo
  obtain ⟨so, su⟩ := h.small
  have hu := h.u0
  have ho := h.o0
  obtain ⟨hs1, bs0, bs1⟩ := st_facts h
  have hval := val_is h
  have hti := @e_timesM
  have hpl := @e_plusM
  have hlt := @e_lltM
  obtain ⟨N, hN1, hN2⟩ : ∃ N : Nat, 840 ≤ N ∧ N ≤ 850 := ⟨850, by omega, by omega⟩
  have hpw := fun (p : Nat) (hp : p ≤ fs.length + l.natAbs) => h.pw hp
  have hst : st0 l o u = (if 0 ≤ l then o else (if 0 < o then 1 else -1) * u) := rfl
  have hst1 : st1 l o u = (if 0 ≤ l then u else (if 0 < o then 1 else -1) * o) := rfl
  (unfold f28; generalize hr_ : fnD _ _ _ _ = r_; revert r_; refine fn_R fun R hR => ?_; unfold m28; simp only [List.map_cons, List.map_nil, List.replicate, Nat.reduceSub, List.cons_append, List.nil_append])
  unfold l28_1 b28_0 l28_3 b28_2
  generalize f25 = F1 at *
  generalize f24 = F2 at *
  generalize f23 = F3 at *
  as_aux_lemma =>
    (refine sq_any (by push_cast [z2]; (first | done | rfl)) ?_; (first | refine go_nx' ?_ | refine go_rt' ?_ | refine go_err' ?_))
    (refine sq_any (by push_cast [z2]; (first | done | rfl)) ?_; (first | refine go_nx' ?_ | refine go_rt' ?_ | refine go_err' ?_))
    refine sq (η' := [some (pV l fs), some (vI o), some (vI u), some (.d (qD (rdp 0 1))), some (.d (qD (rdp 1 1))), some (vI (if 0 < o then 1 else -1)), none, none, none]) ?_ ?_
    · rw [rdp_one, rdp_one]
      by_cases q : 0 < o
      · rw [if_pos q]
        push_cast [q, decide_true, qD]
      · rw [if_neg q]
        push_cast [q, decide_false, qD]
    refine sq (η' := [some (pV l fs), some (vI o), some (vI u), some (.d (qD (rdp 0 1))), some (.d (qD (rdp 1 1))), some (vI (if 0 < o then 1 else -1)), some (.d (.tup [.int (st0 l o u), .int (st1 l o u)])), none, none]) ?_ ?_
    · have cm : ∀ y : Int, CMul (if 0 < o then 1 else -1) y = True := fun y => eq_true (.inl (by split <;> exact ⟨by omega, by omega⟩))
      rw [hst, hst1]
      generalize (if 0 < o then (1 : Int) else -1) = SG at *
      by_cases q : 0 ≤ l
      · rw [if_pos q, if_pos q]
        push_cast [q, a0, decide_true, z2]
      · rw [if_neg q, if_neg q]
        push_cast [q, a0, decide_false, z2, cm]
    clear hst hst1
    generalize st0 l o u = s0 at *
    generalize st1 l o u = s1 at *
    have hs := hlt (n := s0) (d := s1) (M := N) (by omega) hs1 (lt_le bs1 (by have := h.k20; omega))
    have ho2 := hlt (n := o) (d := u) (M := N) (by omega) hu (lt_le h.ub (by have := h.k20; omega))
    refine sq_for (it := { items := rgD 0 l.natAbs }) (fun (x : Int × Int × Option Val) => [some (pV l fs), some (vI o), some (vI u), some (.d (qD (rdp 0 1))), some (.d (qD (rdp x.1 x.2.1))), some (vI (if 0 < o then 1 else -1)), some (.d (.tup [.int s0, .int s1])), x.2.2, none]) (fun j x => x.1 = s0 ^ j ∧ x.2.1 = s1 ^ j) (1, 1, none)
      (by push_cast [a0, q_rg, rg_i (show l.natAbs < 1000 by omega)]) rfl ⟨by simp, by simp⟩ ?_ ?_
    · rintro j x ⟨t, t', b⟩ hx ⟨ht, ht'⟩
      dsimp only at ht ht'
      obtain ⟨hj, rfl⟩ := rg_get hx
      have q1 := hpw j (by omega)
      have hh := hti (M := N) (a := s0 ^ j) (b := s1 ^ j) (c := s0) (d := s1) (by omega) (Int.pow_pos hs1) hs1 (lt_le (pow_bd bs0) (by omega)) (lt_le (pow_bd bs1) (by omega)) (lt_le bs0 (by have := h.k20; omega)) (lt_le bs1 (by have := h.k20; omega))
      rw [← ht, ← ht'] at hh
      refine ⟨[some (pV l fs), some (vI o), some (vI u), some (.d (qD (rdp 0 1))), some (.d (qD (rdp t t'))), some (vI (if 0 < o then 1 else -1)), some (.d (.tup [.int s0, .int s1])), some (vI (j : Nat)), none], by push_cast [q_ok], ?_⟩
      refine as_R fun R' hR' => ?_
      (refine sq_one (by push_cast [a0, a1, hs, hh]; (first | done | rfl)) ?_)
      refine hR' _ ⟨(t * s0, t' * s1, _), rfl, ?_, ?_⟩
      · dsimp only
        rw [ht, Int.pow_succ]
      · dsimp only
        rw [ht', Int.pow_succ]
    · rintro ⟨t, t', b⟩ ⟨ht, ht'⟩
      dsimp only at ht ht'
      rw [show ({ items := rgD 0 l.natAbs } : ItD).items.length = l.natAbs from rgD_len] at ht ht'
      have q0 := hpw l.natAbs (by omega)
      have bt : t.natAbs ≤ 2 ^ (k * l.natAbs) := by rw [ht]; exact pow_bd bs0
      have bt' : t'.natAbs ≤ 2 ^ (k * l.natAbs) := by rw [ht']; exact pow_bd bs1
      have pt' : 0 < t' := by rw [ht']; exact Int.pow_pos hs1
      rw [← ht, ← ht'] at hval
      refine sq_for (it := { items := fs.map D.int, src := fs.map D.int, tup := true }) (fun (x : Int × Int × Int × Int × Option Val) => [some (pV l fs), some (vI o), some (vI u), some (.d (qD (rdp x.1 x.2.1))), some (.d (qD (rdp x.2.2.1 x.2.2.2.1))), some (vI (if 0 < o then 1 else -1)), some (.d (.tup [.int s0, .int s1])), b, x.2.2.2.2])
        (fun j x => rdp x.1 x.2.1 = rdp (tps o u j (fs.take j) 0 * t) (u ^ j * t') ∧ x.2.2.1 = t * o ^ j ∧ x.2.2.2.1 = t' * u ^ j) (0, 1, t, t', none) (by push_cast [a1]; rfl) rfl ⟨?_, by simp, by simp⟩ ?_ ?_
      · dsimp only
        rw [show tps o u 0 (fs.take 0) 0 = 0 by simp [tps], Int.zero_mul, rdp_zero (by omega), rdp_zero (by simpa using pt')]
      · rintro j x ⟨A, B, C, E, v⟩ hx ⟨i1, i2, i3⟩
        dsimp only at i1 i2 i3
        obtain ⟨c, hc, rfl⟩ := get_ints hx
        have hj := (List.getElem?_eq_some_iff.mp hc).1
        have q1 := hpw j (by omega)
        have q2 := hpw (l.natAbs + j) (by omega)
        have hcs := h.p.sm c (List.mem_of_getElem? hc)
        have bc : c.natAbs ≤ 2 ^ 20 := by
          have : (2 : Nat) ^ 20 = 1048576 := by decide
          omega
        have bo := pow_bd (p := j) h.ob
        have bu := pow_bd (p := j) h.ub
        have bT := h.tb (j := j) (g := j) (by omega) (by omega) (by omega) (N := N) (by omega)
        have pu : 0 < u ^ j := Int.pow_pos hu
        have nle : ∀ {a b : Int} {m n r : Nat}, a.natAbs ≤ 2 ^ m → b.natAbs ≤ 2 ^ n → m + n < r → (a * b).natAbs < 2 ^ r := fun ha hb hr => by
          refine Nat.lt_of_le_of_lt ?_ (Nat.pow_lt_pow_right (by omega) hr)
          rw [Int.natAbs_mul, Nat.pow_add]
          exact Nat.mul_le_mul ha hb
        have lt2 : ∀ {a b : Int} {m n r : Nat}, a.natAbs < 2 ^ m → b.natAbs ≤ 2 ^ n → m + n < r → (a * b).natAbs < 2 ^ r := fun ha hb hr => nle (Nat.le_of_lt ha) hb hr
        have e20 : k * l.natAbs + k * j ≤ 800 := by rw [← Nat.mul_add]; exact q2
        have bC : C.natAbs < 2 ^ N := by rw [i2]; exact nle bt bo (by omega)
        have bE : E.natAbs < 2 ^ N := by rw [i3]; exact nle bt' bu (by omega)
        have pE : 0 < E := by rw [i3]; exact Int.mul_pos pt' pu
        have f1 := hti (M := N + N) (a := C) (b := E) (c := c) (d := 1) (by omega) pE (by omega) (Nat.lt_of_lt_of_le bC (pow_le2 (by omega))) (Nat.lt_of_lt_of_le bE (pow_le2 (by omega))) (Nat.lt_of_le_of_lt bc (Nat.pow_lt_pow_right (by omega) (by omega))) (by
          show 1 < 2 ^ (N + N)
          exact Nat.one_lt_two_pow (by omega))
        rw [rdp_one] at f1
        have f2 := hpl (M := N + N) (a := tps o u j (fs.take j) 0 * t) (b := u ^ j * t') (c := C * c) (d := E * 1) (by omega) (Int.mul_pos pu pt') (by omega) (lt2 bT bt (by omega)) (nle bu bt' (by omega)) (lt2 bC bc (by omega)) (by rw [Int.mul_one]; exact Nat.lt_of_lt_of_le bE (pow_le2 (by omega)))
        rw [← i1] at f2
        have f3 := hti (M := N + N) (a := C) (b := E) (c := o) (d := u) (by omega) pE hu (Nat.lt_of_lt_of_le bC (pow_le2 (by omega))) (Nat.lt_of_lt_of_le bE (pow_le2 (by omega))) (lt_le h.ob (by have := h.k20; omega)) (lt_le h.ub (by have := h.k20; omega))
        refine ⟨[some (pV l fs), some (vI o), some (vI u), some (.d (qD (rdp A B))), some (.d (qD (rdp C E))), some (vI (if 0 < o then 1 else -1)), some (.d (.tup [.int s0, .int s1])), b, some (vI c)], by push_cast [q_ok], ?_⟩
        refine as_R fun R' hR' => ?_
        have z1' : qD (c, 1) = .tup [.int c, .int 1] := rfl
        rw [z1'] at f1
        (refine sq_any (by push_cast [z2, f1, f2]; (first | done | rfl)) ?_; (first | refine go_nx' ?_ | refine go_rt' ?_ | refine go_err' ?_))
        (refine sq_one (by push_cast [ho2, f3]; (first | done | rfl)) ?_)
        refine hR' _ ⟨(tps o u j (fs.take j) 0 * t * (E * 1) + C * c * (u ^ j * t'), u ^ j * t' * (E * 1), C * o, E * u, _), rfl, ?_, ?_, ?_⟩
        · dsimp only
          have nx : tps o u (j + 1) (fs.take (j + 1)) 0 = u * tps o u j (fs.take j) 0 + c * o ^ j * u := by
            rw [take_snoc hc, tps_snoc, List.length_take, Nat.min_eq_left (by omega), tps_up (by rw [List.length_take]; omega), Nat.zero_add, show j + 1 - j = 1 by omega, Int.pow_one]
          rw [nx]
          refine rdp_eq (Int.mul_pos (Int.mul_pos pu pt') (by omega)) (Int.mul_pos (Int.pow_pos hu) pt') ?_
          rw [i2, i3, Int.pow_succ]
          generalize tps o u j (fs.take j) 0 = T
          generalize o ^ j = O
          generalize u ^ j = U
          grind
        · dsimp only
          rw [i2, Int.pow_succ, Int.mul_assoc]
        · dsimp only
          rw [i3, Int.pow_succ, Int.mul_assoc]
      · rintro ⟨A, B, C, E, v⟩ ⟨i1, i2, i3⟩
        dsimp only at i1
        rw [show ({ items := fs.map D.int, src := fs.map D.int, tup := true } : ItD).items.length = fs.length by simp, List.take_length, ← hval] at i1
        dsimp only
        rw [i1]
        (refine sq_one (by push_cast [q_ok]; (first | done | rfl)) ?_)
        (refine hR _ ?_; simp only [q_finRt, q_finSl, q_finNx, q_finErr, backs, bk1, List.drop_succ_cons, List.drop_zero, List.drop_nil, List.replicate, Nat.reduceSub, List.getElem?_cons_zero, List.getElem?_cons_succ])
end
end Kx

namespace Kx
open PySem PySem.Spec PyProof.Rows L2 DD
open Classical
local macro_rules
  | `(tactic| push_cast [$a,*]) => `(tactic| simp only [q_mulG, q_mulGI, q_mulGL, q_divG, q_augS, q_fAddI, q_fSubI, q_fMulI, q_augX, q_augL, q_orV, q_ttup, q_par, q_mulX, q_mulXT, q_aug, q_fAdd, q_raise, q_try, q_tryRt, q_tryNx, q_tryErr, q_tupDw, q_rgIt1, q_rgIt2, q_rgIt3, q_chain, q_slLH, q_ok, q_err, q_stuck, q_okS, q_errS, q_stuckS, q_nx, q_rt, q_bk, q_ct, q_errN, q_bind, q_thenS, q_seq, q_if, q_ret, q_retN, q_expr, q_pass, q_no, q_brk, q_cnt, q_asg, q_setD, q_setL, q_setF, q_var, q_c, q_mret, q_rdv, q_rds, q_rdDv, q_rdDs, q_n1, q_n2, q_n3, q_n4, q_n5, q_ownv, q_owns, q_op2, q_op1, q_fin2, q_fin1, q_sub, q_neg, q_div, q_mod, q_add, q_addI, q_addL, q_addT, q_mul, q_mulI, q_mulL, q_cmp, q_ii, q_true, q_tru, q_finT, q_tbl, q_tint, q_tlst, q_not, q_and, q_or, q_mif, q_ix, q_ixT, q_ixP, q_ixL, q_ixF, q_args0, q_args1, q_tup, q_lst, q_rdDs0, q_rdDs1, q_call1, q_call2, q_abs, q_int, q_lenT, q_lenP, q_lenL, q_lenF, q_tupT, q_tupL, q_lstT, q_lstL, q_max, q_min, q_mut, q_mkF, q_mkT, q_store, q_gtup, q_gpt, q_each0, q_each1, q_append, q_pop, q_isa, q_finV, q_gisa, q_back, q_mint, q_asI, q_slL, q_slH, q_svT, q_svL, q_svF, q_rg1, q_rg2, q_lrg, q_trg, q_andV, q_notV, q_callD, List.set_cons_zero, List.set_cons_succ, List.getElem?_cons_zero, List.getElem?_cons_succ, List.getElem?_nil, List.length_cons, List.length_nil, List.length_set, List.length_map, List.length_append, List.filterMap_cons, List.filterMap_nil, List.map_nil, List.map_cons, List.append_nil, List.nil_append, List.cons_append, reduceIte, Bool.not_true, Bool.not_false, Bool.false_eq_true, Nat.reduceAdd, Nat.zero_add, Nat.reduceEqDiff, argsIn, argIn, lsl, takeE, giveE, give1, List.nodup_cons, List.mem_cons, List.not_mem_nil, or_false, Nat.reduceEqDiff, Nat.succ_ne_self, not_false_eq_true, List.nodup_nil, and_self, $a,*])
  | `(tactic| push_cast [$a,*] at $h) => `(tactic| simp only [q_mulG, q_mulGI, q_mulGL, q_divG, q_augS, q_fAddI, q_fSubI, q_fMulI, q_augX, q_augL, q_orV, q_ttup, q_par, q_mulX, q_mulXT, q_aug, q_fAdd, q_raise, q_try, q_tryRt, q_tryNx, q_tryErr, q_tupDw, q_rgIt1, q_rgIt2, q_rgIt3, q_chain, q_slLH, q_ok, q_err, q_stuck, q_okS, q_errS, q_stuckS, q_nx, q_rt, q_bk, q_ct, q_errN, q_bind, q_thenS, q_seq, q_if, q_ret, q_retN, q_expr, q_pass, q_no, q_brk, q_cnt, q_asg, q_setD, q_setL, q_setF, q_var, q_c, q_mret, q_rdv, q_rds, q_rdDv, q_rdDs, q_n1, q_n2, q_n3, q_n4, q_n5, q_ownv, q_owns, q_op2, q_op1, q_fin2, q_fin1, q_sub, q_neg, q_div, q_mod, q_add, q_addI, q_addL, q_addT, q_mul, q_mulI, q_mulL, q_cmp, q_ii, q_true, q_tru, q_finT, q_tbl, q_tint, q_tlst, q_not, q_and, q_or, q_mif, q_ix, q_ixT, q_ixP, q_ixL, q_ixF, q_args0, q_args1, q_tup, q_lst, q_rdDs0, q_rdDs1, q_call1, q_call2, q_abs, q_int, q_lenT, q_lenP, q_lenL, q_lenF, q_tupT, q_tupL, q_lstT, q_lstL, q_max, q_min, q_mut, q_mkF, q_mkT, q_store, q_gtup, q_gpt, q_each0, q_each1, q_append, q_pop, q_isa, q_finV, q_gisa, q_back, q_mint, q_asI, q_slL, q_slH, q_svT, q_svL, q_svF, q_rg1, q_rg2, q_lrg, q_trg, q_andV, q_notV, q_callD, List.set_cons_zero, List.set_cons_succ, List.getElem?_cons_zero, List.getElem?_cons_succ, List.getElem?_nil, List.length_cons, List.length_nil, List.length_set, List.length_map, List.length_append, List.filterMap_cons, List.filterMap_nil, List.map_nil, List.map_cons, List.append_nil, List.nil_append, List.cons_append, reduceIte, Bool.not_true, Bool.not_false, Bool.false_eq_true, Nat.reduceAdd, Nat.zero_add, Nat.reduceEqDiff, argsIn, argIn, lsl, takeE, giveE, give1, List.nodup_cons, List.mem_cons, List.not_mem_nil, or_false, Nat.reduceEqDiff, Nat.succ_ne_self, not_false_eq_true, List.nodup_nil, and_self, $a,*] at $h)
/-! both ways -/
theorem getD_set {s : List Int} {o i : Nat} {x : Int} : (s.set o x).getD i 0 = if i < s.length ∧ o = i then x else s.getD i 0 := by
  rw [List.getD_eq_getElem?_getD, List.getElem?_set, List.getD_eq_getElem?_getD]
  by_cases h : o = i
  · subst h
    by_cases h2 : o < s.length
    · simp [h2]
    · simp [h2]
  · simp [h]
theorem getD_len {s : List Int} {i : Nat} (h : s.length ≤ i) : s.getD i 0 = 0 := by
  rw [List.getD_eq_getElem?_getD, List.getElem?_eq_none h]
  rfl
theorem addAt_get : ∀ {xs s : List Int} {o i : Nat}, i < s.length → (addAt s o xs).getD i 0 = s.getD i 0 + (if o ≤ i then xs.getD (i - o) 0 else 0)
  | [], s, o, i, h => by simp [addAt]
  | x :: xs, s, o, i, h => by
    unfold addAt
    rw [addAt_get (by simpa using h), getD_set]
    by_cases h1 : o = i
    · subst h1
      rw [if_pos ⟨h, rfl⟩, if_neg (by omega), if_pos (Nat.le_refl _), Nat.sub_self]
      simp
    · rw [if_neg (fun z => h1 z.2)]
      by_cases h2 : o + 1 ≤ i
      · rw [if_pos h2, if_pos (by omega), show i - o = (i - (o + 1)) + 1 by omega]
        rfl
      · rw [if_neg h2, if_neg (by omega)]
theorem addAt_comm {a b s : List Int} {o p : Nat} : addAt (addAt s o a) p b = addAt (addAt s p b) o a := by
  refine List.ext_getElem (by rw [addAt_len, addAt_len, addAt_len, addAt_len]) fun i h1 h2 => ?_
  rw [addAt_len, addAt_len] at h1
  have key : ∀ {t : List Int} (h : i < t.length), t[i] = t.getD i 0 := fun h => by
    rw [List.getD_eq_getElem?_getD, List.getElem?_eq_getElem h]
    rfl
  rw [key, key, addAt_get (by rw [addAt_len]; exact h1), addAt_get h1, addAt_get (by rw [addAt_len]; exact h1), addAt_get h1]
  omega
theorem pm_nil : ∀ {f s : List Int} {o : Nat}, pm [] s o f = s
  | [], s, o => rfl
  | x :: f, s, o => by
    unfold pm
    rw [List.map_nil]
    show pm [] s (o + 1) f = s
    exact pm_nil
theorem pm_cons {c : Int} {r : List Int} : ∀ {f s : List Int} {o : Nat}, pm (c :: r) s o f = pm r (addAt s o (f.map (c * ·))) (o + 1) f
  | [], s, o => rfl
  | d :: t, s, o => by
    show pm (c :: r) (addAt s o ((c :: r).map (d * ·))) (o + 1) t = pm r (addAt (addAt s o ((d :: t).map (c * ·))) (o + 1) (r.map (d * ·))) (o + 1 + 1) t
    rw [pm_cons, List.map_cons, List.map_cons]
    congr 1
    show addAt (addAt (s.set o (s.getD o 0 + d * c)) (o + 1) (r.map (d * ·))) (o + 1) (t.map (c * ·)) = addAt (addAt (s.set o (s.getD o 0 + c * d)) (o + 1) (t.map (c * ·))) (o + 1) (r.map (d * ·))
    rw [addAt_comm, Int.mul_comm d c]
theorem pm_comm : ∀ {f g s : List Int} {o : Nat}, pm g s o f = pm f s o g
  | [], g, s, o => by rw [pm_nil]; rfl
  | c :: r, g, s, o => by
    rw [pm_cons]
    show pm g (addAt s o (g.map (c * ·))) (o + 1) r = _
    exact pm_comm
theorem pprod_comm {l1 l2 : Int} {f1 f2 : List Int} : pprod l2 f2 l1 f1 = pprod l1 f1 l2 f2 := by
  unfold pprod
  by_cases h1 : f1 = []
  · rw [if_pos (.inr h1), if_pos (.inl h1)]
  · by_cases h2 : f2 = []
    · rw [if_pos (.inl h2), if_pos (.inr h2)]
    · rw [if_neg (fun z => z.elim h2 h1), if_neg (fun z => z.elim h1 h2), pm_comm, Int.add_comm, Nat.add_comm]
theorem psum_comm {l1 l2 : Int} {f1 f2 : List Int} (p1 : Pl l1 f1) (p2 : Pl l2 f2) : psum l2 f2 l1 f1 = psum l1 f1 l2 f2 := by
  unfold psum
  by_cases h1 : f1 = []
  · by_cases h2 : f2 = []
    · have q1 : l1 = 0 := by
        rcases p1.ok with h | h
        · exact h.2
        · exact (h.1 h1).elim
      have q2 : l2 = 0 := by
        rcases p2.ok with h | h
        · exact h.2
        · exact (h.1 h2).elim
      simp [h1, h2, q1, q2]
    · simp [h1, h2]
  · by_cases h2 : f2 = []
    · simp [h1, h2]
    · rw [if_neg (fun z => z.elim h2 h1), if_neg (fun z => z.elim h1 h2)]
      obtain ⟨lo, hi, n, o1, o2, hs, hlo, hhi, hn, ho1, ho2, _⟩ := spn_facts p1 p2 h1
      obtain ⟨lo', hi', n', o1', o2', hs', hlo', hhi', hn', ho1', ho2', _⟩ := spn_facts p2 p1 h2
      have e1 : lo' = lo := by rw [hlo, hlo']; split <;> split <;> omega
      have e2 : hi' = hi := by rw [hhi, hhi']; split <;> split <;> omega
      subst e1 e2
      have e3 : n' = n := by omega
      have e4 : o1' = o2 := by omega
      have e5 : o2' = o1 := by omega
      subst e3 e4 e5
      rw [hs, hs']
      dsimp only
      rw [addAt_comm]
/-! what comes of trimming -/
theorem lead : ∀ fs : List Int, ∃ (a : Nat) (d : List Int), fs = List.replicate a 0 ++ d ∧ d.head? ≠ some 0
  | [] => ⟨0, [], rfl, by simp⟩
  | x :: fs => by
    by_cases hx : x = 0
    · obtain ⟨a, d, h1, h2⟩ := lead fs
      exact ⟨a + 1, d, by rw [hx, h1, List.replicate_succ]; rfl, h2⟩
    · exact ⟨0, x :: fs, rfl, by simpa using hx⟩
theorem trm_facts (l : Int) (fs : List Int) : (trm l fs = (0, []) ∨ ∃ (a : Nat) (m : List Int), trm l fs = (l + a, m) ∧ Tight m ∧ a + m.length ≤ fs.length ∧ ∀ x ∈ m, x ∈ fs) := by
  obtain ⟨a, d, h1, h2⟩ := lead fs
  obtain ⟨b, e, h3, h4⟩ := lead d.reverse
  have hd : d = e.reverse ++ List.replicate b 0 := by
    have := congrArg List.reverse h3
    rw [List.reverse_reverse, List.reverse_append, List.reverse_replicate] at this
    exact this
  by_cases he : e = []
  · left
    refine (trm_of (.inl ⟨fun x hx => ?_, rfl⟩)).symm
    rw [h1, hd, he] at hx
    rcases List.mem_append.mp hx with hx | hx
    · exact List.eq_of_mem_replicate hx
    · exact List.eq_of_mem_replicate (by simpa using hx)
  · right
    refine ⟨a, e.reverse, (trm_of (.inr ⟨a, b, e.reverse, by rw [h1, hd, List.append_assoc], ⟨by simpa using he, ?_, ?_⟩, rfl⟩)).symm, ⟨by simpa using he, ?_, ?_⟩, ?_, ?_⟩
    all_goals first
      | (rw [List.getLast?_reverse]; exact h4)
      | (rw [hd] at h2
         cases q : e.reverse with
         | nil => exact (he (by simpa using q)).elim
         | cons y ys => rw [q] at h2; exact h2)
      | skip
    · rw [h1, hd]; simp
    · intro x hx
      rw [h1, hd]
      exact List.mem_append_right _ (List.mem_append_left _ hx)
theorem trm_pl {l : Int} {fs : List Int} (h1 : -120 ≤ l) (h2 : fs.length ≤ 120) (h3 : ∀ x ∈ fs, -1000000 ≤ x ∧ x ≤ 1000000) (h4 : (trm l fs).1 < 121) : Pl (trm l fs).1 (trm l fs).2 := by
  rcases trm_facts l fs with e | ⟨a, m, e, ht, hl, hm⟩
  · rw [e]
    exact ⟨by omega, by omega, by simp, by simp, .inl ⟨rfl, rfl⟩⟩
  · rw [e] at h4 ⊢
    dsimp only at h4 ⊢
    exact ⟨by omega, by omega, by omega, fun x hx => h3 x (hm x hx), .inr ht⟩
theorem pl0 : Pl 0 [] := ⟨by omega, by omega, by simp, by simp, .inl ⟨rfl, rfl⟩⟩
end Kx

namespace Kx
open PySem PySem.Spec PyProof.Rows L2 DD
open Classical
local macro_rules
  | `(tactic| push_cast [$a,*]) => `(tactic| simp only [q_mulG, q_mulGI, q_mulGL, q_divG, q_augS, q_fAddI, q_fSubI, q_fMulI, q_augX, q_augL, q_orV, q_ttup, q_par, q_mulX, q_mulXT, q_aug, q_fAdd, q_raise, q_try, q_tryRt, q_tryNx, q_tryErr, q_tupDw, q_rgIt1, q_rgIt2, q_rgIt3, q_chain, q_slLH, q_ok, q_err, q_stuck, q_okS, q_errS, q_stuckS, q_nx, q_rt, q_bk, q_ct, q_errN, q_bind, q_thenS, q_seq, q_if, q_ret, q_retN, q_expr, q_pass, q_no, q_brk, q_cnt, q_asg, q_setD, q_setL, q_setF, q_var, q_c, q_mret, q_rdv, q_rds, q_rdDv, q_rdDs, q_n1, q_n2, q_n3, q_n4, q_n5, q_ownv, q_owns, q_op2, q_op1, q_fin2, q_fin1, q_sub, q_neg, q_div, q_mod, q_add, q_addI, q_addL, q_addT, q_mul, q_mulI, q_mulL, q_cmp, q_ii, q_true, q_tru, q_finT, q_tbl, q_tint, q_tlst, q_not, q_and, q_or, q_mif, q_ix, q_ixT, q_ixP, q_ixL, q_ixF, q_args0, q_args1, q_tup, q_lst, q_rdDs0, q_rdDs1, q_call1, q_call2, q_abs, q_int, q_lenT, q_lenP, q_lenL, q_lenF, q_tupT, q_tupL, q_lstT, q_lstL, q_max, q_min, q_mut, q_mkF, q_mkT, q_store, q_gtup, q_gpt, q_each0, q_each1, q_append, q_pop, q_isa, q_finV, q_gisa, q_back, q_mint, q_asI, q_slL, q_slH, q_svT, q_svL, q_svF, q_rg1, q_rg2, q_lrg, q_trg, q_andV, q_notV, q_callD, List.set_cons_zero, List.set_cons_succ, List.getElem?_cons_zero, List.getElem?_cons_succ, List.getElem?_nil, List.length_cons, List.length_nil, List.length_set, List.length_map, List.length_append, List.filterMap_cons, List.filterMap_nil, List.map_nil, List.map_cons, List.append_nil, List.nil_append, List.cons_append, reduceIte, Bool.not_true, Bool.not_false, Bool.false_eq_true, Nat.reduceAdd, Nat.zero_add, Nat.reduceEqDiff, argsIn, argIn, lsl, takeE, giveE, give1, List.nodup_cons, List.mem_cons, List.not_mem_nil, or_false, Nat.reduceEqDiff, Nat.succ_ne_self, not_false_eq_true, List.nodup_nil, and_self, $a,*])
  | `(tactic| push_cast [$a,*] at $h) => `(tactic| simp only [q_mulG, q_mulGI, q_mulGL, q_divG, q_augS, q_fAddI, q_fSubI, q_fMulI, q_augX, q_augL, q_orV, q_ttup, q_par, q_mulX, q_mulXT, q_aug, q_fAdd, q_raise, q_try, q_tryRt, q_tryNx, q_tryErr, q_tupDw, q_rgIt1, q_rgIt2, q_rgIt3, q_chain, q_slLH, q_ok, q_err, q_stuck, q_okS, q_errS, q_stuckS, q_nx, q_rt, q_bk, q_ct, q_errN, q_bind, q_thenS, q_seq, q_if, q_ret, q_retN, q_expr, q_pass, q_no, q_brk, q_cnt, q_asg, q_setD, q_setL, q_setF, q_var, q_c, q_mret, q_rdv, q_rds, q_rdDv, q_rdDs, q_n1, q_n2, q_n3, q_n4, q_n5, q_ownv, q_owns, q_op2, q_op1, q_fin2, q_fin1, q_sub, q_neg, q_div, q_mod, q_add, q_addI, q_addL, q_addT, q_mul, q_mulI, q_mulL, q_cmp, q_ii, q_true, q_tru, q_finT, q_tbl, q_tint, q_tlst, q_not, q_and, q_or, q_mif, q_ix, q_ixT, q_ixP, q_ixL, q_ixF, q_args0, q_args1, q_tup, q_lst, q_rdDs0, q_rdDs1, q_call1, q_call2, q_abs, q_int, q_lenT, q_lenP, q_lenL, q_lenF, q_tupT, q_tupL, q_lstT, q_lstL, q_max, q_min, q_mut, q_mkF, q_mkT, q_store, q_gtup, q_gpt, q_each0, q_each1, q_append, q_pop, q_isa, q_finV, q_gisa, q_back, q_mint, q_asI, q_slL, q_slH, q_svT, q_svL, q_svF, q_rg1, q_rg2, q_lrg, q_trg, q_andV, q_notV, q_callD, List.set_cons_zero, List.set_cons_succ, List.getElem?_cons_zero, List.getElem?_cons_succ, List.getElem?_nil, List.length_cons, List.length_nil, List.length_set, List.length_map, List.length_append, List.filterMap_cons, List.filterMap_nil, List.map_nil, List.map_cons, List.append_nil, List.nil_append, List.cons_append, reduceIte, Bool.not_true, Bool.not_false, Bool.false_eq_true, Nat.reduceAdd, Nat.zero_add, Nat.reduceEqDiff, argsIn, argIn, lsl, takeE, giveE, give1, List.nodup_cons, List.mem_cons, List.not_mem_nil, or_false, Nat.reduceEqDiff, Nat.succ_ne_self, not_false_eq_true, List.nodup_nil, and_self, $a,*] at $h)
/-! polynomials by draws -/
theorem z5 : (5 : Nat) ≤ sizeLine := by decide
theorem z4 : (4 : Nat) ≤ sizeLine := by decide
theorem z7 : (7 : Nat) ≤ sizeLine := by decide
theorem z15 : (15 : Nat) ≤ sizeLine := by decide
theorem z6 : (6 : Nat) ≤ sizeLine := by decide
section
variable {p : Int} {ds : List Int}
theorem c_row {far : Int} {n : Nat} {v4 v5 v6 v7 : Option Val} (hp : 0 ≤ p) (hf : 1 ≤ far) (hf2 : far ≤ 1000001) (hn : n ≤ 120) : ∃ row p', 0 ≤ p' ∧ row.length = n ∧ (∀ x ∈ row, -1000000 ≤ x ∧ x ≤ 1000000) ∧
    c27_0 [some (vB ds), some (.bw [.int p]), some (vI far), some (vI (n : Nat)), v4, v5, v6, v7] = .ok (.vl (vL row)) [some (vB ds), some (.bw [.int p']), some (vI far), some (vI (n : Nat)), v4, v5, v6, none] := by
  have zz := z100k
  have ht := @e_take
  obtain ⟨acc, q, h1, gs, rfl, h2, h3, h4⟩ := lc_run (vs := [7]) (t := gSet 7) (c := mYes) (el := (mAdd (mOp2 fSub (mCallD f16 [] [mVar 0, mVar 1, mOp2 fSub (mMul (mC (.int 2)) (mVar 2)) (mC (.int 1))]) (mVar 2)) (mC (.int 1)))) (mi := (mArgs [mVar 3] >>= rgIt1)) (η := [some (vB ds), some (.bw [.int p]), some (vI far), some (vI (n : Nat)), v4, v5, v6, v7]) (it := { items := rgD 0 n }) (η1 := [some (vB ds), some (.bw [.int p]), some (vI far), some (vI (n : Nat)), v4, v5, v6, v7])
    (fun (q : Int) => [some (vB ds), some (.bw [.int q]), some (vI far), some (vI (n : Nat)), v4, v5, v6, none]) (fun j acc q => ∃ gs : List Int, acc = gs.map D.int ∧ (∀ x ∈ gs, -1000000 ≤ x ∧ x ≤ 1000000) ∧ gs.length = j ∧ 0 ≤ q) p
    (by push_cast [q_rg, rg_i (show n < 1000 by omega)]) rfl rfl (by rw [rgD_len]; omega) ⟨[], rfl, (fun _ h => by cases h), rfl, hp⟩ (by
      rintro j x acc q hx ⟨gs, rfl, g1, g2, g3⟩
      obtain ⟨hj, rfl⟩ := rg_get hx
      obtain ⟨r, r1, r2, hr⟩ := ht (ds := ds) (p := q) (many := 2 * far - 1) g3 (by omega)
      have cm : CMul 2 far = True := eq_true (.inl ⟨by omega, by omega⟩)
      refine ⟨[some (vB ds), some (.bw [.int q]), some (vI far), some (vI (n : Nat)), v4, v5, v6, some (vI (j : Nat))], by push_cast [q_ok]; rfl, .inr ⟨[some (vB ds), some (.bw [.int q]), some (vI far), some (vI (n : Nat)), v4, v5, v6, some (vI (j : Nat))], .vl (.d (.int (r - far + 1))), [some (vB ds), some (.bw [.int (q + 1)]), some (vI far), some (vI (n : Nat)), v4, v5, v6, some (vI (j : Nat))], .int (r - far + 1), q + 1, rfl, ?_, rfl, rfl, gs ++ [r - far + 1], by simp, ?_, by simp [g2], by omega⟩⟩
      · (generalize f16 = Gf_law_take at *; as_aux_lemma => push_cast [cm, hr])
      · intro x hx
        rcases List.mem_append.mp hx with hx | hx
        · exact g1 x hx
        · rw [List.mem_singleton.mp hx]; omega)
  exact ⟨gs, q, h4, by rw [h3, rgD_len], h2, h1⟩
theorem e_lpoly (hp : 0 ≤ p) : ∃ l fs p', 0 ≤ p' ∧ Pl l fs ∧ f27 [vB ds, .bw [.int p]] = .ok (pV l fs) [some (vB ds), some (.bw [.int p'])] := by
  have zz := z100k
  obtain ⟨far, hfar, h1⟩ := e_one (ds := ds) (xs := [2, 3, 10, 1000001]) (p := p) hp (by decide)
  have hf : 1 ≤ far ∧ far ≤ 1000001 := by simp only [List.mem_cons, List.not_mem_nil, or_false] at hfar; omega
  obtain ⟨size, hsize, h2⟩ := e_one (ds := ds) (xs := [0, 1, 3, 8, 120]) (p := p + 1) (by omega) (by decide)
  have hs : 0 ≤ size ∧ size ≤ 120 := by simp only [List.mem_cons, List.not_mem_nil, or_false] at hsize; omega
  obtain ⟨n, rfl⟩ := Int.eq_ofNat_of_zero_le hs.1
  simp only [vL, List.map_cons, List.map_nil] at h1 h2
  obtain ⟨row, p2, hp2, hrl, hrow, h3⟩ := c_row (ds := ds) (v4 := none) (v5 := none) (v6 := none) (v7 := none) (p := p + 1 + 1) (far := far) (n := n) (by omega) hf.1 hf.2 (by omega)
  obtain ⟨r, r1, r2, h4⟩ := e_take (ds := ds) (p := p2) (many := 3) hp2 (by omega)
  have a0' : sAsg (mCallD f17 [] [mLst [mC (.int 2), mC (.int 3), mC (.int 10), mC (.int 1000001)], mVar 0, mVar 1]) (gSet 2) [some (vB ds), some (.bw [.int p]), none, none, none, none, none, none] = .nx [some (vB ds), some (.bw [.int (p + 1)]), some (vI far), none, none, none, none, none] := by
    (generalize f17 = Gf_law_one at *; as_aux_lemma => push_cast [z4, h1])
  have a1' : sAsg (mCallD f17 [] [mLst [mC (.int 0), mC (.int 1), mC (.int 3), mC (.int 8), mC (.int 120)], mVar 0, mVar 1]) (gSet 3) [some (vB ds), some (.bw [.int (p + 1)]), some (vI far), none, none, none, none, none] = .nx [some (vB ds), some (.bw [.int (p + 1 + 1)]), some (vI far), some (vI (n : Nat)), none, none, none, none] := by
    (generalize f17 = Gf_law_one at *; as_aux_lemma => push_cast [z5, h2])
  have a2' : (sAsg (c27_0) (gSet 4)) [some (vB ds), some (.bw [.int (p + 1 + 1)]), some (vI far), some (vI (n : Nat)), none, none, none, none] = .nx [some (vB ds), some (.bw [.int p2]), some (vI far), some (vI (n : Nat)), some (vL row), none, none, none] := by
    generalize c27_0 = C at *
    push_cast [h3]
  have a3' : ∃ row', row'.length ≤ n ∧ (∀ x ∈ row', -1000000 ≤ x ∧ x ≤ 1000000) ∧ (sIf (mTrue (mCmpV eqV2 (mCallD f16 [] [mVar 0, mVar 1, mC (.int 3)]) (mC (.int 0)))) (sAsg (mAdd (mSliceH (mVar 4) (mOp2 fDiv (mAdd (mVar 3) (mC (.int 1))) (mC (.int 2)))) (mBack (mSliceH (mVar 4) (mOp2 fDiv (mVar 3) (mC (.int 2)))))) (gSet 4)) (sPass)) [some (vB ds), some (.bw [.int p2]), some (vI far), some (vI (n : Nat)), some (vL row), none, none, none] = .nx [some (vB ds), some (.bw [.int (p2 + 1)]), some (vI far), some (vI (n : Nat)), some (vL row'), none, none, none] := by
    by_cases q : r = 0
    · have e1 : cutD (row.map D.int) none (some (((n : Int) + 1) / 2)) = (row.take ((n + 1) / 2)).map D.int := by
        rw [show ((n : Int) + 1) / 2 = (((n + 1) / 2 : Nat) : Int) by omega, cut_hi, List.map_take]
      have e2 : cutD (row.map D.int) none (some ((n : Int) / 2)) = (row.take (n / 2)).map D.int := by
        rw [show (n : Int) / 2 = ((n / 2 : Nat) : Int) by omega, cut_hi, List.map_take]
      have e3 : ((row.take (n / 2)).map D.int).reverse = ((row.take (n / 2)).reverse).map D.int := by rw [List.map_reverse]
      have hl : (row.take ((n + 1) / 2)).length + ((row.take (n / 2)).reverse).length ≤ sizeLine := by
        rw [List.length_reverse, List.length_take, List.length_take]; omega
      refine ⟨row.take ((n + 1) / 2) ++ (row.take (n / 2)).reverse, ?_, ?_, ?_⟩
      · rw [List.length_append, List.length_reverse, List.length_take, List.length_take]; omega
      · intro x hx
        rcases List.mem_append.mp hx with h | h
        · exact hrow x (List.mem_of_mem_take h)
        · exact hrow x (List.mem_of_mem_take (List.mem_reverse.mp h))
      · rw [show vL (row.take ((n + 1) / 2) ++ (row.take (n / 2)).reverse) = .l ((row.take ((n + 1) / 2)).map D.int ++ ((row.take (n / 2)).reverse).map D.int) by rw [← List.map_append]]
        (generalize f16 = Gf_law_take at *; as_aux_lemma => push_cast [h4, DD.eq_int, q, decide_true, cdv2, e1, e2, e3, hl])
    · refine ⟨row, by omega, hrow, ?_⟩
      (generalize f16 = Gf_law_take at *; as_aux_lemma => push_cast [h4, DD.eq_int, q, decide_false])
  obtain ⟨row', hrl', hrow', a3'⟩ := a3'
  obtain ⟨r9, s1, s2, h5⟩ := e_take (ds := ds) (p := p2 + 1) (many := 9) (by omega) (by omega)
  obtain ⟨low, hlow, h6⟩ := e_one (ds := ds) (xs := [0, 0, r9 - 4, -120, 120 - (n : Int)]) (p := p2 + 1 + 1) (by omega) (by simp)
  have hl : -120 ≤ low := by simp only [List.mem_cons, List.not_mem_nil, or_false] at hlow; omega
  simp only [vL, List.map_cons, List.map_nil] at h6
  have a4' : (sAsg (mCallD f17 [] [mLst [mC (.int 0), mC (.int 0), mOp2 fSub (mCallD f16 [] [mVar 0, mVar 1, mC (.int 9)]) (mC (.int 4)), mOp1 fNeg (mC (.int 120)), mOp2 fSub (mC (.int 120)) (mVar 3)], mVar 0, mVar 1]) (gSet 5)) [some (vB ds), some (.bw [.int (p2 + 1)]), some (vI far), some (vI (n : Nat)), some (vL row'), none, none, none] = .nx [some (vB ds), some (.bw [.int (p2 + 1 + 1 + 1)]), some (vI far), some (vI (n : Nat)), some (vL row'), some (vI low), none, none] := by
    (generalize f17 = Gf_law_one at *; generalize f16 = Gf_law_take at *; as_aux_lemma => push_cast [z5, h5, h6])
  have h7 := e_plain (l := low) (fs := row') (by omega)
  have a5' : (sAsg (mCallD f18 [] [mVar 5, mVar 4]) (gSet 6)) [some (vB ds), some (.bw [.int (p2 + 1 + 1 + 1)]), some (vI far), some (vI (n : Nat)), some (vL row'), some (vI low), none, none] = .nx [some (vB ds), some (.bw [.int (p2 + 1 + 1 + 1)]), some (vI far), some (vI (n : Nat)), none, some (vI low), some (.d (pD (trm low row'))), none] := by
    generalize pD (trm low row') = Y at *
    (generalize f18 = Gf_law_plain at *; as_aux_lemma => push_cast [h7])
  (unfold f27; generalize hr_ : fnD _ _ _ _ = r_; revert r_; refine fn_R fun R hR => ?_; unfold m27; simp only [List.map_cons, List.map_nil, List.replicate, Nat.reduceSub, List.cons_append, List.nil_append])
  refine sq a0' (sq a1' (sq a2' (sq a3' (sq a4' (sq a5' ?_)))))
  by_cases q : (trm low row').1 < 121
  · refine sq_one (o := .rt (.sl 6) [some (vB ds), some (.bw [.int (p2 + 1 + 1 + 1)]), some (vI far), some (vI (n : Nat)), none, some (vI low), some (pV (trm low row').1 (trm low row').2), none]) ?_ ?_
    · unfold pD
      push_cast [a0, q, decide_true]
    · refine hR _ ⟨(trm low row').1, (trm low row').2, p2 + 1 + 1 + 1, by omega, trm_pl hl (by omega) hrow' q, ?_⟩
      simp only [q_finRt, q_finSl, q_finNx, q_finErr, backs, bk1, List.drop_succ_cons, List.drop_zero, List.drop_nil, List.replicate, Nat.reduceSub, List.getElem?_cons_zero, List.getElem?_cons_succ]
  · refine sq_one (o := .rt (.vl (pV 0 [])) [some (vB ds), some (.bw [.int (p2 + 1 + 1 + 1)]), some (vI far), some (vI (n : Nat)), none, some (vI low), some (.d (pD (trm low row'))), none]) ?_ ?_
    · unfold pD
      push_cast [a0, q, decide_false, z2, Nat.zero_le]
      rfl
    · refine hR _ ⟨0, [], p2 + 1 + 1 + 1, by omega, pl0, ?_⟩
      simp only [q_finRt, q_finSl, q_finNx, q_finErr, backs, bk1, List.drop_succ_cons, List.drop_zero, List.drop_nil, List.replicate, Nat.reduceSub, List.getElem?_cons_zero, List.getElem?_cons_succ]
end
end Kx

namespace Kx
open PySem PySem.Spec PyProof.Rows L2 DD
open Classical
local macro_rules
  | `(tactic| push_cast [$a,*]) => `(tactic| simp only [q_mulG, q_mulGI, q_mulGL, q_divG, q_augS, q_fAddI, q_fSubI, q_fMulI, q_augX, q_augL, q_orV, q_ttup, q_par, q_mulX, q_mulXT, q_aug, q_fAdd, q_raise, q_try, q_tryRt, q_tryNx, q_tryErr, q_tupDw, q_rgIt1, q_rgIt2, q_rgIt3, q_chain, q_slLH, q_ok, q_err, q_stuck, q_okS, q_errS, q_stuckS, q_nx, q_rt, q_bk, q_ct, q_errN, q_bind, q_thenS, q_seq, q_if, q_ret, q_retN, q_expr, q_pass, q_no, q_brk, q_cnt, q_asg, q_setD, q_setL, q_setF, q_var, q_c, q_mret, q_rdv, q_rds, q_rdDv, q_rdDs, q_n1, q_n2, q_n3, q_n4, q_n5, q_ownv, q_owns, q_op2, q_op1, q_fin2, q_fin1, q_sub, q_neg, q_div, q_mod, q_add, q_addI, q_addL, q_addT, q_mul, q_mulI, q_mulL, q_cmp, q_ii, q_true, q_tru, q_finT, q_tbl, q_tint, q_tlst, q_not, q_and, q_or, q_mif, q_ix, q_ixT, q_ixP, q_ixL, q_ixF, q_args0, q_args1, q_tup, q_lst, q_rdDs0, q_rdDs1, q_call1, q_call2, q_abs, q_int, q_lenT, q_lenP, q_lenL, q_lenF, q_tupT, q_tupL, q_lstT, q_lstL, q_max, q_min, q_mut, q_mkF, q_mkT, q_store, q_gtup, q_gpt, q_each0, q_each1, q_append, q_pop, q_isa, q_finV, q_gisa, q_back, q_mint, q_asI, q_slL, q_slH, q_svT, q_svL, q_svF, q_rg1, q_rg2, q_lrg, q_trg, q_andV, q_notV, q_callD, List.set_cons_zero, List.set_cons_succ, List.getElem?_cons_zero, List.getElem?_cons_succ, List.getElem?_nil, List.length_cons, List.length_nil, List.length_set, List.length_map, List.length_append, List.filterMap_cons, List.filterMap_nil, List.map_nil, List.map_cons, List.append_nil, List.nil_append, List.cons_append, reduceIte, Bool.not_true, Bool.not_false, Bool.false_eq_true, Nat.reduceAdd, Nat.zero_add, Nat.reduceEqDiff, argsIn, argIn, lsl, takeE, giveE, give1, List.nodup_cons, List.mem_cons, List.not_mem_nil, or_false, Nat.reduceEqDiff, Nat.succ_ne_self, not_false_eq_true, List.nodup_nil, and_self, $a,*])
  | `(tactic| push_cast [$a,*] at $h) => `(tactic| simp only [q_mulG, q_mulGI, q_mulGL, q_divG, q_augS, q_fAddI, q_fSubI, q_fMulI, q_augX, q_augL, q_orV, q_ttup, q_par, q_mulX, q_mulXT, q_aug, q_fAdd, q_raise, q_try, q_tryRt, q_tryNx, q_tryErr, q_tupDw, q_rgIt1, q_rgIt2, q_rgIt3, q_chain, q_slLH, q_ok, q_err, q_stuck, q_okS, q_errS, q_stuckS, q_nx, q_rt, q_bk, q_ct, q_errN, q_bind, q_thenS, q_seq, q_if, q_ret, q_retN, q_expr, q_pass, q_no, q_brk, q_cnt, q_asg, q_setD, q_setL, q_setF, q_var, q_c, q_mret, q_rdv, q_rds, q_rdDv, q_rdDs, q_n1, q_n2, q_n3, q_n4, q_n5, q_ownv, q_owns, q_op2, q_op1, q_fin2, q_fin1, q_sub, q_neg, q_div, q_mod, q_add, q_addI, q_addL, q_addT, q_mul, q_mulI, q_mulL, q_cmp, q_ii, q_true, q_tru, q_finT, q_tbl, q_tint, q_tlst, q_not, q_and, q_or, q_mif, q_ix, q_ixT, q_ixP, q_ixL, q_ixF, q_args0, q_args1, q_tup, q_lst, q_rdDs0, q_rdDs1, q_call1, q_call2, q_abs, q_int, q_lenT, q_lenP, q_lenL, q_lenF, q_tupT, q_tupL, q_lstT, q_lstL, q_max, q_min, q_mut, q_mkF, q_mkT, q_store, q_gtup, q_gpt, q_each0, q_each1, q_append, q_pop, q_isa, q_finV, q_gisa, q_back, q_mint, q_asI, q_slL, q_slH, q_svT, q_svL, q_svF, q_rg1, q_rg2, q_lrg, q_trg, q_andV, q_notV, q_callD, List.set_cons_zero, List.set_cons_succ, List.getElem?_cons_zero, List.getElem?_cons_succ, List.getElem?_nil, List.length_cons, List.length_nil, List.length_set, List.length_map, List.length_append, List.filterMap_cons, List.filterMap_nil, List.map_nil, List.map_cons, List.append_nil, List.nil_append, List.cons_append, reduceIte, Bool.not_true, Bool.not_false, Bool.false_eq_true, Nat.reduceAdd, Nat.zero_add, Nat.reduceEqDiff, argsIn, argIn, lsl, takeE, giveE, give1, List.nodup_cons, List.mem_cons, List.not_mem_nil, or_false, Nat.reduceEqDiff, Nat.succ_ne_self, not_false_eq_true, List.nodup_nil, and_self, $a,*] at $h)
/-! what is shown -/
theorem shp {l : Int} {fs : List Int} (hl : l.natAbs < 10 ^ 17) (hf : ∀ x ∈ fs, x.natAbs < 10 ^ 17) : ShC 20 (2 * (fs.length + 1)) 2 (pD (l, fs)) := by
  have e : (10 : Nat) ^ 17 < 2 ^ 1920 := Nat.lt_of_lt_of_le (show (10 : Nat) ^ 17 < 2 ^ 64 by decide) (pow_le2 (by omega))
  refine shC_tup (b := fs.length) (k := 1) (fun x hx => ?_) (by simp)
  simp only [List.mem_cons, List.not_mem_nil, or_false] at hx
  rcases hx with rfl | rfl
  · exact shC_int hl (by omega) (by omega) (Nat.lt_trans hl e)
  · refine shC_tup (b := 0) (k := 0) (fun x hx => ?_) (by simp)
    obtain ⟨i, hi, rfl⟩ := List.mem_map.mp hx
    exact shC_int (hf i hi) (by omega) (by omega) (Nat.lt_trans (hf i hi) e)
theorem bd0 {n : Nat} : Bd 0 (List.replicate n 0) := fun x hx => by rw [List.eq_of_mem_replicate hx]; omega
theorem pm_bd {f2 : List Int} (h2 : ∀ x ∈ f2, -1000000 ≤ x ∧ x ≤ 1000000) (hl2 : f2.length ≤ 120) : ∀ {f1 s : List Int} {o : Nat} {b : Int}, (∀ x ∈ f1, -1000000 ≤ x ∧ x ≤ 1000000) → Bd b s → 0 ≤ b → Bd (b + 120000000000000 * f1.length) (pm f2 s o f1)
  | [], s, o, b, _, h, hb => by simpa [pm] using h
  | c :: r, s, o, b, h1, h, hb => by
    unfold pm
    have hc := h1 c List.mem_cons_self
    have hm : Bd 1000000000000 (f2.map (c * ·)) := fun x hx => by
      obtain ⟨y, hy, rfl⟩ := List.mem_map.mp hx
      have hy := h2 y hy
      have : (c * y).natAbs ≤ 1000000 * 1000000 := by
        rw [Int.natAbs_mul]
        exact Nat.mul_le_mul (by omega) (by omega)
      omega
    have h3 := bd_add (c := 1000000000000) (by omega) (o := o) h hb hm
    rw [List.length_map] at h3
    have h4 : Bd (b + 120000000000000) (addAt s o (f2.map (c * ·))) := fun x hx => by
      have := h3 x hx
      omega
    have h5 := pm_bd h2 hl2 (f1 := r) (o := o + 1) (fun x hx => h1 x (List.mem_cons_of_mem _ hx)) h4 (by omega)
    intro x hx
    have := h5 x hx
    rw [List.length_cons]
    omega
theorem sum_small {l1 l2 : Int} {f1 f2 : List Int} (p1 : Pl l1 f1) (p2 : Pl l2 f2) : (psum l1 f1 l2 f2).1.natAbs < 10 ^ 17 ∧ (∀ x ∈ (psum l1 f1 l2 f2).2, x.natAbs < 10 ^ 17) ∧ (psum l1 f1 l2 f2).2.length ≤ 600 := by
  have e : (10 : Nat) ^ 17 = 100000000000000000 := by decide
  rw [e]
  have one : ∀ {l : Int} {fs : List Int}, Pl l fs → l.natAbs < 100000000000000000 ∧ (∀ x ∈ fs, x.natAbs < 100000000000000000) ∧ fs.length ≤ 600 := fun p => ⟨by have := p.lo; have := p.hi; omega, fun x hx => by have := p.sm x hx; omega, by have := p.len; omega⟩
  unfold psum
  split
  · split
    · exact one p2
    · exact one p1
  · rename_i hn
    obtain ⟨lo, hi, n, o1, o2, hs, hlo, hhi, hnn, ho1, ho2, q1, q2, q3⟩ := spn_facts p1 p2 (fun z => hn (.inl z))
    rw [hs]
    dsimp only
    have b1 := bd_add (c := 1000000) (by omega) (o := o1) (xs := f1) (bd0 (n := n)) (Int.le_refl 0) p1.sm
    have b2 := bd_add (c := 1000000) (by omega) (o := o2) (xs := f2) b1 (by omega) p2.sm
    have hlen : (addAt (addAt (List.replicate n 0) o1 f1) o2 f2).length ≤ 600 := by rw [addAt_len, addAt_len, List.length_replicate]; exact q3
    have := p1.lo
    have := p1.hi
    have := p2.lo
    have := p2.hi
    have := p1.len
    have := p2.len
    rcases trm_facts lo (addAt (addAt (List.replicate n 0) o1 f1) o2 f2) with e | ⟨a, m, e, ht, hl, hm⟩
    · rw [e]
      exact ⟨by omega, by simp, by simp⟩
    · rw [e]
      refine ⟨by omega, fun x hx => ?_, by dsimp only; omega⟩
      have := b2 x (hm x hx)
      omega
theorem prod_small {l1 l2 : Int} {f1 f2 : List Int} (p1 : Pl l1 f1) (p2 : Pl l2 f2) : (pprod l1 f1 l2 f2).1.natAbs < 10 ^ 17 ∧ (∀ x ∈ (pprod l1 f1 l2 f2).2, x.natAbs < 10 ^ 17) ∧ (pprod l1 f1 l2 f2).2.length ≤ 600 := by
  have e : (10 : Nat) ^ 17 = 100000000000000000 := by decide
  rw [e]
  unfold pprod
  split
  · exact ⟨by simp, by simp, by simp⟩
  · have b1 := pm_bd p2.sm p2.len (f1 := f1) (o := 0) p1.sm (bd0 (n := f1.length + f2.length - 1)) (Int.le_refl 0)
    have := p1.lo
    have := p1.hi
    have := p2.lo
    have := p2.hi
    have := p1.len
    have := p2.len
    have hlen : (pm f2 (List.replicate (f1.length + f2.length - 1) 0) 0 f1).length ≤ 600 := by rw [pm_len, List.length_replicate]; omega
    rcases trm_facts (l1 + l2) (pm f2 (List.replicate (f1.length + f2.length - 1) 0) 0 f1) with e | ⟨a, m, e, ht, hl, hm⟩
    · rw [e]
      exact ⟨by simp, by simp, by simp⟩
    · rw [e]
      refine ⟨by omega, fun x hx => ?_, by dsimp only; omega⟩
      have := b1 x (hm x hx)
      omega
theorem lay_p {r : Int × List Int} : Lay 2 (pD r) := lay_tup (k := 1) (by simpa using ⟨lay_int, lay_ints⟩)
theorem gr_due {l1 l2 : Int} {f1 f2 : List Int} (p1 : Pl l1 f1) (p2 : Pl l2 f2) : gRepr (.d (.tup [pD (psum l1 f1 l2 f2), pD (pprod l1 f1 l2 f2)])) = some (.d (.str (D.tup [pD (psum l1 f1 l2 f2), pD (pprod l1 f1 l2 f2)]).py.shown)) := by
  obtain ⟨a1, a2, a3⟩ := sum_small p1 p2
  obtain ⟨b1, b2, b3⟩ := prod_small p1 p2
  have s1 := shp a1 a2
  have s2 := shp b1 b2
  refine gRepr_c (B := 20) (b := 2 * 2000) (k := 3) (shC_tup (b := 1999) (k := 2) (fun x hx => ?_) (by simp)) (by omega) (by omega) (by omega)
  simp only [List.mem_cons, List.not_mem_nil, or_false] at hx
  rcases hx with rfl | rfl
  · exact shC_up s1 (by omega) (Nat.le_refl _)
  · exact shC_up s2 (by omega) (Nat.le_refl _)
theorem p1700 : (2 : Nat) ^ 1700 ≤ 10 ^ 600 := by
  have h := Nat.pow_le_pow_left (show (2 : Nat) ^ 17 ≤ 10 ^ 6 by decide) 100
  rw [← Nat.pow_mul, ← Nat.pow_mul] at h
  exact h
theorem gr_val {l o u : Int} {fs : List Int} {k : Nat} (h : Vb l fs o u k) : gRepr (.d (qD (val l fs o u))) = some (.d (.str (qD (val l fs o u)).py.shown)) := by
  have hM := vM_ne h
  have hd : (0 : Int) < ((vM l fs o u).natAbs : Int) := by omega
  obtain ⟨q1, q2⟩ := rdp_le (n := sgn (vM l fs o u) * vN l fs o u) hd
  have hb : (vM l fs o u).natAbs < 2 ^ 1700 := vM_bd h (N := 850) (M := 1700) (by omega) (by omega)
  have hn : (sgn (vM l fs o u) * vN l fs o u).natAbs < 2 ^ 1700 := by
    have e : (sgn (vM l fs o u) * vN l fs o u).natAbs = (vN l fs o u).natAbs := by
      rw [Int.natAbs_mul]
      have : (sgn (vM l fs o u)).natAbs = 1 := by unfold sgn; split <;> rfl
      rw [this, Nat.one_mul]
    rw [e]
    unfold vN
    have bT := h.tb (j := fs.length) (g := fs.length - 1) (Nat.le_refl _) (by omega) (by omega) (N := 840) (by omega)
    rw [List.take_length] at bT
    have q0 := h.pw (p := l.natAbs) (by omega)
    have b2 : (if 0 ≤ l then o ^ l.natAbs else u ^ l.natAbs).natAbs < 2 ^ 840 := by
      split
      · exact lt_le (pow_bd h.ob) (by omega)
      · exact lt_le (pow_bd h.ub) (by omega)
    exact Nat.lt_of_lt_of_le (na_mul bT b2) (pow_le2 (by omega))
  have c1 : (val l fs o u).1.natAbs < 2 ^ 1700 := Nat.lt_of_le_of_lt q1 hn
  have c2 : (val l fs o u).2.natAbs < 2 ^ 1700 := Nat.lt_of_le_of_lt q2 (by simpa using hb)
  refine gRepr_c (B := 700) (b := 2) (k := 1) (shC_tup (b := 0) (k := 0) (fun x hx => ?_) (by simp)) (by omega) (by omega) (by omega)
  simp only [List.mem_cons, List.not_mem_nil, or_false] at hx
  rcases hx with rfl | rfl
  · exact shC_int (n := 600) (Nat.lt_of_lt_of_le c1 p1700) (by omega) (by omega) (Nat.lt_of_lt_of_le c1 (pow_le2 (by omega)))
  · exact shC_int (n := 600) (Nat.lt_of_lt_of_le c2 p1700) (by omega) (by omega) (Nat.lt_of_lt_of_le c2 (pow_le2 (by omega)))
theorem e_same {X : D} {t : Str} (h1 : eqV2 (.d X) (.d X) = some true) (h2 : gRepr (.d X) = some (.d (.str t))) : f22 [.d X, .d X] = .ok (.d (.bl true)) [none, none] := by
  (unfold f22 fnD m22; as_aux_lemma => push_cast [q_finRt, q_finSl, q_finNx, q_finErr, backs, bk1, List.drop_succ_cons, List.drop_zero, List.drop_nil, List.replicate, Nat.reduceSub, List.getElem?_cons_zero, List.getElem?_cons_succ, h1, h2, DD.eq_str, decide_true])
theorem e_pval {l o u : Int} {fs : List Int} {k : Nat} (h : Vb l fs o u k) (ho : -1000000 ≤ o ∧ o ≤ 1000000) (hu : u ≤ 1000000) : f9 [pV l fs, vI o, vI u] = .ok (.d (qD (val l fs o u))) [none, none, none] := by
  have d1 := dem_ok h.p "poly"
  have d2 := e_rng (.int o) (-1000000) 1000000
  have d3 := e_rng (.int u) 1 1000000
  have r1 : inR (.int o) (-1000000) 1000000 = true := by simp [inR, ho.1, ho.2]
  have r2 : inR (.int u) 1 1000000 = true := by have := h.u0; simp [inR, hu]; omega
  rw [r1] at d2
  rw [r2] at d3
  have hv := e_vat h
  have ho0 := h.o0
  generalize qD (val l fs o u) = Y at *
  (unfold f9 fnD m9; generalize f6 = Gf6 at *; generalize f1 = Gf1 at *; generalize f11 = Gf11 at *; as_aux_lemma => push_cast [q_finRt, q_finSl, q_finNx, q_finErr, backs, bk1, List.drop_succ_cons, List.drop_zero, List.drop_nil, List.replicate, Nat.reduceSub, List.getElem?_cons_zero, List.getElem?_cons_succ, d1, d2, d3, hv, DD.eq_int, ho0, decide_false])
/-! told -/
abbrev TE (c : Int) (x y z : D) : DD.Env := [some (vI c), some (.d x), some (.d y), some (.d z), none]
section
variable {c : Int} {x y z : D} {v : Val} {e : Exn}
theorem kk0 : decide ((0 : Int) < 2) = true := by decide
theorem kk1 : decide ((1 : Int) < 2) = true := by decide
theorem kk2 : decide ((2 : Int) < 2) = false := by decide
theorem kk3 : decide ((3 : Int) < 2) = false := by decide
theorem kk10 : decide ((1 : Int) = 0) = false := by decide
theorem kk32 : decide ((3 : Int) = 2) = false := by decide
theorem t0 (h : f7 [.d x, .d y] = .ok v [none, none]) : t29_0 (TE 0 x y z) = .rt (.vl v) (TE 0 x y z) := by
  unfold t29_0
  (generalize f7 = Gfpoly_sum at *; generalize f8 = Gfpoly_product at *; generalize f9 = Gfpoly_value at *; generalize f13 = Gfis_even_poly at *; as_aux_lemma => push_cast [DD.eq_int, decide_true, kk0, h])
theorem t0e (h : f7 [.d x, .d y] = .err e [none, none]) : t29_0 (TE 0 x y z) = .err e (TE 0 x y z) := by
  unfold t29_0
  (generalize f7 = Gfpoly_sum at *; generalize f8 = Gfpoly_product at *; generalize f9 = Gfpoly_value at *; generalize f13 = Gfis_even_poly at *; as_aux_lemma => push_cast [DD.eq_int, decide_true, kk0, h])
theorem t1 (h : f8 [.d x, .d y] = .ok v [none, none]) : t29_0 (TE 1 x y z) = .rt (.vl v) (TE 1 x y z) := by
  unfold t29_0
  (generalize f7 = Gfpoly_sum at *; generalize f8 = Gfpoly_product at *; generalize f9 = Gfpoly_value at *; generalize f13 = Gfis_even_poly at *; as_aux_lemma => push_cast [DD.eq_int, kk10, kk1, h])
theorem t1e (h : f8 [.d x, .d y] = .err e [none, none]) : t29_0 (TE 1 x y z) = .err e (TE 1 x y z) := by
  unfold t29_0
  (generalize f7 = Gfpoly_sum at *; generalize f8 = Gfpoly_product at *; generalize f9 = Gfpoly_value at *; generalize f13 = Gfis_even_poly at *; as_aux_lemma => push_cast [DD.eq_int, kk10, kk1, h])
theorem t2 (h : f9 [.d x, .d y, .d z] = .ok v [none, none, none]) : t29_0 (TE 2 x y z) = .rt (.vl v) (TE 2 x y z) := by
  unfold t29_0
  (generalize f7 = Gfpoly_sum at *; generalize f8 = Gfpoly_product at *; generalize f9 = Gfpoly_value at *; generalize f13 = Gfis_even_poly at *; as_aux_lemma => push_cast [DD.eq_int, decide_true, kk2, h])
theorem t2e (h : f9 [.d x, .d y, .d z] = .err e [none, none, none]) : t29_0 (TE 2 x y z) = .err e (TE 2 x y z) := by
  unfold t29_0
  (generalize f7 = Gfpoly_sum at *; generalize f8 = Gfpoly_product at *; generalize f9 = Gfpoly_value at *; generalize f13 = Gfis_even_poly at *; as_aux_lemma => push_cast [DD.eq_int, decide_true, kk2, h])
theorem t3 (h : f13 [.d x] = .ok v [none]) : t29_0 (TE 3 x y z) = .rt (.vl v) (TE 3 x y z) := by
  unfold t29_0
  (generalize f7 = Gfpoly_sum at *; generalize f8 = Gfpoly_product at *; generalize f9 = Gfpoly_value at *; generalize f13 = Gfis_even_poly at *; as_aux_lemma => push_cast [DD.eq_int, kk32, kk3, h])
theorem t3e (h : f13 [.d x] = .err e [none]) : t29_0 (TE 3 x y z) = .err e (TE 3 x y z) := by
  unfold t29_0
  (generalize f7 = Gfpoly_sum at *; generalize f8 = Gfpoly_product at *; generalize f9 = Gfpoly_value at *; generalize f13 = Gfis_even_poly at *; as_aux_lemma => push_cast [DD.eq_int, kk32, kk3, h])
theorem told_ok (h : t29_0 (TE c x y z) = .rt (.vl v) (TE c x y z)) : f29 [vI c, .d x, .d y, .d z] = .ok v [none, none, none, none] := by
  (unfold f29 fnD m29; generalize t29_0 = Gt29_0 at *; as_aux_lemma => push_cast [q_finRt, q_finSl, q_finNx, q_finErr, backs, bk1, List.drop_succ_cons, List.drop_zero, List.drop_nil, List.replicate, Nat.reduceSub, List.getElem?_cons_zero, List.getElem?_cons_succ, h])
theorem told_a {r : String} (h : t29_0 (TE c x y z) = .err (aErr r) (TE c x y z)) : f29 [vI c, .d x, .d y, .d z] = .ok (.d (.tup [.str "argument", .str r])) [none, none, none, none] := by
  unfold f29 fnD m29
  generalize t29_0 = T at *
  show SOut.fin _ (sTryN T _ (TE c x y z)) = _
  rw [q_try, h]
  rfl
end
end Kx

namespace Kx
open PySem PySem.Spec PyProof.Rows L2 DD
open Classical
local macro_rules
  | `(tactic| push_cast [$a,*]) => `(tactic| simp only [q_mulG, q_mulGI, q_mulGL, q_divG, q_augS, q_fAddI, q_fSubI, q_fMulI, q_augX, q_augL, q_orV, q_ttup, q_par, q_mulX, q_mulXT, q_aug, q_fAdd, q_raise, q_try, q_tryRt, q_tryNx, q_tryErr, q_tupDw, q_rgIt1, q_rgIt2, q_rgIt3, q_chain, q_slLH, q_ok, q_err, q_stuck, q_okS, q_errS, q_stuckS, q_nx, q_rt, q_bk, q_ct, q_errN, q_bind, q_thenS, q_seq, q_if, q_ret, q_retN, q_expr, q_pass, q_no, q_brk, q_cnt, q_asg, q_setD, q_setL, q_setF, q_var, q_c, q_mret, q_rdv, q_rds, q_rdDv, q_rdDs, q_n1, q_n2, q_n3, q_n4, q_n5, q_ownv, q_owns, q_op2, q_op1, q_fin2, q_fin1, q_sub, q_neg, q_div, q_mod, q_add, q_addI, q_addL, q_addT, q_mul, q_mulI, q_mulL, q_cmp, q_ii, q_true, q_tru, q_finT, q_tbl, q_tint, q_tlst, q_not, q_and, q_or, q_mif, q_ix, q_ixT, q_ixP, q_ixL, q_ixF, q_args0, q_args1, q_tup, q_lst, q_rdDs0, q_rdDs1, q_call1, q_call2, q_abs, q_int, q_lenT, q_lenP, q_lenL, q_lenF, q_tupT, q_tupL, q_lstT, q_lstL, q_max, q_min, q_mut, q_mkF, q_mkT, q_store, q_gtup, q_gpt, q_each0, q_each1, q_append, q_pop, q_isa, q_finV, q_gisa, q_back, q_mint, q_asI, q_slL, q_slH, q_svT, q_svL, q_svF, q_rg1, q_rg2, q_lrg, q_trg, q_andV, q_notV, q_callD, List.set_cons_zero, List.set_cons_succ, List.getElem?_cons_zero, List.getElem?_cons_succ, List.getElem?_nil, List.length_cons, List.length_nil, List.length_set, List.length_map, List.length_append, List.filterMap_cons, List.filterMap_nil, List.map_nil, List.map_cons, List.append_nil, List.nil_append, List.cons_append, reduceIte, Bool.not_true, Bool.not_false, Bool.false_eq_true, Nat.reduceAdd, Nat.zero_add, Nat.reduceEqDiff, argsIn, argIn, lsl, takeE, giveE, give1, List.nodup_cons, List.mem_cons, List.not_mem_nil, or_false, Nat.reduceEqDiff, Nat.succ_ne_self, not_false_eq_true, List.nodup_nil, and_self, $a,*])
  | `(tactic| push_cast [$a,*] at $h) => `(tactic| simp only [q_mulG, q_mulGI, q_mulGL, q_divG, q_augS, q_fAddI, q_fSubI, q_fMulI, q_augX, q_augL, q_orV, q_ttup, q_par, q_mulX, q_mulXT, q_aug, q_fAdd, q_raise, q_try, q_tryRt, q_tryNx, q_tryErr, q_tupDw, q_rgIt1, q_rgIt2, q_rgIt3, q_chain, q_slLH, q_ok, q_err, q_stuck, q_okS, q_errS, q_stuckS, q_nx, q_rt, q_bk, q_ct, q_errN, q_bind, q_thenS, q_seq, q_if, q_ret, q_retN, q_expr, q_pass, q_no, q_brk, q_cnt, q_asg, q_setD, q_setL, q_setF, q_var, q_c, q_mret, q_rdv, q_rds, q_rdDv, q_rdDs, q_n1, q_n2, q_n3, q_n4, q_n5, q_ownv, q_owns, q_op2, q_op1, q_fin2, q_fin1, q_sub, q_neg, q_div, q_mod, q_add, q_addI, q_addL, q_addT, q_mul, q_mulI, q_mulL, q_cmp, q_ii, q_true, q_tru, q_finT, q_tbl, q_tint, q_tlst, q_not, q_and, q_or, q_mif, q_ix, q_ixT, q_ixP, q_ixL, q_ixF, q_args0, q_args1, q_tup, q_lst, q_rdDs0, q_rdDs1, q_call1, q_call2, q_abs, q_int, q_lenT, q_lenP, q_lenL, q_lenF, q_tupT, q_tupL, q_lstT, q_lstL, q_max, q_min, q_mut, q_mkF, q_mkT, q_store, q_gtup, q_gpt, q_each0, q_each1, q_append, q_pop, q_isa, q_finV, q_gisa, q_back, q_mint, q_asI, q_slL, q_slH, q_svT, q_svL, q_svF, q_rg1, q_rg2, q_lrg, q_trg, q_andV, q_notV, q_callD, List.set_cons_zero, List.set_cons_succ, List.getElem?_cons_zero, List.getElem?_cons_succ, List.getElem?_nil, List.length_cons, List.length_nil, List.length_set, List.length_map, List.length_append, List.filterMap_cons, List.filterMap_nil, List.map_nil, List.map_cons, List.append_nil, List.nil_append, List.cons_append, reduceIte, Bool.not_true, Bool.not_false, Bool.false_eq_true, Nat.reduceAdd, Nat.zero_add, Nat.reduceEqDiff, argsIn, argIn, lsl, takeE, giveE, give1, List.nodup_cons, List.mem_cons, List.not_mem_nil, or_false, Nat.reduceEqDiff, Nat.succ_ne_self, not_false_eq_true, List.nodup_nil, and_self, $a,*] at $h)
theorem so_a : PyData.strOk ("argument" : Str) = true := by decide +kernel
theorem so_1 : PyData.strOk ("first" : Str) = true := by decide +kernel
theorem so_2 : PyData.strOk ("second" : Str) = true := by decide +kernel
theorem so_p : PyData.strOk ("poly" : Str) = true := by decide +kernel
theorem so_o : PyData.strOk ("over" : Str) = true := by decide +kernel
theorem so_u : PyData.strOk ("under" : Str) = true := by decide +kernel
theorem eq_two {a b : Str} (ha : PyData.strOk a = true) (hb : PyData.strOk b = true) : eqV2 (.d (.tup [.str a, .str b])) (.d (.tup [.str a, .str b])) = some true := lay_eqS (k := 0) (by simpa using ⟨lay_str ha, lay_str hb⟩) (by decide)
section
variable {c : Val} {ds : List Int} {p : Int} {v3 v4 v5 v6 v7 v8 v9 v10 v11 v12 v13 v14 : Option Val} {R : SOut → Prop}
abbrev LE (c : Val) (ds : List Int) (p : Int) (v3 v4 v5 v6 v7 v8 v9 v10 v11 v12 v13 v14 : Option Val) : DD.Env := [some c, some (vL ds), some (.l [.int p]), v3, v4, v5, v6, v7, v8, v9, v10, v11, v12, v13, v14]
theorem gr_b {b : Bool} : gRepr (.d (.bl b)) = some (.d (.str (D.bl b).py.shown)) := gRepr_c (B := 8) (b := 0) (k := 0) shC_bl (by omega) (by omega) (by omega)
theorem lp_turn (hp : 0 ≤ p) (k : ∀ p' v9' v10' v11' v12' l fs v14', 0 ≤ p' → Pl l fs → R (.nx (LE c ds p' v3 v4 v5 v6 v7 v8 v9' v10' v11' v12' (some (pV l fs)) v14'))) : R (b30_2 (LE c ds p v3 v4 v5 v6 v7 v8 v9 v10 v11 v12 v13 v14)) := by
  obtain ⟨l1, f1, p1, hp1, P1, h1⟩ := e_lpoly (ds := ds) hp
  obtain ⟨l2, f2, p2, hp2, P2, h2⟩ := e_lpoly (ds := ds) hp1
  have h3 := e_lsum P1 P2
  have h4 := e_lprod P1 P2
  have g5 := gr_due P1 P2
  have e5 : eqV2 (.d (.tup [pD (psum l1 f1 l2 f2), pD (pprod l1 f1 l2 f2)])) (.d (.tup [pD (psum l1 f1 l2 f2), pD (pprod l1 f1 l2 f2)])) = some true := lay_eqS (k := 2) (by simpa using ⟨lay_p, lay_p⟩) (by decide)
  have h5 := e_same e5 g5
  have t12a := told_ok (z := .non) (t0 (z := .non) (e_psum P1 P2))
  have t12b := told_ok (z := .non) (t1 (z := .non) (e_pprod P1 P2))
  have t21a := told_ok (z := .non) (t0 (z := .non) (e_psum P2 P1))
  have t21b := told_ok (z := .non) (t1 (z := .non) (e_pprod P2 P1))
  rw [psum_comm P1 P2] at t21a
  rw [pprod_comm] at t21b
  unfold b30_2
  generalize hDU : pD (psum l1 f1 l2 f2) = D1 at *
  generalize hDU2 : pD (pprod l1 f1 l2 f2) = D2 at *
  refine sq (η' := LE c ds p2 v3 v4 v5 v6 v7 v8 v9 v10 v11 v12 (some (pV l1 f1)) (some (pV l2 f2))) ?_ ?_
  · (generalize f27 = Gf_law_poly at *; as_aux_lemma => push_cast [h1, h2])
  refine sq (η' := LE c ds p2 v3 v4 v5 v6 v7 v8 (some (.d (.tup [D1, D2]))) v10 v11 v12 (some (pV l1 f1)) (some (pV l2 f2))) ?_ ?_
  · (generalize f19 = Gf_law_sum at *; generalize f20 = Gf_law_product at *; as_aux_lemma => push_cast [h3, h4, z2])
  unfold l30_1 b30_0
  refine sq_for (it := { items := [.tup [.tup [.int l1, .tup (f1.map D.int)], .tup [.int l2, .tup (f2.map D.int)]], .tup [.tup [.int l2, .tup (f2.map D.int)], .tup [.int l1, .tup (f1.map D.int)]]], src := [.tup [.tup [.int l1, .tup (f1.map D.int)], .tup [.int l2, .tup (f2.map D.int)]], .tup [.tup [.int l2, .tup (f2.map D.int)], .tup [.int l1, .tup (f1.map D.int)]]] }) (fun (x : Option Val) => LE c ds p2 v3 v4 v5 v6 v7 v8 (some (.d (.tup [D1, D2]))) x v11 v12 (some (pV l1 f1)) (some (pV l2 f2))) (fun _ _ => True) v10 (by push_cast [z2]; rfl) rfl trivial ?_ ?_
  · rintro j x a hx _
    match j, hx with
    | 0, hx =>
      cases hx
      refine ⟨LE c ds p2 v3 v4 v5 v6 v7 v8 (some (.d (.tup [D1, D2]))) (some (.d (.tup [.tup [.int l1, .tup (f1.map D.int)], .tup [.int l2, .tup (f2.map D.int)]]))) v11 v12 (some (pV l1 f1)) (some (pV l2 f2)), by push_cast [q_ok], ?_⟩
      refine sq_one (o := .nx (LE c ds p2 v3 v4 v5 v6 v7 v8 (some (.d (.tup [D1, D2]))) (some (.d (.tup [.tup [.int l1, .tup (f1.map D.int)], .tup [.int l2, .tup (f2.map D.int)]]))) v11 v12 (some (pV l1 f1)) (some (pV l2 f2)))) ?_ ⟨_, rfl, trivial⟩
      (generalize f22 = Gf_law_same_as at *; generalize f29 = Gf_law_told at *; as_aux_lemma => push_cast [a0, a1, t12a, t12b, h5, z2])
    | 1, hx =>
      cases hx
      refine ⟨LE c ds p2 v3 v4 v5 v6 v7 v8 (some (.d (.tup [D1, D2]))) (some (.d (.tup [.tup [.int l2, .tup (f2.map D.int)], .tup [.int l1, .tup (f1.map D.int)]]))) v11 v12 (some (pV l1 f1)) (some (pV l2 f2)), by push_cast [q_ok], ?_⟩
      refine sq_one (o := .nx (LE c ds p2 v3 v4 v5 v6 v7 v8 (some (.d (.tup [D1, D2]))) (some (.d (.tup [.tup [.int l2, .tup (f2.map D.int)], .tup [.int l1, .tup (f1.map D.int)]]))) v11 v12 (some (pV l1 f1)) (some (pV l2 f2)))) ?_ ⟨_, rfl, trivial⟩
      (generalize f22 = Gf_law_same_as at *; generalize f29 = Gf_law_told at *; as_aux_lemma => push_cast [a0, a1, t21a, t21b, h5, z2])
    | j + 2, hx => simp at hx
  · rintro v10' _
    have h6 := told_ok (y := .non) (z := .non) (t3 (y := .non) (z := .non) (e_even P1))
    have h7 := e_same (X := .bl (decide (f1 = f1.reverse))) (by rw [DD.eq_bl, decide_eq_true rfl]) gr_b
    have he : eqV2 (.d (.tup (f1.map D.int))) (.d (.tup (f1.map D.int).reverse)) = some (decide (f1 = f1.reverse)) := by rw [← List.map_reverse]; exact DD.eq_tup f1 f1.reverse
    refine sq (η' := LE c ds p2 v3 v4 v5 v6 v7 v8 (some (.d (.tup [D1, D2]))) v10' v11 v12 (some (pV l1 f1)) (some (pV l2 f2))) ?_ ?_
    · generalize decide (f1 = f1.reverse) = B at *
      (generalize f22 = Gf_law_same_as at *; generalize f29 = Gf_law_told at *; as_aux_lemma => push_cast [a1, h6, h7, he])
    -- over and under
    have hov : ∃ o p3, 0 ≤ p3 ∧ o ≠ 0 ∧ -1000000 ≤ o ∧ o ≤ 1000000 ∧ ((f1.length < 20 ∧ l1.natAbs < 20) ∨ (-2 ≤ o ∧ o ≤ 2)) ∧ (sAsg (mIf (mAndT (mTrue (mCmpV (onII fun i j => decide (i < j)) (mCall1 gLen (mIx (mVar 13) (mC (.int 1)))) (mC (.int 20)))) (mTrue (mCmpV (onII fun i j => decide (i < j)) (mCall1 gAbs (mIx (mVar 13) (mC (.int 0)))) (mC (.int 20))))) (mCallD f17 [] [mLst [mC (.int 1), mOp1 fNeg (mC (.int 1)), mC (.int 2), mOp1 fNeg (mC (.int 3)), mC (.int 7), mC (.int 1000000), mOp1 fNeg (mC (.int 1000000))], mVar 1, mVar 2]) (mCallD f17 [] [mLst [mC (.int 1), mOp1 fNeg (mC (.int 1)), mC (.int 2), mOp1 fNeg (mC (.int 2))], mVar 1, mVar 2])) (gSet 11)) (LE c ds p2 v3 v4 v5 v6 v7 v8 (some (.d (.tup [D1, D2]))) v10' v11 v12 (some (pV l1 f1)) (some (pV l2 f2))) = .nx (LE c ds p3 v3 v4 v5 v6 v7 v8 (some (.d (.tup [D1, D2]))) v10' (some (vI o)) v12 (some (pV l1 f1)) (some (pV l2 f2))) := by
      have z7' := z7
      by_cases q : f1.length < 20 ∧ l1.natAbs < 20
      · obtain ⟨o, ho, h⟩ := e_one (ds := ds) (xs := [1, -1, 2, -3, 7, 1000000, -1000000]) (p := p2) hp2 (by decide)
        have ho2 : o ≠ 0 ∧ -1000000 ≤ o ∧ o ≤ 1000000 := by simp only [List.mem_cons, List.not_mem_nil, or_false] at ho; omega
        simp only [vL, List.map_cons, List.map_nil] at h
        have q1 : ((f1.length : Int) < 20) = True := eq_true (by omega)
        have q2 : ((l1.natAbs : Int) < 20) = True := eq_true (by omega)
        refine ⟨o, p2 + 1, by omega, ho2.1, ho2.2.1, ho2.2.2, .inl q, ?_⟩
        (generalize f17 = Gf_law_one at *; as_aux_lemma => push_cast [a0, a1, q1, q2, decide_true, z7, h])
      · obtain ⟨o, ho, h⟩ := e_one (ds := ds) (xs := [1, -1, 2, -2]) (p := p2) hp2 (by decide)
        have ho2 : o ≠ 0 ∧ -2 ≤ o ∧ o ≤ 2 := by simp only [List.mem_cons, List.not_mem_nil, or_false] at ho; omega
        simp only [vL, List.map_cons, List.map_nil] at h
        refine ⟨o, p2 + 1, by omega, ho2.1, by omega, by omega, .inr ho2.2, ?_⟩
        by_cases q3 : f1.length < 20
        · have q1 : ((f1.length : Int) < 20) = True := eq_true (by omega)
          have q2 : ((l1.natAbs : Int) < 20) = False := eq_false (by omega)
          (generalize f17 = Gf_law_one at *; as_aux_lemma => push_cast [a0, a1, q1, q2, decide_true, decide_false, z4, h])
        · have q1 : ((f1.length : Int) < 20) = False := eq_false (by omega)
          (generalize f17 = Gf_law_one at *; as_aux_lemma => push_cast [a0, a1, q1, decide_false, z4, h])
    obtain ⟨o, p3, hp3, ho0, ho1, ho2, hoo, h8⟩ := hov
    refine sq h8 ?_
    have hun : ∃ u p4, 0 ≤ p4 ∧ 0 < u ∧ u ≤ 1000000 ∧ ((o.natAbs > 2) ∨ u ≤ 2) ∧ (sAsg (mIf (mTrue (mCmpV (onII fun i j => decide (j < i)) (mCall1 gAbs (mVar 11)) (mC (.int 2)))) (mCallD f17 [] [mLst [mC (.int 1), mC (.int 1), mC (.int 2), mC (.int 5), mC (.int 1000000)], mVar 1, mVar 2]) (mCallD f17 [] [mLst [mC (.int 1), mC (.int 2)], mVar 1, mVar 2])) (gSet 12)) (LE c ds p3 v3 v4 v5 v6 v7 v8 (some (.d (.tup [D1, D2]))) v10' (some (vI o)) v12 (some (pV l1 f1)) (some (pV l2 f2))) = .nx (LE c ds p4 v3 v4 v5 v6 v7 v8 (some (.d (.tup [D1, D2]))) v10' (some (vI o)) (some (vI u)) (some (pV l1 f1)) (some (pV l2 f2))) := by
      by_cases q : 2 < o.natAbs
      · obtain ⟨u, hu, h⟩ := e_one (ds := ds) (xs := [1, 1, 2, 5, 1000000]) (p := p3) hp3 (by decide)
        have hu2 : 0 < u ∧ u ≤ 1000000 := by simp only [List.mem_cons, List.not_mem_nil, or_false] at hu; omega
        simp only [vL, List.map_cons, List.map_nil] at h
        have q1 : ((2 : Int) < (o.natAbs : Int)) = True := eq_true (by omega)
        refine ⟨u, p3 + 1, by omega, hu2.1, hu2.2, .inl q, ?_⟩
        (generalize f17 = Gf_law_one at *; as_aux_lemma => push_cast [q1, decide_true, z5, h])
      · obtain ⟨u, hu, h⟩ := e_one (ds := ds) (xs := [1, 2]) (p := p3) hp3 (by decide)
        have hu2 : 0 < u ∧ u ≤ 2 := by simp only [List.mem_cons, List.not_mem_nil, or_false] at hu; omega
        simp only [vL, List.map_cons, List.map_nil] at h
        have q1 : ((2 : Int) < (o.natAbs : Int)) = False := eq_false (by omega)
        refine ⟨u, p3 + 1, by omega, hu2.1, by omega, .inr hu2.2, ?_⟩
        (generalize f17 = Gf_law_one at *; as_aux_lemma => push_cast [q1, decide_false, z2, h])
    obtain ⟨u, p4, hp4, hu0, hu1, huu, h9⟩ := hun
    refine sq h9 ?_
    have hvb : ∃ k, Vb l1 f1 o u k := by
      have := P1.len
      have := P1.lo
      have := P1.hi
      have e20 : (2 : Nat) ^ 20 = 1048576 := by decide
      by_cases q : f1.length < 20 ∧ l1.natAbs < 20
      · exact ⟨20, P1, ho0, by omega, hu0, by omega, Nat.le_refl _, by omega⟩
      · have hq : -2 ≤ o ∧ o ≤ 2 := by
          rcases hoo with h | h
          · exact (q h).elim
          · exact h
        exact ⟨1, P1, ho0, by omega, hu0, by omega, by omega, by omega⟩
    obtain ⟨k', hvb⟩ := hvb
    have h10 := told_ok (t2 (e_pval hvb ⟨ho1, ho2⟩ hu1))
    have h11 := e_lval hvb
    have h12 := e_same (X := qD (val l1 f1 o u)) (by unfold qD; exact lay_eqS (k := 0) (by simpa using ⟨lay_int, lay_int⟩) (by decide)) (gr_val hvb)
    refine sq_one (o := .nx (LE c ds p4 v3 v4 v5 v6 v7 v8 (some (.d (.tup [D1, D2]))) v10' (some (vI o)) (some (vI u)) (some (pV l1 f1)) (some (pV l2 f2)))) ?_ (k _ _ _ _ _ _ _ _ hp4 P1)
    generalize qD (val l1 f1 o u) = Y at *
    (generalize f22 = Gf_law_same_as at *; generalize f29 = Gf_law_told at *; generalize f28 = Gf_law_value at *; as_aux_lemma => push_cast [h10, h11, h12])
end
end Kx

namespace Kx
open PySem PySem.Spec PyProof.Rows L2 DD
open Classical
local macro_rules
  | `(tactic| push_cast [$a,*]) => `(tactic| simp only [q_mulG, q_mulGI, q_mulGL, q_divG, q_augS, q_fAddI, q_fSubI, q_fMulI, q_augX, q_augL, q_orV, q_ttup, q_par, q_mulX, q_mulXT, q_aug, q_fAdd, q_raise, q_try, q_tryRt, q_tryNx, q_tryErr, q_tupDw, q_rgIt1, q_rgIt2, q_rgIt3, q_chain, q_slLH, q_ok, q_err, q_stuck, q_okS, q_errS, q_stuckS, q_nx, q_rt, q_bk, q_ct, q_errN, q_bind, q_thenS, q_seq, q_if, q_ret, q_retN, q_expr, q_pass, q_no, q_brk, q_cnt, q_asg, q_setD, q_setL, q_setF, q_var, q_c, q_mret, q_rdv, q_rds, q_rdDv, q_rdDs, q_n1, q_n2, q_n3, q_n4, q_n5, q_ownv, q_owns, q_op2, q_op1, q_fin2, q_fin1, q_sub, q_neg, q_div, q_mod, q_add, q_addI, q_addL, q_addT, q_mul, q_mulI, q_mulL, q_cmp, q_ii, q_true, q_tru, q_finT, q_tbl, q_tint, q_tlst, q_not, q_and, q_or, q_mif, q_ix, q_ixT, q_ixP, q_ixL, q_ixF, q_args0, q_args1, q_tup, q_lst, q_rdDs0, q_rdDs1, q_call1, q_call2, q_abs, q_int, q_lenT, q_lenP, q_lenL, q_lenF, q_tupT, q_tupL, q_lstT, q_lstL, q_max, q_min, q_mut, q_mkF, q_mkT, q_store, q_gtup, q_gpt, q_each0, q_each1, q_append, q_pop, q_isa, q_finV, q_gisa, q_back, q_mint, q_asI, q_slL, q_slH, q_svT, q_svL, q_svF, q_rg1, q_rg2, q_lrg, q_trg, q_andV, q_notV, q_callD, List.set_cons_zero, List.set_cons_succ, List.getElem?_cons_zero, List.getElem?_cons_succ, List.getElem?_nil, List.length_cons, List.length_nil, List.length_set, List.length_map, List.length_append, List.filterMap_cons, List.filterMap_nil, List.map_nil, List.map_cons, List.append_nil, List.nil_append, List.cons_append, reduceIte, Bool.not_true, Bool.not_false, Bool.false_eq_true, Nat.reduceAdd, Nat.zero_add, Nat.reduceEqDiff, argsIn, argIn, lsl, takeE, giveE, give1, List.nodup_cons, List.mem_cons, List.not_mem_nil, or_false, Nat.reduceEqDiff, Nat.succ_ne_self, not_false_eq_true, List.nodup_nil, and_self, $a,*])
  | `(tactic| push_cast [$a,*] at $h) => `(tactic| simp only [q_mulG, q_mulGI, q_mulGL, q_divG, q_augS, q_fAddI, q_fSubI, q_fMulI, q_augX, q_augL, q_orV, q_ttup, q_par, q_mulX, q_mulXT, q_aug, q_fAdd, q_raise, q_try, q_tryRt, q_tryNx, q_tryErr, q_tupDw, q_rgIt1, q_rgIt2, q_rgIt3, q_chain, q_slLH, q_ok, q_err, q_stuck, q_okS, q_errS, q_stuckS, q_nx, q_rt, q_bk, q_ct, q_errN, q_bind, q_thenS, q_seq, q_if, q_ret, q_retN, q_expr, q_pass, q_no, q_brk, q_cnt, q_asg, q_setD, q_setL, q_setF, q_var, q_c, q_mret, q_rdv, q_rds, q_rdDv, q_rdDs, q_n1, q_n2, q_n3, q_n4, q_n5, q_ownv, q_owns, q_op2, q_op1, q_fin2, q_fin1, q_sub, q_neg, q_div, q_mod, q_add, q_addI, q_addL, q_addT, q_mul, q_mulI, q_mulL, q_cmp, q_ii, q_true, q_tru, q_finT, q_tbl, q_tint, q_tlst, q_not, q_and, q_or, q_mif, q_ix, q_ixT, q_ixP, q_ixL, q_ixF, q_args0, q_args1, q_tup, q_lst, q_rdDs0, q_rdDs1, q_call1, q_call2, q_abs, q_int, q_lenT, q_lenP, q_lenL, q_lenF, q_tupT, q_tupL, q_lstT, q_lstL, q_max, q_min, q_mut, q_mkF, q_mkT, q_store, q_gtup, q_gpt, q_each0, q_each1, q_append, q_pop, q_isa, q_finV, q_gisa, q_back, q_mint, q_asI, q_slL, q_slH, q_svT, q_svL, q_svF, q_rg1, q_rg2, q_lrg, q_trg, q_andV, q_notV, q_callD, List.set_cons_zero, List.set_cons_succ, List.getElem?_cons_zero, List.getElem?_cons_succ, List.getElem?_nil, List.length_cons, List.length_nil, List.length_set, List.length_map, List.length_append, List.filterMap_cons, List.filterMap_nil, List.map_nil, List.map_cons, List.append_nil, List.nil_append, List.cons_append, reduceIte, Bool.not_true, Bool.not_false, Bool.false_eq_true, Nat.reduceAdd, Nat.zero_add, Nat.reduceEqDiff, argsIn, argIn, lsl, takeE, giveE, give1, List.nodup_cons, List.mem_cons, List.not_mem_nil, or_false, Nat.reduceEqDiff, Nat.succ_ne_self, not_false_eq_true, List.nodup_nil, and_self, $a,*] at $h)
abbrev T9 := Int × Option Val × Option Val × Option Val × Option Val × Option Val × Option Val × Option Val
theorem e_law {ns : List Int} (hns : ns.length ≤ 63) : ∃ bs, f30 [.fz (ns.map D.int)] = .ok (.d (.bl true)) bs := by
  have zz := z100k
  (unfold f30; generalize hr_ : fnD _ _ _ _ = r_; revert r_; refine fn_R fun R hR => ?_; unfold m30; simp only [List.map_cons, List.map_nil, List.replicate, Nat.reduceSub, List.cons_append, List.nil_append])
  obtain ⟨ds, hd⟩ := e_draws hns
  refine sq (η' := [some (.fz (ns.map D.int)), some (vL ds), none, none, none, none, none, none, none, none, none, none, none, none, none]) ?_ ?_
  · (generalize f14 = Gf_law_draws at *; as_aux_lemma => push_cast [hd])
  refine sq (η' := LE (.fz (ns.map D.int)) ds 0 none none none none none none none none none none none none) ?_ ?_
  · push_cast [z1]
  unfold l30_3
  refine sq_for (it := { items := rgD 0 3 }) (fun (x : T9) => LE (.fz (ns.map D.int)) ds x.1 x.2.1 none none none none none x.2.2.1 x.2.2.2.1 x.2.2.2.2.1 x.2.2.2.2.2.1 x.2.2.2.2.2.2.1 x.2.2.2.2.2.2.2) (fun j x => 0 ≤ x.1 ∧ (j = 0 ∨ ∃ l fs, Pl l fs ∧ x.2.2.2.2.2.2.1 = some (pV l fs))) (0, none, none, none, none, none, none, none) (rg_it (n := 3) (k := 3) (by decide) (by decide)) rfl ⟨Int.le_refl _, .inl rfl⟩ ?_ ?_
  · rintro j x ⟨q, a3, a9, a10, a11, a12, a13, a14⟩ hx ⟨hq, _⟩
    dsimp only at hq
    obtain ⟨hj, rfl⟩ := rg_get hx
    refine ⟨LE (.fz (ns.map D.int)) ds q (some (vI (j : Nat))) none none none none none a9 a10 a11 a12 a13 a14, by push_cast [q_ok], ?_⟩
    refine lp_turn hq fun p' b9 b10 b11 b12 l fs b14 hp' hP => ?_
    exact ⟨(p', some (vI (j : Nat)), b9, b10, b11, b12, some (pV l fs), b14), rfl, hp', .inr ⟨l, fs, hP, rfl⟩⟩
  rintro ⟨q, a3, a9, a10, a11, a12, a13, a14⟩ ⟨hq, hor⟩
  dsimp only at hq hor
  obtain ⟨l, fs, hP, rfl⟩ : ∃ l fs, Pl l fs ∧ a13 = some (pV l fs) := by
    rcases hor with h | h
    · cases h
    · exact h
  dsimp only
  -- what is no polynomial
  refine sq (η' := LE (.fz (ns.map D.int)) ds q a3 (some (.l bads)) none none none none a9 a10 a11 a12 (some (pV l fs)) a14) ?_ ?_
  · have k1 : (121 : Int) < 2 ^ 62 := by decide
    have k2 : (2 : Int) ≤ 121 := by decide
    have k3 : 1 * (121 : Int).toNat ≤ sizeLine := by show 1 * 121 ≤ _; omega
    unfold bads
    generalize hN : (121 : Int) = N at *
    push_cast [z1, z2, z3, z15, Nat.zero_le, k1, k2, k3, ne_eq, reduceCtorEq, not_false_eq_true, true_and]
  obtain ⟨x, hx, h1⟩ := e_oneB (ds := ds) (xs := bads) (p := q) hq (by unfold bads; simp)
  refine sq (η' := LE (.fz (ns.map D.int)) ds (q + 1) a3 (some (.l bads)) (some (.d x)) none none none a9 a10 a11 a12 (some (pV l fs)) a14) ?_ ?_
  · generalize bads = BB at *
    (generalize f17 = Gf_law_one at *; as_aux_lemma => push_cast [h1])
  have u0 := told_a (z := .non) (t0e (y := x) (z := .non) (e_sum1 hx))
  have u1 := told_a (z := .non) (t1e (y := x) (z := .non) (e_prod1 hx))
  have w0 := told_a (z := .non) (t0e (z := .non) (e_sum2 hP hx))
  have w1 := told_a (z := .non) (t1e (z := .non) (e_prod2 hP hx))
  have e1 := eq_two so_a so_1
  have e2 := eq_two so_a so_2
  unfold l30_5
  refine sq_for (it := { items := rgD 0 2 }) (fun (y : Option Val) => LE (.fz (ns.map D.int)) ds (q + 1) a3 (some (.l bads)) (some (.d x)) y none none a9 a10 a11 a12 (some (pV l fs)) a14) (fun _ _ => True) none (rg_it (n := 2) (k := 2) (by decide) (by decide)) rfl trivial ?_ ?_
  · rintro j y a hy _
    obtain ⟨hj, rfl⟩ := rg_get hy
    refine ⟨LE (.fz (ns.map D.int)) ds (q + 1) a3 (some (.l bads)) (some (.d x)) (some (vI (j : Nat))) none none a9 a10 a11 a12 (some (pV l fs)) a14, by push_cast [q_ok], ?_⟩
    refine sq_one (o := .nx (LE (.fz (ns.map D.int)) ds (q + 1) a3 (some (.l bads)) (some (.d x)) (some (vI (j : Nat))) none none a9 a10 a11 a12 (some (pV l fs)) a14)) ?_ ⟨_, rfl, trivial⟩
    unfold b30_4
    generalize bads = BB at *
    match j, hj with
    | 0, _ =>
      have u0 : f29 [vI ((0 : Nat) : Int), .d x, .d x, .d .non] = _ := u0
      have w0 : f29 [vI ((0 : Nat) : Int), pV l fs, .d x, .d .non] = _ := w0
      (generalize f29 = Gf_law_told at *; as_aux_lemma => push_cast [u0, w0, e1, e2, z2, Option.map_some])
    | 1, _ =>
      have u1 : f29 [vI ((1 : Nat) : Int), .d x, .d x, .d .non] = _ := u1
      have w1 : f29 [vI ((1 : Nat) : Int), pV l fs, .d x, .d .non] = _ := w1
      (generalize f29 = Gf_law_told at *; as_aux_lemma => push_cast [u1, w1, e1, e2, z2, Option.map_some])
  rintro v6 _
  have t4 := told_a (t2e (y := .int 0) (z := .int 0) (e_val1 hx))
  have t5 := told_a (y := .non) (z := .non) (t3e (y := .non) (z := .non) (e_even1 hx))
  have e3 := eq_two so_a so_p
  refine sq (η' := LE (.fz (ns.map D.int)) ds (q + 1) a3 (some (.l bads)) (some (.d x)) v6 none none a9 a10 a11 a12 (some (pV l fs)) a14) ?_ ?_
  · generalize bads = BB at *
    (generalize f29 = Gf_law_told at *; as_aux_lemma => push_cast [t4, t5, e3, z2, Option.map_some])
  obtain ⟨y, hy, h2⟩ := e_oneD (ds := ds) (xs := [.int 0, .non, .bl true, .int 1000001, .int (-1000001), .str "1"]) (p := q + 1) (by omega) (by simp)
  refine sq (η' := LE (.fz (ns.map D.int)) ds (q + 1 + 1) a3 (some (.l bads)) (some (.d x)) v6 (some (.d y)) none a9 a10 a11 a12 (some (pV l fs)) a14) ?_ ?_
  · generalize bads = BB at *
    (generalize f17 = Gf_law_one at *; as_aux_lemma => push_cast [z6, h2])
  obtain ⟨z, hz, h3⟩ := e_oneD (ds := ds) (xs := [.int 0, .int (-1), .non, .bl true, .int 1000001]) (p := q + 1 + 1) (by omega) (by simp)
  refine sq (η' := LE (.fz (ns.map D.int)) ds (q + 1 + 1 + 1) a3 (some (.l bads)) (some (.d x)) v6 (some (.d y)) (some (.d z)) a9 a10 a11 a12 (some (pV l fs)) a14) ?_ ?_
  · generalize bads = BB at *
    (generalize f17 = Gf_law_one at *; as_aux_lemma => push_cast [z5, h3])
  have hy2 : inR y (-1000000) 1000000 = false ∨ y = .int 0 := by
    simp only [List.mem_cons, List.not_mem_nil, or_false] at hy
    rcases hy with rfl | rfl | rfl | rfl | rfl | rfl
    · exact .inr rfl
    · exact .inl rfl
    · exact .inl rfl
    · exact .inl rfl
    · exact .inl rfl
    · exact .inl rfl
  have hz2 : inR z 1 1000000 = false := by
    simp only [List.mem_cons, List.not_mem_nil, or_false] at hz
    rcases hz with rfl | rfl | rfl | rfl | rfl <;> rfl
  have t6 := told_a (t2e (z := z) (e_val2 hP hy2))
  have t7 := told_a (t2e (e_val3 hP hz2))
  have e4 := eq_two so_a so_o
  have e5 := eq_two so_a so_u
  refine sq_one (o := .rt (.vl (.d (.bl true))) (LE (.fz (ns.map D.int)) ds (q + 1 + 1 + 1) a3 (some (.l bads)) (some (.d x)) v6 (some (.d y)) (some (.d z)) a9 a10 a11 a12 (some (pV l fs)) a14)) ?_ ?_
  · generalize bads = BB at *
    (generalize f29 = Gf_law_told at *; as_aux_lemma => push_cast [t6, t7, e4, e5, z2])
  · exact hR _ ⟨_, q_finRt⟩
end Kx

namespace Kx
open PySem PySem.Spec PyProof.Rows L2 DD
local macro_rules
  | `(tactic| push_cast [$a,*]) => `(tactic| simp only [q_mulG, q_mulGI, q_mulGL, q_divG, q_augS, q_fAddI, q_fSubI, q_fMulI, q_augX, q_augL, q_orV, q_ttup, q_par, q_mulX, q_mulXT, q_aug, q_fAdd, q_raise, q_try, q_tryRt, q_tryNx, q_tryErr, q_tupDw, q_rgIt1, q_rgIt2, q_rgIt3, q_chain, q_slLH, q_ok, q_err, q_stuck, q_okS, q_errS, q_stuckS, q_nx, q_rt, q_bk, q_ct, q_errN, q_bind, q_thenS, q_seq, q_if, q_ret, q_retN, q_expr, q_pass, q_no, q_brk, q_cnt, q_asg, q_setD, q_setL, q_setF, q_var, q_c, q_mret, q_rdv, q_rds, q_rdDv, q_rdDs, q_n1, q_n2, q_n3, q_n4, q_n5, q_ownv, q_owns, q_op2, q_op1, q_fin2, q_fin1, q_sub, q_neg, q_div, q_mod, q_add, q_addI, q_addL, q_addT, q_mul, q_mulI, q_mulL, q_cmp, q_ii, q_true, q_tru, q_finT, q_tbl, q_tint, q_tlst, q_not, q_and, q_or, q_mif, q_ix, q_ixT, q_ixP, q_ixL, q_ixF, q_args0, q_args1, q_tup, q_lst, q_rdDs0, q_rdDs1, q_call1, q_call2, q_abs, q_int, q_lenT, q_lenP, q_lenL, q_lenF, q_tupT, q_tupL, q_lstT, q_lstL, q_max, q_min, q_mut, q_mkF, q_mkT, q_store, q_gtup, q_gpt, q_each0, q_each1, q_append, q_pop, q_isa, q_finV, q_gisa, q_back, q_mint, q_asI, q_slL, q_slH, q_svT, q_svL, q_svF, q_rg1, q_rg2, q_lrg, q_trg, q_andV, q_notV, q_callD, List.set_cons_zero, List.set_cons_succ, List.getElem?_cons_zero, List.getElem?_cons_succ, List.getElem?_nil, List.length_cons, List.length_nil, List.length_set, List.length_map, List.length_append, List.filterMap_cons, List.filterMap_nil, List.map_nil, List.map_cons, List.append_nil, List.nil_append, List.cons_append, reduceIte, Bool.not_true, Bool.not_false, Bool.false_eq_true, Nat.reduceAdd, Nat.zero_add, Nat.reduceEqDiff, argsIn, argIn, lsl, takeE, giveE, give1, List.nodup_cons, List.mem_cons, List.not_mem_nil, or_false, Nat.reduceEqDiff, Nat.succ_ne_self, not_false_eq_true, List.nodup_nil, and_self, $a,*])
  | `(tactic| push_cast [$a,*] at $h) => `(tactic| simp only [q_mulG, q_mulGI, q_mulGL, q_divG, q_augS, q_fAddI, q_fSubI, q_fMulI, q_augX, q_augL, q_orV, q_ttup, q_par, q_mulX, q_mulXT, q_aug, q_fAdd, q_raise, q_try, q_tryRt, q_tryNx, q_tryErr, q_tupDw, q_rgIt1, q_rgIt2, q_rgIt3, q_chain, q_slLH, q_ok, q_err, q_stuck, q_okS, q_errS, q_stuckS, q_nx, q_rt, q_bk, q_ct, q_errN, q_bind, q_thenS, q_seq, q_if, q_ret, q_retN, q_expr, q_pass, q_no, q_brk, q_cnt, q_asg, q_setD, q_setL, q_setF, q_var, q_c, q_mret, q_rdv, q_rds, q_rdDv, q_rdDs, q_n1, q_n2, q_n3, q_n4, q_n5, q_ownv, q_owns, q_op2, q_op1, q_fin2, q_fin1, q_sub, q_neg, q_div, q_mod, q_add, q_addI, q_addL, q_addT, q_mul, q_mulI, q_mulL, q_cmp, q_ii, q_true, q_tru, q_finT, q_tbl, q_tint, q_tlst, q_not, q_and, q_or, q_mif, q_ix, q_ixT, q_ixP, q_ixL, q_ixF, q_args0, q_args1, q_tup, q_lst, q_rdDs0, q_rdDs1, q_call1, q_call2, q_abs, q_int, q_lenT, q_lenP, q_lenL, q_lenF, q_tupT, q_tupL, q_lstT, q_lstL, q_max, q_min, q_mut, q_mkF, q_mkT, q_store, q_gtup, q_gpt, q_each0, q_each1, q_append, q_pop, q_isa, q_finV, q_gisa, q_back, q_mint, q_asI, q_slL, q_slH, q_svT, q_svL, q_svF, q_rg1, q_rg2, q_lrg, q_trg, q_andV, q_notV, q_callD, List.set_cons_zero, List.set_cons_succ, List.getElem?_cons_zero, List.getElem?_cons_succ, List.getElem?_nil, List.length_cons, List.length_nil, List.length_set, List.length_map, List.length_append, List.filterMap_cons, List.filterMap_nil, List.map_nil, List.map_cons, List.append_nil, List.nil_append, List.cons_append, reduceIte, Bool.not_true, Bool.not_false, Bool.false_eq_true, Nat.reduceAdd, Nat.zero_add, Nat.reduceEqDiff, argsIn, argIn, lsl, takeE, giveE, give1, List.nodup_cons, List.mem_cons, List.not_mem_nil, or_false, Nat.reduceEqDiff, Nat.succ_ne_self, not_false_eq_true, List.nodup_nil, and_self, $a,*] at $h)
theorem law_sp {K : PySem.W.Frag} {mg : Str → Option Value} (H : Hp) (a : Addr) (ns : List Int) (hl : ns.length ≤ 63) (hf : FzL K H a (ns.map V.int)) : spD K mg 1 f30 [.ref a] H (fun v _ => v = .bl true) fun _ _ _ => False := by
  obtain ⟨bs, e⟩ := e_law hl
  refine ⟨[.fz (ns.map D.int)], [none_], .cons ⟨⟨a, _, rfl, hf, dps_of_ints ns⟩, fun _ => id⟩ (fun z => by cases z) .nil, List.pairwise_singleton _ _, rfl, ?_⟩
  rw [e]
  exact fun v H' f gs hx _ _ _ _ => dp_bl hx.1
end Kx

open PySem PySem.W PySem.Calls PyProof.Rows
theorem PySem.Challenge.cw_plaitwrought_k52_whole_polynomials_holds : PySem.Challenge.rw_plaitwrought_k52_whole_polynomials.Holds := by
  w_on; o_law
  refine HandSHeadRun.head_any (r := OpenLaw.row PySem.Challenge.rw_plaitwrought_k52_whole_polynomials) (q := view (OpenLaw.row PySem.Challenge.rw_plaitwrought_k52_whole_polynomials).prog [40]) (H := Kx.hk) (ob := Kx.ob) (M := 4000) (loose := Kx.loose) (d := HandSHeadRun.topDef (OpenLaw.row PySem.Challenge.rw_plaitwrought_k52_whole_polynomials).prog 40) (kwd := []) Kx.ob_eq
    (by kernel_rfl) (fun s => by kernel_rfl) Kx.run (by kernel_rfl) (by kernel_rfl) (by kernel_rfl) (by rfl) (by first | assumption | decide +kernel) (by decide +kernel) ⟨rfl, rfl, rfl, rfl, rfl, by decide +kernel⟩ ?hw ?hc
  case hw => w_witness2
  case hc =>
    refine DD.walk_ofG (l := PySem.Challenge.rw_plaitwrought_k52_whole_polynomials) (n := 63) (k := 7) (x := "script") rfl (by decide) (by kernel_rfl) ⟨rfl, by decide, by decide⟩ ?F
    intro w mg fa h Y G hmg0
    obtain ⟨K, KX, c⟩ := Y
    obtain ⟨T⟩ := Kx.txt KX G c
    have hmg : mg ("law" : PySem.Str) = some (.ref fa) := by
      have e : (HandSHeadRun.topDef (OpenLaw.row PySem.Challenge.rw_plaitwrought_k52_whole_polynomials).prog 40).name = ("law" : PySem.Str) := by kernel_rfl
      rw [← e]
      exact hmg0
    have e := hmg.symm.trans T.g30
    cases e
    have b := L2.FunD.bindsA (ps := ["script"]) T.F30 fun _ _ _ _ _ _ us hl => match us, hl with | [_], _ => rfl
    exact ⟨K, T.fd30, DD.spD K mg 1 Kx.f30, KX, fun s v => b s [v] rfl, fun H a ns hl hf => Kx.law_sp H a ns hl hf, fun base _ _ => Kx.ok30 T⟩

