import PyProof.Rows.All
import Wide.All
import OpenK.AllK
import Wide.FinOn
import HandS.ForMost
import HandS.ForExc
import HandS.Walk
import HandS.Zip
import HandS.Rev
import HandS.IsInst
import HandS.Deep
import HandS.TupAny
import HandS.Wide
import HandS.Conv
import HandS.Flow
import KE.GoesMore
import HandS.WordsExc
import PySem.Challenge.RW_rightfulhands_k03_marks_judged
set_option Elab.async false
set_option linter.all false
set_option maxRecDepth 100000
set_option maxHeartbeats 4000000
/-! ### the plain layer: data without addresses -/
namespace PL
open PySem PySem.Spec PyProof.Rows L2

/-- plain data: what stands still is told whole, what may change is told by its address -/
inductive D where
  | non | bl (b : Bool) | int (i : Int) | str (x : Str) | ty (n : String)
  | tup (xs : List D) | lst (xs : List D)
  | dic (ks : List Key) (xs : List D)
  | ins (c : Nat) (ns : List Str) (xs : List D)
  | cls (c : Nat) | ref (a : Addr)
  | dit (ks : List (List Key)) (xs : List D)
/-- what may change -/
inductive Ob where
  | lst (xs : List D) | dic (ks : List Key) (xs : List D) | ins (c : Nat) (ns : List Str) (xs : List D) | dit (ks : List (List Key)) (xs : List D)
abbrev Mem := Addr → Option Ob
def Ob.frz : Ob → D
  | .lst xs => .lst xs
  | .dic ks xs => .dic ks xs
  | .ins c ns xs => .ins c ns xs
  | .dit ks xs => .dit ks xs
def mput (M : Mem) (a : Addr) (o : Ob) : Mem := fun b => if b = a then some o else M b
def mdel (M : Mem) (a : Addr) : Mem := fun b => if b = a then none else M b
theorem mput_same {M : Mem} {a : Addr} {o : Ob} : mput M a o a = some o := if_pos rfl
theorem mput_ne {M : Mem} {a b : Addr} {o : Ob} (h : b ≠ a) : mput M a o b = M b := if_neg h
theorem mput_mput {M : Mem} {a : Addr} {o u : Ob} : mput (mput M a o) a u = mput M a u := by
  funext b; unfold mput; split <;> rfl
theorem mdel_mput {M : Mem} {a : Addr} {o : Ob} (h : M a = none) : mdel (mput M a o) a = M := by
  funext b; unfold mdel mput
  by_cases e : b = a
  · rw [if_pos e, e, h]
  · rw [if_neg e, if_neg e]
def Sub (M M' : Mem) : Prop := ∀ a o, M a = some o → M' a = some o
theorem Sub.refl (M : Mem) : Sub M M := fun _ _ h => h
theorem Sub.put {M : Mem} {a : Addr} {o : Ob} (h : M a = none) : Sub M (mput M a o) := fun b u e => by
  unfold mput
  rw [if_neg fun q => by rw [q, h] at e; cases e]
  exact e
theorem Sub.none {M M' : Mem} (s : Sub M M') {a : Addr} (h : M' a = none) : M a = none := by
  cases e : M a with
  | none => rfl
  | some o => rw [s a o e] at h; cases h
theorem Sub.trans {M M' M'' : Mem} (s : Sub M M') (t : Sub M' M'') : Sub M M'' := fun a o h => t a o (s a o h)

/-- the constants of a program: its written part, its classes' addresses -/
structure Cn where
  K : PySem.W.Frag
  cA : Nat → Addr
  /-- what others are at work on: not read, not changed -/
  Z : Addr → Prop

def RdF (c : Cn) (M : Mem) (H : Hp) (a : Addr) (u : HO) : Prop := ¬ c.Z a ∧ M a = none ∧ Rd H a u
/-- a tuple, a list of the written part -/
def WrT (K : PySem.W.Frag) (a : Addr) (xs : List V) : Prop := ∃ (o : Obj) (its : Array Value) (n : Nat), K.lookup a = some o ∧ o.cls = .type "tuple" ∧ o.data = .seq its n ∧ its.size ≤ sizeLine ∧ Vals xs its.toList
def SqTF (c : Cn) (M : Mem) (H : Hp) (a : Addr) (xs : List V) : Prop := RdF c M H a (.tup xs) ∨ WrT c.K a xs
def WrL (K : PySem.W.Frag) (a : Addr) (xs : List V) : Prop := ∃ (o : Obj) (its : Array Value) (n : Nat), K.lookup a = some o ∧ o.cls = .type "list" ∧ o.dict = none ∧ o.data = .seq its n ∧ its.size ≤ sizeLine ∧ Vals xs its.toList
def SqLF (c : Cn) (M : Mem) (H : Hp) (a : Addr) (xs : List V) : Prop := RdF c M H a (.lst xs) ∨ WrL c.K a xs
theorem SqTF.sq {c : Cn} {M : Mem} {H : Hp} {a : Addr} {xs : List V} (h : SqTF c M H a xs) : SqT c.K H a xs := by
  rcases h with h | h
  · exact .inl h.2.2
  · exact .inr h
theorem SqLF.sq {c : Cn} {M : Mem} {H : Hp} {a : Addr} {xs : List V} (h : SqLF c M H a xs) : SqL c.K H a xs := by
  rcases h with h | h
  · exact .inl h.2.2
  · exact .inr h

mutual
def Den (c : Cn) (M : Mem) (H : Hp) : D → V → Prop
  | .non, v => v = .non
  | .bl b, v => v = .bl b
  | .int i, v => v = .int i
  | .str x, v => v = .str x
  | .ty n, v => v = .ty n
  | .cls k, v => v = .ref (c.cA k)
  | .ref a, v => v = .ref a
  | .tup xs, v => ∃ a vs, v = .ref a ∧ SqTF c M H a vs ∧ xs.length ≤ sizeLine ∧ DenL c M H xs vs
  | .lst xs, v => ∃ a vs, v = .ref a ∧ SqLF c M H a vs ∧ xs.length ≤ sizeLine ∧ DenL c M H xs vs
  | .ins k ns xs, v => ∃ a dx vs, v = .ref a ∧ (¬ c.Z a ∧ M a = none ∧ H a = some (.ins (c.cA k) dx (ns.zip vs))) ∧ ns.length = xs.length ∧ DenL c M H xs vs
  | .dic ks xs, v => ∃ a vs, v = .ref a ∧ RdF c M H a (.dK (ks.zip vs)) ∧ ks.length = xs.length ∧ DenL c M H xs vs
  | .dit ks xs, v => ∃ a vs, v = .ref a ∧ RdF c M H a (.dT (ks.zip vs)) ∧ ks.length = xs.length ∧ DenL c M H xs vs
def DenL (c : Cn) (M : Mem) (H : Hp) : List D → List V → Prop
  | [], vs => vs = []
  | x :: xs, vs => ∃ v r, vs = v :: r ∧ Den c M H x v ∧ DenL c M H xs r
end

/-- a changing object lies in the heap -/
def ObD (c : Cn) (M : Mem) (H : Hp) : Ob → HO → Prop
  | .lst xs, u => ∃ vs, u = .lst vs ∧ xs.length ≤ sizeLine ∧ DenL c M H xs vs
  | .dic ks xs, u => ∃ vs, u = .dK (ks.zip vs) ∧ ks.length = xs.length ∧ DenL c M H xs vs
  | .ins k ns xs, u => ∃ dx vs, u = .ins (c.cA k) dx (ns.zip vs) ∧ ns.length = xs.length ∧ DenL c M H xs vs
  | .dit ks xs, u => ∃ vs, u = .dT (ks.zip vs) ∧ ks.length = xs.length ∧ DenL c M H xs vs
structure MR (c : Cn) (M : Mem) (H : Hp) : Prop where
  at_ : ∀ a o, M a = some o → ∃ u, H a = some u ∧ ObD c M H o u
  hid : ∀ a, c.Z a → M a = none ∧ ∃ u, H a = some u
/-- from one state to a later one: what doesn't change hasn't changed -/
def Nf : HO → Prop
  | .frz _ _ => False
  | _ => True
structure Keep (c : Cn) (M : Mem) (H : Hp) (M' : Mem) (H' : Hp) : Prop where
  old : ∀ a u, ¬ c.Z a → M a = none → Nf u → Rd H a u → Rd H' a u ∧ M' a = none
  inst : ∀ a C dx fs, ¬ c.Z a → M a = none → H a = some (.ins C dx fs) → H' a = some (.ins C dx fs)
  hid : ∀ a, c.Z a → H' a = H a
theorem Keep.refl (c : Cn) (M : Mem) (H : Hp) : Keep c M H M H := ⟨fun _ _ _ h _ r => ⟨r, h⟩, fun _ _ _ _ _ _ h => h, fun _ _ => rfl⟩
theorem Keep.trans {c : Cn} {M M1 M2 : Mem} {H H1 H2 : Hp} (a : Keep c M H M1 H1) (b : Keep c M1 H1 M2 H2) : Keep c M H M2 H2 :=
  ⟨fun x u z h n r => let ⟨r1, h1⟩ := a.old x u z h n r; b.old x u z h1 n r1, fun x C dx fs z h e => b.inst x C dx fs z (a.old x _ z h (by trivial) (.inl e)).2 (a.inst x C dx fs z h e), fun x z => (b.hid x z).trans (a.hid x z)⟩

theorem DenL.length {c : Cn} {M : Mem} {H : Hp} : ∀ {xs : List D} {vs : List V}, DenL c M H xs vs → xs.length = vs.length
  | [], _, h => by simp only [DenL] at h; subst h; rfl
  | x :: xs, _, h => by
    simp only [DenL] at h
    obtain ⟨v, r, rfl, _, h2⟩ := h
    simp [DenL.length h2]
theorem DenL.get {c : Cn} {M : Mem} {H : Hp} : ∀ {xs : List D} {vs : List V} {i : Nat} {x : D}, DenL c M H xs vs → xs[i]? = some x → ∃ v, vs[i]? = some v ∧ Den c M H x v
  | [], _, _, _, _, e => by simp at e
  | y :: xs, _, 0, x, h, e => by
    simp only [DenL] at h
    obtain ⟨v, r, rfl, h1, h2⟩ := h
    simp at e; subst e
    exact ⟨v, rfl, h1⟩
  | y :: xs, _, i + 1, x, h, e => by
    simp only [DenL] at h
    obtain ⟨v, r, rfl, h1, h2⟩ := h
    obtain ⟨u, hu, q⟩ := DenL.get (i := i) h2 (by simpa using e)
    exact ⟨u, by simpa using hu, q⟩
theorem DenL.get' {c : Cn} {M : Mem} {H : Hp} {xs : List D} {vs : List V} {i : Nat} {v : V} (h : DenL c M H xs vs) (e : vs[i]? = some v) : ∃ x, xs[i]? = some x ∧ Den c M H x v := by
  have hi : i < xs.length := by
    rw [h.length]
    exact (List.getElem?_eq_some_iff.mp e).1
  obtain ⟨u, hu, q⟩ := h.get (i := i) (x := xs[i]) (by simp [hi])
  rw [e] at hu
  cases hu
  exact ⟨_, by simp [hi], q⟩
theorem DenL.nil {c : Cn} {M : Mem} {H : Hp} : DenL c M H [] [] := by simp only [DenL]
theorem DenL.cons {c : Cn} {M : Mem} {H : Hp} {x : D} {v : V} {xs : List D} {vs : List V} (h : Den c M H x v) (t : DenL c M H xs vs) : DenL c M H (x :: xs) (v :: vs) := by
  simp only [DenL]
  exact ⟨v, vs, rfl, h, t⟩
theorem DenL.append {c : Cn} {M : Mem} {H : Hp} : ∀ {xs ys : List D} {vs ws : List V}, DenL c M H xs vs → DenL c M H ys ws → DenL c M H (xs ++ ys) (vs ++ ws)
  | [], _, _, _, h, t => by simp only [DenL] at h; subst h; exact t
  | x :: xs, _, _, _, h, t => by
    simp only [DenL] at h
    obtain ⟨v, r, rfl, h1, h2⟩ := h
    exact DenL.cons h1 (DenL.append h2 t)
theorem DenL.of_get {c : Cn} {M : Mem} {H : Hp} : ∀ {xs : List D} {vs : List V}, xs.length = vs.length → (∀ (i : Nat) (x : D) (v : V), xs[i]? = some x → vs[i]? = some v → Den c M H x v) → DenL c M H xs vs
  | [], [], _, _ => DenL.nil
  | [], _ :: _, h, _ => by simp at h
  | _ :: _, [], h, _ => by simp at h
  | x :: xs, v :: vs, h, g => DenL.cons (g 0 x v rfl rfl) (DenL.of_get (by simpa using h) fun i y u e1 e2 => g (i + 1) y u (by simpa using e1) (by simpa using e2))
theorem DenL.set {c : Cn} {M : Mem} {H : Hp} {x : D} {v : V} (h : Den c M H x v) : ∀ {xs : List D} {vs : List V} (i : Nat), DenL c M H xs vs → DenL c M H (xs.set i x) (vs.set i v)
  | [], _, _, t => by simp only [DenL] at t; subst t; exact DenL.nil
  | y :: xs, _, 0, t => by
    simp only [DenL] at t
    obtain ⟨w, r, rfl, h1, h2⟩ := t
    exact DenL.cons h h2
  | y :: xs, _, i + 1, t => by
    simp only [DenL] at t
    obtain ⟨w, r, rfl, h1, h2⟩ := t
    exact DenL.cons h1 (DenL.set h i h2)
theorem DenL.take {c : Cn} {M : Mem} {H : Hp} : ∀ {xs : List D} {vs : List V} (n : Nat), DenL c M H xs vs → DenL c M H (xs.take n) (vs.take n)
  | _, _, 0, _ => DenL.nil
  | [], _, _ + 1, t => by simp only [DenL] at t; subst t; exact DenL.nil
  | y :: xs, _, n + 1, t => by
    simp only [DenL] at t
    obtain ⟨w, r, rfl, h1, h2⟩ := t
    exact DenL.cons h1 (DenL.take n h2)
theorem DenL.drop {c : Cn} {M : Mem} {H : Hp} : ∀ {xs : List D} {vs : List V} (n : Nat), DenL c M H xs vs → DenL c M H (xs.drop n) (vs.drop n)
  | _, _, 0, t => t
  | [], _, _ + 1, t => by simp only [DenL] at t; subst t; exact DenL.nil
  | y :: xs, _, n + 1, t => by
    simp only [DenL] at t
    obtain ⟨w, r, rfl, h1, h2⟩ := t
    exact DenL.drop n h2

/-- the same, the hidden part another one -/
structure KeepG (c : Cn) (M : Mem) (H : Hp) (c' : Cn) (M' : Mem) (H' : Hp) : Prop where
  eK : c'.K = c.K
  eA : c'.cA = c.cA
  old : ∀ a u, ¬ c.Z a → M a = none → Nf u → Rd H a u → ¬ c'.Z a ∧ Rd H' a u ∧ M' a = none
  inst : ∀ a C dx fs, ¬ c.Z a → M a = none → H a = some (.ins C dx fs) → H' a = some (.ins C dx fs)
theorem Keep.g {c : Cn} {M M' : Mem} {H H' : Hp} (k : Keep c M H M' H') : KeepG c M H c M' H' :=
  ⟨rfl, rfl, fun a u z h n r => ⟨z, (k.old a u z h n r).1, (k.old a u z h n r).2⟩, k.inst⟩
section
variable {c c' : Cn} {M M' : Mem} {H H' : Hp}
theorem SqTF.keepG (k : KeepG c M H c' M' H') {a : Addr} {xs : List V} (h : SqTF c M H a xs) : SqTF c' M' H' a xs := by
  rcases h with ⟨h0, h1, h2⟩ | h
  · obtain ⟨z, r, m⟩ := k.old a _ h0 h1 (by trivial) h2
    exact .inl ⟨z, m, r⟩
  · exact .inr (by rw [k.eK]; exact h)
theorem SqLF.keepG (k : KeepG c M H c' M' H') {a : Addr} {xs : List V} (h : SqLF c M H a xs) : SqLF c' M' H' a xs := by
  rcases h with ⟨h0, h1, h2⟩ | h
  · obtain ⟨z, r, m⟩ := k.old a _ h0 h1 (by trivial) h2
    exact .inl ⟨z, m, r⟩
  · exact .inr (by rw [k.eK]; exact h)
mutual
theorem Den.keepG (k : KeepG c M H c' M' H') : ∀ (d : D) (v : V), Den c M H d v → Den c' M' H' d v
  | .non, _, h => by simpa only [Den] using h
  | .bl _, _, h => by simpa only [Den] using h
  | .int _, _, h => by simpa only [Den] using h
  | .str _, _, h => by simpa only [Den] using h
  | .ty _, _, h => by simpa only [Den] using h
  | .cls _, _, h => by simp only [Den] at h ⊢; rw [k.eA]; exact h
  | .ref _, _, h => by simpa only [Den] using h
  | .tup xs, v, h => by
    simp only [Den] at h ⊢
    obtain ⟨a, vs, e, q, l, r⟩ := h
    exact ⟨a, vs, e, q.keepG k, l, DenL.keepG k xs vs r⟩
  | .lst xs, v, h => by
    simp only [Den] at h ⊢
    obtain ⟨a, vs, e, q, l, r⟩ := h
    exact ⟨a, vs, e, q.keepG k, l, DenL.keepG k xs vs r⟩
  | .ins n ns xs, v, h => by
    simp only [Den] at h ⊢
    obtain ⟨a, dx, vs, e, q, l, r⟩ := h
    obtain ⟨z1, _, m1⟩ := k.old _ _ q.1 q.2.1 (by trivial) (.inl q.2.2)
    have r1 := k.inst _ _ _ _ q.1 q.2.1 q.2.2
    exact ⟨a, dx, vs, e, ⟨z1, m1, by rw [k.eA]; exact r1⟩, l, DenL.keepG k xs vs r⟩
  | .dic ks xs, v, h => by
    simp only [Den] at h ⊢
    obtain ⟨a, vs, e, q, l, r⟩ := h
    obtain ⟨z1, r1, m1⟩ := k.old _ _ q.1 q.2.1 (by trivial) q.2.2
    exact ⟨a, vs, e, ⟨z1, m1, r1⟩, l, DenL.keepG k xs vs r⟩
  | .dit ks xs, v, h => by
    simp only [Den] at h ⊢
    obtain ⟨a, vs, e, q, l, r⟩ := h
    obtain ⟨z1, r1, m1⟩ := k.old _ _ q.1 q.2.1 (by trivial) q.2.2
    exact ⟨a, vs, e, ⟨z1, m1, r1⟩, l, DenL.keepG k xs vs r⟩
theorem DenL.keepG (k : KeepG c M H c' M' H') : ∀ (xs : List D) (vs : List V), DenL c M H xs vs → DenL c' M' H' xs vs
  | [], _, h => by simpa only [DenL] using h
  | x :: xs, _, h => by
    simp only [DenL] at h ⊢
    obtain ⟨v, r, e, h1, h2⟩ := h
    exact ⟨v, r, e, Den.keepG k x v h1, DenL.keepG k xs r h2⟩
end
theorem ObD.keepG (k : KeepG c M H c' M' H') {o : Ob} {u : HO} (h : ObD c M H o u) : ObD c' M' H' o u := by
  cases o with
  | lst xs => obtain ⟨vs, e, l, r⟩ := h; exact ⟨vs, e, l, r.keepG k⟩
  | dic ks xs => obtain ⟨vs, e, l, r⟩ := h; exact ⟨vs, e, l, r.keepG k⟩
  | ins n ns xs => obtain ⟨dx, vs, e, l, r⟩ := h; exact ⟨dx, vs, by rw [k.eA]; exact e, l, r.keepG k⟩
  | dit ks xs => obtain ⟨vs, e, l, r⟩ := h; exact ⟨vs, e, l, r.keepG k⟩
end
theorem SqTF.keep {c : Cn} {M M' : Mem} {H H' : Hp} (k : Keep c M H M' H') {a : Addr} {xs : List V} (h : SqTF c M H a xs) : SqTF c M' H' a xs := h.keepG k.g
theorem SqLF.keep {c : Cn} {M M' : Mem} {H H' : Hp} (k : Keep c M H M' H') {a : Addr} {xs : List V} (h : SqLF c M H a xs) : SqLF c M' H' a xs := h.keepG k.g
theorem Den.keep {c : Cn} {M M' : Mem} {H H' : Hp} (k : Keep c M H M' H') (d : D) (v : V) (h : Den c M H d v) : Den c M' H' d v := h.keepG k.g
theorem DenL.keep {c : Cn} {M M' : Mem} {H H' : Hp} (k : Keep c M H M' H') (xs : List D) (vs : List V) (h : DenL c M H xs vs) : DenL c M' H' xs vs := h.keepG k.g
theorem ObD.keep {c : Cn} {M M' : Mem} {H H' : Hp} (k : Keep c M H M' H') {o : Ob} {u : HO} (h : ObD c M H o u) : ObD c M' H' o u := h.keepG k.g

/-! ### steps of the state -/
section
variable {c : Cn} {M : Mem} {H : Hp} {p : Addr}
theorem MR.none (m : MR c M H) (h : H p = none) : M p = none := by
  cases e : M p with
  | none => rfl
  | some o =>
    obtain ⟨u, hu, _⟩ := m.at_ p o e
    rw [h] at hu; cases hu
theorem MR.nz (m : MR c M H) (h : H p = Option.none) : ¬ c.Z p := fun z => by
  obtain ⟨_, u, hu⟩ := m.hid p z
  rw [h] at hu; cases hu
theorem MR.nzM {o : Ob} (m : MR c M H) (h : M p = some o) : ¬ c.Z p := fun z => by
  rw [(m.hid p z).1] at h; cases h
theorem rd_ne {a : Addr} {u : HO} (r : Rd H a u) (h : H p = none) : a ≠ p := by
  rintro rfl
  rcases r with r | ⟨o, r⟩ <;> rw [h] at r <;> cases r
theorem rd_upd {a : Addr} {u o : HO} (r : Rd H a u) (h : a ≠ p) : Rd (upd H p o) a u := by
  rcases r with r | ⟨x, r⟩
  · exact .inl (by rw [upd_ne h]; exact r)
  · exact .inr ⟨x, by rw [upd_ne h]; exact r⟩
theorem ne_nz {a : Addr} (z : c.Z a) (h : ¬ c.Z p) : a ≠ p := fun e => h (e ▸ z)
/-- a new object that is not told as changing -/
theorem Keep.new {o : HO} (m : MR c M H) (h : H p = Option.none) : Keep c M H M (upd H p o) :=
  ⟨fun a u _ m _ r => ⟨rd_upd r (rd_ne r h), m⟩, fun a _ _ _ _ _ e => by rw [upd_ne (ne_of_none e h)]; exact e, fun a z => upd_ne (ne_nz z (m.nz h))⟩
theorem MR.new {o : HO} (m : MR c M H) (h : H p = Option.none) : MR c M (upd H p o) := ⟨fun a ob e => by
  obtain ⟨u, hu, r⟩ := m.at_ a ob e
  exact ⟨u, by rw [upd_ne (ne_of_none hu h)]; exact hu, r.keep (Keep.new m h)⟩, fun a z => by
  obtain ⟨h1, u, hu⟩ := m.hid a z
  exact ⟨h1, u, by rw [upd_ne (ne_nz z (m.nz h))]; exact hu⟩⟩
/-- a new one that is -/
theorem Keep.cell {o : HO} {ob : Ob} (m : MR c M H) (h : H p = Option.none) : Keep c M H (mput M p ob) (upd H p o) :=
  ⟨fun a u _ m _ r => ⟨rd_upd r (rd_ne r h), by rw [mput_ne (rd_ne r h)]; exact m⟩, fun a _ _ _ _ _ e => by rw [upd_ne (ne_of_none e h)]; exact e, fun a z => upd_ne (ne_nz z (m.nz h))⟩
theorem MR.put {o : HO} {ob : Ob} (m : MR c M H) (nz : ¬ c.Z p) (k : Keep c M H (mput M p ob) (upd H p o)) (q : ObD c M H ob o) : MR c (mput M p ob) (upd H p o) := ⟨fun a b e => by
  by_cases z : a = p
  · subst z
    rw [mput_same] at e; cases e
    exact ⟨o, upd_same, q.keep k⟩
  · rw [mput_ne z] at e
    obtain ⟨u, hu, r⟩ := m.at_ a b e
    exact ⟨u, by rw [upd_ne z]; exact hu, r.keep k⟩, fun a z => by
  obtain ⟨h1, u, hu⟩ := m.hid a z
  exact ⟨by rw [mput_ne (ne_nz z nz)]; exact h1, u, by rw [upd_ne (ne_nz z nz)]; exact hu⟩⟩
theorem MR.cell {o : HO} {ob : Ob} (m : MR c M H) (h : H p = Option.none) (q : ObD c M H ob o) : MR c (mput M p ob) (upd H p o) := m.put (m.nz h) (Keep.cell m h) q
/-- one that changes is changed -/
theorem Keep.write {o : HO} {ob ob' : Ob} (m : MR c M H) (h : M p = some ob) : Keep c M H (mput M p ob') (upd H p o) := ⟨fun a u _ m _ r => by
  have z : a ≠ p := by rintro rfl; rw [h] at m; cases m
  exact ⟨rd_upd r z, by rw [mput_ne z]; exact m⟩, fun a _ _ _ _ m e => by
  have z : a ≠ p := by rintro rfl; rw [h] at m; cases m
  rw [upd_ne z]; exact e, fun a z => upd_ne (ne_nz z (m.nzM h))⟩
theorem MR.write {o : HO} {ob ob' : Ob} (m : MR c M H) (h : M p = some ob) (q : ObD c M H ob' o) : MR c (mput M p ob') (upd H p o) := m.put (m.nzM h) (Keep.write m h) q
/-- what changes no more -/
theorem Keep.sub {M' : Mem} (s : Sub M' M) : Keep c M H M' H := ⟨fun a u _ m _ r => ⟨r, s.none m⟩, fun _ _ _ _ _ _ e => e, fun _ _ => rfl⟩
theorem MR.sub {M' : Mem} (m : MR c M H) (s : Sub M' M) : MR c M' H := ⟨fun a b e => by
  obtain ⟨u, hu, r⟩ := m.at_ a b (s a b e)
  exact ⟨u, hu, r.keep (Keep.sub s)⟩, fun a z => ⟨s.none (m.hid a z).1, (m.hid a z).2⟩⟩
theorem Sub.del (M : Mem) (p : Addr) : Sub (mdel M p) M := fun a o e => by
  unfold mdel at e
  split at e
  · cases e
  · exact e
theorem Den.frz {ob : Ob} (m : MR c M H) (h : M p = some ob) : Den c (mdel M p) H ob.frz (.ref p) := by
  obtain ⟨u, hu, q⟩ := m.at_ p ob h
  have k : Keep c M H (mdel M p) H := Keep.sub (Sub.del M p)
  have z : mdel M p p = Option.none := if_pos rfl
  have nz := m.nzM h
  cases ob with
  | lst xs => obtain ⟨vs, e, l, r⟩ := q; subst e; simp only [Ob.frz, Den]; exact ⟨p, vs, rfl, .inl ⟨nz, z, .inl hu⟩, l, r.keep k⟩
  | dic ks xs => obtain ⟨vs, e, l, r⟩ := q; subst e; simp only [Ob.frz, Den]; exact ⟨p, vs, rfl, ⟨nz, z, .inl hu⟩, l, r.keep k⟩
  | ins n ns xs => obtain ⟨dx, vs, e, l, r⟩ := q; subst e; simp only [Ob.frz, Den]; exact ⟨p, dx, vs, rfl, ⟨nz, z, hu⟩, l, r.keep k⟩
  | dit ks xs => obtain ⟨vs, e, l, r⟩ := q; subst e; simp only [Ob.frz, Den]; exact ⟨p, vs, rfl, ⟨nz, z, .inl hu⟩, l, r.keep k⟩
end

/-! ### the slots -/
abbrev Sd := List (Option D)
structure SR (c : Cn) (ρ : Sd) (σ : L2.St) (M : Mem) (H : Hp) : Prop where
  len : ρ.length = σ.length
  get : ∀ (i : Nat) (d : D), ρ[i]? = some (some d) → ∃ v, σ[i]? = some (some v) ∧ Den c M H d v
  mem : MR c M H
section
variable {c : Cn} {M M' : Mem} {H H' : Hp} {ρ : Sd} {σ : L2.St}
theorem SR.keep (s : SR c ρ σ M H) (k : Keep c M H M' H') (m : MR c M' H') : SR c ρ σ M' H' :=
  ⟨s.len, fun i d e => let ⟨v, h, q⟩ := s.get i d e; ⟨v, h, q.keep k⟩, m⟩
theorem SR.set (s : SR c ρ σ M H) {i : Nat} {d : D} {v : V} (q : Den c M H d v) : SR c (ρ.set i (some d)) (σ.set i (some v)) M H := by
  refine ⟨by rw [List.length_set, List.length_set, s.len], fun j e h => ?_, s.mem⟩
  by_cases z : i = j
  · subst z
    by_cases hi : i < ρ.length
    · rw [List.getElem?_set_self hi] at h
      cases h
      exact ⟨v, List.getElem?_set_self (by rw [← s.len]; exact hi), q⟩
    · rw [List.getElem?_eq_none (by rw [List.length_set]; omega)] at h; cases h
  · rw [List.getElem?_set_ne z] at h ⊢
    exact s.get j e h
theorem SR.unset (s : SR c ρ σ M H) {i : Nat} : SR c (ρ.set i none) (σ.set i none) M H := by
  refine ⟨by rw [List.length_set, List.length_set, s.len], fun j e h => ?_, s.mem⟩
  by_cases z : i = j
  · subst z
    by_cases hi : i < ρ.length
    · rw [List.getElem?_set_self hi] at h; cases h
    · rw [List.getElem?_eq_none (by rw [List.length_set]; omega)] at h; cases h
  · rw [List.getElem?_set_ne z] at h ⊢
    exact s.get j e h
end
end PL
/-! ### a def's text in short, and what it asks -/
namespace PL
open PySem PySem.Spec PyProof.Rows L2

/-- a value, or an object that was just made and that nobody else has -/
inductive R where
  | val (d : D) | new (o : Ob)
def R.d : R → D
  | .val d => d
  | .new o => o.frz
abbrev QR := R → Mem → Prop
abbrev EX := Nat → List D → Mem → Prop
/-- a promise: the arguments, what may change, the wanted end, the wanted error -/
abbrev DSp := List D → Mem → QR → EX → Prop

/-! ### data seen -/
def asL (M : Mem) : D → Option (List D)
  | .lst xs => some xs
  | .ref p => match M p with
    | some (.lst xs) => some xs
    | _ => none
  | _ => none
def asT : D → Option (List D)
  | .tup xs => some xs
  | _ => none
def asS (M : Mem) (d : D) : Option (List D) := match d with
  | .tup xs => some xs
  | d => asL M d
def asI (M : Mem) : D → Option (Nat × List Str × List D)
  | .ins c ns xs => some (c, ns, xs)
  | .ref p => match M p with
    | some (.ins c ns xs) => some (c, ns, xs)
    | _ => none
  | _ => none
/-- a class: a built-in one, one of the program -/
inductive Ty where
  | int | str | bool | list | tuple | dict | none | cls (c : Nat)
  deriving DecidableEq
def Ty.name : Ty → String
  | .int => "int" | .str => "str" | .bool => "bool" | .list => "list" | .tuple => "tuple" | .dict => "dict" | .none => "NoneType" | .cls _ => ""
def typ (M : Mem) : D → Option Ty
  | .non => some .none
  | .bl _ => some .bool
  | .int _ => some .int
  | .str _ => some .str
  | .tup _ => some .tuple
  | .lst _ => some .list
  | .dic _ _ => some .dict
  | .ins c _ _ => some (.cls c)
  | .ref p => match M p with
    | some (.lst _) => some .list
    | some (.dic _ _) => some .dict
    | some (.dit _ _) => some .dict
    | some (.ins c _ _) => some (.cls c)
    | _ => Option.none
  | _ => Option.none
def Ty.below (n : Nat → Bool) : Ty → Bool
  | .cls k => n k
  | _ => true
def subT : Ty → Ty → Bool
  | .bool, .int => true
  | a, b => decide (a = b)

mutual
/-- as data, for == -/
def dat : D → Option PyData
  | .non => some .none
  | .bl b => some (.bool b)
  | .int i => some (.int i)
  | .str x => some (.str x)
  | .tup xs => match datL xs with | some ys => some (.tuple ys) | none => none
  | .lst xs => match datL xs with | some ys => some (.list ys) | none => none
  | _ => none
def datL : List D → Option (List PyData)
  | [] => some []
  | x :: xs => match dat x, datL xs with
    | some y, some ys => some (y :: ys)
    | _, _ => none
end
def datM (M : Mem) : D → Option PyData
  | .ref p => match M p with
    | some (.lst xs) => match datL xs with | some ys => some (.list ys) | none => none
    | _ => none
  | d => dat d
def flatD : D → Bool
  | .non | .bl _ | .int _ | .str _ => true
  | _ => false
def eqF : D → D → Bool
  | .non, .non => true
  | .bl a, .bl b => a == b
  | .bl a, .int b => (if a then 1 else 0) == b
  | .int a, .bl b => a == (if b then 1 else 0)
  | .int a, .int b => a == b
  | .str a, .str b => a == b
  | _, _ => false

/-! ### operators -/
def addS (x y : D) (M : Mem) (Q : R → Prop) : Prop := match x with
  | .int i => match y with
    | .int j => Q (.val (.int (i + j)))
    | _ => False
  | .str a => match y with
    | .str b => a.length + b.length ≤ sizeLine ∧ Q (.val (.str (a ++ b)))
    | _ => False
  | .tup xs => match y with
    | .tup ys => xs.length + ys.length ≤ sizeLine ∧ Q (.val (.tup (xs ++ ys)))
    | _ => False
  | x => match asL M x with
    | some xs => match asL M y with
      | some ys => xs.length + ys.length ≤ sizeLine ∧ Q (.new (.lst (xs ++ ys)))
      | none => False
    | none => False
def int2 (x y : D) (K : Int → Int → Prop) : Prop := match x with
  | .int i => match y with
    | .int j => K i j
    | _ => False
  | _ => False
def opS (o : Operator) (x y : D) (M : Mem) (Q : R → Prop) : Prop := match o with
  | .Add => addS x y M Q
  | .Sub => int2 x y fun i j => Q (.val (.int (i - j)))
  | .Mult => int2 x y fun i j => i.natAbs.log2 + j.natAbs.log2 < 1000000 ∧ Q (.val (.int (i * j)))
  | .FloorDiv => int2 x y fun i j => (0 < j ∧ j.natAbs.log2 < 9000) ∧ Q (.val (.int (i / j)))
  | .Mod => int2 x y fun i j => 0 < j ∧ Q (.val (.int (i % j)))
  | .Pow => int2 x y fun i j => (0 ≤ j ∧ j ≤ 1000000 ∧ i.natAbs < 2 ^ 64) ∧ Q (.val (.int (i ^ j.toNat)))
  | _ => False
def eqS (x y : D) (M : Mem) (Q : Bool → Prop) : Prop := match datM M x with
  | some d => match datM M y with
    | some e => SeqAt.shaped d = true ∧ SeqAt.shaped e = true ∧ Q (PyData.eqv d e)
    | none => False
  | none => False
def inS (x y : D) (M : Mem) (Q : Bool → Prop) : Prop := match y with
  | .str b => match x with
    | .str a => Q (!(Builtin.Str.occurrences b a 0 b.length 1).isEmpty)
    | _ => False
  | y => match asS M y with
    | some ys => (flatD x = true ∧ ys.all flatD = true) ∧ Q (ys.any fun z => eqF z x)
    | none => False
def isNon : D → Bool
  | .non => true
  | _ => false
def isS (x y : D) (Q : Bool → Prop) : Prop := match y with
  | .non => Q (isNon x)
  | _ => False
def cmpS (o : CmpOp) (x y : D) (M : Mem) (Q : Bool → Prop) : Prop := match o with
  | .Lt => int2 x y fun i j => Q (decide (i < j))
  | .LtE => int2 x y fun i j => Q (decide (i ≤ j))
  | .Gt => int2 x y fun i j => Q (decide (j < i))
  | .GtE => int2 x y fun i j => Q (decide (j ≤ i))
  | .Eq => eqS x y M Q
  | .NotEq => eqS x y M fun b => Q (!b)
  | .In => inS x y M Q
  | .NotIn => inS x y M fun b => Q (!b)
  | .Is => isS x y Q
  | .IsNot => isS x y fun b => Q (!b)
def truS (d : D) (M : Mem) (Q : Bool → Prop) : Prop := match d with
  | .non => Q false
  | .bl b => Q b
  | .int i => Q (i != 0)
  | .str y => y.length ≤ sizeLine ∧ Q ((y.length : Int) != 0)
  | d => match asS M d with
    | some xs => Q (!xs.isEmpty)
    | none => False
def ixS (x y : D) (M : Mem) (Q : D → Prop) : Prop := match y with
  | .int i => match x with
    | .str z => z.length ≤ sizeLine ∧ match atI z.cps.toList i with
      | some c => Q (.str ⟨#[c]⟩)
      | none => False
    | x => match asS M x with
      | some xs => match atI xs i with
        | some d => Q d
        | none => False
      | none => False
  | _ => False
def cutD (xs : List D) (lo hi : Option Int) : List D := (xs.drop (HT.sIx xs.length 0 lo)).take (HT.sIx xs.length xs.length hi - HT.sIx xs.length 0 lo)
def slS (x : D) (lo hi : Option Int) (M : Mem) (Q : R → Prop) : Prop := match x with
  | .str z => z.length ≤ sizeLine ∧ Q (.val (.str (cutS z lo hi)))
  | .tup xs => Q (.val (.tup (cutD xs lo hi)))
  | x => match asL M x with
    | some xs => Q (.new (.lst (cutD xs lo hi)))
    | none => False

/-! ### built-in functions and methods, by values -/
inductive Fn where
  | len | lenB | int | str | all | any | list | tuple | max2 | min2 | abs | sum
def Fn.name : Fn → Str
  | .len => "len" | .lenB => "len" | .int => "int" | .str => "str" | .all => "all" | .any => "any" | .list => "list" | .tuple => "tuple" | .max2 => "max" | .min2 => "min" | .abs => "abs" | .sum => "sum"
def asBs : List D → Option (List Bool)
  | [] => some []
  | .bl b :: r => match asBs r with | some bs => some (b :: bs) | none => none
  | _ :: _ => none
def asIs : List D → Option (List Int)
  | [] => some []
  | .int i :: r => match asIs r with | some is => some (i :: is) | none => none
  | _ :: _ => none
def asSs : List D → Option (List Str)
  | [] => some []
  | .str x :: r => match asSs r with | some ss => some (x :: ss) | none => none
  | _ :: _ => none
def one (ds : List D) (K : D → Prop) : Prop := match ds with
  | [x] => K x
  | _ => False
def two (ds : List D) (K : D → D → Prop) : Prop := match ds with
  | [x, y] => K x y
  | _ => False
def fnS (f : Fn) (ds : List D) (M : Mem) (Q : R → Prop) : Prop := match f with
  | .len => one ds fun x => match x with
    | .str z => z.length ≤ sizeLine ∧ Q (.val (.int z.length))
    | x => match asS M x with
      | some xs => Q (.val (.int xs.length))
      | none => False
  | .lenB => one ds fun x => match x with
    | .str z => z.length ≤ sizeLine ∧ Q (.val (.int z.length))
    | x => match asS M x with
      | some xs => xs.length ≤ sizeLine → Q (.val (.int xs.length))
      | none => False
  | .int => one ds fun x => match x with
    | .int i => Q (.val (.int i))
    | .bl b => Q (.val (.int (if b then 1 else 0)))
    | .str a => a.length ≤ 640 ∧ match PySem.intText? a with
      | some n => Q (.val (.int n))
      | none => False
    | _ => False
  | .str => one ds fun x => match x with
    | .int i => i.natAbs.log2 < 1920 ∧ Q (.val (.str (toString i)))
    | _ => False
  | .all => one ds fun x => match asL M x with
    | some xs => match asBs xs with
      | some bs => Q (.val (.bl (bs.all id)))
      | none => False
    | none => False
  | .any => one ds fun x => match asL M x with
    | some xs => match asBs xs with
      | some bs => Q (.val (.bl (bs.any id)))
      | none => False
    | none => False
  | .sum => one ds fun x => match asL M x with
    | some xs => match asIs xs with
      | some is => Q (.val (.int is.sum))
      | none => False
    | none => False
  | .list => one ds fun x => match asS M x with
    | some xs => Q (.new (.lst xs))
    | none => False
  | .tuple => one ds fun x => match asS M x with
    | some xs => Q (.val (.tup xs))
    | none => False
  | .max2 => two ds fun x y => int2 x y fun i j => Q (.val (.int (if j > i then j else i)))
  | .min2 => two ds fun x y => int2 x y fun i j => Q (.val (.int (if j < i then j else i)))
  | .abs => one ds fun x => match x with
    | .int i => Q (.val (.int (if i < 0 then -i else i)))
    | _ => False
inductive Mt where
  | append | pop | popAt | join
/-- the receiver is of the method's type -/
def mtTy (m : Mt) (x : D) (M : Mem) : Bool := match m with
  | .join => match x with
    | .str _ => true
    | _ => false
  | _ => (asL M x).isSome
/-- a list that may change, by its address -/
def cellS (x : D) (M : Mem) (K : Addr → List D → Prop) : Prop := match x with
  | .ref p => match M p with
    | some (.lst xs) => K p xs
    | _ => False
  | _ => False
def intS (x : D) (K : Int → Prop) : Prop := match x with
  | .int i => K i
  | _ => False
def strS (x : D) (K : Str → Prop) : Prop := match x with
  | .str a => K a
  | _ => False
def optS {α : Type} (o : Option α) (K : α → Prop) : Prop := match o with
  | some a => K a
  | none => False
def mtS (m : Mt) (o : D) (ds : List D) (M : Mem) (Q : QR) : Prop := match m with
  | .append => one ds fun y => cellS o M fun p xs => xs.length < sizeLine ∧ Q (.val .non) (mput M p (.lst (xs ++ [y])))
  | .pop => ds = [] ∧ cellS o M fun p xs => optS xs[xs.length - 1]? fun y => Q (.val y) (mput M p (.lst xs.dropLast))
  | .popAt => one ds fun i => intS i fun i => cellS o M fun p xs => optS (ixN xs.length i) fun k => optS xs[k]? fun y => Q (.val y) (mput M p (.lst (xs.eraseIdx k)))
  | .join => one ds fun y => strS o fun a => optS (asS M y) fun ys => optS (asSs ys) fun ss => (ss.map Str.length).sum + ss.length * a.length ≤ 16777216 ∧ Q (.val (.str (Txt.join a ss))) M
def fldS (nc : Nat → Bool) (at_ : Nat → List Str) (x : D) (f : Str) (M : Mem) (Q : D → Prop) : Prop := match asI M x with
  | some (c, ns, xs) => (nc c && (at_ c).contains f) = true ∧ optS ((ns.zip xs).lookup f) Q
  | none => False

/-! ### the text -/
/-- a target: a slot, or several -/
inductive Tg where
  | name (i : Nat) | tup (is : List Nat)
mutual
inductive E where
  | var (i : Nat) | con (d : D) | glob (g : Nat)
  | op (o : Operator) (a b : E) | neg (a : E) | cmp (o : CmpOp) (a b : E) | chain (o o' : CmpOp) (a b c : E)
  | and (a b : E) | or (a b : E) | not (a : E) | ite (t : Te) (a b : E)
  | tup (es : Es) | lst (es : Es) | ix (a i : E) | slice (a : E) (lo hi : Eo)
  | fn (f : Fn) (es : Es) | mt (m : Mt) (o : E) (es : Es) | fld (o : E) (f : Str) | isi (a : E) (ts : List Ty)
  | call (k : Nat) (es : Es) (kw : List Str) (vs : Es) | make (k : Nat) (es : Es) (kw : List Str) (vs : Es) | meth (k : Nat) (o : E) (es : Es) (kw : List Str) (vs : Es)
  | comp (elt : E) (t : Tg) (s : Src) (cond : Teo) (own : List (Str × Nat))
  | tupRev (a : E) | tupRange (es : Es)
  | cell (a : E) | frz (a : E) | own (a : E)
inductive Te where
  | val (e : E) | and (a b : Te) | or (a b : Te) | not (a : Te)
inductive Teo where
  | none | some (t : Te)
inductive Es where
  | nil | cons (e : E) (es : Es)
inductive Eo where
  | none | some (e : E)
inductive Src where
  | seq (a : E) | range (es : Es) | enum (a : E) | zip (a b : E)
end

/-- what stands around: the constants, the promises of defs, methods, makers; the attributes of a class; the places of keywords -/
structure Tb where
  gl : Nat → D
  fn : Nat → DSp
  mt : Nat → DSp
  mak : Nat → DSp
  mc : Nat → Nat
  at_ : Nat → List Str
  fp : Nat → List Str
  mp : Nat → List Str
  kp : Nat → List Str
  xf : Nat → List Str
  nc : Nat → Bool

/-- the arguments in the parameters' order -/
def kwArgs {α : Type} (ps : List Str) (ds : List α) (kw : List Str) (vs : List α) : List α := ds ++ (ps.drop ds.length).filterMap fun p => (kw.zip vs).lookup p

def bindT (t : Tg) (x : D) (ρ : Sd) (K : Sd → Prop) : Prop := match t with
  | .name i => K (ρ.set i (some x))
  | .tup is => match x with
    | .tup xs => is.length = xs.length ∧ K ((is.zip xs).foldl (fun r p => r.set p.1 (some p.2)) ρ)
    | _ => False
def wipeD (ρ : Sd) : List Nat → Sd
  | [] => ρ
  | v :: vs => (wipeD ρ vs).set v none
def noEX : EX := fun _ _ _ => False
def rangeD (a b : Int) : List D := (List.range (b - a).toNat).map fun i => .int (a + (i : Nat))
def rgS (ds : List D) (K : List D → Prop) : Prop := match ds with
  | [.int n] => (-(2 ^ 62) ≤ n ∧ n ≤ 16777216) ∧ K (rangeD 0 n)
  | [.int a, .int b] => (-(2 ^ 62) ≤ a ∧ a < 2 ^ 62 ∧ -(2 ^ 62) ≤ b ∧ b < 2 ^ 62 ∧ b - a ≤ 16777216) ∧ K (rangeD a b)
  | _ => False
/-- what is walked: its items, and what must stay so -/
def seqS (x : D) (M : Mem) (K : List D → (Mem → Prop) → Prop) : Prop := match x with
  | .tup xs => K xs fun _ => True
  | .lst xs => K xs fun _ => True
  | .str z => z.cps.size ≤ sizeLine ∧ K (z.cps.toList.map fun c => .str ⟨#[c]⟩) fun _ => True
  | .ref p => match M p with
    | some (.lst xs) => K xs fun M' => M' p = some (.lst xs)
    | _ => False
  | _ => False
def enumD (xs : List D) : List D := (List.range xs.length).map fun i => .tup [.int (i : Nat), xs.getD i .non]
def zipD (xs ys : List D) : List D := (xs.zip ys).map fun p => .tup [p.1, p.2]

def zipS (x y : D) (M : Mem) (K : List D → (Mem → Prop) → Prop) : Prop := match x with
  | .tup xs => match y with
    | .tup ys => K (zipD xs ys) fun _ => True
    | _ => False
  | x => optS (asL M x) fun xs => optS (asL M y) fun ys => K (zipD xs ys) fun M' => asL M' x = some xs ∧ asL M' y = some ys
/-- an instance of the class that is meant -/
def methS (x : D) (M : Mem) (c : Nat) (ns : List Str) (B : Prop) : Prop := match asI M x with
  | some (c', ns', _) => (c' = c ∧ ns' = ns) ∧ B
  | none => False
/-- a comprehension: W by the turn, the new list, the memory -/
def compS (tc : Sd → Mem → (Bool → Mem → Prop) → Prop) (te : Sd → Mem → QR → Prop) (t : Tg) (ρ : Sd) (M1 : Mem) (Q : QR) (items : List D) (live : Mem → Prop) : Prop := ∃ W : Nat → List D → Mem → Prop, W 0 [] M1 ∧
      (∀ i acc M', i ≤ items.length → W i acc M' → live M') ∧
      (∀ i x acc M', items[i]? = some x → W i acc M' → bindT t x ρ fun ρ2 => tc ρ2 M' (fun k M2 =>
        if k = true then te ρ2 M2 (fun r M3 => W (i + 1) (acc ++ [r.d]) M3) else W (i + 1) acc M2)) ∧
      (∀ acc M', W items.length acc M' → Q (.new (.lst acc)) M')
mutual
def wpE (T : Tb) : E → Sd → Mem → QR → EX → Prop
  | .var i, ρ, M, Q, _ => match ρ[i]? with
    | some (some d) => Q (.val d) M
    | _ => False
  | .con d, _, M, Q, _ => Q (.val d) M
  | .glob g, _, M, Q, _ => Q (.val (T.gl g)) M
  | .op o a b, ρ, M, Q, X => wpE T a ρ M (fun x M1 => wpE T b ρ M1 (fun y M2 => opS o x.d y.d M2 fun r => Q r M2) X) X
  | .neg a, ρ, M, Q, X => wpE T a ρ M (fun x M1 => match x.d with
    | .int i => Q (.val (.int (-i))) M1
    | _ => False) X
  | .cmp o a b, ρ, M, Q, X => wpE T a ρ M (fun x M1 => wpE T b ρ M1 (fun y M2 => cmpS o x.d y.d M2 fun k => Q (.val (.bl k)) M2) X) X
  | .chain o o' a b c, ρ, M, Q, X => wpE T a ρ M (fun x M1 => wpE T b ρ M1 (fun y M2 => cmpS o x.d y.d M2 fun k =>
      if k = true then wpE T c ρ M2 (fun z M3 => cmpS o' y.d z.d M3 fun k' => Q (.val (.bl k')) M3) X else Q (.val (.bl false)) M2) X) X
  | .and a b, ρ, M, Q, X => wpE T a ρ M (fun x M1 => match x.d with
    | .bl k => if k = true then wpE T b ρ M1 Q X else Q (.val (.bl false)) M1
    | _ => False) X
  | .or a b, ρ, M, Q, X => wpE T a ρ M (fun x M1 => match x.d with
    | .bl k => if k = true then Q (.val (.bl true)) M1 else wpE T b ρ M1 Q X
    | _ => False) X
  | .not a, ρ, M, Q, X => wpE T a ρ M (fun x M1 => truS x.d M1 fun k => Q (.val (.bl (!k))) M1) X
  | .ite t a b, ρ, M, Q, X => wpT T t ρ M (fun k M1 => if k = true then wpE T a ρ M1 Q X else wpE T b ρ M1 Q X) X
  | .tup es, ρ, M, Q, X => wpEs T es ρ M (fun ds M1 => Q (.val (.tup ds)) M1) X
  | .lst es, ρ, M, Q, X => wpEs T es ρ M (fun ds M1 => Q (.new (.lst ds)) M1) X
  | .ix a i, ρ, M, Q, X => wpE T a ρ M (fun x M1 => wpE T i ρ M1 (fun y M2 => ixS x.d y.d M2 fun d => Q (.val d) M2) X) X
  | .slice a lo hi, ρ, M, Q, X => wpE T a ρ M (fun x M1 => wpEo T lo ρ M1 (fun l M2 => wpEo T hi ρ M2 (fun h M3 => slS x.d l h M3 fun r => Q r M3) X) X) X
  | .fn f es, ρ, M, Q, X => wpEs T es ρ M (fun ds M1 => fnS f ds M1 fun r => Q r M1) X
  | .mt m o es, ρ, M, Q, X => wpE T o ρ M (fun x M1 => mtTy m x.d M1 = true ∧ wpEs T es ρ M1 (fun ds M2 => mtS m x.d ds M2 Q) X) X
  | .fld o f, ρ, M, Q, X => wpE T o ρ M (fun x M1 => fldS T.nc T.at_ x.d f M1 fun d => Q (.val d) M1) X
  | .isi a ts, ρ, M, Q, X => wpE T a ρ M (fun x M1 => match typ M1 x.d with
    | some t => t.below T.nc = true ∧ Q (.val (.bl (ts.any (subT t)))) M1
    | none => False) X
  | .call k es kw vs, ρ, M, Q, X => wpEs T es ρ M (fun ds M1 => wpEs T vs ρ M1 (fun zs M2 => T.fn k (kwArgs (T.fp k) ds kw zs) M2 Q X) X) X
  | .make k es kw vs, ρ, M, Q, X => wpEs T es ρ M (fun ds M1 => wpEs T vs ρ M1 (fun zs M2 => ∀ p, M2 p = none →
      T.mak k (.ref p :: kwArgs ((T.kp k).drop 1) ds kw zs) (mput M2 p (.ins k [] [])) (fun r M3 => r.d = .non ∧ ∃ o, M3 p = some o ∧ Q (.new o) (mdel M3 p)) X) X) X
  | .meth k o es kw vs, ρ, M, Q, X => wpE T o ρ M (fun x M1 => methS x.d M1 (T.mc k) (T.at_ (T.mc k)) (wpEs T es ρ M1 (fun ds M2 => wpEs T vs ρ M2 (fun zs M3 => T.mt k (x.d :: kwArgs ((T.mp k).drop 1) ds kw zs) M3 Q X) X) X)) X
  | .comp elt t s cond own, ρ, M, Q, X => wpSrc T s ρ M (fun items live M1 => compS (fun ρ2 M2 K => wpC T cond ρ2 M2 K noEX) (fun ρ2 M2 K => wpE T elt ρ2 M2 K noEX) t (wipeD ρ (own.map (·.2))) M1 Q items live) X
  | .tupRev a, ρ, M, Q, X => wpE T a ρ M (fun x M1 => match asL M1 x.d with
    | some xs => Q (.val (.tup xs.reverse)) M1
    | none => False) X
  | .tupRange es, ρ, M, Q, X => wpEs T es ρ M (fun ds M1 => rgS ds fun xs => Q (.val (.tup xs)) M1) X
  | .cell a, ρ, M, Q, X => wpE T a ρ M (fun r M1 => match r with
    | .new o => ∀ p, M1 p = none → Q (.val (.ref p)) (mput M1 p o)
    | .val _ => False) X
  | .frz a, ρ, M, Q, X => wpE T a ρ M (fun r M1 => match r with
    | .val (.ref p) => match M1 p with
      | some o => Q (.val o.frz) (mdel M1 p)
      | none => False
    | _ => False) X
  | .own a, ρ, M, Q, X => wpE T a ρ M (fun r M1 => match r with
    | .val (.ref p) => match M1 p with
      | some o => Q (.new o) (mdel M1 p)
      | none => False
    | _ => False) X
def wpEs (T : Tb) : Es → Sd → Mem → (List D → Mem → Prop) → EX → Prop
  | .nil, _, M, Q, _ => Q [] M
  | .cons e es, ρ, M, Q, X => wpE T e ρ M (fun x M1 => wpEs T es ρ M1 (fun ds M2 => Q (x.d :: ds) M2) X) X
def wpEo (T : Tb) : Eo → Sd → Mem → (Option Int → Mem → Prop) → EX → Prop
  | .none, _, M, Q, _ => Q none M
  | .some e, ρ, M, Q, X => wpE T e ρ M (fun x M1 => match x.d with
    | .int i => Q (some i) M1
    | _ => False) X
def wpC (T : Tb) : Teo → Sd → Mem → (Bool → Mem → Prop) → EX → Prop
  | .none, _, M, Q, _ => Q true M
  | .some e, ρ, M, Q, X => wpT T e ρ M Q X
def wpT (T : Tb) : Te → Sd → Mem → (Bool → Mem → Prop) → EX → Prop
  | .and a b, ρ, M, Q, X => wpT T a ρ M (fun k M1 => if k = true then wpT T b ρ M1 Q X else Q false M1) X
  | .or a b, ρ, M, Q, X => wpT T a ρ M (fun k M1 => if k = true then Q true M1 else wpT T b ρ M1 Q X) X
  | .not a, ρ, M, Q, X => wpT T a ρ M (fun k M1 => Q (!k) M1) X
  | .val e, ρ, M, Q, X => wpE T e ρ M (fun x M1 => truS x.d M1 fun k => Q k M1) X
def wpSrc (T : Tb) : Src → Sd → Mem → (List D → (Mem → Prop) → Mem → Prop) → EX → Prop
  | .seq a, ρ, M, K, X => wpE T a ρ M (fun x M1 => seqS x.d M1 fun xs live => K xs live M1) X
  | .range es, ρ, M, K, X => wpEs T es ρ M (fun ds M1 => rgS ds fun xs => K xs (fun _ => True) M1) X
  | .enum a, ρ, M, K, X => wpE T a ρ M (fun x M1 => optS (asS M1 x.d) fun xs => K (enumD xs) (fun M' => asS M' x.d = some xs) M1) X
  | .zip a b, ρ, M, K, X => wpE T a ρ M (fun x M1 => wpE T b ρ M1 (fun y M2 => zipS x.d y.d M2 fun xs live => K xs live M2) X) X
end
end PL
/-! ### statements in short; the look at a text -/
namespace PL
open PySem PySem.Spec PyProof.Rows L2

mutual
inductive S where
  | set (i : Nat) (e : E) | setT (t : Tg) (e : E) | par (is : List Nat) (es : Es) | sub (o i e : E) | fld (o : E) (f : Str) (e : E) | aug (i : Nat) (o : Operator) (e : E)
  | expr (e : E) | ret (e : E) | retN | ite (t : Te) (a b : Ss) | for_ (t : Tg) (s : Src) (b : Ss) | while_ (t : Te) (b : Ss)
  | brk | cont | pass | never
inductive Ss where
  | nil | cons (s : S) (ss : Ss) | frz (i : Nat) (ss : Ss)
end

structure DEnds where
  nx : Sd → Mem → Prop
  rt : QR
  bk : Sd → Mem → Prop := fun _ _ => False
  ct : Sd → Mem → Prop := fun _ _ => False
  ex : Nat → List D → Sd → Mem → Prop := fun _ _ _ _ => False
def DEnds.at_ (D : DEnds) (ρ : Sd) : EX := fun k f M => D.ex k f ρ M

def putN (f : Str) : List Str → List Str
  | [] => [f]
  | g :: r => if g = f then g :: r else g :: putN f r
def putX (f : Str) (v : D) : List Str → List D → List D
  | [], _ => [v]
  | _, [] => [v]
  | g :: r, x :: xs => if g = f then v :: xs else x :: putX f v r xs
def setS (x y v : D) (M : Mem) (K : Mem → Prop) : Prop := cellS x M fun p xs => intS y fun k => optS (ixN xs.length k) fun j => K (mput M p (.lst (xs.set j v)))
def augS (o : Operator) (x y : D) (M : Mem) (Q : R → Prop) : Prop := match o with
  | .Add => match x with
    | .int i => match y with
      | .int j => Q (.val (.int (i + j)))
      | _ => False
    | _ => False
  | .Sub => int2 x y fun i j => Q (.val (.int (i - j)))
  | _ => False

/-- a for: W by the turn, the slots, the memory -/
def forS (body : (Sd → Mem → Prop) → Sd → Mem → Prop) (t : Tg) (ρ : Sd) (M1 : Mem) (fin : Sd → Mem → Prop) (items : List D) (live : Mem → Prop) : Prop := ∃ W : Nat → Sd → Mem → Prop, W 0 ρ M1 ∧
      (∀ i ρ' M', i ≤ items.length → W i ρ' M' → live M') ∧
      (∀ i x ρ' M', items[i]? = some x → W i ρ' M' → bindT t x ρ' fun ρ2 => body (W (i + 1)) ρ2 M') ∧
      (∀ ρ' M', W items.length ρ' M' → fin ρ' M')
def whileS (test : Sd → Mem → (Bool → Mem → Prop) → Prop) (body : (Sd → Mem → Prop) → Sd → Mem → Prop) (ρ : Sd) (M : Mem) (fin : Sd → Mem → Prop) : Prop := ∃ W : Nat → Sd → Mem → Prop, (∃ m, W m ρ M) ∧ ∀ m ρ' M', W m ρ' M' →
      test ρ' M' (fun k M1 => if k = true then body (fun ρ2 M2 => ∃ m', m' < m ∧ W m' ρ2 M2) ρ' M1 else fin ρ' M1)
mutual
def wpS (T : Tb) : S → DEnds → Sd → Mem → Prop
  | .set i e, D, ρ, M => wpE T e ρ M (fun r M1 => D.nx (ρ.set i (some r.d)) M1) (D.at_ ρ)
  | .setT t e, D, ρ, M => wpE T e ρ M (fun r M1 => bindT t r.d ρ fun ρ' => D.nx ρ' M1) (D.at_ ρ)
  | .par is es, D, ρ, M => wpEs T es ρ M (fun ds M1 => is.length = ds.length ∧ D.nx ((is.zip ds).foldl (fun r p => r.set p.1 (some p.2)) ρ) M1) (D.at_ ρ)
  | .sub o i e, D, ρ, M => wpE T e ρ M (fun r M1 => wpE T o ρ M1 (fun x M2 => wpE T i ρ M2 (fun y M3 => setS x.d y.d r.d M3 fun M4 => D.nx ρ M4) (D.at_ ρ)) (D.at_ ρ)) (D.at_ ρ)
  | .fld o f e, D, ρ, M => wpE T e ρ M (fun r M1 => wpE T o ρ M1 (fun x M2 => match x.d with
    | .ref p => match M2 p with
      | some (.ins c ns xs) => (T.nc c && (T.at_ c).contains f) = true ∧ ns.length < 1000 ∧ D.nx ρ (mput M2 p (.ins c (putN f ns) (putX f r.d ns xs)))
      | _ => False
    | _ => False) (D.at_ ρ)) (D.at_ ρ)
  | .aug i o e, D, ρ, M => match ρ[i]? with
    | some (some d) => wpE T e ρ M (fun r M1 => augS o d r.d M1 fun z => D.nx (ρ.set i (some z.d)) M1) (D.at_ ρ)
    | _ => False
  | .expr e, D, ρ, M => wpE T e ρ M (fun _ M1 => D.nx ρ M1) (D.at_ ρ)
  | .ret e, D, ρ, M => wpE T e ρ M D.rt (D.at_ ρ)
  | .retN, D, ρ, M => D.rt (.val .non) M
  | .ite t a b, D, ρ, M => wpT T t ρ M (fun k M1 => if k = true then wpSs T a D ρ M1 else wpSs T b D ρ M1) (D.at_ ρ)
  | .for_ t s b, D, ρ, M => wpSrc T s ρ M (fun items live M1 => forS (fun nx ρ2 M2 => wpSs T b { D with nx := nx, ct := nx, bk := D.nx } ρ2 M2) t ρ M1 D.nx items live) (D.at_ ρ)
  | .while_ t b, D, ρ, M => whileS (fun ρ' M' K => wpT T t ρ' M' K (D.at_ ρ')) (fun nx ρ2 M2 => wpSs T b { D with nx := nx, ct := nx, bk := D.nx } ρ2 M2) ρ M D.nx
  | .brk, D, ρ, M => D.bk ρ M
  | .cont, D, ρ, M => D.ct ρ M
  | .pass, D, ρ, M => D.nx ρ M
  | .never, _, _, _ => False
def wpSs (T : Tb) : Ss → DEnds → Sd → Mem → Prop
  | .nil, D, ρ, M => D.nx ρ M
  | .cons s ss, D, ρ, M => wpS T s { D with nx := wpSs T ss D } ρ M
  | .frz i ss, D, ρ, M => match ρ[i]? with
    | some (some (.ref p)) => match M p with
      | some o => wpSs T ss D (ρ.set i (some o.frz)) (mdel M p)
      | none => False
    | _ => False
end

/-! ### the look: does the short text tell this text? -/
structure Ck where
  N : List Str
  gl : List (Nat × Str)
  fn : List (Nat × Str × List (Nat × List Str))
  mt : List (Nat × Str × List (Nat × List Str))
  mkr : List (Nat × Str × List (Nat × List Str))
  cl : List (Nat × Str)
/-- the k-th is x, called in one of its ways -/
def formB (l : List (Nat × Str × List (Nat × List Str))) (k : Nat) (x : Str) (n : Nat) (kw : List Str) : Bool := match l.lookup k with
  | some (y, F) => y == x && F.contains (n, kw)
  | none => false
def dbg (x : Str) : Bool := !(x == ("__debug__" : Str))
def visB (sc : Scope) (x : Str) : Bool := match sc.names.lookup x with
  | some .local | some .cell | some .free => true
  | _ => false
def glB (sc : Scope) (x : Str) : Bool := match sc.names.lookup x with
  | some .globalImplicit => true
  | _ => false
def locB (sc : Scope) (x : Str) : Bool := match sc.names.lookup x with
  | some .local => true
  | _ => false
def isComp : Expr → Bool
  | .ListComp .. | .SetComp .. | .DictComp .. => true
  | _ => false
def notStar : Expr → Bool
  | .Starred .. => false
  | _ => true
def notSet : Expr → Bool
  | .Set .. => false
  | _ => true
def noSuper : Expr → Bool
  | .Call (.Name _ _) [] [] _ => false
  | _ => true
def notSlice : Expr → Bool
  | .Slice .. => false
  | _ => true
def tyB (K : Ck) (sc : Scope) : Ty → Expr → Bool
  | .cls c, .Name x _ => glB sc x && dbg x && K.cl.lookup c == some x
  | .none, _ => false
  | t, .Name x _ => glB sc x && x == Str.ofString t.name
  | _, _ => false
def tysB (K : Ck) (sc : Scope) : List Ty → List Expr → Bool
  | [], [] => true
  | t :: ts, e :: es => notStar e && tyB K sc t e && tysB K sc ts es
  | _, _ => false
def isiB (K : Ck) (sc : Scope) (ts : List Ty) (e : Expr) : Bool := match e with
  | .Name n p => (match ts with
    | [t] => tyB K sc t (.Name n p)
    | _ => false)
  | .Tuple es _ _ => tysB K sc ts es && decide (es.length ≤ 1000)
  | _ => false
/-- a test that is its value's truth -/
def valB (e : E) (ex : Expr) : Bool := match ex with
  | .BoolOp .. => false
  | .IfExp .. => false
  | .UnaryOp .Not .. => false
  | .Compare .. => (match e with
    | .cmp .. => true
    | .chain .. => true
    | _ => false)
  | _ => true
def celB (sc : Scope) (x : Str) : Bool := match sc.names.lookup x with
  | some .cell => true
  | _ => false
def tgB (K : Ck) (sc : Scope) (fn : Str → Bool) : Tg → Expr → Bool
  | .name i, .Name x _ => K.N[i]? == some x && (locB sc x || (celB sc x && fn x))
  | .tup is, .Tuple es _ _ => namesB K sc fn is es
  | _, _ => false
where namesB (K : Ck) (sc : Scope) (fn : Str → Bool) : List Nat → List Expr → Bool
  | [], [] => true
  | i :: is, .Name x _ :: es => K.N[i]? == some x && (locB sc x || (celB sc x && fn x)) && namesB K sc fn is es
  | _, _ => false
/-- the scope of a comprehension's block within -/
def inB (scope sc : Scope) : Scope := relS scope sc
def pairTg : Tg → Bool
  | .tup _ => true
  | _ => false
def conB : D → Const → Bool
  | .non, .none => true
  | .bl b, .bool b' => b == b'
  | .int i, .int i' => i == i'
  | .str x, .str x' => x == x'
  | _, _ => false
def cmpOk (o : CmpOp) (b : Expr) : Bool := !behindInMarks o b
def mtNm : Mt → Str
  | .append => "append" | .pop => "pop" | .popAt => "pop" | .join => "join"
def mtArgs : Mt → Nat
  | .pop => 0
  | _ => 1
def few12 {α : Type} : List α → Bool
  | [_] => true
  | [_, _] => true
  | _ => false
def lineB (apos pos : Pos) : Bool := apos.endLine == pos.line
mutual
def chkE (K : Ck) : E → Scope → Expr → Bool
  | .var i, sc, ex => match ex with
    | .Name x _ => K.N[i]? == some x && visB sc x && dbg x && !(x == ("__classdict__" : Str))
    | _ => false
  | .con d, _, ex => match ex with
    | .Constant c _ _ => conB d c
    | _ => false
  | .glob g, sc, ex => match ex with
    | .Name x _ => K.gl.lookup g == some x && glB sc x && dbg x
    | _ => false
  | .op o a b, sc, ex => match ex with
    | .BinOp a' o' b' _ => decide (o = o') && chkE K a sc a' && chkE K b sc b'
    | _ => false
  | .neg a, sc, ex => match ex with
    | .UnaryOp .USub a' _ => chkE K a sc a'
    | _ => false
  | .cmp o a b, sc, ex => match ex with
    | .Compare a' [o'] [b'] _ => decide (o = o') && cmpOk o b' && chkE K a sc a' && chkE K b sc b'
    | _ => false
  | .chain o o2 a b c, sc, ex => match ex with
    | .Compare a' [o', o2'] [b', c'] _ => decide (o = o') && decide (o2 = o2') && cmpOk o2 c' && chkE K a sc a' && chkE K b sc b' && chkE K c sc c'
    | _ => false
  | .and a b, sc, ex => match ex with
    | .BoolOp .And (x :: y :: r) pos => chkE K a sc x && chkE K b sc (match r with | [] => y | r => .BoolOp .And (y :: r) pos)
    | _ => false
  | .or a b, sc, ex => match ex with
    | .BoolOp .Or (x :: y :: r) pos => chkE K a sc x && chkE K b sc (match r with | [] => y | r => .BoolOp .Or (y :: r) pos)
    | _ => false
  | .not a, sc, ex => match ex with
    | .UnaryOp .Not a' _ => chkE K a sc a'
    | _ => false
  | .ite t a b, sc, ex => match ex with
    | .IfExp t' a' b' _ => chkT K t sc t' && chkE K a sc a' && chkE K b sc b'
    | _ => false
  | .tup es, sc, ex => match ex with
    | .Tuple es' _ _ => chkEs K es sc es' && decide (es'.length ≤ 1000)
    | _ => false
  | .lst es, sc, ex => match ex with
    | .List es' _ => chkEs K es sc es' && decide (es'.length ≤ 1000)
    | _ => false
  | .ix a i, sc, ex => match ex with
    | .Subscript a' i' _ => notSlice i' && chkE K a sc a' && chkE K i sc i'
    | _ => false
  | .slice a lo hi, sc, ex => match ex with
    | .Subscript a' (.Slice lo' hi' none _) _ => chkE K a sc a' && chkEo K lo sc lo' && chkEo K hi sc hi'
    | _ => false
  | .fn f es, sc, ex => match ex with
    | .Call (.Name x _) (e' :: es') [] _ => x == f.name && glB sc x && notSet e' && chkEs K es sc (e' :: es')
    | _ => false
  | .mt m o es, sc, ex => match ex with
    | .Call (.Attribute o' x apos) es' [] pos => x == mtNm m && decide (es'.length = mtArgs m) && lineB apos pos && noSuper o' && chkE K o sc o' && chkEs K es sc es'
    | _ => false
  | .fld o f, sc, ex => match ex with
    | .Attribute o' f' _ => f == f' && noSuper o' && chkE K o sc o'
    | _ => false
  | .isi a ts, sc, ex => match ex with
    | .Call (.Name x _) [a', t'] [] _ => x == ("isinstance" : Str) && glB sc x && notStar a' && chkE K a sc a' && isiB K sc ts t'
    | _ => false
  | .call k es kw vs, sc, ex => match ex with
    | .Call (.Name x _) es' kws _ => formB K.fn k x es'.length kw && glB sc x && dbg x && chkEs K es sc es' && chkKw K kw vs sc kws
    | _ => false
  | .make k es kw vs, sc, ex => match ex with
    | .Call (.Name x _) es' kws _ => formB K.mkr k x (es'.length + 1) kw && glB sc x && dbg x && chkEs K es sc es' && chkKw K kw vs sc kws
    | _ => false
  | .meth k o es kw vs, sc, ex => match ex with
    | .Call (.Attribute o' x apos) es' kws pos => formB K.mt k x (es'.length + 1) kw && noSuper o' && lineB apos pos && decide (es'.length + kws.length < 20) && chkE K o sc o' && chkEs K es sc es' && chkKw K kw vs sc kws
    | _ => false
  | .comp elt t s cond own, sc, ex => match ex with
    | .ListComp elt' [⟨tg, iter, ifs, 0⟩] scope _ => blkC K.N sc scope own && tgB K (inB scope sc) (fun x => scope.names.lookup x == some .cell) t tg && ownT t (own.map (·.2)) && notSet iter && chkSrc K s sc iter tg && chkC K cond (inB scope sc) ifs && chkE K elt (inB scope sc) elt'
    | _ => false
  | .tupRev a, sc, ex => match ex with
    | .Call (.Name x _) [.Call (.Name y _) [a'] [] _] [] _ => x == ("tuple" : Str) && y == ("reversed" : Str) && glB sc x && glB sc y && notStar a' && chkE K a sc a'
    | _ => false
  | .tupRange es, sc, ex => match ex with
    | .Call (.Name x _) [.Call (.Name y _) es' [] _] [] _ => x == ("tuple" : Str) && y == ("range" : Str) && glB sc x && glB sc y && few12 es' && chkEs K es sc es'
    | _ => false
  | .cell a, sc, e => chkE K a sc e
  | .frz a, sc, e => chkE K a sc e
  | .own a, sc, e => chkE K a sc e
def chkEs (K : Ck) : Es → Scope → List Expr → Bool
  | .nil, _, ex => match ex with
    | [] => true
    | _ => false
  | .cons e es, sc, ex => match ex with
    | e' :: es' => notStar e' && chkE K e sc e' && chkEs K es sc es'
    | _ => false
def chkKw (K : Ck) (kw : List Str) : Es → Scope → List Keyword → Bool
  | .nil, _, ex => match ex with
    | [] => kw.isEmpty
    | _ => false
  | .cons e es, sc, ex => match ex with
    | ⟨some n, e', _⟩ :: ks => (match kw with | [] => false | m :: kw' => m == n && chkE K e sc e' && chkKw K kw' es sc ks)
    | _ => false
def chkEo (K : Ck) : Eo → Scope → Option Expr → Bool
  | .none, _, ex => match ex with
    | none => true
    | _ => false
  | .some e, sc, ex => match ex with
    | some e' => chkE K e sc e'
    | _ => false
def chkC (K : Ck) : Teo → Scope → List Expr → Bool
  | .none, _, ex => match ex with
    | [] => true
    | _ => false
  | .some t, sc, ex => match ex with
    | [e] => chkT K t sc e
    | _ => false
def chkT (K : Ck) : Te → Scope → Expr → Bool
  | .val e, sc, ex => valB e ex && chkE K e sc ex
  | .and a b, sc, ex => match ex with
    | .BoolOp .And (x :: y :: r) pos => chkT K a sc x && chkT K b sc (match r with | [] => y | r => .BoolOp .And (y :: r) pos)
    | _ => false
  | .or a b, sc, ex => match ex with
    | .BoolOp .Or (x :: y :: r) pos => chkT K a sc x && chkT K b sc (match r with | [] => y | r => .BoolOp .Or (y :: r) pos)
    | _ => false
  | .not a, sc, ex => match ex with
    | .UnaryOp .Not a' _ => chkT K a sc a'
    | _ => false
def chkSrc (K : Ck) : Src → Scope → Expr → Expr → Bool
  | .seq a, sc, e, _ => chkE K a sc e
  | .range es, sc, ex, tx => match ex, tx with
    | .Call (.Name x _) es' [] _, _ => x == ("range" : Str) && glB sc x && few12 es' && chkEs K es sc es'
    | _, _ => false
  | .enum a, sc, ex, tx => match ex, tx with
    | .Call (.Name x _) [e] [] _, .Tuple _ _ _ => x == ("enumerate" : Str) && glB sc x && notStar e && chkE K a sc e
    | _, _ => false
  | .zip a b, sc, ex, tx => match ex, tx with
    | .Call (.Name x _) [e, e2] [] _, .Tuple _ _ _ => x == ("zip" : Str) && glB sc x && notStar e && notStar e2 && chkE K a sc e && chkE K b sc e2
    | _, _ => false
def ownT : Tg → List Nat → Bool
  | .name i, vs => vs.contains i
  | .tup is, vs => is.all vs.contains
end
/-- the way of a store at a name: straight (an own rule of a comprehension), or not -/
def swB (sc : Scope) (t : Str) (p : Pos) : Expr → Bool
  | .ListComp _ _ s q => (if sc.kind.isAnnotationScope then ScopeKind.function else sc.kind) == .function && sc.names.lookup t == some .local && p.line == q.line && !(s.names.any fun (n, k) => n == t && (k == .local || k == .cell))
  | _ => false
def setOk : Expr → Bool
  | .SetComp .. | .DictComp .. => false
  | _ => true
/-- a tuple on the right whose stores are not swapped -/
def tupV (ts : List Expr) : Expr → Bool
  | .Tuple vs _ _ => !(ts.length == 2 || ts.length == 3) || vs.length != ts.length
  | .ListComp .. | .SetComp .. | .DictComp .. => false
  | _ => true
def locsB (K : Ck) (sc : Scope) : List Nat → List Expr → Bool
  | [], [] => true
  | i :: is, .Name x _ :: es => K.N[i]? == some x && locB sc x && locsB K sc is es
  | _, _ => false
/-- a, b = x, y, swapped -/
def parB (sc : Scope) (x y : Str) (px py : Pos) (a b : Expr) : Bool := notStar a && notStar b && (if sc.kind.isAnnotationScope then ScopeKind.function else sc.kind) == .function && !(x == y) && py.line == px.line && ![a, b].all (foldedForSure 8) && ![a, b].all (constantsAlone 8)
mutual
def chkS (K : Ck) (sc : Scope) : S → Stmt → Bool
  | .set i e, ex => match ex with
    | .Assign [.Name x p1] v pos => K.N[i]? == some x && (locB sc x || celB sc x) && setOk v && chkE K e sc v
    | _ => false
  | .setT t e, ex => match ex with
    | .Assign [.Tuple es k p1] v pos => tupV es v && tgB K sc (fun _ => true) t (.Tuple es k p1) && chkE K e sc v
    | _ => false
  | .par is es, ex => match ex with
    | .Assign [.Tuple [.Name x px, .Name y py] _ _] (.Tuple [a, b] _ _) pos => (match is with
      | [i, j] => K.N[i]? == some x && K.N[j]? == some y && locB sc x && locB sc y && !(i == j)
      | _ => false) && parB sc x y px py a b && chkEs K es sc [a, b]
    | _ => false
  | .sub o i e, ex => match ex with
    | .Assign [.Subscript o' i' _] v _ => !(isComp v) && notSlice i' && chkE K e sc v && chkE K o sc o' && chkE K i sc i'
    | _ => false
  | .fld o f e, ex => match ex with
    | .Assign [.Attribute o' f' _] v _ => !(isComp v) && f == f' && chkE K e sc v && chkE K o sc o'
    | _ => false
  | .aug i o e, ex => match ex with
    | .AugAssign (.Name x _) o' v _ => K.N[i]? == some x && (locB sc x || celB sc x) && decide (o = o') && (decide (o = .Add) || decide (o = .Sub)) && chkE K e sc v
    | _ => false
  | .expr e, ex => match ex with
    | .Expr v _ => !(isComp v) && chkE K e sc v
    | _ => false
  | .ret e, ex => match ex with
    | .Return (some v) _ => chkE K e sc v
    | _ => false
  | .retN, ex => match ex with
    | .Return none _ => true
    | _ => false
  | .ite t a b, ex => match ex with
    | .If t' a' b' _ => chkT K t sc t' && chkSs K sc a a' && chkSs K sc b b'
    | _ => false
  | .for_ t s b, ex => match ex with
    | .For tg iter b' [] _ => tgB K sc (fun _ => true) t tg && notSet iter && chkSrc K s sc iter tg && chkSs K sc b b'
    | _ => false
  | .while_ t b, ex => match ex with
    | .While t' b' [] _ => chkT K t sc t' && chkSs K sc b b'
    | _ => false
  | .brk, ex => match ex with
    | .Break _ => true
    | _ => false
  | .cont, ex => match ex with
    | .Continue _ => true
    | _ => false
  | .pass, ex => match ex with
    | .Pass _ => true
    | _ => false
  | .never, _ => true
def chkSs (K : Ck) (sc : Scope) : Ss → List Stmt → Bool
  | .nil, ex => match ex with
    | [] => true
    | _ => false
  | .cons s ss, ex => match ex with
    | st :: sts => chkS K sc s st && chkSs K sc ss sts
    | _ => false
  | .frz _ ss, sts => chkSs K sc ss sts
end
end PL
/-! ### readings lifted to plain data -/
namespace PL
open PySem PySem.Spec PyProof.Rows L2

/-- the program's constants, without what is hidden -/
structure Cs where
  K : PySem.W.Frag
  cA : Nat → Addr
def Cs.ok (S : Cs) (c : Cn) : Prop := c.K = S.K ∧ c.cA = S.cA

def RV (c : Cn) (M : Mem) (H : Hp) (M' : Mem) (H' : Hp) : R → V → Prop
  | .val d, v => Keep c M H M' H' ∧ MR c M' H' ∧ Den c M' H' d v
  | .new o, v => ∃ p, v = .ref p ∧ M' p = none ∧ Keep c M H (mput M' p o) H' ∧ MR c (mput M' p o) H'
section
variable {c : Cn} {M M1 M' : Mem} {H H1 H' : Hp} {r : R} {v : V} {o : Ob} {d : D}
theorem RV.plain (h : RV c M H M' H' r v) : Keep c M H M' H' ∧ MR c M' H' ∧ Den c M' H' r.d v := by
  cases r with
  | val d => exact h
  | new o =>
    obtain ⟨p, rfl, hp, k, m⟩ := h
    have e := mdel_mput (o := o) hp
    have s : Sub M' (mput M' p o) := Sub.put hp
    refine ⟨k.trans (Keep.sub s), m.sub s, ?_⟩
    have q := Den.frz m (mput_same (M := M') (a := p) (o := o))
    rw [e] at q
    exact q
theorem RV.after (k : Keep c M H M1 H1) (h : RV c M1 H1 M' H' r v) : RV c M H M' H' r v := by
  cases r with
  | val d => exact ⟨k.trans h.1, h.2⟩
  | new o =>
    obtain ⟨p, e, hp, k', m⟩ := h
    exact ⟨p, e, hp, k.trans k', m⟩
theorem RV.same (m : MR c M H) (q : Den c M H d v) : RV c M H M H (.val d) v := ⟨Keep.refl _ _ _, m, q⟩
/-- a new object in the heap -/
theorem RV.fresh {u : HO} {p : Addr} (m : MR c M H) (h : H p = none) (q : ObD c M H o u) : RV c M H M (upd H p u) (.new o) (.ref p) := ⟨p, rfl, m.none h, Keep.cell m h, MR.cell m h q⟩
theorem RV.freshV {u : HO} {p : Addr} (m : MR c M H) (h : H p = none) (q : ObD c M H o u) : RV c M H M (upd H p u) (.val o.frz) (.ref p) := (RV.fresh m h q).plain
end

/-- an error's own dict -/
def XD (T : Tb) (c : Cn) (M : Mem) (H : Hp) (d : Addr) (k : Nat) (f : List D) : Prop := ∃ vs, H d = some (.xd ((T.xf k).zip vs)) ∧ DenL c M H f vs
def XOK (T : Tb) (c : Cn) (W : WX) (σ : L2.St) (M : Mem) (H : Hp) (E : EX) : Prop := ∀ k f M' H' d, E k f M' → Keep c M H M' H' → MR c M' H' → XD T c M' H' d k f → W (.ref (c.cA k)) (some d) σ H'
theorem XOK.after {T : Tb} {c : Cn} {W : WX} {σ : L2.St} {M M1 : Mem} {H H1 : Hp} {E : EX} (x : XOK T c W σ M H E) (k : Keep c M H M1 H1) : XOK T c W σ M1 H1 E :=
  fun n f M' H' d e k' m q => x n f M' H' d e (k.trans k') m q

abbrev DTE := Sd → Mem → QR → EX → Prop
abbrev DTA := Sd → Mem → (List D → Mem → Prop) → EX → Prop
abbrev DTT := Sd → Mem → (Bool → Mem → Prop) → EX → Prop
def lE (S : Cs) (T : Tb) (W : WX) (t : DTE) : TE := fun σ H Q => ∃ (c : Cn) (ρ : Sd) (M : Mem) (Q' : QR) (E : EX), S.ok c ∧ SR c ρ σ M H ∧ XOK T c W σ M H E ∧ t ρ M Q' E ∧
  ∀ r M' v H', Q' r M' → RV c M H M' H' r v → Q v H'
def lA (S : Cs) (T : Tb) (W : WX) (n : Nat) (t : DTA) : TA := fun σ H Q => ∃ (c : Cn) (ρ : Sd) (M : Mem) (Q' : List D → Mem → Prop) (E : EX), S.ok c ∧ SR c ρ σ M H ∧ XOK T c W σ M H E ∧ t ρ M Q' E ∧
  ∀ ds M' vs H', ds.length = n → Q' ds M' → Keep c M H M' H' → MR c M' H' → DenL c M' H' ds vs → Q vs H'
def lT (S : Cs) (T : Tb) (W : WX) (t : DTT) : TT := fun σ H Q => ∃ (c : Cn) (ρ : Sd) (M : Mem) (Q' : Bool → Mem → Prop) (E : EX), S.ok c ∧ SR c ρ σ M H ∧ XOK T c W σ M H E ∧ t ρ M Q' E ∧
  ∀ k M' H', Q' k M' → Keep c M H M' H' → MR c M' H' → Q k H'
def lO (S : Cs) (T : Tb) (W : WX) (t : Sd → Mem → (Option Int → Mem → Prop) → EX → Prop) : TO := fun σ H Q => ∃ (c : Cn) (ρ : Sd) (M : Mem) (Q' : Option Int → Mem → Prop) (E : EX), S.ok c ∧ SR c ρ σ M H ∧ XOK T c W σ M H E ∧ t ρ M Q' E ∧
  ∀ k M' H', Q' k M' → Keep c M H M' H' → MR c M' H' → Q k H'

/-- by values -/
def LV1 (S : Cs) (k : D → Mem → QR → Prop) : V → Hp → VK → Prop := fun v H Q => ∃ (c : Cn) (M : Mem) (x : D) (Q' : QR), S.ok c ∧ MR c M H ∧ Den c M H x v ∧ k x M Q' ∧ ∀ r M' v' H', Q' r M' → RV c M H M' H' r v' → Q v' H'
def LV2 (S : Cs) (k : D → D → Mem → QR → Prop) : R2 := fun v w H Q => ∃ (c : Cn) (M : Mem) (x y : D) (Q' : QR), S.ok c ∧ MR c M H ∧ Den c M H x v ∧ Den c M H y w ∧ k x y M Q' ∧ ∀ r M' v' H', Q' r M' → RV c M H M' H' r v' → Q v' H'
def LVn (S : Cs) (k : List D → Mem → QR → Prop) : List V → Hp → VK → Prop := fun vs H Q => ∃ (c : Cn) (M : Mem) (xs : List D) (Q' : QR), S.ok c ∧ MR c M H ∧ DenL c M H xs vs ∧ k xs M Q' ∧ ∀ r M' v' H', Q' r M' → RV c M H M' H' r v' → Q v' H'
def LVb (S : Cs) (k : D → Mem → (Bool → Prop) → Prop) : V → Hp → (Bool → Hp → Prop) → Prop := fun v H Q => ∃ (c : Cn) (M : Mem) (x : D) (Q' : Bool → Prop), S.ok c ∧ MR c M H ∧ Den c M H x v ∧ k x M Q' ∧ ∀ b, Q' b → Q b H

theorem PE.imp {X : Cx} {e : Expr} {t t' : TE} (h : PE X e t) (i : ∀ σ H Q, t' σ H Q → t σ H Q) : PE X e t' := ⟨fun pins s σ H Q I q => h.run pins s σ H Q I (i σ H Q q)⟩
theorem PT.imp {X : Cx} {e : Expr} {t t' : TT} (h : PT X e t) (i : ∀ σ H Q, t' σ H Q → t σ H Q) : PT X e t' := ⟨fun pins s σ H Q I q => h.run pins s σ H Q I (i σ H Q q)⟩
theorem PA.imp {X : Cx} {e : List Expr} {t t' : TA} (h : PA X e t) (i : ∀ σ H Q, t' σ H Q → t σ H Q) : PA X e t' := ⟨fun p pins s σ H Q I q => h.run p pins s σ H Q I (i σ H Q q)⟩
section
variable {S : Cs} {T : Tb} {W : WX} {ta tb : DTE} {tr : DTA} {σ : L2.St} {H : Hp} {Q : VK}
/-- one part, then what is made of it -/
theorem lE_un {k : D → Mem → QR → Prop} (h : lE S T W (fun ρ M Q E => ta ρ M (fun x M1 => k x.d M1 Q) E) σ H Q) : lE S T W ta σ H fun v H1 => LV1 S k v H1 Q := by
  obtain ⟨c, ρ, M, Q', E, ok, s, x, t, q⟩ := h
  refine ⟨c, ρ, M, _, E, ok, s, x, t, fun r M1 v H1 hk rv => ?_⟩
  obtain ⟨k1, m1, d1⟩ := rv.plain
  exact ⟨c, M1, _, _, ok, m1, d1, hk, fun r M' v' H' h1 h2 => q r M' v' H' h1 (h2.after k1)⟩
theorem lE_bin {k : D → D → Mem → QR → Prop} (h : lE S T W (fun ρ M Q E => ta ρ M (fun x M1 => tb ρ M1 (fun y M2 => k x.d y.d M2 Q) E) E) σ H Q) :
    lE S T W ta σ H fun v H1 => lE S T W tb σ H1 fun w H2 => LV2 S k v w H2 Q := by
  obtain ⟨c, ρ, M, Q', E, ok, s, x, t, q⟩ := h
  refine ⟨c, ρ, M, _, E, ok, s, x, t, fun r M1 v H1 hk rv => ?_⟩
  obtain ⟨k1, m1, d1⟩ := rv.plain
  refine ⟨c, ρ, M1, _, E, ok, s.keep k1 m1, x.after k1, hk, fun r2 M2 w H2 hk2 rv2 => ?_⟩
  obtain ⟨k2, m2, d2⟩ := rv2.plain
  exact ⟨c, M2, _, _, _, ok, m2, Den.keep k2 _ _ d1, d2, hk2, fun r M' v' H' h1 h2 => q r M' v' H' h1 (h2.after (k1.trans k2))⟩
theorem lA_fn {n : Nat} {k : List D → Mem → QR → Prop} (h : lE S T W (fun ρ M Q E => tr ρ M (fun ds M1 => k ds M1 Q) E) σ H Q) : lA S T W n tr σ H fun vs H1 => LVn S k vs H1 Q := by
  obtain ⟨c, ρ, M, Q', E, ok, s, x, t, q⟩ := h
  refine ⟨c, ρ, M, _, E, ok, s, x, t, fun ds M1 vs H1 _ hk k1 m1 d1 => ?_⟩
  exact ⟨c, M1, _, _, ok, m1, d1, hk, fun r M' v' H' h1 h2 => q r M' v' H' h1 (h2.after k1)⟩
end
end PL
/-! ### the operations by values -/
namespace PL
open PySem PySem.Spec PyProof.Rows L2
section
variable {S : Cs} {X : Cx} {c : Cn} {M : Mem} {H : Hp} {v : V} {d : D}
/-- a list seen, by its address -/
theorem asL_at {K : PySem.W.Frag} {xs : List D} (hK : c.K = K) (m : MR c M H) (q : Den c M H d v) (e : asL M d = some xs) : ∃ a vs, v = .ref a ∧ SqL K H a vs ∧ DenL c M H xs vs ∧ xs.length ≤ sizeLine := by
  subst hK
  cases d with
  | lst ys =>
    simp only [asL] at e; cases e
    simp only [Den] at q
    obtain ⟨a, vs, rfl, h, l, r⟩ := q
    exact ⟨a, vs, rfl, h.sq, r, l⟩
  | ref p =>
    simp only [asL] at e
    simp only [Den] at q
    subst q
    cases hp : M p with
    | none => rw [hp] at e; cases e
    | some o =>
      rw [hp] at e
      cases o with
      | lst ys =>
        simp only at e; cases e
        obtain ⟨u, hu, vs, rfl, l, r⟩ := m.at_ p _ hp
        exact ⟨p, vs, rfl, .inl (.inl hu), r, l⟩
      | _ => simp at e
  | _ => simp [asL] at e
theorem asS_at {K : PySem.W.Frag} {xs : List D} (hK : c.K = K) (m : MR c M H) (q : Den c M H d v) (e : asS M d = some xs) : ∃ a vs, v = .ref a ∧ (SqL K H a vs ∨ SqT K H a vs) ∧ DenL c M H xs vs ∧ xs.length ≤ sizeLine := by
  subst hK
  by_cases z : ∃ ys, d = .tup ys
  · obtain ⟨ys, rfl⟩ := z
    simp only [asS] at e; cases e
    simp only [Den] at q
    obtain ⟨a, vs, rfl, h, l, r⟩ := q
    exact ⟨a, vs, rfl, .inr h.sq, r, l⟩
  · have e' : asL M d = some xs := by
      cases d <;> first | exact e | exact absurd ⟨_, rfl⟩ z
    obtain ⟨a, vs, rfl, h, r, l⟩ := asL_at rfl m q e'
    exact ⟨a, vs, rfl, .inl h, r, l⟩
/-- list + list, whatever is read -/
def rCatR (K : PySem.W.Frag) : R2 := fun x y H Q => ∃ l b xs zs, x = .ref l ∧ y = .ref b ∧ SqL K H l xs ∧ SqL K H b zs ∧ xs.length + zs.length ≤ sizeLine ∧ ∀ p, H p = none → Q (.ref p) (upd H p (.lst (xs ++ zs)))
theorem op_catR : OpR X (binaryOp .Add) (rCatR X.K) := by
  intro pins s σ H x y v u Q I rx ry h
  obtain ⟨l, b, xs, zs, rfl, rfl, hH, hB, hz, q⟩ := h
  cases rx
  cases ry
  obtain ⟨its, r, ⟨⟨o1, od1, odt1, os1⟩, n, e, h1, h2, h3⟩, z⟩ := I.list hH
  obtain ⟨its2, r2, ⟨⟨o2, od2, odt2, os2⟩, n2, e2, h4, h5, h6⟩, z2⟩ := I.list hB
  simp only at h1 h2 h3 h4 h5 h6
  subst h1 h2 h3 h4 h5 h6
  have hl := r.length
  have hl2 := r2.length
  have ea : its.toArray ++ its2.toArray = (its ++ its2).toArray := by simp
  refine concat_meets ⟨_, e, rfl⟩ ⟨_, e2, rfl⟩ noFill_list_add seq_list_add PySem.F.slot_list_add PySem.F.entry_list_add (PySem.F.args_list_add_2 _ _) (PyProof.Rows.list_addW l b its.toArray its2.toArray n n2 none none os1 os2 (by rw [List.size_toArray, List.size_toArray]; omega)) ⟨e, e2, ?_⟩
  rw [ea]
  exact ⟨.ref _, _, I.lnew (t' := s.toks) (r.append r2) (by rw [List.length_append]; omega), rfl, q _ I.fresh⟩

theorem int2_of {x y : D} {K : Int → Int → Prop} (h : int2 x y K) : ∃ i j, x = .int i ∧ y = .int j ∧ K i j := by
  unfold int2 at h
  cases x <;> try exact h.elim
  cases y <;> try exact h.elim
  exact ⟨_, _, rfl, rfl, h⟩

abbrev kOp (o : Operator) : D → D → Mem → QR → Prop := fun x y M Q => opS o x y M fun r => Q r M
theorem or_op {o : Operator} (hK : X.K = S.K) : OpR X (binaryOp o) (LV2 S (kOp o)) := by
  intro pins s σ H x y v u Q I rx ry ⟨c, M, dx, dy, Q', ok, m, d1, d2, h, q⟩
  have kI : ∀ {f : Int → Int → Int} {C : Int → Int → Prop}, int2 dx dy (fun i j => C i j ∧ Q' (.val (.int (f i j))) M) → OpR X (binaryOp o) (rI C fun i j => .int (f i j)) → wpAny (model X.prog X.w) X.A (binaryOp o v u) (EP X pins σ Q) X.xe s := fun {f C} h R => by
    obtain ⟨i, j, rfl, rfl, h1, h2⟩ := int2_of h
    simp only [Den] at d1 d2
    subst d1 d2
    exact R pins s σ H _ _ v u Q I rx ry ⟨i, j, rfl, rfl, h1, q _ _ _ _ h2 (RV.same m (by simp only [Den]))⟩
  have kI0 : ∀ {f : Int → Int → Int}, int2 dx dy (fun i j => Q' (.val (.int (f i j))) M) → OpR X (binaryOp o) (rI0 fun i j => .int (f i j)) → wpAny (model X.prog X.w) X.A (binaryOp o v u) (EP X pins σ Q) X.xe s := fun {f} h R => by
    obtain ⟨i, j, rfl, rfl, h2⟩ := int2_of h
    simp only [Den] at d1 d2
    subst d1 d2
    exact R pins s σ H _ _ v u Q I rx ry ⟨i, j, rfl, rfl, q _ _ _ _ h2 (RV.same m (by simp only [Den]))⟩
  have kL : (∃ xs ys, asL M dx = some xs ∧ asL M dy = some ys ∧ xs.length + ys.length ≤ sizeLine ∧ Q' (.new (.lst (xs ++ ys))) M) → wpAny (model X.prog X.w) X.A (binaryOp .Add v u) (EP X pins σ Q) X.xe s := by
    rintro ⟨xs, ys, e1, e2, hz, hq⟩
    obtain ⟨a, vs, rfl, r1, q1, l1⟩ := asL_at (ok.1.trans hK.symm) m d1 e1
    obtain ⟨b, ws, rfl, r2, q2, l2⟩ := asL_at (ok.1.trans hK.symm) m d2 e2
    refine op_catR pins s σ H _ _ v u Q I rx ry ⟨a, b, vs, ws, rfl, rfl, r1, r2, by rw [← q1.length, ← q2.length]; exact hz, fun p hp => q _ _ _ _ hq (RV.fresh m hp ⟨_, rfl, by rw [List.length_append]; exact hz, q1.append q2⟩)⟩
  unfold kOp opS at h
  cases o with
  | Add =>
    simp only at h
    unfold addS at h
    have l : (match asL M dx with
      | some xs => match asL M dy with
        | some ys => xs.length + ys.length ≤ sizeLine ∧ Q' (.new (.lst (xs ++ ys))) M
        | none => False
      | none => False) → wpAny (model X.prog X.w) X.A (binaryOp .Add v u) (EP X pins σ Q) X.xe s := fun h => by
      cases e1 : asL M dx with
      | none => rw [e1] at h; exact h.elim
      | some xs =>
        rw [e1] at h
        simp only at h
        cases e2 : asL M dy with
        | none => rw [e2] at h; exact h.elim
        | some ys =>
          rw [e2] at h
          exact kL ⟨xs, ys, e1, e2, h⟩
    cases dx with
    | int i =>
      cases dy <;> try exact h.elim
      exact kI0 (f := fun i j => i + j) (show int2 (.int i) (.int _) _ from h) op_add
    | str a =>
      cases dy <;> try exact h.elim
      obtain ⟨h1, h2⟩ := h
      simp only [Den] at d1 d2
      subst d1 d2
      exact op_add_str pins s σ H _ _ v u Q I rx ry ⟨_, _, rfl, rfl, h1, q _ _ _ _ h2 (RV.same m (by simp only [Den]))⟩
    | tup xs =>
      cases dy <;> try exact h.elim
      rename_i ys
      obtain ⟨h1, h2⟩ := h
      simp only [Den] at d1 d2
      obtain ⟨a, vs, rfl, t1, l1, q1⟩ := d1
      obtain ⟨b, ws, rfl, t2, l2, q2⟩ := d2
      have T1 := t1.sq
      have T2 := t2.sq
      rw [ok.1, ← hK] at T1 T2
      refine op_catA pins s σ H _ _ v u Q I rx ry ⟨a, b, vs, ws, rfl, rfl, T1, T2, by rw [← q1.length, ← q2.length]; exact h1, fun e => ?_, fun e1 e2 => ?_, fun e1 e2 p hp => ?_⟩
      · refine q _ _ _ _ h2 (RV.same m ?_)
        subst e
        have : xs = [] := List.eq_nil_of_length_eq_zero q1.length
        subst this
        simp only [Den, List.nil_append]
        exact ⟨b, ws, rfl, t2, l2, q2⟩
      · refine q _ _ _ _ h2 (RV.same m ?_)
        subst e2
        have : ys = [] := List.eq_nil_of_length_eq_zero q2.length
        subst this
        simp only [Den, List.append_nil]
        exact ⟨a, vs, rfl, t1, l1, q1⟩
      · refine q _ _ _ _ h2 ⟨Keep.new m hp, MR.new m hp, ?_⟩
        simp only [Den]
        exact ⟨p, _, rfl, .inl ⟨m.nz hp, m.none hp, .inl upd_same⟩, by rw [List.length_append]; exact h1, (q1.append q2).keep (Keep.new m hp)⟩
    | lst xs => exact l h
    | ref p => exact l h
    | _ => exact l h
  | Sub => exact kI0 (f := fun i j => i - j) h op_sub
  | Mult => exact kI (f := fun i j => i * j) h op_mulW
  | FloorDiv => exact kI (f := fun i j => i / j) h op_fdivW
  | Mod => exact kI (f := fun i j => i % j) h op_mod
  | Pow => exact kI (f := fun i j => i ^ j.toNat) h op_pow
  | _ => exact h.elim

/-! ### comparisons -/
mutual
theorem dat_dp {K : PySem.W.Frag} (hK : c.K = K) (m : MR c M H) : ∀ (d : D) (e : PyData) (v : V), dat d = some e → Den c M H d v → Dp K H v e
  | .non, _, _, h, q => by simp only [dat] at h; cases h; simp only [Den] at q; subst q; exact .non
  | .bl _, _, _, h, q => by simp only [dat] at h; cases h; simp only [Den] at q; subst q; exact .bl _
  | .int _, _, _, h, q => by simp only [dat] at h; cases h; simp only [Den] at q; subst q; exact .int _
  | .str _, _, _, h, q => by simp only [dat] at h; cases h; simp only [Den] at q; subst q; exact .str _
  | .tup xs, e, v, h, q => by
    simp only [dat] at h
    cases hx : datL xs with
    | none => rw [hx] at h; cases h
    | some ys =>
      rw [hx] at h; simp only at h; cases h
      simp only [Den] at q
      obtain ⟨a, vs, rfl, t, _, r⟩ := q
      have t' := t.sq
      rw [hK] at t'
      exact .tup t' (datL_dp hK m xs ys vs hx r)
  | .lst xs, e, v, h, q => by
    simp only [dat] at h
    cases hx : datL xs with
    | none => rw [hx] at h; cases h
    | some ys =>
      rw [hx] at h; simp only at h; cases h
      simp only [Den] at q
      obtain ⟨a, vs, rfl, t, _, r⟩ := q
      exact .lst (by rw [← hK]; exact t.sq) (datL_dp hK m xs ys vs hx r)
  | .ty _, _, _, h, _ => by simp [dat] at h
  | .cls _, _, _, h, _ => by simp [dat] at h
  | .ref _, _, _, h, _ => by simp [dat] at h
  | .ins _ _ _, _, _, h, _ => by simp [dat] at h
  | .dic _ _, _, _, h, _ => by simp [dat] at h
  | .dit _ _, _, _, h, _ => by simp [dat] at h
theorem datL_dp {K : PySem.W.Frag} (hK : c.K = K) (m : MR c M H) : ∀ (xs : List D) (es : List PyData) (vs : List V), datL xs = some es → DenL c M H xs vs → DpAll K H vs es
  | [], _, _, h, q => by simp only [datL] at h; cases h; simp only [DenL] at q; subst q; exact .nil
  | x :: xs, es, vs, h, q => by
    simp only [datL] at h
    simp only [DenL] at q
    obtain ⟨v, r, rfl, q1, q2⟩ := q
    cases h1 : dat x with
    | none => rw [h1] at h; cases h
    | some y =>
      rw [h1] at h
      cases h2 : datL xs with
      | none => rw [h2] at h; cases h
      | some ys =>
        rw [h2] at h; simp only at h; cases h
        exact .cons (dat_dp hK m x y v h1 q1) (datL_dp hK m xs ys r h2 q2)
end
theorem datM_dp {K : PySem.W.Frag} {e : PyData} (hK : c.K = K) (m : MR c M H) (h : datM M d = some e) (q : Den c M H d v) : Dp K H v e := by
  cases d with
  | ref p =>
    simp only [datM] at h
    simp only [Den] at q
    subst q
    cases hp : M p with
    | none => rw [hp] at h; cases h
    | some o =>
      rw [hp] at h
      cases o with
      | lst xs =>
        simp only at h
        cases hx : datL xs with
        | none => rw [hx] at h; cases h
        | some ys =>
          rw [hx] at h; simp only at h; cases h
          obtain ⟨u, hu, vs, rfl, l, r⟩ := m.at_ p _ hp
          exact .lst (.inl (.inl hu)) (datL_dp hK m xs ys vs hx r)
      | _ => simp at h
  | _ => exact dat_dp hK m _ e v h q
theorem flat_v (h : flatD d = true) (q : Den c M H d v) : flatV v = true := by
  cases d <;> first | (simp [flatD] at h; done) | (simp only [Den] at q; subst q; rfl)
theorem eqF_v {d e : D} {v w : V} (h1 : flatD d = true) (h2 : flatD e = true) (q1 : Den c M H d v) (q2 : Den c M H e w) : eqF d e = eqV v w := by
  cases d <;> first
    | (simp [flatD] at h1; done)
    | (simp only [Den] at q1; subst q1
       cases e <;> first
        | (simp [flatD] at h2; done)
        | (simp only [Den] at q2; subst q2; rfl))
theorem flats_v : ∀ {xs : List D} {vs : List V}, xs.all flatD = true → DenL c M H xs vs → vs.all flatV = true
  | [], _, _, q => by simp only [DenL] at q; subst q; rfl
  | x :: xs, _, h, q => by
    simp only [DenL] at q
    obtain ⟨v, r, rfl, q1, q2⟩ := q
    simp only [List.all_cons, Bool.and_eq_true] at h ⊢
    exact ⟨flat_v h.1 q1, flats_v h.2 q2⟩
theorem anyF_v {x : D} {w : V} (hx : flatD x = true) (qx : Den c M H x w) : ∀ {xs : List D} {vs : List V}, xs.all flatD = true → DenL c M H xs vs → (xs.any fun z => eqF z x) = inV w vs
  | [], _, _, q => by simp only [DenL] at q; subst q; rfl
  | y :: xs, _, h, q => by
    simp only [DenL] at q
    obtain ⟨v, r, rfl, q1, q2⟩ := q
    simp only [List.all_cons, Bool.and_eq_true] at h
    unfold inV
    rw [List.any_cons, List.any_cons, eqF_v h.1 hx q1 qx]
    congr 1
    exact anyF_v hx qx h.2 q2

abbrev kCmp (o : CmpOp) : D → D → Mem → QR → Prop := fun x y M Q => cmpS o x y M fun k => Q (.val (.bl k)) M
theorem or_eq {neg : Bool} (hK : X.K = S.K) (hu : X.A.units + 64 < cLine) : OpR X (compareOp (if neg then .NotEq else .Eq)) (LV2 S fun x y M Q => eqS x y M fun k => Q (.val (.bl (if neg then !k else k))) M) := by
  intro pins s σ H x y v u Q I rx ry ⟨c, M, dx, dy, Q', ok, m, d1, d2, h, q⟩
  dsimp only [eqS] at h
  cases e1 : datM M dx with
  | none => rw [e1] at h; exact h.elim
  | some d =>
    rw [e1] at h
    cases e2 : datM M dy with
    | none => rw [e2] at h; exact h.elim
    | some e =>
      rw [e2] at h
      obtain ⟨s1, s2, h⟩ := h
      have p1 := datM_dp (ok.1.trans hK.symm) m e1 d1
      have p2 := datM_dp (ok.1.trans hK.symm) m e2 d2
      have fin := q _ _ _ _ h (RV.same (c := c) (H := H) (v := .bl (if neg then !PyData.eqv d e else PyData.eqv d e)) m (by simp only [Den]))
      cases neg with
      | true => exact op_neD hu pins s σ H x y v u Q I rx ry ⟨d, e, p1, p2, s1, s2, fin⟩
      | false => exact op_eqD hu pins s σ H x y v u Q I rx ry ⟨d, e, p1, p2, s1, s2, fin⟩
theorem or_in {neg : Bool} (hK : X.K = S.K) : OpR X (compareOp (if neg then .NotIn else .In)) (LV2 S fun x y M Q => inS x y M fun k => Q (.val (.bl (if neg then !k else k))) M) := by
  intro pins s σ H x y v u Q I rx ry ⟨c, M, dx, dy, Q', ok, m, d1, d2, h, q⟩
  dsimp only [inS] at h
  have seq : (match asS M dy with
    | some ys => (flatD dx = true ∧ ys.all flatD = true) ∧ Q' (.val (.bl (if neg then !(ys.any fun z => eqF z dx) else ys.any fun z => eqF z dx))) M
    | none => False) → wpAny (model X.prog X.w) X.A (compareOp (if neg then .NotIn else .In) v u) (EP X pins σ Q) X.xe s := fun h => by
    cases e : asS M dy with
    | none => rw [e] at h; exact h.elim
    | some ys =>
      rw [e] at h
      obtain ⟨⟨f1, f2⟩, h⟩ := h
      obtain ⟨a, vs, rfl, sq, r, l⟩ := asS_at (ok.1.trans hK.symm) m d2 e
      have fin := q _ _ _ _ h (RV.same (c := c) (H := H) (v := .bl (if neg then !(ys.any fun z => eqF z dx) else ys.any fun z => eqF z dx)) m (by simp only [Den]))
      rw [anyF_v f1 d1 f2 r] at fin
      cases neg with
      | true => exact op_notIn_seq pins s σ H x _ v u Q I rx ry ⟨a, vs, rfl, sq, flat_v f1 d1, flats_v f2 r, fin⟩
      | false => exact op_in_seq pins s σ H x _ v u Q I rx ry ⟨a, vs, rfl, sq, flat_v f1 d1, flats_v f2 r, fin⟩
  cases dy with
  | str b =>
    simp only at h
    cases dx <;> try exact h.elim
    simp only [Den] at d1 d2
    subst d1 d2
    have fin := fun k (h : Q' (.val (.bl k)) M) => q _ _ _ _ h (RV.same (c := c) (H := H) (v := .bl k) m (by simp only [Den]))
    cases neg with
    | true => exact op_notin_str pins s σ H _ _ v u Q I rx ry ⟨_, _, rfl, rfl, fin _ h⟩
    | false => exact op_in_str pins s σ H _ _ v u Q I rx ry ⟨_, _, rfl, rfl, fin _ h⟩
  | _ => exact seq h
theorem or_is {neg : Bool} : OpR X (compareOp (if neg then .IsNot else .Is)) (LV2 S fun x y M Q => isS x y fun k => Q (.val (.bl (if neg then !k else k))) M) := by
  intro pins s σ H x y v u Q I rx ry ⟨c, M, dx, dy, Q', ok, m, d1, d2, h, q⟩
  dsimp only [isS] at h
  cases dy <;> try exact h.elim
  simp only [Den] at d2
  subst d2
  have e : isNon dx = decide (x = V.non) := by
    cases dx with
    | non => simp only [Den] at d1; subst d1; rfl
    | bl _ => simp only [Den] at d1; subst d1; rfl
    | int _ => simp only [Den] at d1; subst d1; rfl
    | str _ => simp only [Den] at d1; subst d1; rfl
    | ty _ => simp only [Den] at d1; subst d1; rfl
    | cls _ => simp only [Den] at d1; subst d1; rfl
    | ref _ => simp only [Den] at d1; subst d1; rfl
    | tup _ => simp only [Den] at d1; obtain ⟨a, vs, rfl, _⟩ := d1; rfl
    | lst _ => simp only [Den] at d1; obtain ⟨a, vs, rfl, _⟩ := d1; rfl
    | ins _ _ _ => simp only [Den] at d1; obtain ⟨a, dx, vs, rfl, _⟩ := d1; rfl
    | dic _ _ => simp only [Den] at d1; obtain ⟨a, vs, rfl, _⟩ := d1; rfl
    | dit _ _ => simp only [Den] at d1; obtain ⟨a, vs, rfl, _⟩ := d1; rfl
  simp only at h
  have fin := q _ _ _ _ h (RV.same (c := c) (H := H) (v := .bl (if neg then !isNon dx else isNon dx)) m (by simp only [Den]))
  rw [e] at fin
  cases neg with
  | true => exact op_notN pins s σ H _ _ v u Q I rx ry ⟨rfl, fin⟩
  | false => exact op_isN pins s σ H _ _ v u Q I rx ry ⟨rfl, fin⟩
theorem or_cmp {o : CmpOp} (hK : X.K = S.K) (hu : X.A.units + 64 < cLine) : OpR X (compareOp o) (LV2 S (kCmp o)) := by
  have kI : ∀ {f : Int → Int → Bool}, OpR X (compareOp o) (rI0 fun i j => .bl (f i j)) → OpR X (compareOp o) (LV2 S fun x y M Q => int2 x y fun i j => Q (.val (.bl (f i j))) M) := fun {f} R => by
    intro pins s σ H x y v u Q I rx ry ⟨c, M, dx, dy, Q', ok, m, d1, d2, h, q⟩
    obtain ⟨i, j, rfl, rfl, h2⟩ := int2_of h
    simp only [Den] at d1 d2
    subst d1 d2
    exact R pins s σ H _ _ v u Q I rx ry ⟨i, j, rfl, rfl, q _ _ _ _ h2 (RV.same m (by simp only [Den]))⟩
  cases o with
  | Lt => exact kI op_lt
  | LtE => exact kI op_le
  | Gt => exact kI op_gt
  | GtE => exact kI op_ge
  | Eq => exact or_eq (neg := false) hK hu
  | NotEq => exact or_eq (neg := true) hK hu
  | In => exact or_in (neg := false) hK
  | NotIn => exact or_in (neg := true) hK
  | Is => exact or_is (neg := false)
  | IsNot => exact or_is (neg := true)

/-! ### truth -/
theorem tru_v {Q : Bool → Prop} (hK : c.K = X.K) (m : MR c M H) (q : Den c M H d v) (h : truS d M Q) : ∃ k, TruV X.K v H k ∧ Q k := by
  unfold truS at h
  have seq : (match asS M d with
    | some xs => Q (!xs.isEmpty)
    | none => False) → ∃ k, TruV X.K v H k ∧ Q k := fun h => by
    cases e : asS M d with
    | none => rw [e] at h; exact h.elim
    | some xs =>
      rw [e] at h
      obtain ⟨a, vs, rfl, sq, r, l⟩ := asS_at hK m q e
      have z : xs.isEmpty = vs.isEmpty := by
        have := r.length
        cases xs <;> cases vs <;> first | rfl | simp at this
      refine ⟨_, ?_, h⟩
      rcases sq with sq | sq
      · exact .inl ⟨vs, sq, by rw [z]⟩
      · exact .inr (.inl ⟨vs, sq, by rw [z]⟩)
  cases d with
  | non => simp only [Den] at q; subst q; exact ⟨_, rfl, h⟩
  | bl _ => simp only [Den] at q; subst q; exact ⟨_, rfl, h⟩
  | int _ => simp only [Den] at q; subst q; exact ⟨_, rfl, h⟩
  | str _ => simp only [Den] at q; subst q; exact ⟨_, ⟨h.1, rfl⟩, h.2⟩
  | _ => exact seq h

/-! ### items and slices -/
theorem atI_den {xs : List D} {vs : List V} {i : Int} {x : D} (r : DenL c M H xs vs) (h : atI xs i = some x) : ∃ u, atI vs i = some u ∧ Den c M H x u := by
  unfold atI at h ⊢
  rw [← r.length]
  cases e : ixN xs.length i with
  | none => rw [e] at h; cases h
  | some j =>
    rw [e] at h
    exact r.get h
abbrev kIx : D → D → Mem → QR → Prop := fun x y M Q => ixS x y M fun d => Q (.val d) M
theorem ir_ix (hK : X.K = S.K) : IxR X (LV2 S kIx) := by
  intro value slice pins s σ H x y v u Q I rx ry ⟨c, M, dx, dy, Q', ok, m, d1, d2, h, q⟩ hs
  unfold kIx ixS at h
  cases dy <;> try exact h.elim
  rename_i i
  simp only [Den] at d2
  subst d2
  have seq : (match asS M dx with
      | some xs => match atI xs i with
        | some d => Q' (.val d) M
        | none => False
      | none => False) → wpAny (model X.prog X.w) X.A _ (EP X pins σ Q) X.xe s := fun h => by
    cases e : asS M dx with
    | none => rw [e] at h; exact h.elim
    | some xs =>
      rw [e] at h
      simp only at h
      cases e2 : atI xs i with
      | none => rw [e2] at h; exact h.elim
      | some d =>
        rw [e2] at h
        obtain ⟨a, vs, rfl, sq, r, l⟩ := asS_at (ok.1.trans hK.symm) m d1 e
        obtain ⟨w, hw, qd⟩ := atI_den r e2
        have fin := q _ _ _ _ h (RV.same m qd)
        rcases sq with sq | sq
        · exact ix_list value slice pins s σ H _ _ v u Q I rx ry ⟨a, vs, i, w, rfl, rfl, sq, hw, fin⟩ hs
        · exact ix_tup value slice pins s σ H _ _ v u Q I rx ry ⟨a, vs, i, w, rfl, rfl, sq, hw, fin⟩ hs
  cases dx with
  | str z =>
    simp only at h
    obtain ⟨hz, h⟩ := h
    cases e2 : atI z.cps.toList i with
    | none => rw [e2] at h; exact h.elim
    | some k =>
      rw [e2] at h
      simp only [Den] at d1
      subst d1
      exact ix_str value slice pins s σ H _ _ v u Q I rx ry ⟨z, i, k, rfl, rfl, hz, e2, q _ _ _ _ h (RV.same m (by simp only [Den]))⟩ hs
  | _ => exact seq h
theorem cut_den {xs : List D} {vs : List V} (lo hi : Option Int) (r : DenL c M H xs vs) : DenL c M H (cutD xs lo hi) (cutV vs lo hi) := by
  unfold cutD cutV
  rw [← r.length]
  exact (r.drop _).take _
theorem cutD_len (xs : List D) (lo hi : Option Int) : (cutD xs lo hi).length ≤ xs.length := by
  unfold cutD
  rw [List.length_take, List.length_drop]
  omega
theorem cutD_whole {xs : List D} {lo hi : Option Int} (h : HT.sIx xs.length 0 lo = 0 ∧ HT.sIx xs.length xs.length hi = xs.length) : cutD xs lo hi = xs := by
  unfold cutD
  rw [h.1, h.2]
  simp
/-- xs[a:b] of a list that is read -/
def rSlR : V → Option Int → Option Int → Hp → VK → Prop := fun x lo hi H Q => ∃ a xs, x = .ref a ∧ Rd H a (.lst xs) ∧ ∀ p, H p = none → Q (.ref p) (upd H p (.lst (cutV xs lo hi)))
def LVs (S : Cs) : V → Option Int → Option Int → Hp → VK → Prop := fun v lo hi H Q => ∃ (c : Cn) (M : Mem) (x : D) (Q' : QR), S.ok c ∧ MR c M H ∧ Den c M H x v ∧ slS x lo hi M (fun r => Q' r M) ∧ ∀ r M' v' H', Q' r M' → RV c M H M' H' r v' → Q v' H'
theorem sr_sl (hK : X.K = S.K) : SlR X (LVs S) := by
  intro pins s σ H x v vl vu lo hi sl Q I rx hs pl pu ⟨c, M, dx, Q', ok, m, d1, h, q⟩
  by_cases z1 : ∃ z, dx = .str z
  · obtain ⟨z, rfl⟩ := z1
    simp only [Den] at d1
    subst d1
    exact sl_str pins s σ H _ v vl vu lo hi sl Q I rx hs pl pu ⟨z, rfl, h.1, q _ _ _ _ h.2 (RV.same m (by simp only [Den]))⟩
  by_cases z2 : ∃ xs, dx = .tup xs
  · obtain ⟨xs, rfl⟩ := z2
    dsimp only [slS] at h
    have d1' := d1
    simp only [Den] at d1
    obtain ⟨a, vs, rfl, t, l, r⟩ := d1
    have t' := t.sq
    rw [ok.1, ← hK] at t'
    refine sl_tupA pins s σ H _ v vl vu lo hi sl Q I rx hs pl pu ⟨a, vs, rfl, t', fun hw => ?_, fun hw p hp => ?_⟩
    · rw [← r.length] at hw
      rw [cutD_whole hw] at h
      exact q _ _ _ _ h (RV.same m d1')
    · refine q _ _ _ _ h ⟨Keep.new m hp, MR.new m hp, ?_⟩
      simp only [Den]
      exact ⟨p, _, rfl, .inl ⟨m.nz hp, m.none hp, .inl upd_same⟩, Nat.le_trans (cutD_len _ _ _) l, (cut_den lo hi r).keep (Keep.new m hp)⟩
  have h' : ∃ xs, asL M dx = some xs ∧ Q' (.new (.lst (cutD xs lo hi))) M := by
    have h2 : (match asL M dx with
      | some xs => Q' (.new (.lst (cutD xs lo hi))) M
      | none => False) := by
      cases dx <;> first | exact h | exact absurd ⟨_, rfl⟩ z1 | exact absurd ⟨_, rfl⟩ z2
    cases e : asL M dx with
    | none => rw [e] at h2; exact h2.elim
    | some xs => rw [e] at h2; exact ⟨xs, rfl, h2⟩
  obtain ⟨xs, e, h'⟩ := h'
  obtain ⟨a, vs, rfl, sq, r, l⟩ := asL_at (ok.1.trans hK.symm) m d1 e
  exact sl_list pins s σ H _ v vl vu lo hi sl Q I rx hs pl pu ⟨a, vs, rfl, sq, fun p hp => q _ _ _ _ h' (RV.fresh m hp ⟨_, rfl, Nat.le_trans (cutD_len _ _ _) l, cut_den lo hi r⟩)⟩
end
end PL
/-! ### built-in functions, methods, attributes by values -/
namespace PL
open PySem PySem.Spec PyProof.Rows L2
section
variable {S : Cs} {X : Cx} {c : Cn} {M : Mem} {H : Hp} {v : V} {d : D}
theorem one_of {ds : List D} {K : D → Prop} (h : one ds K) : ∃ x, ds = [x] ∧ K x := by
  unfold one at h
  split at h
  · exact ⟨_, rfl, h⟩
  · exact h.elim
theorem two_of {ds : List D} {K : D → D → Prop} (h : two ds K) : ∃ x y, ds = [x, y] ∧ K x y := by
  unfold two at h
  split at h
  · exact ⟨_, _, rfl, h⟩
  · exact h.elim
theorem DenL.one {x : D} {vs : List V} (q : DenL c M H [x] vs) : ∃ v, vs = [v] ∧ Den c M H x v := by
  simp only [DenL] at q
  obtain ⟨v, r, rfl, h, rfl⟩ := q
  exact ⟨v, rfl, h⟩
theorem DenL.two {x y : D} {vs : List V} (q : DenL c M H [x, y] vs) : ∃ v w, vs = [v, w] ∧ Den c M H x v ∧ Den c M H y w := by
  simp only [DenL] at q
  obtain ⟨v, r, rfl, h, w, r2, rfl, h2, rfl⟩ := q
  exact ⟨v, w, rfl, h, h2⟩
theorem asBs_v : ∀ {xs : List D} {bs : List Bool} {vs : List V}, asBs xs = some bs → DenL c M H xs vs → vs = bs.map V.bl
  | [], _, _, h, q => by simp only [asBs] at h; cases h; simp only [DenL] at q; exact q
  | x :: xs, bs, vs, h, q => by
    simp only [DenL] at q
    obtain ⟨v, r, rfl, q1, q2⟩ := q
    cases x <;> try (simp [asBs] at h; done)
    simp only [asBs] at h
    cases e : asBs xs with
    | none => rw [e] at h; cases h
    | some cs =>
      rw [e] at h; simp only at h; cases h
      simp only [Den] at q1
      rw [q1, asBs_v e q2]; rfl
theorem asIs_v : ∀ {xs : List D} {bs : List Int} {vs : List V}, asIs xs = some bs → DenL c M H xs vs → vs = bs.map V.int
  | [], _, _, h, q => by simp only [asIs] at h; cases h; simp only [DenL] at q; exact q
  | x :: xs, bs, vs, h, q => by
    simp only [DenL] at q
    obtain ⟨v, r, rfl, q1, q2⟩ := q
    cases x <;> try (simp [asIs] at h; done)
    simp only [asIs] at h
    cases e : asIs xs with
    | none => rw [e] at h; cases h
    | some cs =>
      rw [e] at h; simp only at h; cases h
      simp only [Den] at q1
      rw [q1, asIs_v e q2]; rfl
theorem asSs_v : ∀ {xs : List D} {bs : List Str} {vs : List V}, asSs xs = some bs → DenL c M H xs vs → vs = bs.map V.str
  | [], _, _, h, q => by simp only [asSs] at h; cases h; simp only [DenL] at q; exact q
  | x :: xs, bs, vs, h, q => by
    simp only [DenL] at q
    obtain ⟨v, r, rfl, q1, q2⟩ := q
    cases x <;> try (simp [asSs] at h; done)
    simp only [asSs] at h
    cases e : asSs xs with
    | none => rw [e] at h; cases h
    | some cs =>
      rw [e] at h; simp only at h; cases h
      simp only [Den] at q1
      rw [q1, asSs_v e q2]; rfl

def Fn.val : Fn → Value
  | .len => .builtin "len" | .lenB => .builtin "len" | .int => .type "int" | .str => .type "str" | .all => .builtin "all" | .any => .builtin "any" | .list => .type "list" | .tuple => .type "tuple"
  | .max2 => .builtin "max" | .min2 => .builtin "min" | .abs => .builtin "abs" | .sum => .builtin "sum"
abbrev kFn (f : Fn) : List D → Mem → QR → Prop := fun ds M Q => fnS f ds M fun r => Q r M
theorem den_tup {p : Addr} {xs : List D} {vs : List V} (m : MR c M H) (hp : H p = none) (l : xs.length ≤ sizeLine) (r : DenL c M H xs vs) : RV c M H M (upd H p (.tup vs)) (.val (.tup xs)) (.ref p) := by
  refine ⟨Keep.new m hp, MR.new m hp, ?_⟩
  simp only [Den]
  exact ⟨p, _, rfl, .inl ⟨m.nz hp, m.none hp, .inl upd_same⟩, l, r.keep (Keep.new m hp)⟩
theorem cr_fn {f : Fn} (hc : X.calm = true) (hK : X.K = S.K) : CallR X f.val (LVn S (kFn f)) := by
  intro pins s σ H vs us Q I rs ⟨c, M, ds, Q', ok, m, dl, h, q⟩
  have hk : c.K = X.K := ok.1.trans hK.symm
  have sc : ∀ {d : D} {v : V}, Q' (.val d) M → Den c M H d v → Q v H := fun h1 h2 => q _ _ _ _ h1 (RV.same m h2)
  have lst : ∀ {K : List D → Prop} {d : D}, (match asL M d with | some xs => K xs | none => False) → ∃ xs, asL M d = some xs ∧ K xs := fun {K d} h => by
    cases e : asL M d with
    | none => rw [e] at h; exact h.elim
    | some xs => rw [e] at h; exact ⟨xs, rfl, h⟩
  have seq : ∀ {K : List D → Prop} {d : D}, (match asS M d with | some xs => K xs | none => False) → ∃ xs, asS M d = some xs ∧ K xs := fun {K d} h => by
    cases e : asS M d with
    | none => rw [e] at h; exact h.elim
    | some xs => rw [e] at h; exact ⟨xs, rfl, h⟩
  cases f with
  | len =>
    obtain ⟨x, rfl, h⟩ := one_of (show one ds _ from h)
    obtain ⟨v, rfl, d1⟩ := dl.one
    by_cases z : ∃ y, x = .str y
    · obtain ⟨y, rfl⟩ := z
      simp only [Den] at d1
      subst d1
      exact call_len_str pins s σ H _ us Q I rs ⟨y, rfl, h.1, sc h.2 (by simp only [Den])⟩
    · have h' : (match asS M x with | some xs => Q' (.val (.int xs.length)) M | none => False) := by
        cases x <;> first | exact h | exact absurd ⟨_, rfl⟩ z
      obtain ⟨xs, e, h'⟩ := seq (K := fun xs => Q' (.val (.int xs.length)) M) h'
      obtain ⟨a, ws, rfl, sq, r, l⟩ := asS_at hk m d1 e
      refine call_len_seq pins s σ H _ us Q I rs ⟨a, ws, rfl, sq, sc h' ?_⟩
      simp only [Den]
      rw [r.length]
  | lenB =>
    obtain ⟨x, rfl, h⟩ := one_of (show one ds _ from h)
    obtain ⟨v, rfl, d1⟩ := dl.one
    by_cases z : ∃ y, x = .str y
    · obtain ⟨y, rfl⟩ := z
      simp only [Den] at d1
      subst d1
      exact call_len_str pins s σ H _ us Q I rs ⟨y, rfl, h.1, sc h.2 (by simp only [Den])⟩
    · have h' : (match asS M x with | some xs => xs.length ≤ sizeLine → Q' (.val (.int xs.length)) M | none => False) := by
        cases x <;> first | exact h | exact absurd ⟨_, rfl⟩ z
      obtain ⟨xs, e, h'⟩ := seq (K := fun xs => xs.length ≤ sizeLine → Q' (.val (.int xs.length)) M) h'
      obtain ⟨a, ws, rfl, sq, r, l⟩ := asS_at hk m d1 e
      refine call_len_seq pins s σ H _ us Q I rs ⟨a, ws, rfl, sq, sc (h' l) ?_⟩
      simp only [Den]
      rw [r.length]
  | int =>
    obtain ⟨x, rfl, h⟩ := one_of (show one ds _ from h)
    obtain ⟨v, rfl, d1⟩ := dl.one
    cases x with
    | bl b =>
      simp only [Den] at d1
      subst d1
      exact call_int1 pins s σ H _ us Q I rs (.inr ⟨_, rfl, sc h (by simp only [Den])⟩)
    | int i =>
      simp only [Den] at d1
      subst d1
      exact call_int1 pins s σ H _ us Q I rs (.inl ⟨_, rfl, sc h (by simp only [Den])⟩)
    | str a =>
      simp only [Den] at d1
      subst d1
      obtain ⟨h1, h⟩ := h
      cases e : PySem.intText? a with
      | none => rw [e] at h; exact h.elim
      | some n =>
        rw [e] at h
        exact call_int_str pins s σ H _ us Q I rs ⟨a, n, rfl, e, h1, sc h (by simp only [Den])⟩
    | _ => exact h.elim
  | str =>
    obtain ⟨x, rfl, h⟩ := one_of (show one ds _ from h)
    obtain ⟨v, rfl, d1⟩ := dl.one
    cases x <;> try exact h.elim
    simp only [Den] at d1
    subst d1
    exact call_str_int pins s σ H _ us Q I rs ⟨_, rfl, h.1, sc h.2 (by simp only [Den])⟩
  | all =>
    obtain ⟨x, rfl, h⟩ := one_of (show one ds _ from h)
    obtain ⟨v, rfl, d1⟩ := dl.one
    obtain ⟨xs, e, h⟩ := lst (K := fun xs => match asBs xs with | some bs => Q' (.val (.bl (bs.all id))) M | none => False) h
    cases e2 : asBs xs with
    | none => rw [e2] at h; exact h.elim
    | some bs =>
      rw [e2] at h
      obtain ⟨a, ws, rfl, sq, r, l⟩ := asL_at hk m d1 e
      have := asBs_v e2 r
      subst this
      exact cr_all hc pins s σ H _ us Q I rs ⟨a, bs, rfl, sq, sc h (by simp only [Den])⟩
  | any =>
    obtain ⟨x, rfl, h⟩ := one_of (show one ds _ from h)
    obtain ⟨v, rfl, d1⟩ := dl.one
    obtain ⟨xs, e, h⟩ := lst (K := fun xs => match asBs xs with | some bs => Q' (.val (.bl (bs.any id))) M | none => False) h
    cases e2 : asBs xs with
    | none => rw [e2] at h; exact h.elim
    | some bs =>
      rw [e2] at h
      obtain ⟨a, ws, rfl, sq, r, l⟩ := asL_at hk m d1 e
      have := asBs_v e2 r
      subst this
      exact cr_any hc pins s σ H _ us Q I rs ⟨a, bs, rfl, sq, sc h (by simp only [Den])⟩
  | sum =>
    obtain ⟨x, rfl, h⟩ := one_of (show one ds _ from h)
    obtain ⟨v, rfl, d1⟩ := dl.one
    obtain ⟨xs, e, h⟩ := lst (K := fun xs => match asIs xs with | some is => Q' (.val (.int is.sum)) M | none => False) h
    cases e2 : asIs xs with
    | none => rw [e2] at h; exact h.elim
    | some bs =>
      rw [e2] at h
      obtain ⟨a, ws, rfl, sq, r, l⟩ := asL_at hk m d1 e
      have := asIs_v e2 r
      subst this
      exact cr_sum hc pins s σ H _ us Q I rs ⟨a, bs, rfl, sq, sc h (by simp only [Den])⟩
  | list =>
    obtain ⟨x, rfl, h⟩ := one_of (show one ds _ from h)
    obtain ⟨v, rfl, d1⟩ := dl.one
    obtain ⟨xs, e, h⟩ := seq (K := fun xs => Q' (.new (.lst xs)) M) h
    obtain ⟨a, ws, rfl, sq, r, l⟩ := asS_at hk m d1 e
    exact call_list_of pins s σ H _ us Q I rs ⟨a, ws, rfl, sq, fun p hp => q _ _ _ _ h (RV.fresh m hp ⟨_, rfl, l, r⟩)⟩
  | tuple =>
    obtain ⟨x, rfl, h⟩ := one_of (show one ds _ from h)
    obtain ⟨v, rfl, d1⟩ := dl.one
    obtain ⟨xs, e, h⟩ := seq (K := fun xs => Q' (.val (.tup xs)) M) h
    by_cases z : ∃ ys, x = .tup ys
    · obtain ⟨ys, rfl⟩ := z
      simp only [asS] at e; cases e
      have d1' := d1
      simp only [Den] at d1
      obtain ⟨a, ws, rfl, t, l, r⟩ := d1
      have t' := t.sq
      rw [hk] at t'
      exact call_tuple_of pins s σ H _ us Q I rs ⟨a, ws, rfl, .inr ⟨t', sc h d1'⟩⟩
    · have e' : asL M x = some xs := by
        cases x <;> first | exact e | exact absurd ⟨_, rfl⟩ z
      obtain ⟨a, ws, rfl, sq, r, l⟩ := asL_at hk m d1 e'
      exact call_tuple_of pins s σ H _ us Q I rs ⟨a, ws, rfl, .inl ⟨sq, fun p hp => q _ _ _ _ h (den_tup m hp l r)⟩⟩
  | max2 =>
    obtain ⟨x, y, rfl, h⟩ := two_of (show two ds _ from h)
    obtain ⟨v, w, rfl, d1, d2⟩ := dl.two
    obtain ⟨i, j, rfl, rfl, h⟩ := int2_of h
    simp only [Den] at d1 d2
    subst d1 d2
    exact call_max2 hc pins s σ H _ us Q I rs ⟨i, j, rfl, sc h (by simp only [Den])⟩
  | min2 =>
    obtain ⟨x, y, rfl, h⟩ := two_of (show two ds _ from h)
    obtain ⟨v, w, rfl, d1, d2⟩ := dl.two
    obtain ⟨i, j, rfl, rfl, h⟩ := int2_of h
    simp only [Den] at d1 d2
    subst d1 d2
    exact call_min2 hc pins s σ H _ us Q I rs ⟨i, j, rfl, sc h (by simp only [Den])⟩
  | abs =>
    obtain ⟨x, rfl, h⟩ := one_of (show one ds _ from h)
    obtain ⟨v, rfl, d1⟩ := dl.one
    cases x <;> try exact h.elim
    simp only [Den] at d1
    subst d1
    exact call_abs pins s σ H _ us Q I rs ⟨_, rfl, sc h (by simp only [Den])⟩

/-! ### methods of lists and texts -/
def Mt.ty : Mt → String
  | .join => "str"
  | _ => "list"
def Mt.id_ : Mt → String
  | .append => "list.append" | .pop => "list.pop" | .popAt => "list.pop" | .join => "str.join"
def LVm (S : Cs) (m : Mt) : V → List V → Hp → VK → Prop := fun v vs H Q => ∃ (c : Cn) (M : Mem) (x : D) (ds : List D) (Q' : QR), S.ok c ∧ MR c M H ∧ Den c M H x v ∧ DenL c M H ds vs ∧ mtS m x ds M Q' ∧ ∀ r M' v' H', Q' r M' → RV c M H M' H' r v' → Q v' H'
theorem cell_at {p : Addr} {xs : List D} (m : MR c M H) (h : M p = some (.lst xs)) : ∃ vs, H p = some (.lst vs) ∧ xs.length ≤ sizeLine ∧ DenL c M H xs vs := by
  obtain ⟨u, hu, vs, rfl, l, r⟩ := m.at_ p _ h
  exact ⟨vs, hu, l, r⟩
theorem DenL.dropLast {xs : List D} {vs : List V} (h : DenL c M H xs vs) : DenL c M H xs.dropLast vs.dropLast := by
  rw [List.dropLast_eq_take, List.dropLast_eq_take, h.length]
  exact h.take _
theorem DenL.eraseIdx {xs : List D} {vs : List V} (i : Nat) (h : DenL c M H xs vs) : DenL c M H (xs.eraseIdx i) (vs.eraseIdx i) := by
  rw [List.eraseIdx_eq_take_drop_succ, List.eraseIdx_eq_take_drop_succ]
  exact (h.take _).append (h.drop _)
theorem cell_of {x : D} {K : Addr → List D → Prop} (h : cellS x M K) : ∃ p xs, x = .ref p ∧ M p = some (.lst xs) ∧ K p xs := by
  unfold cellS at h
  cases x with
  | ref p =>
    simp only at h
    cases e : M p with
    | none => rw [e] at h; exact h.elim
    | some o =>
      rw [e] at h
      cases o with
      | lst xs => exact ⟨p, xs, rfl, e, h⟩
      | _ => exact h.elim
  | _ => exact h.elim
theorem int_of {x : D} {K : Int → Prop} (h : intS x K) : ∃ i, x = .int i ∧ K i := by
  unfold intS at h
  cases x with
  | int i => exact ⟨i, rfl, h⟩
  | _ => exact h.elim
theorem str_of {x : D} {K : Str → Prop} (h : strS x K) : ∃ i, x = .str i ∧ K i := by
  unfold strS at h
  cases x with
  | str i => exact ⟨i, rfl, h⟩
  | _ => exact h.elim
theorem opt_of {α : Type} {o : Option α} {K : α → Prop} (h : optS o K) : ∃ a, o = some a ∧ K a := by
  unfold optS at h
  cases o with
  | some i => exact ⟨i, rfl, h⟩
  | none => exact h.elim
theorem mr_mt {m : Mt} (hK : X.K = S.K) : MtR X m.id_ (LVm S m) := by
  intro pins s σ H v vs u us Q I rx rs ⟨c, M, x, ds, Q', ok, mr, d1, dl, h, q⟩
  have hk : c.K = X.K := ok.1.trans hK.symm
  cases m with
  | append =>
    obtain ⟨y, rfl, h⟩ := one_of (show one ds _ from h)
    obtain ⟨w, rfl, d2⟩ := dl.one
    obtain ⟨p, xs, rfl, hp, hz, h⟩ := cell_of h
    obtain ⟨ws, hw, l, r⟩ := cell_at mr hp
    simp only [Den] at d1
    subst d1
    have k := Keep.write (o := .lst (ws ++ [w])) (ob' := .lst (xs ++ [y])) mr hp
    refine mt_append pins s σ H _ _ u us Q I rx rs ⟨p, ws, w, rfl, rfl, hw, by rw [← r.length]; exact hz, q _ _ _ _ h ⟨k, MR.write mr hp ⟨_, rfl, ?_, r.append (DenL.cons d2 DenL.nil)⟩, by simp only [Den]⟩⟩
    rw [List.length_append, List.length_singleton]
    omega
  | pop =>
    have h' := (show ds = [] ∧ cellS x M (fun p xs => optS xs[xs.length - 1]? fun y => Q' (.val y) (mput M p (.lst xs.dropLast))) from h)
    clear h
    obtain ⟨rfl, h⟩ := h'
    simp only [DenL] at dl
    subst dl
    obtain ⟨p, xs, rfl, hp, h⟩ := cell_of h
    obtain ⟨y, e, h⟩ := opt_of h
    obtain ⟨ws, hw, l, r⟩ := cell_at mr hp
    simp only [Den] at d1
    subst d1
    obtain ⟨w, e2, d2⟩ := r.get e
    rw [r.length] at e2
    have k := Keep.write (o := .lst ws.dropLast) (ob' := .lst xs.dropLast) mr hp
    exact mt_pop pins s σ H _ _ u us Q I rx rs ⟨p, ws, w, rfl, rfl, hw, e2, q _ _ _ _ h ⟨k, MR.write mr hp ⟨_, rfl, by rw [List.length_dropLast]; omega, r.dropLast⟩, Den.keep k _ _ d2⟩⟩
  | popAt =>
    obtain ⟨z, rfl, h⟩ := one_of (show one ds _ from h)
    obtain ⟨w0, rfl, d2⟩ := dl.one
    obtain ⟨i, rfl, h⟩ := int_of h
    obtain ⟨p, xs, rfl, hp, h⟩ := cell_of h
    obtain ⟨k, e, h⟩ := opt_of h
    obtain ⟨y, e2, h⟩ := opt_of h
    simp only [Den] at d1 d2
    subst d1 d2
    obtain ⟨ws, hw, l, r⟩ := cell_at mr hp
    obtain ⟨w, e3, d3⟩ := r.get e2
    obtain ⟨h1, h2, h3, h4⟩ := ixN_seq e
    have hs : sizeLine = 16777216 := sizeLine_eq
    have kk := Keep.write (o := .lst (ws.eraseIdx k)) (ob' := .lst (xs.eraseIdx k)) mr hp
    refine mt_popAt pins s σ H _ _ u us Q I rx rs ⟨p, ws, i, k, w, rfl, rfl, hw, by omega, by omega, by rw [← r.length]; exact h1, e3, q _ _ _ _ h ⟨kk, MR.write mr hp ⟨_, rfl, ?_, r.eraseIdx k⟩, Den.keep kk _ _ d3⟩⟩
    have := len_erase xs k
    omega
  | join =>
    obtain ⟨y, rfl, h⟩ := one_of (show one ds _ from h)
    obtain ⟨w, rfl, d2⟩ := dl.one
    obtain ⟨a, rfl, h⟩ := str_of h
    obtain ⟨ys, e, h⟩ := opt_of h
    obtain ⟨ss, e2, h1, h2⟩ := opt_of h
    simp only [Den] at d1
    subst d1
    obtain ⟨p, ws, rfl, sq, r, l⟩ := asS_at hk mr d2 e
    have := asSs_v e2 r
    subst this
    exact mt_join pins s σ H _ _ u us Q I rx rs ⟨a, p, ss, rfl, rfl, sq, h1, q _ _ _ _ h2 (RV.same mr (by simp only [Den]))⟩
theorem mt_ty {m : Mt} (hK : c.K = X.K) (mr : MR c M H) (q : Den c M H d v) (h : mtTy m d M = true) : tyV X.K m.ty v H := by
  have lst : (asL M d).isSome = true → tyV X.K "list" v H := fun h => by
    obtain ⟨xs, e⟩ := Option.isSome_iff_exists.mp h
    obtain ⟨a, ws, rfl, sq, r, l⟩ := asL_at hK mr q e
    exact .inl ⟨rfl, ws, sq⟩
  cases m with
  | join =>
    cases d with
    | str a => simp only [Den] at q; subst q; exact (rfl : "str" = "str")
    | _ => exact absurd (show false = true from h) Bool.false_ne_true
  | append => exact lst h
  | pop => exact lst h
  | popAt => exact lst h
end
end PL
/-! ### what stands around: classes, defs -/
namespace PL
open PySem PySem.Spec PyProof.Rows L2

/-- an own class: its attributes are the instances' own -/
structure ClsOk (K : PySem.W.Frag) (C : Addr) (at_ : List Str) : Prop where
  cl : Cls K C
  na : ∀ f ∈ at_, NoAttr K C f
  ha : PySem.W.findIn K (.ref C) "__class__" = some (some (.builtin "object.__class__"))
  hn : PySem.W.specialIn K (.builtin "object.__class__") "__get__" = some (some (.builtin "getset_descriptor.__get__"))
  htk : PySem.W.takesIn K (.builtin "object.__class__") = some true
  hm : PySem.W.mroIn K C (.type "object") = some true
def Cs.tv (S : Cs) : Ty → Value
  | .cls k => .ref (S.cA k)
  | t => .type t.name
/-- isinstance's answers for the classes below n -/
structure KitOk (S : Cs) (n : Nat → Bool) : Prop where
  cb : ∀ k, n k = true → ∀ t : Ty, (∀ j, t ≠ .cls j) → PySem.W.kitOne S.K (.ref (S.cA k)) (.type t.name) = some false
  bc : ∀ k, n k = true → ∀ t : Ty, (∀ j, t ≠ .cls j) → PySem.W.kitOne S.K (.type t.name) (.ref (S.cA k)) = some false
  cc : ∀ k j, n k = true → n j = true → PySem.W.kitOne S.K (.ref (S.cA k)) (.ref (S.cA j)) = some (decide (k = j))
theorem kit_bb {K : PySem.W.Frag} : ∀ a b : Ty, (∀ j, a ≠ .cls j) → (∀ j, b ≠ .cls j) → PySem.W.kitOne K (.type a.name) (.type b.name) = some (subT a b) := by
  intro a b ha hb
  cases a <;> first | exact absurd rfl (ha _) | (cases b <;> first | exact absurd rfl (hb _) | exact kit_ty (by decide +kernel))
theorem kit_all {S : Cs} {n : Nat → Bool} (k : KitOk S n) {a b : Ty} (ha : a.below n = true) (hb : b.below n = true) : PySem.W.kitOne S.K (S.tv a) (S.tv b) = some (subT a b) := by
  cases a with
  | cls i =>
    have hi : n i = true := by simpa [Ty.below] using ha
    cases b with
    | cls j =>
      have hj : n j = true := by simpa [Ty.below] using hb
      rw [show S.tv (.cls i) = .ref (S.cA i) from rfl, show S.tv (.cls j) = .ref (S.cA j) from rfl, k.cc i j hi hj]
      simp [subT]
    | _ => exact k.cb i hi _ (fun j z => by cases z)
  | _ =>
    cases b with
    | cls j =>
      have hj : n j = true := by simpa [Ty.below] using hb
      exact k.bc j hj _ (fun j z => by cases z)
    | _ => exact kit_bb _ _ (fun j z => by cases z) (fun j z => by cases z)

section
variable {S : Cs} {X : Cx} {c : Cn} {M : Mem} {H : Hp} {v : V} {d : D}
/-- a value's class by its data -/
theorem typ_of {T : Tb} {n : Nat → Bool} {t : Ty} (ok : S.ok c) (hK : X.K = S.K) (hcl : ∀ k, n k = true → ClsOk S.K (S.cA k) (T.at_ k)) (mr : MR c M H) (q : Den c M H d v) (h : typ M d = some t) (hb : t.below n = true) : TyX X.K H v (S.tv t) := by
  have hk : c.K = X.K := ok.1.trans hK.symm
  have ins : ∀ {k : Nat} {a dx : Addr} {fs : List (Str × V)}, (Ty.cls k).below n = true → H a = some (.ins (c.cA k) dx fs) → TyX X.K H (.ref a) (S.tv (.cls k)) := fun {k a dx fs} hb e => by
    have hi : n k = true := by simpa [Ty.below] using hb
    have C := hcl k hi
    rw [ok.2] at e
    rw [hK]
    exact .base (.ins e C.cl C.ha C.hn C.htk C.hm)
  cases d with
  | non => simp only [typ] at h; cases h; simp only [Den] at q; subst q; exact .base .non
  | bl _ => simp only [typ] at h; cases h; simp only [Den] at q; subst q; exact .base (.bl _)
  | int _ => simp only [typ] at h; cases h; simp only [Den] at q; subst q; exact .base (.int _)
  | str _ => simp only [typ] at h; cases h; simp only [Den] at q; subst q; exact .base (.str _)
  | tup _ =>
    simp only [typ] at h; cases h; simp only [Den] at q
    obtain ⟨a, vs, rfl, t, _⟩ := q
    rcases t with ⟨_, _, t | ⟨o, t⟩⟩ | ⟨o, its, n, e, hc, _⟩
    · exact .base (.tup t)
    · exact .fTuple t
    · exact .kTuple (by rw [← hk]; exact e) hc
  | lst _ =>
    simp only [typ] at h; cases h; simp only [Den] at q
    obtain ⟨a, vs, rfl, t, _⟩ := q
    rcases t with ⟨_, _, t | ⟨o, t⟩⟩ | ⟨o, its, n, e, hc, _⟩
    · exact .base (.lst t)
    · exact .base (.frz t)
    · exact .kList (by rw [← hk]; exact e) hc
  | dic _ _ =>
    simp only [typ] at h; cases h; simp only [Den] at q
    obtain ⟨a, vs, rfl, ⟨_, _, t | ⟨o, t⟩⟩, _⟩ := q
    · exact .base (.dK t)
    · exact .fDict t
  | ins k ns xs =>
    simp only [typ] at h; cases h; simp only [Den] at q
    obtain ⟨a, dx, vs, rfl, ⟨_, _, t⟩, _⟩ := q
    exact ins hb t
  | ref p =>
    simp only [Den] at q
    subst q
    simp only [typ] at h
    cases e : M p with
    | none => rw [e] at h; cases h
    | some o =>
      rw [e] at h
      obtain ⟨u, hu, r⟩ := mr.at_ p _ e
      cases o with
      | lst xs => simp only at h; cases h; obtain ⟨vs, rfl, _⟩ := r; exact .base (.lst hu)
      | dic ks xs => simp only at h; cases h; obtain ⟨vs, rfl, _⟩ := r; exact .base (.dK hu)
      | dit ks xs => simp only at h; cases h; obtain ⟨vs, rfl, _⟩ := r; exact .base (.dT hu)
      | ins k ns xs => simp only at h; cases h; obtain ⟨dx, vs, rfl, _⟩ := r; exact ins hb hu
  | _ => simp [typ] at h
end
end PL
/-! ### calls of the program's own defs -/
namespace PL
open PySem PySem.Spec PyProof.Rows L2

/-! ### the forms of a text -/
theorem star_cons {e : Expr} {es : List Expr} {env : Env} (h : notStar e = true) : starEach (e :: es) env = (false, eval e env) :: starEach es env := by
  cases e <;> first | rfl | (exact absurd h (by simp [notStar]))
theorem star_any {pos : Pos} {env : Env} : ∀ {es : List Expr}, es.all notStar = true → (backTo pos (starEach es env)).any (·.1) = false
  | [], _ => rfl
  | e :: es, h => by
    simp only [List.all_cons, Bool.and_eq_true] at h
    rw [star_cons h.1]
    exact star_any h.2
theorem star_all {pos : Pos} {env : Env} : ∀ {es : List Expr}, es.all notStar = true → (backTo pos (starEach es env)).all (fun x => !x.1) = true
  | [], _ => rfl
  | e :: es, h => by
    simp only [List.all_cons, Bool.and_eq_true] at h
    rw [star_cons h.1]
    exact star_all h.2
/-- the keywords have these names -/
def kwNm : List Str → List Keyword → Prop
  | [], [] => True
  | k :: ks, ⟨some n, _, _⟩ :: r => k = n ∧ kwNm ks r
  | _, _ => False
theorem kw_none {pos : Pos} {env : Env} : ∀ {ks : List Str} {kws : List Keyword}, kwNm ks kws → (backToKw pos (keywordEach kws env)).any (·.1.isNone) = false ∧ (backToKw pos (keywordEach kws env)).all (·.1.isSome) = true ∧ (backToKw pos (keywordEach kws env)).filterMap (·.1) = ks
  | [], [], _ => ⟨rfl, rfl, rfl⟩
  | k :: ks, ⟨some n, e, p⟩ :: r, h => by
    obtain ⟨rfl, h⟩ := h
    obtain ⟨h1, h2, h3⟩ := kw_none (pos := pos) (env := env) h
    refine ⟨?_, ?_, ?_⟩
    · show (false || (backToKw pos (keywordEach r env)).any (·.1.isNone)) = false
      rw [h1]; rfl
    · show (true && (backToKw pos (keywordEach r env)).all (·.1.isSome)) = true
      rw [h2]; rfl
    · show k :: (backToKw pos (keywordEach r env)).filterMap (·.1) = k :: ks
      rw [h3]
  | [], _ :: _, h => h.elim
  | _ :: _, [], h => h.elim
  | _ :: _, ⟨none, _, _⟩ :: _, h => h.elim

/-! ### arguments in the parameters' order -/
theorem lookup_vals {p : Str} : ∀ {ks : List Str} {zs : List V} {ws : List Value}, Vals zs ws → (match (ks.zip zs).lookup p, (ks.zip ws).lookup p with | some z, some w => RelV z w | none, none => True | _, _ => False)
  | [], _, _, _ => by simp
  | k :: ks, _, _, .nil => by simp
  | k :: ks, _, _, .cons r t => by
    simp only [List.zip_cons_cons, List.lookup_cons]
    cases p == k with
    | true => exact r
    | false => exact lookup_vals t
theorem kw_vals {ks : List Str} {zs : List V} {ws : List Value} (r : Vals zs ws) : ∀ ps : List Str, Vals (ps.filterMap fun p => (ks.zip zs).lookup p) (ps.filterMap fun p => (ks.zip ws).lookup p)
  | [] => .nil
  | p :: ps => by
    have h := lookup_vals (p := p) (ks := ks) r
    rw [List.filterMap_cons, List.filterMap_cons]
    cases e1 : (ks.zip zs).lookup p <;> cases e2 : (ks.zip ws).lookup p <;> rw [e1, e2] at h
    · exact kw_vals r ps
    · exact h.elim
    · exact h.elim
    · exact .cons h (kw_vals r ps)
theorem vals_kw {ps ks : List Str} {vs zs : List V} {us ws : List Value} (r : Vals vs us) (t : Vals zs ws) : Vals (kwArgs ps vs ks zs) (kwArgs ps us ks ws) := by
  unfold kwArgs
  rw [r.length]
  exact r.append (kw_vals t _)
section
variable {c : Cn} {M : Mem} {H : Hp}
theorem lookup_den {p : Str} : ∀ {ks : List Str} {ds : List D} {zs : List V}, DenL c M H ds zs → (match (ks.zip ds).lookup p, (ks.zip zs).lookup p with | some d, some z => Den c M H d z | none, none => True | _, _ => False)
  | [], _, _, _ => by simp
  | k :: ks, [], _, q => by simp only [DenL] at q; subst q; simp
  | k :: ks, d :: ds, _, q => by
    simp only [DenL] at q
    obtain ⟨v, r, rfl, h1, h2⟩ := q
    simp only [List.zip_cons_cons, List.lookup_cons]
    cases p == k with
    | true => exact h1
    | false => exact lookup_den h2
theorem kw_dens {ks : List Str} {ds : List D} {zs : List V} (r : DenL c M H ds zs) : ∀ ps : List Str, DenL c M H (ps.filterMap fun p => (ks.zip ds).lookup p) (ps.filterMap fun p => (ks.zip zs).lookup p)
  | [] => DenL.nil
  | p :: ps => by
    have h := lookup_den (p := p) (ks := ks) r
    rw [List.filterMap_cons, List.filterMap_cons]
    cases e1 : (ks.zip ds).lookup p <;> cases e2 : (ks.zip zs).lookup p <;> rw [e1, e2] at h
    · exact kw_dens r ps
    · exact h.elim
    · exact h.elim
    · exact DenL.cons h (kw_dens r ps)
theorem dens_kw {ps ks : List Str} {ds es : List D} {vs zs : List V} (r : DenL c M H ds vs) (t : DenL c M H es zs) : DenL c M H (kwArgs ps ds ks es) (kwArgs ps vs ks zs) := by
  unfold kwArgs
  rw [r.length]
  exact r.append (kw_dens t _)
end

/-! ### promises -/
/-- a promise over plain data, as the layer's -/
def lSp (S : Cs) (T : Tb) (n : Nat) (sp : DSp) : Sp := fun vs H Q E => ∃ (c : Cn) (M : Mem) (ds : List D) (Q' : QR) (E' : EX), S.ok c ∧ MR c M H ∧ DenL c M H ds vs ∧ ds.length = n ∧ sp ds M Q' E' ∧
  (∀ r M' v H', Q' r M' → RV c M H M' H' r v → Q v H') ∧ ∀ k f M' H' d, E' k f M' → Keep c M H M' H' → MR c M' H' → XD T c M' H' d k f → E (.ref (c.cA k)) (some d) H'
/-- a way of calling: how many stand by place, the names of the others -/
abbrev Form := Nat × List Str
structure BindOk (K : PySem.W.Frag) (fd : FuncData) (ps : List Str) (F : Form) : Prop where
  len : ∀ {α : Type} (us ws : List α), us.length = F.1 → ws.length = F.2.length → (kwArgs ps us F.2 ws).length = ps.length
  to : ∀ (s : Shared) (us ws : List Value), K.In s.heap → us.length = F.1 → ws.length = F.2.length → BindsTo s fd ⟨us, F.2.zip ws⟩ (ps.zip (kwArgs ps us F.2 ws))
section
variable (P : Program) (w : World) (mg : Str → Option Value) (base : Heap) (S : Cs) (T : Tb)
structure FnEnt (j : Nat) (x : Str) (ps : List Str) (F : List Form) (sp : DSp) : Prop where
  ex : ∃ (f : Addr) (fd : FuncData), FnOk P w S.K mg base (L2.CX P w) j f fd ps (lSp S T ps.length sp) ∧ mg x = some (.ref f) ∧ PySem.W.keepIn S.K (.ref f) = true ∧ ∀ g ∈ F, BindOk S.K fd ps g
structure MtEnt (j : Nat) (c : Nat) (x : Str) (ps : List Str) (F : List Form) (sp : DSp) : Prop where
  ex : ∃ (f : Addr) (fd : FuncData), FnOk P w S.K mg base (L2.CX P w) j f fd ps (lSp S T ps.length sp) ∧ Meth S.K (S.cA c) x f ∧ ∀ g ∈ F, BindOk S.K fd ps g
structure MkEnt (j : Nat) (c : Nat) (x : Str) (ps : List Str) (F : List Form) (sp : DSp) : Prop where
  ex : ∃ (f : Addr) (fd : FuncData), Mk S.K (S.cA c) f ∧ FnOk P w S.K mg base (L2.CX P w) j f fd ps (lSp S T ps.length sp) ∧ mg x = some (.ref (S.cA c)) ∧ ∀ g ∈ F, BindOk S.K fd ps g
end

section
variable {X : Cx} {S : Cs} {T : Tb} {W : WX} {σ : L2.St} {H : Hp} {Q : VK} {pins : List (Addr × Obj)} {s : Shared}
/-- the callee runs -/
theorem run_g {k : Nat} {f : Addr} {fd : FuncData} {ps ks : List Str} {sp : Sp} {E : XK} {us ws us' : List Value} {vs : List V} (F : FnOk X.prog X.w X.K X.mg X.base (L2.CX X.prog X.w) k f fd ps sp) (hr : Room k X.A) (hx : PassesAt (L2.CX X.prog X.w) X σ E)
    (I : Inv X pins σ H s) (hb : BindsTo s fd ⟨us, ks.zip ws⟩ (ps.zip us')) (r : Vals vs us') (h : sp vs H Q E) : wpAny (model X.prog X.w) X.A (call (.ref f) us (ks.zip ws)) (EP X pins σ Q) X.xe s := by
  refine wpAny_call (codeAny_mono (F.run X.A X.stack s H ⟨us, ks.zip ws⟩ us' vs Q E hr I.env0 hb r h) fun r s' hq => ?_)
  cases r with
  | error e => exact hx pins H s e s' I hq
  | ok fl =>
    cases fl with
    | ret u => exact I.after hq
    | next => exact False.elim hq
    | brk => exact False.elim hq
    | cont => exact False.elim hq
/-- a new instance -/
theorem run_mk {k : Nat} {C f : Addr} {fd : FuncData} {ps ks : List Str} {sp : Sp} {E : XK} {us ws : List Value} {vs : List V} {us' : Value → List Value} (M : Mk X.K C f) (F : FnOk X.prog X.w X.K X.mg X.base (L2.CX X.prog X.w) k f fd ps sp) (hr : Room (k + 1) X.A) (hx : PassesAt (L2.CX X.prog X.w) X σ E)
    (I : Inv X pins σ H s) (hb : ∀ (s' : Shared) (x : Value), X.K.In s'.heap → BindsTo s' fd ⟨x :: us, ks.zip ws⟩ (ps.zip (us' x))) (r : ∀ x, Vals (V.ref x :: vs) (us' (.ref x)))
    (h : ∀ x dx, H x = none → H dx = none → dx ≠ x → sp (.ref x :: vs) (upd (upd H dx (.own x)) x (.ins C dx [])) (fun v H2 => v = .non ∧ Q (.ref x) H2) E) :
    wpAny (model X.prog X.w) X.A (call (.ref C) us (ks.zip ws)) (EP X pins σ Q) X.xe s := by
  have hq := h (s.heap.objs.size + 1) s.heap.objs.size (I.hok.fresh (Nat.le_succ _)) (I.hok.fresh (Nat.le_refl _)) (Nat.ne_of_lt (Nat.lt_succ_self _))
  have I2 := Inv.made (C := C) I
  refine wpAny_call (make_map (f := f) I.kIn M.makes M.init (beq_iff_eq.mp M.fn) (codeAny_mono (F.run _ X.stack _ _ ⟨Value.ref (s.heap.objs.size + 1) :: us, ks.zip ws⟩ (us' (.ref (s.heap.objs.size + 1))) _ _ E (hr.make C us (ks.zip ws))
    (I2.env0.make C us (ks.zip ws)) (hb _ _ I2.kIn) (r _) hq) fun r s' hq' => ?_))
  cases r with
  | error e => exact hx pins _ _ e s' I2 hq'
  | ok fl =>
    cases fl with
    | ret u =>
      obtain ⟨v, H', I3, rv, ev, q3⟩ := I2.after hq'
      subst ev
      exact ⟨rv, ⟨V.ref (s.heap.objs.size + 1), H', I3, rfl, q3⟩⟩
    | next => exact False.elim hq'
    | brk => exact False.elim hq'
    | cont => exact False.elim hq'
/-- the arguments by place and by name, then the call -/
theorem args_g {es : List Expr} {kws : List Keyword} {ks : List Str} {ta tk : TA} {f : Value} {first : List Value} {pos : Pos} {R : List V → List V → Hp → Prop} {Q : Value → Shared → Prop} (ha : PA X es ta) (hk : PK X kws tk) (hs : es.all notStar = true) (hn : kwNm ks kws) (kp : PySem.W.keepIn X.K f = true)
    (ha0 : es = [] → ∀ σ H Q, ta σ H Q → Q [] H) (hk0 : kws = [] → ∀ σ H Q, tk σ H Q → Q [] H) (I : Inv X pins σ H s) (h : ta σ H fun vs H1 => tk σ H1 fun zs H2 => R vs zs H2)
    (hq : ∀ us ws s2 vs zs H2, Inv X pins σ H2 s2 → Vals vs us → Vals zs ws → R vs zs H2 → wpAny (model X.prog X.w) X.A (call f (first ++ us) (ks.zip ws)) Q X.xe s2) :
    wpAny (model X.prog X.w) X.A (callWith pos f first (backTo pos (starEach es X.env)) (backToKw pos (keywordEach kws X.env))) Q X.xe s := by
  obtain ⟨n1, n2, n3⟩ := kw_none (pos := pos) (env := X.env) hn
  have s1 := star_any (pos := pos) (env := X.env) hs
  cases kws with
  | nil =>
    have e : ks = [] := by cases ks with | nil => rfl | cons _ _ => exact hn.elim
    subst e
    cases es with
    | nil => exact PySem.W.callWith_K0 I.kIn kp (hq [] [] s [] [] H I .nil .nil (hk0 rfl _ _ _ (ha0 rfl _ _ _ h)))
    | cons e es =>
      simp only [List.all_cons, Bool.and_eq_true] at hs
      refine PySem.W.callWith_K (h₀ := X.base) I.ok.mod.kin kp (thn (ha.run pos pins s σ H _ I h) fun us s1 ⟨vs, H1, I1, r, q⟩ => ⟨I1.kIn, ?_⟩) (star_cons hs.1) (star_any hs.2)
      exact hq us [] s1 vs [] H1 I1 r .nil (hk0 rfl _ _ _ q)
  | cons kw kws =>
    cases es with
    | nil =>
      refine PySem.W.callWith_KW0 (h₀ := X.base) I.ok.mod.kin kp n2 ?_ (by rw [s1, n1]; rfl)
      refine thn (hk.run pos pins s σ H _ I (ha0 rfl _ _ _ h)) fun ws s2 ⟨zs, H2, I2, rz, q2⟩ => ⟨I2.kIn, ?_⟩
      rw [n3]
      exact hq [] ws s2 [] zs H2 I2 .nil rz q2
    | cons e es =>
      simp only [List.all_cons, Bool.and_eq_true] at hs
      refine PySem.W.callWith_KW (h₀ := X.base) I.ok.mod.kin kp n2 (thn (ha.run pos pins s σ H _ I h) fun us s1 ⟨vs, H1, I1, r, q⟩ => ?_) (by rw [s1, n1]; rfl) (star_cons hs.1)
      refine thn (hk.run pos pins s1 σ H1 _ I1 q) fun ws s2 ⟨zs, H2, I2, rz, q2⟩ => ⟨I2.kIn, ?_⟩
      rw [n3]
      exact hq us ws s2 vs zs H2 I2 r rz q2

/-- both argument lists at plain data -/
theorem lA_two {n m : Nat} {ta tk : DTA} {k : List D → List D → Mem → QR → EX → Prop} (h : lE S T W (fun ρ M Q E => ta ρ M (fun ds M1 => tk ρ M1 (fun zs M2 => k ds zs M2 Q E) E) E) σ H Q) :
    lA S T W n ta σ H fun vs H1 => lA S T W m tk σ H1 fun zs H2 => ∃ (c : Cn) (M : Mem) (ds es : List D) (Q' : QR) (E : EX), S.ok c ∧ MR c M H2 ∧ DenL c M H2 ds vs ∧ DenL c M H2 es zs ∧ ds.length = n ∧ es.length = m ∧ XOK T c W σ M H2 E ∧ k ds es M Q' E ∧
      ∀ r M' v' H', Q' r M' → RV c M H2 M' H' r v' → Q v' H' := by
  obtain ⟨c, ρ, M, Q', E, ok, s, x, t, q⟩ := h
  refine ⟨c, ρ, M, _, E, ok, s, x, t, fun ds M1 vs H1 l1 hk k1 m1 d1 => ?_⟩
  refine ⟨c, ρ, M1, _, E, ok, s.keep k1 m1, x.after k1, hk, fun es M2 zs H2 l2 hk2 k2 m2 d2 => ?_⟩
  exact ⟨c, M2, ds, es, _, E, ok, m2, DenL.keep k2 _ _ d1, d2, l1, l2, (x.after k1).after k2, hk2, fun r M' v' H' h1 h2 => q r M' v' H' h1 (h2.after (k1.trans k2))⟩
theorem lA_nil0 {t : DTA} (ht : ∀ ρ M Q E, t ρ M Q E → Q [] M) {Q : List V → Hp → Prop} (h : lA S T W 0 t σ H Q) : Q [] H := by
  obtain ⟨c, ρ, M, Q', E, ok, s, x, t, q⟩ := h
  exact q [] M [] H rfl (ht _ _ _ _ t) (Keep.refl _ _ _) s.mem DenL.nil

/-- f(..) of a def of the program -/
theorem r_call {j i : Nat} {x : Str} {ps : List Str} {F : List Form} {sp : DSp} {es : List Expr} {kws : List Keyword} {ks : List Str} {ta tk : DTA} {p pos : Pos} (hK : X.K = S.K) (en : FnEnt X.prog X.w X.mg X.base S T j x ps F sp) (hj : j ≤ i) (hr : Room i X.A) (tw : Takes X W) (hg : Gl X x) (hd : (x == ("__debug__" : Str)) = false)
    (ha : PA X es (lA S T W es.length ta)) (hk : PK X kws (lA S T W ks.length tk)) (ha0 : es = [] → ∀ ρ M Q E, ta ρ M Q E → Q [] M) (hk0 : kws = [] → ∀ ρ M Q E, tk ρ M Q E → Q [] M) (hs : es.all notStar = true) (hn : kwNm ks kws) (hF : (es.length, ks) ∈ F) :
    PE X (.Call (.Name x p) es kws pos) (lE S T W fun ρ M Q E => ta ρ M (fun ds M1 => tk ρ M1 (fun zs M2 => sp (kwArgs ps ds ks zs) M2 Q E) E) E) := by
  refine ⟨fun pins s σ H Q I h => ?_⟩
  obtain ⟨f, fd, FK, mf, kp, bs⟩ := en.ex
  rw [← hK] at FK kp
  have b := bs _ hF
  have hk1 : kws = [] → ks.length = 0 := fun e => by subst e; cases ks with | nil => rfl | cons _ _ => exact hn.elim
  refine wpAny_Call_Name_kw (ld_glob I hg mf ?_ hd)
  refine args_g (first := []) ha hk hs hn kp (fun e => ?_) (fun e => ?_) I (lA_two h) (fun us ws s2 vs zs H2 I2 r rz ⟨c, M, ds, es', Q', E, ok, m, d1, d2, l1, l2, xo, hsp, q⟩ => ?_)
  · subst e; exact fun σ H Q h => lA_nil0 (ha0 rfl) h
  · intro σ H Q h
    rw [hk1 e] at h
    exact lA_nil0 (hk0 e) h
  · have lu : us.length = es.length := by rw [← r.length, ← d1.length, l1]
    have lw : ws.length = ks.length := by rw [← rz.length, ← d2.length, l2]
    rw [hK] at FK
    refine run_g (E := fun cls d H => W cls d σ H) (by rw [hK]; exact FK) (hr.mono hj) (passAt tw σ) I2 (b.to s2 us ws (by rw [← hK]; exact I2.kIn) lu lw) (vals_kw r rz) ?_
    exact ⟨c, M, _, Q', E, ok, m, dens_kw d1 d2, b.len _ _ l1 l2, hsp, q, xo⟩
end
end PL
/-! ### makers, methods, and the rules of expressions -/
namespace PL
open PySem PySem.Spec PyProof.Rows L2
theorem base_of {o : Expr} {name : Str} {env : Env} {whole : Sem Value} (h : noSuper o = true) : attributeBase o name env whole = whole := by
  cases o with
  | Call f args kws pos =>
    cases f <;> try rfl
    cases args with
    | cons _ _ => rfl
    | nil =>
      cases kws with
      | cons _ _ => rfl
      | nil => exact absurd h (by simp [noSuper])
  | _ => rfl
theorem meth_at {prog : Program} {w : World} {A : Around} {E : Value → Shared → Prop} {s : Shared} {env : Env} {o : Expr} {name : Str} {apos pos : Pos} {args : List Expr} {kws : List Keyword} {Q : Value → Shared → Prop}
    (hb : noSuper o = true) (hl : lineB apos pos = true) (hs : args.all notStar = true) {ks : List Str} (hk : kwNm ks kws) (hf : args.length + kws.length < 20)
    (h : wpAny (model prog w) A (eval o env) (fun ov s₁ => ∀ pl, wpAny (model prog w) A (getMethod ov name pl) (fun fx s₂ => wpAny (model prog w) A (callWith pos fx.1 fx.2 (backTo pos (starEach args env)) (backToKw pos (keywordEach kws env))) Q E s₂) E s₁) E s) :
    wpAny (model prog w) A (eval (.Call (.Attribute o name apos) args kws pos) env) Q E s := by
  rw [arm_eval_Call, base_of hb]
  refine wpAny_bind (wpAny_mono h (fun ov s₁ h₁ => wpAny_bind (wpAny_standAt ?_)) fun _ _ e => e)
  have hform : methodCallForm (args.length + kws.length) (backTo pos (starEach args env)) (backToKw pos (keywordEach kws env)) = true := by
    unfold methodCallForm
    rw [star_all hs, (kw_none (pos := pos) (env := env) hk).2.1]
    simp only [Bool.and_self, Bool.true_and, decide_eq_true_eq]
    split <;> omega
  have hpos : methodCallPos true o env apos pos = pure pos := by
    unfold lineB at hl
    unfold methodCallPos
    simp [hl]
  unfold methodCall
  rw [hform]
  refine wpAny_bind (wpAny_holding ?_)
  unfold calleeOf
  rw [if_pos rfl]
  refine wpAny_mono (h₁ _) (fun fx s₂ h₂ => ?_) fun _ _ e => e
  exact wpAny_bind (wpAny_of_eq hpos h₂)

theorem kwArgs_cons {α : Type} {ps ks : List Str} {x : α} {us ws : List α} : kwArgs ps (x :: us) ks ws = x :: kwArgs (ps.drop 1) us ks ws := by
  unfold kwArgs
  rw [List.length_cons, List.drop_drop, Nat.add_comm 1, List.cons_append]
theorem mput_mdel {M : Mem} {p : Addr} {o : Ob} (h : M p = some o) : mput (mdel M p) p o = M := by
  funext b
  unfold mput mdel
  by_cases e : b = p
  · rw [if_pos e, e, h]
  · rw [if_neg e, if_neg e]
section
variable {X : Cx} {S : Cs} {T : Tb} {W : WX} {σ : L2.St} {H : Hp} {Q : VK} {pins : List (Addr × Obj)} {s : Shared}
/-- C(..) -/
theorem r_make {j i cn : Nat} {x : Str} {ps : List Str} {F : List Form} {sp : DSp} {es : List Expr} {kws : List Keyword} {ks : List Str} {ta tk : DTA} {p pos : Pos} (hK : X.K = S.K) (en : MkEnt X.prog X.w X.mg X.base S T j cn x ps F sp) (hj : j + 1 ≤ i) (hr : Room i X.A) (tw : Takes X W) (hg : Gl X x) (hd : (x == ("__debug__" : Str)) = false)
    (ha : PA X es (lA S T W es.length ta)) (hk : PK X kws (lA S T W ks.length tk)) (ha0 : es = [] → ∀ ρ M Q E, ta ρ M Q E → Q [] M) (hk0 : kws = [] → ∀ ρ M Q E, tk ρ M Q E → Q [] M) (hs : es.all notStar = true) (hn : kwNm ks kws) (hF : (es.length + 1, ks) ∈ F) :
    PE X (.Call (.Name x p) es kws pos) (lE S T W fun ρ M Q E => ta ρ M (fun ds M1 => tk ρ M1 (fun zs M2 => ∀ q, M2 q = none →
      sp (.ref q :: kwArgs (ps.drop 1) ds ks zs) (mput M2 q (.ins cn [] [])) (fun r M3 => r.d = .non ∧ ∃ o, M3 q = some o ∧ Q (.new o) (mdel M3 q)) E) E) E) := by
  refine ⟨fun pins s σ H Q I h => ?_⟩
  obtain ⟨f, fd, Mm, FK, mf, bs⟩ := en.ex
  have b := bs _ hF
  have hk1 : kws = [] → ks.length = 0 := fun e => by subst e; cases ks with | nil => rfl | cons _ _ => exact hn.elim
  rw [← hK] at Mm
  refine wpAny_Call_Name_kw (ld_glob I hg mf ?_ hd)
  refine args_g (first := []) ha hk hs hn Mm.kp (fun e => ?_) (fun e => ?_) I (lA_two (k := fun ds zs M2 Q E => ∀ q, M2 q = none → sp (.ref q :: kwArgs (ps.drop 1) ds ks zs) (mput M2 q (.ins cn [] [])) (fun r M3 => r.d = .non ∧ ∃ o, M3 q = some o ∧ Q (.new o) (mdel M3 q)) E) h)
    (fun us ws s2 vs zs H2 I2 r rz ⟨c, M, ds, es', Q', E, ok, m, d1, d2, l1, l2, xo, hsp, q⟩ => ?_)
  · subst e; exact fun σ H Q h => lA_nil0 (ha0 rfl) h
  · intro σ H Q h
    rw [hk1 e] at h
    exact lA_nil0 (hk0 e) h
  · have lu : us.length = es.length := by rw [← r.length, ← d1.length, l1]
    have lw : ws.length = ks.length := by rw [← rz.length, ← d2.length, l2]
    refine run_mk (us' := fun x => x :: kwArgs (ps.drop 1) us ks ws) (E := fun cls d H => W cls d σ H) (vs := kwArgs (ps.drop 1) vs ks zs) Mm (by rw [hK]; exact FK) (hr.mono hj) (passAt tw σ) I2 (fun s' x kin => ?_) (fun x => .cons rfl (vals_kw r rz)) fun x dx hx hdx hne => ?_
    · have := b.to s' (x :: us) ws (by rw [← hK]; exact kin) (by rw [List.length_cons, lu]) lw
      rw [kwArgs_cons] at this
      exact this
    · have m1 := m.new (o := .own x) hdx
      have k1 := Keep.new (o := .own x) m hdx
      have hx1 : upd H2 dx (.own x) x = none := by rw [upd_ne (Ne.symm hne)]; exact hx
      have qi : ObD c M (upd H2 dx (.own x)) (.ins cn [] []) (.ins (S.cA cn) dx []) := ⟨dx, [], by rw [ok.2]; rfl, rfl, DenL.nil⟩
      have k2 := Keep.cell (o := .ins (S.cA cn) dx []) (ob := .ins cn [] []) m1 hx1
      have m2 := MR.cell m1 hx1 qi
      have kk := k1.trans k2
      have hM : M x = none := m.none hx
      have len := b.len (.ref x :: ds) es' (by rw [List.length_cons, l1]) l2
      rw [kwArgs_cons] at len
      refine ⟨c, _, .ref x :: kwArgs (ps.drop 1) ds ks es', _, E, ok, m2, DenL.cons (by simp only [Den]) (DenL.keep kk _ _ (dens_kw d1 d2)), len, hsp x hM, fun r M3 v H3 hr3 rv => ?_, xo.after kk⟩
      obtain ⟨e1, o, ho, hq⟩ := hr3
      obtain ⟨k3, m3, dv⟩ := rv.plain
      rw [e1] at dv
      simp only [Den] at dv
      refine ⟨dv, q _ _ _ _ hq ⟨x, rfl, if_pos rfl, ?_, ?_⟩⟩
      · rw [mput_mdel ho]; exact kk.trans k3
      · rw [mput_mdel ho]; exact m3
/-- an instance seen -/
theorem asI_at {c : Cn} {M : Mem} {d : D} {v : V} {k : Nat} {ns : List Str} {xs : List D} (m : MR c M H) (q : Den c M H d v) (e : asI M d = some (k, ns, xs)) : ∃ a dx vs, v = .ref a ∧ H a = some (.ins (c.cA k) dx (ns.zip vs)) ∧ DenL c M H xs vs ∧ ns.length = xs.length := by
  cases d with
  | ins k' ns' ys =>
    simp only [asI] at e; cases e
    simp only [Den] at q
    obtain ⟨a, dx, vs, rfl, ⟨_, _, h⟩, l, r⟩ := q
    exact ⟨a, dx, vs, rfl, h, r, l⟩
  | ref p =>
    simp only [asI] at e
    simp only [Den] at q
    subst q
    cases hp : M p with
    | none => rw [hp] at e; cases e
    | some o =>
      rw [hp] at e
      cases o with
      | ins k' ns' ys =>
        simp only at e; cases e
        obtain ⟨u, hu, dx, vs, rfl, l, r⟩ := m.at_ p _ hp
        exact ⟨p, dx, vs, rfl, hu, r, l⟩
      | _ => simp at e
  | _ => simp [asI] at e
theorem zip_none {ns : List Str} {vs : List V} {f : Str} (h : f ∉ ns) : (ns.zip vs).lookup f = none := by
  induction ns generalizing vs with
  | nil => rfl
  | cons n ns ih =>
    cases vs with
    | nil => rfl
    | cons v vs =>
      simp only [List.mem_cons, not_or] at h
      rw [List.zip_cons_cons, List.lookup_cons, beq_eq_false_iff_ne.mpr h.1]
      exact ih h.2
theorem lA_two2 {n m : Nat} {ta tk : DTA} {c : Cn} {ρ : Sd} {M : Mem} {Q' : QR} {E : EX} {d : D} {v : V} {k : List D → List D → Mem → QR → EX → Prop} (ok : S.ok c) (s : SR c ρ σ M H) (x : XOK T c W σ M H E) (dd : Den c M H d v)
    (t : ta ρ M (fun ds M1 => tk ρ M1 (fun zs M2 => k ds zs M2 Q' E) E) E) (q : ∀ r M' v' H', Q' r M' → RV c M H M' H' r v' → Q v' H') :
    lA S T W n ta σ H fun vs H1 => lA S T W m tk σ H1 fun zs H2 => ∃ (c : Cn) (M : Mem) (ds es : List D) (Q' : QR) (E : EX), S.ok c ∧ MR c M H2 ∧ Den c M H2 d v ∧ DenL c M H2 ds vs ∧ DenL c M H2 es zs ∧ ds.length = n ∧ es.length = m ∧ XOK T c W σ M H2 E ∧ k ds es M Q' E ∧
      ∀ r M' v' H', Q' r M' → RV c M H2 M' H' r v' → Q v' H' := by
  refine ⟨c, ρ, M, _, E, ok, s, x, t, fun ds M1 vs H1 l1 hk k1 m1 d1 => ?_⟩
  refine ⟨c, ρ, M1, _, E, ok, s.keep k1 m1, x.after k1, hk, fun es M2 zs H2 l2 hk2 k2 m2 d2 => ?_⟩
  exact ⟨c, M2, ds, es, Q', E, ok, m2, Den.keep (k1.trans k2) _ _ dd, DenL.keep k2 _ _ d1, d2, l1, l2, (x.after k1).after k2, hk2, fun r M' v' H' h1 h2 => q r M' v' H' h1 (h2.after (k1.trans k2))⟩
/-- o.m(..) -/
theorem r_meth {j i cn : Nat} {x : Str} {ps at_ : List Str} {F : List Form} {sp : DSp} {o : Expr} {es : List Expr} {kws : List Keyword} {ks : List Str} {to : DTE} {ta tk : DTA} {apos pos : Pos} (hK : X.K = S.K) (en : MtEnt X.prog X.w X.mg X.base S T j cn x ps F sp) (hcl : Cls S.K (S.cA cn)) (hat : x ∉ at_) (hj : j ≤ i) (hr : Room i X.A) (tw : Takes X W)
    (hb : noSuper o = true) (hl : lineB apos pos = true) (hfew : es.length + kws.length < 20) (ho : PE X o (lE S T W to))
    (ha : PA X es (lA S T W es.length ta)) (hk : PK X kws (lA S T W ks.length tk)) (ha0 : es = [] → ∀ ρ M Q E, ta ρ M Q E → Q [] M) (hk0 : kws = [] → ∀ ρ M Q E, tk ρ M Q E → Q [] M) (hs : es.all notStar = true) (hn : kwNm ks kws) (hF : (es.length + 1, ks) ∈ F) :
    PE X (.Call (.Attribute o x apos) es kws pos) (lE S T W fun ρ M Q E => to ρ M (fun r M1 => methS r.d M1 cn at_ (ta ρ M1 (fun ds M2 => tk ρ M2 (fun zs M3 => sp (r.d :: kwArgs (ps.drop 1) ds ks zs) M3 Q E) E) E)) E) := by
  refine ⟨fun pins s σ H Q I h => ?_⟩
  obtain ⟨f, fd, FK, mf, bs⟩ := en.ex
  have b := bs _ hF
  have hk1 : kws = [] → ks.length = 0 := fun e => by subst e; cases ks with | nil => rfl | cons _ _ => exact hn.elim
  refine meth_at hb hl hs hn hfew ?_
  obtain ⟨c, ρ, M, Q', E, ok, sr, xo, t, q⟩ := h
  refine thn (ho.run pins s σ H (fun v H1 => ∃ (c : Cn) (ρ : Sd) (M1 : Mem) (d : D) (Q' : QR) (E : EX) (xs : List D), S.ok c ∧ SR c ρ σ M1 H1 ∧ XOK T c W σ M1 H1 E ∧ Den c M1 H1 d v ∧ asI M1 d = some (cn, at_, xs) ∧
      ta ρ M1 (fun ds M2 => tk ρ M2 (fun zs M3 => sp (d :: kwArgs (ps.drop 1) ds ks zs) M3 Q' E) E) E ∧ ∀ r M' v' H', Q' r M' → RV c M1 H1 M' H' r v' → Q v' H') I ⟨c, ρ, M, _, E, ok, sr, xo, t, fun r M1 v H1 hk rv => ?_⟩) fun ov s1 ⟨v, H1, I1, rv, c, ρ, M1, d, Q', E, xs, ok, sr, xo, dd, ei, ht, q⟩ => ?_
  · obtain ⟨k1, m1, d1⟩ := rv.plain
    unfold methS at hk
    cases e : asI M1 r.d with
    | none => rw [e] at hk; exact hk.elim
    | some y =>
      obtain ⟨c', ns, xs⟩ := y
      rw [e] at hk
      obtain ⟨⟨rfl, rfl⟩, hk⟩ := hk
      exact ⟨c, ρ, M1, r.d, Q', E, xs, ok, sr.keep k1 m1, xo.after k1, d1, e, hk, fun r' M' v' H' h1 h2 => q r' M' v' H' h1 (h2.after k1)⟩
  · intro pl
    obtain ⟨a, dx, vs0, rfl, ha', r0, l0⟩ := asI_at sr.mem dd ei
    rw [ok.2] at ha'
    obtain rfl : ov = Value.ref a := rv
    have mf' : Meth X.K (S.cA cn) x f := by rw [hK]; exact mf
    have cl' : Cls X.K (S.cA cn) := by rw [hK]; exact hcl
    refine getmeth_ok I1 ha' cl' mf' (zip_none hat) ?_
    have h3 := lA_two2 (d := d) (v := V.ref a) (n := es.length) (m := ks.length) ok sr xo dd ht q
    refine args_g (first := [.ref a]) ha hk hs hn mf'.kp (fun e => ?_) (fun e => ?_) I1 h3
      (fun us ws s2 vs zs H2 I2 r rz ⟨c, M, ds, es', Q', E, ok, m, dd2, d1, d2, l1, l2, xo, hsp, q⟩ => ?_)
    · subst e; exact fun σ H Q h => lA_nil0 (ha0 rfl) h
    · intro σ H Q h
      rw [hk1 e] at h
      exact lA_nil0 (hk0 e) h
    · have lu : us.length = es.length := by rw [← r.length, ← d1.length, l1]
      have lw : ws.length = ks.length := by rw [← rz.length, ← d2.length, l2]
      have bb := b.to s2 (.ref a :: us) ws (by rw [← hK]; exact I2.kIn) (by rw [List.length_cons, lu]) lw
      rw [kwArgs_cons] at bb
      have len := b.len (d :: ds) es' (by rw [List.length_cons, l1]) l2
      rw [kwArgs_cons] at len
      refine run_g (E := fun cls d H => W cls d σ H) (by rw [hK]; exact FK) (hr.mono hj) (passAt tw σ) I2 bb (.cons (show RelV (V.ref a) (Value.ref a) from rfl) (vals_kw r rz)) ?_
      exact ⟨c, M, d :: kwArgs (ps.drop 1) ds ks es', Q', E, ok, m, DenL.cons dd2 (dens_kw d1 d2), len, hsp, q, xo⟩
end
end PL
/-! ### enumerate(a tuple) -/
namespace PL
open PySem PySem.Spec PyProof.Rows L2
theorem meets_enumerate_newT (l : Addr) (items : Array Value) (n : Nat) (dct : Option Addr) (sl : Array (Option Value)) :
    Meets (Builtin.«enumerate.__new__» ⟨[.type "enumerate", .ref l], []⟩) (fun _ R s => s.heap.get? l = some { cls := .type "tuple", dict := dct, data := .seq items n, slots := sl } ∧
      R (.ok (.ret (.ref (s.heap.push { cls := .type "tuple_iterator", data := .fields #[.ref l, .int 0 0] }).objs.size)))
        { s with heap := (s.heap.push { cls := .type "tuple_iterator", data := .fields #[.ref l, .int 0 0] }).push { cls := .type "enumerate", data := .fields #[.none, .bool false, .ref s.heap.objs.size, rawInt 0, .none, .none] } }) :=
  .of_wp fun prog w A R s h => by
    obtain ⟨hp, g, d, tk, os⟩ := s; obtain ⟨hl, h⟩ := h
    have hsub := sub_enumerate
    have hL : Heap.IsTuple (Shared.heap ⟨hp, g, d, tk, os⟩) l items := ⟨_, hl, rfl, n, rfl⟩
    wp_walk using AutoSeq1.wpAny_loadPart' hl
    refine wpAny_stack_any fun st => wpAny_pure ?_
    split
    · rename_i c _ _ _ _ _
      cases (c == Value.type "enumerate")
      · wp_walk using AutoSeq1.wpAny_loadPart' hl, wpAny_pyIter_tuple hL
        exact ⟨_, rfl, h⟩
      · wp_walk using AutoSeq1.wpAny_loadPart' hl, wpAny_pyIter_tuple hL
        exact ⟨_, rfl, h⟩
    · wp_walk using AutoSeq1.wpAny_loadPart' hl, wpAny_pyIter_tuple hL
      exact ⟨_, rfl, h⟩
section
variable {prog : Program} {w : World} {A : Around} {E : Value → Shared → Prop} {s : Shared}
theorem call_enumerate_tuple {l : Addr} {items : Array Value} {Q : Value → Shared → Prop} (hL : s.heap.IsTuple l items)
    (h : ∀ h', IsEnum h' (s.heap.objs.size + 1) s.heap.objs.size 0 .none → h'.IsTupleIter s.heap.objs.size l 0 → h'.objs.size = s.heap.objs.size + 2 →
      (∀ b o, s.heap.get? b = some o → h'.get? b = some o) → Q (.ref (s.heap.objs.size + 1)) { s with heap := h' }) :
    wpAny (model prog w) A (call (.type "enumerate") [.ref l]) Q E s := by
  obtain ⟨⟨c, dct, dt, sl⟩, hl, hc, n, hd⟩ := hL
  replace hc : c = .type "tuple" := hc
  replace hd : dt = .seq items n := hd
  subst hc hd
  refine callType_new F.called_enumerate (by decide) (F.typeCall_enumerate_1 _) (F.newCall_enumerate_1 _) (fun obj => F.args_object_init_2 obj _) F.entry_enumerate_new
    (meets_enumerate_newT l items n dct sl) ⟨hl, ?_⟩
  have hz : (s.heap.push { cls := .type "tuple_iterator", data := .fields #[.ref l, .int 0 0] }).objs.size = s.heap.objs.size + 1 := Heap.size_push ..
  show _ ∧ _
  rw [hz]
  have he : IsEnum ((s.heap.push { cls := .type "tuple_iterator", data := .fields #[.ref l, .int 0 0] }).push
      { cls := .type "enumerate", data := .fields #[.none, .bool false, .ref s.heap.objs.size, rawInt 0, .none, .none] }) (s.heap.objs.size + 1) s.heap.objs.size 0 .none := by
    have := Heap.get?_push_size (s.heap.push { cls := .type "tuple_iterator", data := .fields #[.ref l, .int 0 0] })
      (o := { cls := .type "enumerate", data := .fields #[.none, .bool false, .ref s.heap.objs.size, rawInt 0, .none, .none] }) rfl
    rw [hz] at this; exact this
  refine ⟨⟨_, he, rfl⟩, h _ he ⟨_, Heap.get?_push_of_some _ (Heap.get?_push_size _ rfl), rfl, rfl⟩ (by rw [Heap.size_push, hz]) fun b o x => Heap.get?_push_of_some _ (Heap.get?_push_of_some _ x)⟩
end
/-- the tuple at a, each item in a new pair -/
def IteT (K : PySem.W.Frag) (a : Addr) : It :=
  ⟨fun i H => ∃ (xs : List V) (x : V), SqT K H a xs ∧ xs[i]? = some x, fun i H v H' => ∃ T x, v = .ref T ∧ H T = none ∧ H' = upd H T (.tup [.int (i : Nat), x]) ∧ ∀ xs, SqT K H a xs → xs[i]? = some x, fun i H => ∃ xs : List V, SqT K H a xs ∧ xs.length = i⟩
theorem turn_enumT {P : Program} {w : World} {K : PySem.W.Frag} {elts : List Expr} {kk : Nat} {tpos : Pos} (a e it : Addr) :
    Turn P w K (.Tuple elts kk tpos) (IteT K a) [e, it] e (fun i h => (∃ old, IsEnum h e it ((i : Nat) : Int) old) ∧ h.IsTupleIter it a i ∧ e ≠ it ∧ e ≠ a ∧ a ≠ it) where
  mem := by simp
  obj := fun i h st b hb => by
    obtain ⟨⟨old, he⟩, ⟨o, ho, hc, hd⟩, _⟩ := st
    have e' : b = e ∨ b = it := by simpa using hb
    rcases e' with z | z
    · rw [z]; exact ⟨_, he, fun v q => nomatch q⟩
    · rw [z]; exact ⟨o, ho, fun v q => by rw [hd] at q; cases q⟩
  keep := fun i h h' st k => let ⟨⟨old, he⟩, hi, hne⟩ := st; ⟨⟨old, k e (by simp) _ he⟩, hi.at fun o q => k it (by simp) o q, hne⟩
  item := by
    intro X hP hw hK hc i pins s σ H E I hf st hg
    subst hP hw hK
    obtain ⟨⟨old, he⟩, hit, hne, hea, hai⟩ := st
    obtain ⟨xs, x, hq, hx⟩ := hg
    obtain ⟨its, rv, p, hz⟩ := I.tuple hq
    obtain ⟨u, hu, ru⟩ := rv.get hx
    have hel : e < s.heap.objs.size := Heap.lt_size he
    have hil : it < s.heap.objs.size := by obtain ⟨_, q, _⟩ := hit; exact Heap.lt_size q
    have hlt : i < its.toArray.size := by
      have := (List.getElem?_eq_some_iff.mp hu).1
      simpa using this
    refine wpAny_pyNext_enum_itemD (Draws.tuple (A := X.A.in1) (show X.A.in1.handled = none from I.ok.hd hc) it a hai its.toArray) he ⟨hit, p⟩ hlt hne (by simp [hne, hea]) fun x' h' tk hx' ho hit' hT hsz hk => ?_
    have ex : x' = u := by
      have z : its.toArray[i]? = some u := by simpa using hu
      rw [z] at hx'; exact (Option.some.inj hx').symm
    subst ex
    refine ⟨_, rfl, wpAny_letOwnedTupleGo_enum (s := { s with heap := h', toks := tk + 1 }) ho fun h'' he' sb => ?_⟩
    have hT2 : h''.get? s.heap.objs.size = some { cls := .type "tuple", data := .seq #[.int i tk, x'] } := (sb.2 _ (Nat.ne_of_gt hel)).trans hT
    have new : ObjOk X.prog X.w (upd H s.heap.objs.size (.tup [.int (i : Nat), x])) h'' s.heap.objs.size (.tup [.int (i : Nat), x]) :=
      ⟨by show 2 ≤ sizeLine; decide, [.int i tk, x'], .cons ⟨_, rfl⟩ (.cons ru .nil), ⟨_, hT2, rfl, _, rfl⟩⟩
    have I1 : Inv X pins σ (upd H s.heap.objs.size (.tup [.int (i : Nat), x])) { s with heap := h'', toks := tk + 1 } :=
      I.turnedNew (ch := [e, it]) (fun b ob hb q => (sb.2 b (fun z => hb (by simp [z]))).trans (hk b ob (fun z => hb (by simp [z])) (fun z => hb (by simp [z])) q)) hf (Nat.le_refl _) new
    refine ⟨.ref s.heap.objs.size, _, I1, rfl, ⟨_, x, rfl, I.hok.fresh (Nat.le_refl _), rfl, fun ys hy => by rw [I.tuple_inj hy hq]; exact hx⟩, ⟨⟨x', ?_⟩, hit'.1.at fun o q => (sb.2 it (Ne.symm hne)).trans q, hne, hea, hai⟩, fun b hb => ?_⟩
    · have e1 : ((i + 1 : Nat) : Int) = (i : Int) + 1 := by omega
      rw [e1]; exact he'
    · have hb' : b < s.heap.objs.size := by
        have e' : b = e ∨ b = it := by simpa using hb
        rcases e' with z | z
        · rw [z]; exact hel
        · rw [z]; exact hil
      rw [upd_ne (Nat.ne_of_lt hb')]
      exact (hf b hb).1
  done := by
    intro X hP hw hK hc i pins s σ H E I hf st hg
    subst hP hw hK
    obtain ⟨⟨old, he⟩, hit, hne, hea, hai⟩ := st
    obtain ⟨xs, hq, hx⟩ := hg
    obtain ⟨its, rv, p, hz⟩ := I.tuple hq
    obtain ⟨f0, f1, f2, f3, f4, f5⟩ := hf it (by simp)
    have hl := rv.length
    have hi : its.toArray.size = i := by simp; omega
    subst hi
    exact wpAny_pyNext_enum_endD (Draws.tuple (A := X.A.in1) (show X.A.in1.handled = none from I.ok.hd hc) it a hai its.toArray) he ⟨hit, p⟩ fun h' eb => ⟨rfl, I.turned (t' := s.toks) (fun b o hb q => eb b o hb q) f0 f1 f3 f4 f5⟩
  self := fun A i s Q E st h => let ⟨⟨_, he⟩, _⟩ := st; wpAny_pyIter_enum he h
/-- enumerate(x), x a list or a tuple -/
def iEnumA (K : PySem.W.Frag) (te : TE) : TI := fun σ H R => te σ H fun v H1 => ∃ a xs, v = .ref a ∧ ((SqL K H1 a xs ∧ R (Ite K a) H1) ∨ (SqT K H1 a xs ∧ R (IteT K a) H1))
theorem pi_enumA {X : Cx} {e : Expr} {te : TE} {p pos tpos : Pos} {elts : List Expr} {kk : Nat} (hg : Gl X "enumerate") (hm : X.mg "enumerate" = none) (he : PE X e te) (hn : notStar e = true) :
    PI X (.Tuple elts kk tpos) (.Call (.Name "enumerate" p) [e] [] pos) (iEnumA X.K te) := by
  refine ⟨fun pins s σ H R I h => ?_⟩
  refine Call_ (ld_blt I hg hm boot_enumerate (PyProof.Rows.callWith_type1 (thn ((pa_cons he pa_nil (star_cons hn)).run pos pins s σ H (fun vs H1 => match vs with | [v] => ∃ a xs, v = .ref a ∧ ((SqL X.K H1 a xs ∧ R (Ite X.K a) H1) ∨ (SqT X.K H1 a xs ∧ R (IteT X.K a) H1)) | _ => False) I h) fun us s1 ⟨vs, H1, I1, r1, q0⟩ => ?_) (star_cons hn) rfl))
  cases r1 with
  | nil => exact q0.elim
  | cons r rr =>
    cases rr with
    | cons _ _ => exact q0.elim
    | nil =>
    obtain ⟨a, xs, ea, q1⟩ := q0
    subst ea
    cases r
    have f2 : ∀ b ∈ [s1.heap.objs.size + 1, s1.heap.objs.size], FpOk X pins H1 b := fun b hb => by
      have e' : b = s1.heap.objs.size + 1 ∨ b = s1.heap.objs.size := by simpa using hb
      have hle : s1.heap.objs.size ≤ b := by
        rcases e' with z | z
        · rw [z]; exact Nat.le_add_right _ _
        · rw [z]; exact Nat.le_refl _
      exact I1.fpOk hle (I1.hok.fresh hle)
    rcases q1 with ⟨hq, q⟩ | ⟨hq, q⟩
    · obtain ⟨its, rv, p', hz⟩ := I1.list hq
      refine call_enumerate_list p'.isList fun h' he hit hsz hk => wpAny_pyIter_enum he ?_
      have I2 : Inv X pins σ H1 { s1 with heap := h' } := I1.kept (t' := s1.toks) hk
      exact ⟨s1.heap.objs.size + 1, [s1.heap.objs.size + 1, s1.heap.objs.size], _, _, H1, rfl, I2, turn_enum a (s1.heap.objs.size + 1) s1.heap.objs.size, ⟨⟨.none, he⟩, hit, Nat.succ_ne_self _⟩, f2, q⟩
    · obtain ⟨its, rv, p', hz⟩ := I1.tuple hq
      have ha : a < s1.heap.objs.size := by obtain ⟨_, z, _⟩ := p'; exact Heap.lt_size z
      refine call_enumerate_tuple p' fun h' he hit hsz hk => wpAny_pyIter_enum he ?_
      have I2 : Inv X pins σ H1 { s1 with heap := h' } := I1.kept (t' := s1.toks) hk
      exact ⟨s1.heap.objs.size + 1, [s1.heap.objs.size + 1, s1.heap.objs.size], _, _, H1, rfl, I2, turn_enumT a (s1.heap.objs.size + 1) s1.heap.objs.size, ⟨⟨.none, he⟩, hit, Nat.succ_ne_self _, Nat.ne_of_gt (Nat.lt_succ_of_lt ha), Nat.ne_of_lt ha⟩, f2, q⟩
end PL
/-! ### what is walked -/
namespace PL
open PySem PySem.Spec PyProof.Rows L2
/-- the iterator J gives these items while live holds -/
def WalkD (c : Cn) (items : List D) (live : Mem → Prop) (M1 : Mem) (H1 : Hp) (J : It) : Prop := items.length ≤ sizeLine ∧ ∀ c' M' H', KeepG c M1 H1 c' M' H' → MR c' M' H' → live M' →
  (∀ i, i < items.length → J.go i H') ∧ J.stop items.length H' ∧ ∀ i x H'', i < items.length → J.yld i H' x H'' → ∃ d, items[i]? = some d ∧ Keep c' M' H' M' H'' ∧ MR c' M' H'' ∧ Den c' M' H'' d x
abbrev DTK := Sd → Mem → (List D → (Mem → Prop) → Mem → Prop) → EX → Prop
def lI (S : Cs) (T : Tb) (W : WX) (t : DTK) : TI := fun σ H R => ∃ (c : Cn) (ρ : Sd) (M : Mem) (K : List D → (Mem → Prop) → Mem → Prop) (E : EX), S.ok c ∧ SR c ρ σ M H ∧ XOK T c W σ M H E ∧ t ρ M K E ∧
  ∀ items live M1 H1 J, K items live M1 → Keep c M H M1 H1 → MR c M1 H1 → WalkD c items live M1 H1 J → R J H1
theorem PI.imp {X : Cx} {tg e : Expr} {t t' : TI} (h : PI X tg e t) (i : ∀ σ H Q, t' σ H Q → t σ H Q) : PI X tg e t' := ⟨fun pins s σ H Q I q => h.run pins s σ H Q I (i σ H Q q)⟩
/-- a list, a tuple, a text -/
def iAny (K : PySem.W.Frag) (te : TE) : TI := fun σ H R => te σ H fun v H1 => (∃ a, v = .ref a ∧ (∃ xs, SqL K H1 a xs) ∧ R (Itl K a) H1) ∨ (∃ a, v = .ref a ∧ (∃ xs, SqT K H1 a xs) ∧ R (Itt K a) H1) ∨ ∃ x, v = .str x ∧ R (Its x) H1
theorem pi_any {X : Cx} {tg l : Expr} {tl : TE} (hl : PE X l tl) : PI X tg l (iAny X.K tl) := by
  refine ⟨fun pins s σ H R I h => ?_⟩
  refine thn (hl.run pins s σ H _ I h) fun v s1 ⟨x, H1, I1, r1, q1⟩ => ?_
  rcases q1 with ⟨a, e, ⟨xs, hq⟩, q⟩ | ⟨a, e, ⟨xs, hq⟩, q⟩ | ⟨x, e, q⟩
  · subst e
    cases r1
    obtain ⟨its, rv, p, hz⟩ := I1.list hq
    refine wpAny_pyIter_list p.isList ?_
    refine ⟨s1.heap.objs.size, [s1.heap.objs.size], _, _, H1, rfl, I1.kept (t' := s1.toks) fun b o e => Heap.get?_push_of_some _ e, turn_list a _, ⟨_, Heap.get?_push_size _ rfl, rfl, rfl⟩, fun b hb => ?_, q⟩
    have e : b = s1.heap.objs.size := by simpa using hb
    subst e
    exact I1.fpOk (Nat.le_refl _) (I1.hok.fresh (Nat.le_refl _))
  · subst e
    cases r1
    obtain ⟨its, rv, p, hz⟩ := I1.tuple hq
    refine wpAny_pyIter_tuple (show s1.heap.IsTuple a its.toArray from p) ?_
    refine ⟨s1.heap.objs.size, [s1.heap.objs.size], _, _, H1, rfl, I1.kept (t' := s1.toks) fun b o e => Heap.get?_push_of_some _ e, turn_tuple a _, ⟨_, Heap.get?_push_size _ rfl, rfl, rfl⟩, fun b hb => ?_, q⟩
    have e : b = s1.heap.objs.size := by simpa using hb
    subst e
    exact I1.fpOk (Nat.le_refl _) (I1.hok.fresh (Nat.le_refl _))
  · subst e
    obtain ⟨t, rfl⟩ := r1
    cases ha : x.cps.all (· < 128)
    · exact wpAny_pyIter_wide ha (pi_one (tk := s1.toks) I1 _ (turn_str _ x t "str_iterator" (.inr rfl)) ⟨_, Heap.get?_push_size _ rfl, rfl, rfl⟩ q)
    · exact wpAny_pyIter_ascii ha (pi_one (tk := s1.toks) I1 _ (turn_str _ x t "str_ascii_iterator" (.inl rfl)) ⟨_, Heap.get?_push_size _ rfl, rfl, rfl⟩ q)
section
variable {c : Cn} {M1 : Mem} {H1 : Hp} {K : PySem.W.Frag}
/-- a list that stands, or stands as live says -/
theorem walkD_list {items : List D} {live : Mem → Prop} {a : Addr} (hK : c.K = K) (hz : items.length ≤ sizeLine) (h : ∀ c' M' H', KeepG c M1 H1 c' M' H' → MR c' M' H' → live M' → ∃ vs, SqL K H' a vs ∧ DenL c' M' H' items vs) : WalkD c items live M1 H1 (Itl K a) := by
  refine ⟨hz, fun c' M' H' k m l => ?_⟩
  obtain ⟨vs, r, q⟩ := h c' M' H' k m l
  have w := walk_list (K := K) (a := a) (xs := vs)
  have sq : SqL K H' a vs := r
  rw [q.length]
  refine ⟨fun i hi => w.goes i H' hi sq, w.stops H' sq, fun i x H'' hi y => ?_⟩
  obtain ⟨e, hx⟩ := w.yields i H' x H'' hi sq y
  subst e
  obtain ⟨d, hd, dd⟩ := q.get' hx
  exact ⟨d, hd, Keep.refl _ _ _, m, dd⟩
theorem walkD_tup {items : List D} {live : Mem → Prop} {a : Addr} {vs : List V} (hK : c.K = K) (hz : items.length ≤ sizeLine) (h : SqTF c M1 H1 a vs) (q : DenL c M1 H1 items vs) : WalkD c items live M1 H1 (Itt K a) := by
  refine ⟨hz, fun c' M' H' k m l => ?_⟩
  have q' := DenL.keepG k _ _ q
  have sq := (h.keepG k).sq
  rw [k.eK, hK] at sq
  have w := walk_tup (K := K) (a := a) (xs := vs)
  rw [q.length]
  refine ⟨fun i hi => w.goes i H' hi sq, w.stops H' sq, fun i x H'' hi y => ?_⟩
  obtain ⟨e, hx⟩ := w.yields i H' x H'' hi sq y
  subst e
  obtain ⟨d, hd, dd⟩ := q'.get' hx
  exact ⟨d, hd, Keep.refl _ _ _, m, dd⟩
theorem walkD_str {z : Str} {live : Mem → Prop} (hz : z.cps.size ≤ sizeLine) : WalkD c (z.cps.toList.map fun k => D.str ⟨#[k]⟩) live M1 H1 (Its z) := by
  refine ⟨by rw [List.length_map, Array.length_toList]; exact hz, fun c' M' H' k m l => ?_⟩
  have w := walk_str (z := z)
  rw [List.length_map, Array.length_toList]
  refine ⟨fun i hi => w.goes i H' hi trivial, w.stops H' trivial, fun i x H'' hi y => ?_⟩
  obtain ⟨e, ch, hk, hx⟩ := w.yields i H' x H'' hi trivial y
  subst e hx
  refine ⟨.str ⟨#[ch]⟩, ?_, Keep.refl _ _ _, m, by simp only [Den]⟩
  rw [List.getElem?_map, Array.getElem?_toList, hk]
  rfl
theorem walkD_range {a b : Int} {live : Mem → Prop} (h : b - a ≤ 16777216) : WalkD c (rangeD a b) live M1 H1 (Itr a (b - a).toNat) := by
  have hs : sizeLine = 16777216 := sizeLine_eq
  have hl : (rangeD a b).length = (b - a).toNat := by unfold rangeD; rw [List.length_map, List.length_range]
  refine ⟨by rw [hl]; omega, fun c' M' H' k m l => ?_⟩
  have w := walk_range (lo := a) (n := (b - a).toNat)
  rw [hl]
  refine ⟨fun i hi => w.goes i H' hi trivial, w.stops H' trivial, fun i x H'' hi y => ?_⟩
  obtain ⟨e, hx⟩ := w.yields i H' x H'' hi trivial y
  subst e hx
  refine ⟨.int (a + i), ?_, Keep.refl _ _ _, m, by simp only [Den]⟩
  unfold rangeD
  rw [List.getElem?_map, List.getElem?_range hi]
  rfl
/-- a new pair -/
theorem pair_new {M' : Mem} {H' : Hp} {T : Addr} {x y : V} {d e : D} (m : MR c M' H') (hT : H' T = none) (dx : Den c M' H' d x) (dy : Den c M' H' e y) :
    Keep c M' H' M' (upd H' T (.tup [x, y])) ∧ MR c M' (upd H' T (.tup [x, y])) ∧ Den c M' (upd H' T (.tup [x, y])) (.tup [d, e]) (.ref T) := by
  have k := Keep.new (o := .tup [x, y]) m hT
  refine ⟨k, MR.new m hT, ?_⟩
  simp only [Den]
  exact ⟨T, [x, y], rfl, .inl ⟨m.nz hT, m.none hT, .inl upd_same⟩, by show 2 ≤ sizeLine; decide, DenL.keep k _ _ (DenL.cons dx (DenL.cons dy DenL.nil))⟩
theorem enumD_get {xs : List D} {i : Nat} {x : D} (h : xs[i]? = some x) : (enumD xs)[i]? = some (.tup [.int (i : Nat), x]) := by
  unfold enumD
  rw [List.getElem?_map, List.getElem?_range (List.getElem?_eq_some_iff.mp h).1]
  simp [List.getD, h]
theorem enumD_len (xs : List D) : (enumD xs).length = xs.length := by
  unfold enumD
  rw [List.length_map, List.length_range]
end
section
variable {X : Cx} {S : Cs} {T : Tb} {W : WX} {ta tb : DTE} {tg e e2 : Expr} {p pos : Pos}
theorem r_seq (hK : X.K = S.K) (he : PE X e (lE S T W ta)) : PI X tg e (lI S T W fun ρ M K E => ta ρ M (fun x M1 => seqS x.d M1 fun xs live => K xs live M1) E) := by
  refine PI.imp (pi_any he) fun σ H R ⟨c, ρ, M, K, E, ok, s, x, t, q⟩ => ⟨c, ρ, M, _, E, ok, s, x, t, fun r M1 v H1 hk rv => ?_⟩
  obtain ⟨k1, m1, d1⟩ := rv.plain
  have hk' : c.K = X.K := ok.1.trans hK.symm
  have hs : sizeLine = 16777216 := sizeLine_eq
  generalize r.d = d at hk d1
  unfold seqS at hk
  cases d with
  | tup xs =>
    simp only [Den] at d1
    obtain ⟨a, vs, rfl, t, l, r⟩ := d1
    have sq := t.sq
    rw [hk'] at sq
    exact .inr (.inl ⟨a, rfl, ⟨vs, sq⟩, q _ _ _ _ _ hk k1 m1 (walkD_tup hk' l t r)⟩)
  | lst xs =>
    simp only [Den] at d1
    obtain ⟨a, vs, rfl, t, l, r⟩ := d1
    have sq := t.sq
    rw [hk'] at sq
    refine .inl ⟨a, rfl, ⟨vs, sq⟩, q _ _ _ _ _ hk k1 m1 (walkD_list hk' l fun c' M' H' k m _ => ⟨vs, ?_, DenL.keepG k _ _ r⟩)⟩
    have sq' := (t.keepG k).sq
    rw [k.eK, hk'] at sq'
    exact sq'
  | str z =>
    simp only [Den] at d1
    subst d1
    obtain ⟨hz, hk⟩ := hk
    exact .inr (.inr ⟨z, rfl, q _ _ _ _ _ hk k1 m1 (walkD_str hz)⟩)
  | ref p =>
    simp only at hk
    simp only [Den] at d1
    subst d1
    cases hp : M1 p with
    | none => rw [hp] at hk; exact hk.elim
    | some o =>
      rw [hp] at hk
      cases o with
      | lst xs =>
        obtain ⟨vs, hv, l, r⟩ := cell_at m1 hp
        refine .inl ⟨p, rfl, ⟨vs, .inl (.inl hv)⟩, q _ _ _ _ _ hk k1 m1 (walkD_list hk' l fun c' M' H' k m hl => ?_)⟩
        obtain ⟨vs', hv', _, r'⟩ := cell_at m hl
        exact ⟨vs', .inl (.inl hv'), r'⟩
      | _ => exact hk.elim
  | _ => exact hk.elim
theorem rg_of {ds : List D} {K : List D → Prop} (h : rgS ds K) : (∃ n, ds = [.int n] ∧ (-(2 ^ 62) ≤ n ∧ n ≤ 16777216) ∧ K (rangeD 0 n)) ∨ ∃ a b, ds = [.int a, .int b] ∧ (-(2 ^ 62) ≤ a ∧ a < 2 ^ 62 ∧ -(2 ^ 62) ≤ b ∧ b < 2 ^ 62 ∧ b - a ≤ 16777216) ∧ K (rangeD a b) := by
  unfold rgS at h
  split at h
  · exact .inl ⟨_, rfl, h⟩
  · exact .inr ⟨_, _, rfl, h⟩
  · exact h.elim
theorem r_range1 {ta : DTA} (hg : Gl X "range") (hm : X.mg "range" = none) (hn : notStar e = true) (ha : PA X [e] (lA S T W 1 ta)) : PI X tg (.Call (.Name "range" p) [e] [] pos) (lI S T W fun ρ M K E => ta ρ M (fun ds M1 => rgS ds fun xs => K xs (fun _ => True) M1) E) := by
  refine PI.imp (pi_range1 hg hm ha (star_cons hn)) fun σ H R ⟨c, ρ, M, K, E, ok, s, x, t, q⟩ => ⟨c, ρ, M, _, E, ok, s, x, t, fun ds M1 vs H1 hl hk k1 m1 d1 => ?_⟩
  rcases rg_of hk with ⟨n, rfl, hb, hk⟩ | ⟨a, b, rfl, _⟩
  · obtain ⟨v, rfl, dv⟩ := d1.one
    simp only [Den] at dv
    subst dv
    have w := walkD_range (c := c) (M1 := M1) (H1 := H1) (a := 0) (b := n) (live := fun _ => True) (by omega)
    rw [Int.sub_zero] at w
    exact ⟨n, rfl, hb.1, by omega, q _ _ _ _ _ hk k1 m1 w⟩
  · simp at hl
theorem r_range2 {ta : DTA} (hg : Gl X "range") (hm : X.mg "range" = none) (hn : notStar e = true) (hn2 : notStar e2 = true) (ha : PA X [e, e2] (lA S T W 2 ta)) : PI X tg (.Call (.Name "range" p) [e, e2] [] pos) (lI S T W fun ρ M K E => ta ρ M (fun ds M1 => rgS ds fun xs => K xs (fun _ => True) M1) E) := by
  refine PI.imp (pi_range2 hg hm ha (by rw [star_cons hn, star_cons hn2]; rfl) (by rw [star_cons hn2]; rfl)) fun σ H R ⟨c, ρ, M, K, E, ok, s, x, t, q⟩ => ⟨c, ρ, M, _, E, ok, s, x, t, fun ds M1 vs H1 hl hk k1 m1 d1 => ?_⟩
  rcases rg_of hk with ⟨n, rfl, _⟩ | ⟨a, b, rfl, hb, hk⟩
  · simp at hl
  · obtain ⟨v, w, rfl, dv, dw⟩ := d1.two
    simp only [Den] at dv dw
    subst dv dw
    exact ⟨a, b, rfl, ⟨hb.1, hb.2.1, hb.2.2.1, hb.2.2.2.1⟩, q _ _ _ _ _ hk k1 m1 (walkD_range hb.2.2.2.2)⟩
theorem r_enum {elts : List Expr} {kk : Nat} {tpos : Pos} (hK : X.K = S.K) (hg : Gl X "enumerate") (hm : X.mg "enumerate" = none) (hn : notStar e = true) (he : PE X e (lE S T W ta)) :
    PI X (.Tuple elts kk tpos) (.Call (.Name "enumerate" p) [e] [] pos) (lI S T W fun ρ M K E => ta ρ M (fun x M1 => optS (asS M1 x.d) fun xs => K (enumD xs) (fun M' => asS M' x.d = some xs) M1) E) := by
  refine PI.imp (pi_enumA hg hm he hn) fun σ H R ⟨c, ρ, M, K, E, ok, s, x, t, q⟩ => ⟨c, ρ, M, _, E, ok, s, x, t, fun r M1 v H1 hk rv => ?_⟩
  obtain ⟨k1, m1, d1⟩ := rv.plain
  have hk' : c.K = X.K := ok.1.trans hK.symm
  generalize r.d = d at hk d1
  obtain ⟨xs, e1, hk⟩ := opt_of hk
  by_cases z : ∃ ys, d = .tup ys
  · obtain ⟨ys, rfl⟩ := z
    simp only [asS] at e1; cases e1
    simp only [Den] at d1
    obtain ⟨a, vs, rfl, t, l, r⟩ := d1
    have sq := t.sq
    rw [hk'] at sq
    refine ⟨a, vs, rfl, .inr ⟨sq, q _ _ _ _ _ hk k1 m1 ⟨by rw [enumD_len]; exact l, fun c' M' H' k m _ => ?_⟩⟩⟩
    have sq' := (t.keepG k).sq
    rw [k.eK, hk'] at sq'
    have r' := DenL.keepG k _ _ r
    rw [enumD_len, r.length]
    refine ⟨fun i hi => ⟨vs, vs[i], sq', by simp [hi]⟩, ⟨vs, sq', rfl⟩, fun i x H'' hi y => ?_⟩
    obtain ⟨T0, w, rfl, hT, rfl, hw⟩ := y
    obtain ⟨d, hd, dd⟩ := r'.get' (hw vs sq')
    obtain ⟨a1, a2, a3⟩ := pair_new (d := .int (i : Nat)) (x := .int (i : Nat)) m hT (by simp only [Den]) dd
    exact ⟨_, enumD_get hd, a1, a2, a3⟩
  · have e' : asL M1 d = some xs := by
      cases d <;> first | exact e1 | exact absurd ⟨_, rfl⟩ z
    obtain ⟨a, vs, rfl, sq, r, l⟩ := asL_at hk' m1 d1 e'
    refine ⟨a, vs, rfl, .inl ⟨sq, q _ _ _ _ _ hk k1 m1 ⟨by rw [enumD_len]; exact l, fun c' M' H' k m hl => ?_⟩⟩⟩
    have d' := Den.keepG k _ _ d1
    have el : asL M' d = some xs := by
      cases d <;> first | exact hl | exact absurd ⟨_, rfl⟩ z
    obtain ⟨a', vs', ea, sq', r', l'⟩ := asL_at (k.eK.trans hk') m d' el
    cases ea
    have w := walk_enum (K := X.K) (a := a) (xs := vs')
    rw [enumD_len, r'.length]
    refine ⟨fun i hi => w.goes i H' hi sq', w.stops H' sq', fun i x H'' hi y => ?_⟩
    obtain ⟨T0, u, v2, rfl, hT, rfl, hu, hw⟩ := w.yields i H' x H'' hi sq' y
    cases hu
    obtain ⟨d, hd, dd⟩ := r'.get' hw
    obtain ⟨a1, a2, a3⟩ := pair_new (d := .int (i : Nat)) (x := .int (i : Nat)) m hT (by simp only [Den]) dd
    exact ⟨_, enumD_get hd, a1, a2, a3⟩
theorem zip_of {x y : D} {M : Mem} {K : List D → (Mem → Prop) → Prop} (h : zipS x y M K) : (∃ xs ys, x = .tup xs ∧ y = .tup ys ∧ K (zipD xs ys) fun _ => True) ∨ ∃ xs ys, asL M x = some xs ∧ asL M y = some ys ∧ K (zipD xs ys) fun M' => asL M' x = some xs ∧ asL M' y = some ys := by
  by_cases z : ∃ xs, x = .tup xs
  · obtain ⟨xs, rfl⟩ := z
    dsimp only [zipS] at h
    cases y <;> try exact h.elim
    exact .inl ⟨_, _, rfl, rfl, h⟩
  · have h' : optS (asL M x) fun xs => optS (asL M y) fun ys => K (zipD xs ys) fun M' => asL M' x = some xs ∧ asL M' y = some ys := by
      cases x <;> first | exact h | exact absurd ⟨_, rfl⟩ z
    obtain ⟨xs, e1, h'⟩ := opt_of h'
    obtain ⟨ys, e2, h'⟩ := opt_of h'
    exact .inr ⟨xs, ys, e1, e2, h'⟩
theorem zipD_len {xs ys : List D} : (zipD xs ys).length = min xs.length ys.length := by
  unfold zipD
  rw [List.length_map, List.length_zip]
theorem zipD_get {xs ys : List D} {i : Nat} {x y : D} (h1 : xs[i]? = some x) (h2 : ys[i]? = some y) : (zipD xs ys)[i]? = some (.tup [x, y]) := by
  unfold zipD
  rw [List.getElem?_map, (List.getElem?_zip_eq_some (z := (x, y))).mpr ⟨h1, h2⟩]
  rfl
theorem r_zip {elts : List Expr} {kk : Nat} {tpos : Pos} (hK : X.K = S.K) (hg : Gl X "zip") (hm : X.mg "zip" = none) (hn : notStar e = true) (hn2 : notStar e2 = true) (he : PE X e (lE S T W ta)) (he2 : PE X e2 (lE S T W tb)) :
    PI X (.Tuple elts kk tpos) (.Call (.Name "zip" p) [e, e2] [] pos) (lI S T W fun ρ M K E => ta ρ M (fun x M1 => tb ρ M1 (fun y M2 => zipS x.d y.d M2 fun xs live => K xs live M2) E) E) := by
  refine PI.imp (RZ.pi_zipA hg hm (pa_cons he (pa_cons he2 pa_nil (star_cons hn2)) (star_cons hn)) (star_cons hn) (by rw [star_cons hn2]; rfl)) fun σ H R ⟨c, ρ, M, K, E, ok, s, x, t, q⟩ => ⟨c, ρ, M, _, E, ok, s, x, t, fun r M1 v H1 hk rv => ?_⟩
  obtain ⟨k1, m1, d1⟩ := rv.plain
  refine ⟨c, ρ, M1, _, E, ok, s.keep k1 m1, x.after k1, hk, fun r2 M2 w H2 hk2 rv2 => ?_⟩
  obtain ⟨k2, m2, d2⟩ := rv2.plain
  have d1 := Den.keep k2 _ _ d1
  have kk := k1.trans k2
  have hk' : c.K = X.K := ok.1.trans hK.symm
  generalize r.d = dx at hk2 d1
  generalize r2.d = dy at hk2 d2
  have hs : sizeLine = 16777216 := sizeLine_eq
  rcases zip_of hk2 with ⟨xs, ys, rfl, rfl, hk⟩ | ⟨xs, ys, e1, e2, hk⟩
  · simp only [Den] at d1 d2
    obtain ⟨a, vs, rfl, t1, l1, r1⟩ := d1
    obtain ⟨b, ws, rfl, t2, l2, r2⟩ := d2
    have sq1 := t1.sq
    have sq2 := t2.sq
    rw [hk'] at sq1 sq2
    refine ⟨a, b, vs, ws, rfl, .inr ⟨sq1, sq2, q _ _ _ _ _ hk kk m2 ⟨by rw [zipD_len]; omega, fun c' M' H' k m _ => ?_⟩⟩⟩
    have q1 := (t1.keepG k).sq
    have q2 := (t2.keepG k).sq
    rw [k.eK, hk'] at q1 q2
    have r1' := DenL.keepG k _ _ r1
    have r2' := DenL.keepG k _ _ r2
    rw [zipD_len, r1.length, r2.length]
    refine ⟨fun i hi => ⟨vs, ws, vs[i]'(by omega), ws[i]'(by omega), q1, q2, by simp, by simp⟩, ⟨vs, ws, q1, q2, by omega⟩, fun i x H'' hi y => ?_⟩
    obtain ⟨T0, u, w, rfl, hT, rfl, hu, hw⟩ := y
    obtain ⟨d, hd, dd⟩ := r1'.get' (hu vs q1)
    obtain ⟨e, he, de⟩ := r2'.get' (hw ws q2)
    obtain ⟨a1, a2, a3⟩ := pair_new m hT dd de
    exact ⟨_, zipD_get hd he, a1, a2, a3⟩
  · obtain ⟨a, vs, rfl, sq1, r1, l1⟩ := asL_at hk' m2 d1 e1
    obtain ⟨b, ws, rfl, sq2, r2, l2⟩ := asL_at hk' m2 d2 e2
    refine ⟨a, b, vs, ws, rfl, .inl ⟨sq1, sq2, q _ _ _ _ _ hk kk m2 ⟨by rw [zipD_len]; omega, fun c' M' H' k m hl => ?_⟩⟩⟩
    obtain ⟨a', vs', ea, sq1', r1', _⟩ := asL_at (k.eK.trans hk') m (Den.keepG k _ _ d1) hl.1
    obtain ⟨b', ws', eb, sq2', r2', _⟩ := asL_at (k.eK.trans hk') m (Den.keepG k _ _ d2) hl.2
    cases ea
    cases eb
    have w := walk_zip (K := X.K) (a := a) (b := b) (xs := vs') (ys := ws') rfl
    rw [zipD_len, r1'.length, r2'.length]
    refine ⟨fun i hi => w.goes i H' hi ⟨sq1', sq2'⟩, w.stops H' ⟨sq1', sq2'⟩, fun i x H'' hi y => ?_⟩
    obtain ⟨T0, u, v2, rfl, hT, rfl, hu, hw⟩ := w.yields i H' x H'' hi ⟨sq1', sq2'⟩ y
    obtain ⟨d, hd, dd⟩ := r1'.get' hu
    obtain ⟨e, he, de⟩ := r2'.get' hw
    obtain ⟨a1, a2, a3⟩ := pair_new m hT dd de
    exact ⟨_, zipD_get hd he, a1, a2, a3⟩
end
end PL
/-! ### targets; comprehensions -/
namespace PL
open PySem PySem.Spec PyProof.Rows L2
def hidC (c : Cn) (D : Addr) : Cn := { c with Z := fun a => c.Z a ∨ a = D }
section
variable {c : Cn} {M M' M1 : Mem} {H H' H1 : Hp} {A : Addr}
/-- a new object, hidden -/
theorem KeepG.hid1 {o : HO} (h : H A = none) : KeepG c M H (hidC c A) M (upd H A o) :=
  ⟨rfl, rfl, fun a u z m n r => ⟨fun q => q.elim z (rd_ne r h), rd_upd r (rd_ne r h), m⟩, fun a C dx fs z m e => by rw [upd_ne (ne_of_none e h)]; exact e⟩
theorem KeepG.show_ : KeepG (hidC c A) M H c M H := ⟨rfl, rfl, fun a u z m n r => ⟨fun q => z (.inl q), r, m⟩, fun _ _ _ _ _ _ e => e⟩
theorem KeepG.rew {o : HO} : KeepG (hidC c A) M H (hidC c A) M (upd H A o) :=
  ⟨rfl, rfl, fun a u z m n r => ⟨z, rd_upd r fun e => z (.inr e), m⟩, fun a C dx fs z m e => by rw [upd_ne fun e => z (.inr e)]; exact e⟩
theorem KeepG.put {o : Ob} : KeepG (hidC c A) M H c (mput M A o) H :=
  ⟨rfl, rfl, fun a u z m n r => ⟨fun q => z (.inl q), r, by rw [mput_ne fun e => z (.inr e)]; exact m⟩, fun _ _ _ _ _ _ e => e⟩
theorem KeepG.trans {c c' c'' : Cn} {M M' M'' : Mem} {H H' H'' : Hp} (a : KeepG c M H c' M' H') (b : KeepG c' M' H' c'' M'' H'') : KeepG c M H c'' M'' H'' :=
  ⟨b.eK.trans a.eK, b.eA.trans a.eA, fun x u z m n r => let ⟨z1, r1, m1⟩ := a.old x u z m n r; b.old x u z1 m1 n r1, fun x C dx fs z m e => by
    obtain ⟨z1, r1, m1⟩ := a.old x _ z m (by trivial) (.inl e)
    exact b.inst x C dx fs z1 m1 (a.inst x C dx fs z m e)⟩
theorem MR.hid1 {o : HO} (m : MR c M H) (h : H A = Option.none) : MR (hidC c A) M (upd H A o) := ⟨fun a ob e => by
  obtain ⟨u, hu, r⟩ := m.at_ a ob e
  exact ⟨u, by rw [upd_ne (ne_of_none hu h)]; exact hu, r.keepG (KeepG.hid1 h)⟩, fun a z => by
  rcases z with z | rfl
  · obtain ⟨h1, u, hu⟩ := m.hid a z
    exact ⟨h1, u, by rw [upd_ne (ne_of_none hu h)]; exact hu⟩
  · exact ⟨m.none h, _, upd_same⟩⟩
theorem MR.rew {o : HO} (m : MR (hidC c A) M H) : MR (hidC c A) M (upd H A o) := ⟨fun a ob e => by
  obtain ⟨u, hu, r⟩ := m.at_ a ob e
  have ne : a ≠ A := fun q => by
    subst q
    rw [(m.hid a (.inr rfl)).1] at e
    cases e
  exact ⟨u, by rw [upd_ne ne]; exact hu, r.keepG KeepG.rew⟩, fun a z => by
  by_cases q : a = A
  · subst q; exact ⟨(m.hid a z).1, _, upd_same⟩
  · obtain ⟨h1, u, hu⟩ := m.hid a z
    exact ⟨h1, u, by rw [upd_ne q]; exact hu⟩⟩
theorem MR.show_ (m : MR (hidC c A) M H) : MR c M H := ⟨fun a ob e => by
  obtain ⟨u, hu, r⟩ := m.at_ a ob e
  exact ⟨u, hu, r.keepG KeepG.show_⟩, fun a z => m.hid a (.inl z)⟩
/-- from the state before the hidden one -/
theorem Keep.unhide {o : HO} (h : H1 A = none) (hz : ¬ c.Z A) (k : Keep (hidC c A) M1 (upd H1 A o) M' H') : Keep c M1 H1 M' H' :=
  ⟨fun a u z m n r => k.old a u (fun q => q.elim z (rd_ne r h)) m n (rd_upd r (rd_ne r h)), fun a C dx fs z m e => k.inst a C dx fs (fun q => q.elim z (ne_of_none e h)) m (by rw [upd_ne (ne_of_none e h)]; exact e), fun a z => by
    rw [k.hid a (.inl z), upd_ne (ne_nz z hz)]⟩
theorem Keep.over {o o' : HO} (k : Keep (hidC c A) M1 (upd H1 A o) M' H') : Keep (hidC c A) M1 (upd H1 A o') M' (upd H' A o') := by
  have ne : ∀ {a : Addr}, ¬ (hidC c A).Z a → a ≠ A := fun z e => z (.inr e)
  have rd : ∀ {a : Addr} {u : HO}, ¬ (hidC c A).Z a → Rd (upd H1 A o') a u → Rd (upd H1 A o) a u := fun z r => by
    have := ne z
    rcases r with r | ⟨x, r⟩
    · rw [upd_ne this] at r; exact .inl (by rw [upd_ne this]; exact r)
    · rw [upd_ne this] at r; exact .inr ⟨x, by rw [upd_ne this]; exact r⟩
  refine ⟨fun a u z m n r => ?_, fun a C dx fs z m e => ?_, fun a z => ?_⟩
  · obtain ⟨r1, m1⟩ := k.old a u z m n (rd z r)
    exact ⟨rd_upd r1 (ne z), m1⟩
  · rw [upd_ne (ne z)] at e ⊢
    exact k.inst a C dx fs z m (by rw [upd_ne (ne z)]; exact e)
  · by_cases q : a = A
    · subst q; rw [upd_same, upd_same]
    · rw [upd_ne q, upd_ne q, k.hid a z, upd_ne q]
/-- the list is shown -/
theorem hide_done {o : HO} {xs : List D} {vs : List V} (h : H1 A = none) (hz : ¬ c.Z A) (k : Keep (hidC c A) M1 (upd H1 A o) M' H') (m : MR (hidC c A) M' H') (e : H' A = some (.lst vs)) (l : xs.length ≤ sizeLine) (q : DenL (hidC c A) M' H' xs vs) :
    RV c M1 H1 M' H' (.new (.lst xs)) (.ref A) := by
  have hA := (m.hid A (.inr rfl)).1
  have kk := k.unhide h hz
  refine ⟨A, rfl, hA, ⟨fun a u z mm n r => ?_, kk.inst, kk.hid⟩, ⟨fun a ob z => ?_, fun a z => ?_⟩⟩
  · obtain ⟨r1, m1⟩ := kk.old a u z mm n r
    exact ⟨r1, by rw [mput_ne (rd_ne r h)]; exact m1⟩
  · by_cases ea : a = A
    · subst ea
      rw [mput_same] at z
      cases z
      exact ⟨_, e, vs, rfl, l, q.keepG KeepG.put⟩
    · rw [mput_ne ea] at z
      obtain ⟨u, hu, r⟩ := m.at_ a ob z
      exact ⟨u, hu, r.keepG KeepG.put⟩
  · obtain ⟨h1, u, hu⟩ := m.hid a (.inl z)
    exact ⟨by rw [mput_ne (ne_nz z hz)]; exact h1, u, hu⟩
end

/-! ### the slots of a block -/
theorem wipeD_length (ρ : Sd) : ∀ vs : List Nat, (wipeD ρ vs).length = ρ.length
  | [] => rfl
  | v :: vs => by unfold wipeD; rw [List.length_set, wipeD_length ρ vs]
theorem wipeD_some {ρ : Sd} {i : Nat} {x : D} : ∀ {vs : List Nat}, (wipeD ρ vs)[i]? = some (some x) → ρ[i]? = some (some x) ∧ i ∉ vs
  | [], h => ⟨h, by simp⟩
  | v :: vs, h => by
    unfold wipeD at h
    by_cases hi : v = i
    · subst hi
      by_cases hv : v < (wipeD ρ vs).length
      · rw [List.getElem?_set_self hv] at h; cases h
      · rw [List.getElem?_eq_none (by simpa using hv)] at h; cases h
    · rw [List.getElem?_set_ne hi] at h
      obtain ⟨h1, h2⟩ := wipeD_some h
      exact ⟨h1, by simp only [List.mem_cons, not_or]; exact ⟨fun e => hi e.symm, h2⟩⟩
theorem SR.wipe {c : Cn} {ρ : Sd} {σ : L2.St} {M : Mem} {H : Hp} (s : SR c ρ σ M H) (vs : List Nat) : SR c (wipeD ρ vs) (L2.wipe σ vs) M H :=
  ⟨by rw [wipeD_length, wipe_length, s.len], fun i d e => by
    obtain ⟨h1, h2⟩ := wipeD_some e
    obtain ⟨v, hv, q⟩ := s.get i d h1
    exact ⟨v, by rw [wipe_out h2]; exact hv, q⟩, s.mem⟩
theorem SR.keepG {c c' : Cn} {ρ : Sd} {σ : L2.St} {M M' : Mem} {H H' : Hp} (s : SR c ρ σ M H) (k : KeepG c M H c' M' H') (m : MR c' M' H') : SR c' ρ σ M' H' :=
  ⟨s.len, fun i d e => let ⟨v, h, q⟩ := s.get i d e; ⟨v, h, q.keepG k⟩, m⟩
theorem wipe_get_in {σ : L2.St} {i : Nat} : ∀ {vs : List Nat}, i ∈ vs → i < σ.length → (L2.wipe σ vs)[i]? = some none
  | v :: vs, h, hl => by
    unfold L2.wipe
    by_cases hi : v = i
    · subst hi
      rw [List.getElem?_set_self (by rw [wipe_length]; exact hl)]
    · rw [List.getElem?_set_ne hi]
      rcases List.mem_cons.mp h with e | h
      · exact absurd e.symm hi
      · exact wipe_get_in h hl
theorem wipe_ext {σ σ' : L2.St} {vs : List Nat} (hl : σ.length = σ'.length) (h : ∀ i, i ∉ vs → σ[i]? = σ'[i]?) : L2.wipe σ vs = L2.wipe σ' vs := by
  apply List.ext_getElem?
  intro i
  by_cases hi : i ∈ vs
  · by_cases hz : i < σ.length
    · rw [wipe_get_in hi hz, wipe_get_in hi (by omega)]
    · rw [List.getElem?_eq_none (by rw [wipe_length]; omega), List.getElem?_eq_none (by rw [wipe_length]; omega)]
  · rw [wipe_out hi, wipe_out hi]; exact h i hi

/-! ### targets -/
def gNms : List Nat → TGs
  | [] => gNil
  | i :: is => gCons (gName i) (gNms is)
def gT (K : PySem.W.Frag) : Tg → TG
  | .name i => gName i
  | .tup is => gTup K is.length (gNms is)
theorem gNms_run {Q : L2.St → Hp → Prop} {H : Hp} : ∀ {is : List Nat} {vs : List V} {σ : L2.St}, is.length = vs.length → Q ((is.zip vs).foldl (fun r p => r.set p.1 (some p.2)) σ) H → gNms is vs σ H Q
  | [], [], σ, _, q => ⟨rfl, q⟩
  | i :: is, v :: vs, σ, hl, q => ⟨v, vs, rfl, gNms_run (by simpa using hl) q⟩
  | [], _ :: _, _, h, _ => by simp at h
  | _ :: _, [], _, h, _ => by simp at h
theorem SR.sets {c : Cn} {M : Mem} {H : Hp} : ∀ {is : List Nat} {ds : List D} {vs : List V} {ρ : Sd} {σ : L2.St}, SR c ρ σ M H → DenL c M H ds vs → SR c ((is.zip ds).foldl (fun r p => r.set p.1 (some p.2)) ρ) ((is.zip vs).foldl (fun r p => r.set p.1 (some p.2)) σ) M H
  | [], _, _, _, _, s, _ => s
  | i :: is, [], _, _, _, s, q => by simp only [DenL] at q; subst q; exact s
  | i :: is, d :: ds, _, _, _, s, q => by
    simp only [DenL] at q
    obtain ⟨v, r, rfl, q1, q2⟩ := q
    have := SR.sets (is := is) (ds := ds) (vs := r) (s.set (i := i) q1) q2
    exact this
theorem sets_out {v : Nat} : ∀ {is : List Nat} {vs : List V} {σ : L2.St}, v ∉ is → ((is.zip vs).foldl (fun r p => r.set p.1 (some p.2)) σ)[v]? = σ[v]?
  | [], _, _, _ => rfl
  | _ :: _, [], _, _ => rfl
  | i :: is, w :: vs, σ, h => by
    simp only [List.mem_cons, not_or] at h
    rw [List.zip_cons_cons, List.foldl_cons, sets_out h.2, List.getElem?_set_ne (Ne.symm h.1)]
theorem sets_len : ∀ {is : List Nat} {vs : List V} {σ : L2.St}, ((is.zip vs).foldl (fun r p => r.set p.1 (some p.2)) σ).length = σ.length
  | [], _, _ => rfl
  | _ :: _, [], _ => rfl
  | i :: is, w :: vs, σ => by rw [List.zip_cons_cons, List.foldl_cons, sets_len, List.length_set]
def Tg.slots : Tg → List Nat
  | .name i => [i]
  | .tup is => is
/-- the target's run -/
theorem gT_run {c : Cn} {M : Mem} {H : Hp} {K : PySem.W.Frag} {t : Tg} {x : D} {v : V} {ρ : Sd} {σ : L2.St} {Kd : Sd → Prop} {Q : L2.St → Hp → Prop} (hK : c.K = K) (s : SR c ρ σ M H) (q : Den c M H x v) (h : bindT t x ρ Kd)
    (hq : ∀ ρ2 σ2, Kd ρ2 → SR c ρ2 σ2 M H → σ2.length = σ.length → (∀ i, i ∉ t.slots → σ2[i]? = σ[i]?) → Q σ2 H) : gT K t v σ H Q := by
  cases t with
  | name i => exact hq _ _ h (s.set q) (List.length_set ..) fun j hj => List.getElem?_set_ne (fun e => hj (by simp [Tg.slots, e]))
  | tup is =>
    dsimp only [bindT] at h
    cases x <;> try exact h.elim
    obtain ⟨hl, h⟩ := h
    simp only [Den] at q
    obtain ⟨a, vs, rfl, sq, l, r⟩ := q
    have sq' := sq.sq
    rw [hK] at sq'
    refine ⟨a, vs, rfl, sq', by rw [← r.length, hl], gNms_run (by rw [hl, r.length]) ?_⟩
    exact hq _ _ h (s.sets r) sets_len fun j hj => sets_out hj
section
variable {X : Cx} {S : Cs} {T : Tb} {W : WX}
def W0 : WX := fun _ _ _ _ => False
def cS (src : DTK) (t : Tg) (tc : DTT) (te : DTE) (vs : List Nat) : DTE := fun ρ M Q E => src ρ M (fun items live M1 => ∃ W : Nat → List D → Mem → Prop, W 0 [] M1 ∧
      (∀ i acc M', i ≤ items.length → W i acc M' → live M') ∧
      (∀ i x acc M', items[i]? = some x → W i acc M' → bindT t x (wipeD ρ vs) fun ρ2 => tc ρ2 M' (fun k M2 =>
        if k = true then te ρ2 M2 (fun r M3 => W (i + 1) (acc ++ [r.d]) M3) noEX else W (i + 1) acc M2) noEX) ∧
      (∀ acc M', W items.length acc M' → Q (.new (.lst acc)) M')) E
theorem comp_run {src : DTK} {t : Tg} {tc : DTT} {te : DTE} {vs : List Nat} (hK : X.K = S.K) (hv : ∀ i ∈ t.slots, i ∈ vs) {σ : L2.St} {H : Hp} {Q : VK} (h : lE S T W (cS src t tc te vs) σ H Q) :
    tLc (lI S T W src) (gT X.K t) (lT S T W0 tc) (lE S T W0 te) vs σ H Q := by
  obtain ⟨c, ρ, M, Q', E, ok, s, x, t0, q⟩ := h
  refine ⟨c, ρ, M, _, E, ok, s, x, t0, fun items live M1 H1 J hk k1 m1 wd => ?_⟩
  intro A hA
  obtain ⟨Wd, w0, wl, ws, wq⟩ := hk
  have s1 := s.keep k1 m1
  have hz : ¬ c.Z A := m1.nz hA
  obtain ⟨hsz, wd⟩ := wd
  have hs : sizeLine = 16777216 := sizeLine_eq
  have gg : ∀ {M' vs H2}, Keep (hidC c A) M1 (upd H1 A (.lst vs)) M' H2 → KeepG c M1 H1 (hidC c A) M' H2 := fun k => (KeepG.hid1 hA).trans k.g
  have okh : S.ok (hidC c A) := ok
  have hkc : (hidC c A).K = X.K := ok.1.trans hK.symm
  have w : Walk J items.length (fun H2 => ∃ M' vs, Keep (hidC c A) M1 (upd H1 A (.lst vs)) M' H2 ∧ MR (hidC c A) M' H2 ∧ live M')
      (fun i H2 x H3 => ∀ M' vs, Keep (hidC c A) M1 (upd H1 A (.lst vs)) M' H2 → MR (hidC c A) M' H2 → live M' → ∃ d, items[i]? = some d ∧ Keep (hidC c A) M' H2 M' H3 ∧ MR (hidC c A) M' H3 ∧ Den (hidC c A) M' H3 d x) :=
    ⟨fun i H2 hi ⟨M', vs, k, m, l⟩ => (wd _ M' H2 (gg k) m l).1 i hi, fun H2 ⟨M', vs, k, m, l⟩ => (wd _ M' H2 (gg k) m l).2.1, fun i H2 x H3 hi _ y M' vs k m l => (wd _ M' H2 (gg k) m l).2.2 i x H3 hi y⟩
  refine lc_it (n := items.length) (D := A) (H1 := H1) w
    (Pv := fun i H2 => ∃ acc M' vs, i ≤ items.length ∧ Wd i acc M' ∧ Keep (hidC c A) M1 (upd H1 A (.lst vs)) M' H2 ∧ MR (hidC c A) M' H2 ∧ H2 A = some (.lst vs) ∧ DenL (hidC c A) M' H2 acc vs ∧ acc.length ≤ i) ?_ ?_ ?_ ?_
  · exact ⟨[], M1, [], Nat.zero_le _, w0, Keep.refl _ _ _, m1.hid1 hA, upd_same, DenL.nil, Nat.zero_le _⟩
  · intro i H2 hi ⟨acc, M', vs, _, wi, k, m, _, _, _⟩
    exact ⟨M', vs, k, m, wl i acc M' hi wi⟩
  · intro i x H2 H3 hi ⟨acc, M', us, _, wi, k, m, eA, qa, la⟩ y
    obtain ⟨d, hd, k3, m3, dx⟩ := y M' us k m (wl i acc M' (Nat.le_of_lt hi) wi)
    have kk := k.trans k3
    have hb := ws i d acc M' hd wi
    have sb : SR (hidC c A) (wipeD ρ vs) (L2.wipe σ vs) M' H3 := (s1.keepG (gg kk) m3).wipe vs
    refine gT_run hkc sb dx hb fun ρ2 σ2 hb2 s2 hl2 ho2 => ?_
    refine ⟨?_, hidC c A, ρ2, M', _, noEX, okh, s2, fun _ _ _ _ _ z => z.elim, hb2, fun b M2 H4 hb3 k4 m4 => ?_⟩
    · refine (wipe_ext hl2 fun j hj => ho2 j fun z => hj (hv j z)).trans (wipe_ext (wipe_length _ _) fun j hj => wipe_out hj)
    have kk4 := kk.trans k4
    have eA3 : H3 A = some (.lst us) := (k3.hid A (.inr rfl)).trans eA
    have eA4 : H4 A = some (.lst us) := (k4.hid A (.inr rfl)).trans eA3
    have qa4 := DenL.keep (k3.trans k4) _ _ qa
    cases b with
    | false =>
      dsimp only at hb3 ⊢
      rw [if_neg Bool.false_ne_true] at hb3 ⊢
      exact ⟨acc, M2, us, hi, hb3, kk4, m4, eA4, qa4, Nat.le_succ_of_le la⟩
    | true =>
      dsimp only at hb3 ⊢
      rw [if_pos rfl] at hb3 ⊢
      refine ⟨hidC c A, ρ2, M2, _, noEX, okh, s2.keep k4 m4, fun _ _ _ _ _ z => z.elim, hb3, fun r M3 v H5 hr rv => ?_⟩
      obtain ⟨k5, m5, dv⟩ := rv.plain
      have eA5 : H5 A = some (.lst us) := (k5.hid A (.inr rfl)).trans eA4
      have lu : us.length ≤ i := by rw [← qa.length]; exact la
      refine ⟨us, eA5, by omega, acc ++ [r.d], M3, us ++ [v], hi, hr, (kk4.trans k5).over, m5.rew, upd_same, ?_, by rw [List.length_append, List.length_singleton]; omega⟩
      exact DenL.append (DenL.keepG KeepG.rew _ _ (DenL.keep k5 _ _ qa4)) (DenL.cons (Den.keepG KeepG.rew _ _ dv) DenL.nil)
  · intro H2 ⟨acc, M', us, _, wi, k, m, eA, qa, la⟩
    exact q _ _ _ _ (wq acc M' wi) ((hide_done hA hz k m eA (by omega) qa).after k1)
end
end PL
/-! ### the rules of the small forms -/
namespace PL
open PySem PySem.Spec PyProof.Rows L2

theorem plain_ix {b : Expr} (h : notSlice b = true) : PlainIx b := by
  cases b <;> first | (intro o i; rfl) | exact absurd h Bool.false_ne_true
theorem set_it {e : Expr} {env : Env} (h : notSet e = true) : ∀ x, foldedSetIterable e env x = pure x := by
  cases e <;> first | (intro x; rfl) | exact absurd h Bool.false_ne_true
theorem vis_of {sc : Scope} {x : Str} (h : visB sc x = true) : Vis sc x := by
  unfold visB at h
  split at h
  · exact .inl (by assumption)
  · exact .inr (.inl (by assumption))
  · exact .inr (.inr (by assumption))
  · cases h
theorem loc_of {sc : Scope} {x : Str} (h : locB sc x = true) : sc.names.lookup x = some .local := by
  unfold locB at h
  split at h
  · assumption
  · cases h
theorem gl_of {X : Cx} {sc : Scope} {x : Str} (e : X.env.scope = sc) (h : glB sc x = true) : Gl X x := by
  unfold glB at h
  split at h
  · show X.env.scope.names.lookup x = some .globalImplicit
    rw [e]; assumption
  · cases h
theorem dbg_of {x : Str} (h : dbg x = true) : (x == ("__debug__" : Str)) = false := by
  unfold dbg at h
  simpa using h
section
variable {X : Cx} {S : Cs} {T : Tb} {W : WX} {ta tb tc : DTE} {tt tu : DTT} {tr : DTA} {a b e : Expr} {es : List Expr} {pos p : Pos}
theorem r_var {i : Nat} {x : Str} (hN : X.N[i]? = some x) (hv : Vis X.env.scope x) (hd : (x == ("__debug__" : Str)) = false) (hcd : (x == ("__classdict__" : Str)) = false) :
    PE X (.Name x pos) (lE S T W fun ρ M Q _ => match ρ[i]? with | some (some d) => Q (.val d) M | _ => False) := by
  refine PE.imp (pe_var hN hv hd hcd) fun σ H Q ⟨c, ρ, M, Q', E, ok, s, x, t, q⟩ => ?_
  dsimp only at t
  split at t
  · rename_i d e
    obtain ⟨v, hv, dv⟩ := s.get i d e
    exact ⟨v, hv, q _ _ _ _ t (RV.same s.mem dv)⟩
  · exact t.elim
theorem r_con {d : D} {v : V} (h : PE X e (tC v)) (hd : ∀ (c : Cn) (M : Mem) (H : Hp), S.ok c → Den c M H d v) : PE X e (lE S T W fun _ M Q _ => Q (.val d) M) :=
  PE.imp h fun σ H Q ⟨c, ρ, M, Q', E, ok, s, x, t, q⟩ => q _ _ _ _ t (RV.same s.mem (hd c M H ok))
theorem r_op {o : Operator} (hK : X.K = S.K) (ha : PE X a (lE S T W ta)) (hb : PE X b (lE S T W tb)) :
    PE X (.BinOp a o b pos) (lE S T W fun ρ M Q E => ta ρ M (fun x M1 => tb ρ M1 (fun y M2 => opS o x.d y.d M2 fun r => Q r M2) E) E) :=
  PE.imp (pe_op (or_op hK) ha hb) fun σ H Q h => lE_bin (k := kOp o) h
theorem neg_ok : UnR X (unaryOp .USub) (LV1 S fun x M Q => match x with | .int i => Q (.val (.int (-i))) M | _ => False) := by
  intro pins s σ H x v Q I r ⟨c, M, d, Q', ok, m, dv, h, q⟩
  cases d with
  | int i =>
    simp only [Den] at dv
    subst dv
    exact un_neg pins s σ H _ v Q I r ⟨i, rfl, q _ _ _ _ h (RV.same m (by simp only [Den]))⟩
  | _ => exact h.elim
theorem r_neg (ha : PE X a (lE S T W ta)) : PE X (.UnaryOp .USub a pos) (lE S T W fun ρ M Q E => ta ρ M (fun x M1 => match x.d with | .int i => Q (.val (.int (-i))) M1 | _ => False) E) :=
  PE.imp (pe_un neg_ok ha) fun σ H Q h => lE_un (k := fun x M Q => match x with | .int i => Q (.val (.int (-i))) M | _ => False) h
theorem r_cmp {o : CmpOp} (hK : X.K = S.K) (hu : X.A.units + 64 < cLine) (hm : behindInMarks o b = false) (ha : PE X a (lE S T W ta)) (hb : PE X b (lE S T W tb)) :
    PE X (.Compare a [o] [b] pos) (lE S T W fun ρ M Q E => ta ρ M (fun x M1 => tb ρ M1 (fun y M2 => cmpS o x.d y.d M2 fun k => Q (.val (.bl k)) M2) E) E) :=
  PE.imp (pe_cmpR (or_cmp hK hu) ha hb hm) fun σ H Q h => lE_bin (k := kCmp o) h
theorem cmpS_mono {o : CmpOp} {x y : D} {M : Mem} {Q Q' : Bool → Prop} (h : cmpS o x y M Q) (i : ∀ k, Q k → Q' k) : cmpS o x y M Q' := by
  have I2 : ∀ {K K' : Int → Int → Prop}, int2 x y K → (∀ i j, K i j → K' i j) → int2 x y K' := fun {K K'} h i => by
    obtain ⟨a, b, rfl, rfl, h⟩ := int2_of h
    exact i _ _ h
  have eqm : ∀ {Q Q' : Bool → Prop}, eqS x y M Q → (∀ k, Q k → Q' k) → eqS x y M Q' := fun {Q Q'} h i => by
    dsimp only [eqS] at h ⊢
    split at h <;> try exact h.elim
    split at h <;> try exact h.elim
    exact ⟨h.1, h.2.1, i _ h.2.2⟩
  have inm : ∀ {Q Q' : Bool → Prop}, inS x y M Q → (∀ k, Q k → Q' k) → inS x y M Q' := fun {Q Q'} h i => by
    dsimp only [inS] at h ⊢
    split at h
    · split at h <;> first | exact i _ h | exact h.elim
    · split at h
      · exact ⟨h.1, i _ h.2⟩
      · exact h.elim
  have ism : ∀ {Q Q' : Bool → Prop}, isS x y Q → (∀ k, Q k → Q' k) → isS x y Q' := fun {Q Q'} h i => by
    dsimp only [isS] at h ⊢
    split at h <;> first | exact i _ h | exact h.elim
  cases o with
  | Lt => exact I2 h fun _ _ => i _
  | LtE => exact I2 h fun _ _ => i _
  | Gt => exact I2 h fun _ _ => i _
  | GtE => exact I2 h fun _ _ => i _
  | Eq => exact eqm h i
  | NotEq => exact eqm (Q := fun b => Q (!b)) (Q' := fun b => Q' (!b)) h fun k => i _
  | In => exact inm h i
  | NotIn => exact inm (Q := fun b => Q (!b)) (Q' := fun b => Q' (!b)) h fun k => i _
  | Is => exact ism h i
  | IsNot => exact ism (Q := fun b => Q (!b)) (Q' := fun b => Q' (!b)) h fun k => i _
theorem r_chain {o o' : CmpOp} {c : Expr} (hK : X.K = S.K) (hu : X.A.units + 64 < cLine) (hm : behindInMarks o' c = false) (ha : PE X a (lE S T W ta)) (hb : PE X b (lE S T W tb)) (hc : PE X c (lE S T W tc)) :
    PE X (.Compare a [o, o'] [b, c] pos) (lE S T W fun ρ M Q E => ta ρ M (fun x M1 => tb ρ M1 (fun y M2 => cmpS o x.d y.d M2 fun k =>
      if k = true then tc ρ M2 (fun z M3 => cmpS o' y.d z.d M3 fun k' => Q (.val (.bl k')) M3) E else Q (.val (.bl false)) M2) E) E) := by
  refine PE.imp (pe_chain (or_cmp hK hu) (or_cmp hK hu) ha hb hc hm) fun σ H Q ⟨c, ρ, M, Q', E, ok, s, x, t, q⟩ => ⟨c, ρ, M, _, E, ok, s, x, t, fun r M1 v H1 hk rv => ?_⟩
  obtain ⟨k1, m1, d1⟩ := rv.plain
  refine ⟨c, ρ, M1, _, E, ok, s.keep k1 m1, x.after k1, hk, fun r2 M2 w H2 hk2 rv2 => ?_⟩
  obtain ⟨k2, m2, d2⟩ := rv2.plain
  have k12 := k1.trans k2
  refine ⟨c, M2, r.d, r2.d, fun r' M' => ∃ k, r' = .val (.bl k) ∧ M' = M2 ∧ if k = true then tc ρ M2 (fun z M3 => cmpS o' r2.d z.d M3 fun k' => Q' (.val (.bl k')) M3) E else Q' (.val (.bl false)) M2, ok, m2, Den.keep k2 _ _ d1, d2, cmpS_mono hk2 fun k h => ⟨k, rfl, rfl, h⟩, fun r' M' v' H' h3 rv3 => ?_⟩
  obtain ⟨k, rfl, rfl, h3⟩ := h3
  obtain ⟨k3, m3, d3⟩ := rv3
  simp only [Den] at d3
  subst d3
  refine ⟨k, rfl, ?_⟩
  cases k with
  | false =>
    rw [if_neg Bool.false_ne_true] at h3 ⊢
    exact q _ _ _ _ h3 ⟨k12.trans k3, m3, by simp only [R.d, Den]⟩
  | true =>
    rw [if_pos rfl] at h3 ⊢
    refine ⟨c, ρ, M', _, E, ok, s.keep (k12.trans k3) m3, x.after (k12.trans k3), h3, fun r4 M4 w4 H4 hk4 rv4 => ?_⟩
    obtain ⟨k4, m4, d4⟩ := rv4.plain
    exact ⟨c, M4, r2.d, r4.d, _, ok, m4, Den.keep (k3.trans k4) _ _ d2, d4, hk4, fun r' M' v' H' h1 h2 => q r' M' v' H' h1 (h2.after ((k12.trans k3).trans k4))⟩
/-- a truth test behind a value -/
def bT (t : DTE) : DTT := fun ρ M Q E => t ρ M (fun x M1 => truS x.d M1 fun k => Q k M1) E
theorem rt_val (hK : X.K = S.K) (ha : PE X a (lE S T W ta)) (he : ∀ whole, isTrue a X.env whole = (do let v ← whole; standAt a.pos; holding [v] (truthy v))) : PT X a (lT S T W (bT ta)) := by
  refine PT.imp (pt_truth ha he) fun σ H Q ⟨c, ρ, M, Q', E, ok, s, x, t, q⟩ => ⟨c, ρ, M, _, E, ok, s, x, t, fun r M1 v H1 hk rv => ?_⟩
  obtain ⟨k1, m1, d1⟩ := rv.plain
  obtain ⟨k, tv, h⟩ := tru_v (ok.1.trans hK.symm) m1 d1 hk
  exact ⟨k, tv, q _ _ _ h k1 m1⟩
theorem rt_cmp {o : CmpOp} (hK : X.K = S.K) (hu : X.A.units + 64 < cLine) (hm : behindInMarks o b = false) (ha : PE X a (lE S T W ta)) (hb : PE X b (lE S T W tb)) :
    PT X (.Compare a [o] [b] pos) (lT S T W (bT fun ρ M Q E => ta ρ M (fun x M1 => tb ρ M1 (fun y M2 => cmpS o x.d y.d M2 fun k => Q (.val (.bl k)) M2) E) E)) := by
  refine PT.imp (pt_cmpR (or_cmp hK hu) ha hb hm) fun σ H Q ⟨c, ρ, M, Q', E, ok, s, x, t, q⟩ => ⟨c, ρ, M, _, E, ok, s, x, t, fun r M1 v H1 hk rv => ?_⟩
  obtain ⟨k1, m1, d1⟩ := rv.plain
  refine ⟨c, ρ, M1, _, E, ok, s.keep k1 m1, x.after k1, hk, fun r2 M2 w H2 hk2 rv2 => ?_⟩
  obtain ⟨k2, m2, d2⟩ := rv2.plain
  refine ⟨c, M2, r.d, r2.d, fun r' M' => ∃ k, r' = .val (.bl k) ∧ Q' k M', ok, m2, Den.keep k2 _ _ d1, d2, cmpS_mono hk2 fun k h => ⟨k, rfl, h⟩, fun r' M' v' H' ⟨k, e, h1⟩ h2 => ?_⟩
  subst e
  obtain ⟨k3, m3, d3⟩ := h2
  simp only [Den] at d3
  exact ⟨k, d3, q _ _ _ h1 ((k1.trans k2).trans k3) m3⟩
theorem rt_chain {o o' : CmpOp} {c : Expr} (hK : X.K = S.K) (hu : X.A.units + 64 < cLine) (hm : behindInMarks o' c = false) (ha : PE X a (lE S T W ta)) (hb : PE X b (lE S T W tb)) (hc : PE X c (lE S T W tc)) :
    PT X (.Compare a [o, o'] [b, c] pos) (lT S T W (bT fun ρ M Q E => ta ρ M (fun x M1 => tb ρ M1 (fun y M2 => cmpS o x.d y.d M2 fun k =>
      if k = true then tc ρ M2 (fun z M3 => cmpS o' y.d z.d M3 fun k' => Q (.val (.bl k')) M3) E else Q (.val (.bl false)) M2) E) E)) := by
  refine PT.imp (pt_chain (or_cmp hK hu) (or_cmp hK hu) ha hb hc hm) fun σ H Q ⟨c, ρ, M, Q', E, ok, s, x, t, q⟩ => ⟨c, ρ, M, _, E, ok, s, x, t, fun r M1 v H1 hk rv => ?_⟩
  obtain ⟨k1, m1, d1⟩ := rv.plain
  refine ⟨c, ρ, M1, _, E, ok, s.keep k1 m1, x.after k1, hk, fun r2 M2 w H2 hk2 rv2 => ?_⟩
  obtain ⟨k2, m2, d2⟩ := rv2.plain
  have k12 := k1.trans k2
  refine ⟨c, M2, r.d, r2.d, fun r' M' => ∃ k, r' = .val (.bl k) ∧ M' = M2 ∧ if k = true then tc ρ M2 (fun z M3 => cmpS o' r2.d z.d M3 fun k' => Q' k' M3) E else Q' false M2, ok, m2, Den.keep k2 _ _ d1, d2, cmpS_mono hk2 fun k h => ⟨k, rfl, rfl, h⟩, fun r' M' v' H' h3 rv3 => ?_⟩
  obtain ⟨k, rfl, rfl, h3⟩ := h3
  obtain ⟨k3, m3, d3⟩ := rv3
  simp only [Den] at d3
  subst d3
  refine ⟨k, rfl, ?_⟩
  cases k with
  | false =>
    rw [if_neg Bool.false_ne_true] at h3 ⊢
    exact ⟨false, rfl, q _ _ _ h3 (k12.trans k3) m3⟩
  | true =>
    rw [if_pos rfl] at h3 ⊢
    refine ⟨c, ρ, M', _, E, ok, s.keep (k12.trans k3) m3, x.after (k12.trans k3), h3, fun r4 M4 w4 H4 hk4 rv4 => ?_⟩
    obtain ⟨k4, m4, d4⟩ := rv4.plain
    refine ⟨c, M4, r2.d, r4.d, fun r' M' => ∃ k, r' = .val (.bl k) ∧ Q' k M', ok, m4, Den.keep (k3.trans k4) _ _ d2, d4, cmpS_mono hk4 fun k h => ⟨k, rfl, h⟩, fun r' M' v' H' ⟨k, e, h1⟩ h2 => ?_⟩
    subst e
    obtain ⟨k5, m5, d5⟩ := h2
    simp only [Den] at d5
    exact ⟨k, d5, q _ _ _ h1 (((k12.trans k3).trans k4).trans k5) m5⟩
theorem rw_and {rest : List Expr} {t1 t2 : DTT} (ha : PT X a (lT S T W t1)) (hb : PW X (.BoolOp .And (b :: rest) pos) (lT S T W t2)) :
    PW X (.BoolOp .And (a :: b :: rest) pos) (lT S T W fun ρ M Q E => t1 ρ M (fun k M1 => if k = true then t2 ρ M1 Q E else Q false M1) E) := by
  refine ⟨fun wh pins s σ H Q I ⟨c, ρ, M, Q', E, ok, sr, x, t, q⟩ => (pw_and ha hb).run wh pins s σ H Q I ⟨c, ρ, M, _, E, ok, sr, x, t, fun k M1 H1 hk k1 m1 => ?_⟩⟩
  cases k with
  | true => exact ⟨c, ρ, M1, _, E, ok, sr.keep k1 m1, x.after k1, hk, fun r' M' H' h1 h2 h3 => q r' M' H' h1 (k1.trans h2) h3⟩
  | false => exact q _ _ _ hk k1 m1
theorem rw_or {rest : List Expr} {t1 t2 : DTT} (ha : PT X a (lT S T W t1)) (hb : PW X (.BoolOp .Or (b :: rest) pos) (lT S T W t2)) :
    PW X (.BoolOp .Or (a :: b :: rest) pos) (lT S T W fun ρ M Q E => t1 ρ M (fun k M1 => if k = true then Q true M1 else t2 ρ M1 Q E) E) := by
  refine ⟨fun wh pins s σ H Q I ⟨c, ρ, M, Q', E, ok, sr, x, t, q⟩ => (pw_or ha hb).run wh pins s σ H Q I ⟨c, ρ, M, _, E, ok, sr, x, t, fun k M1 H1 hk k1 m1 => ?_⟩⟩
  cases k with
  | true => exact q _ _ _ hk k1 m1
  | false => exact ⟨c, ρ, M1, _, E, ok, sr.keep k1 m1, x.after k1, hk, fun r' M' H' h1 h2 h3 => q r' M' H' h1 (k1.trans h2) h3⟩
theorem rt_not {t1 : DTT} (ha : PT X a (lT S T W t1)) : PT X (.UnaryOp .Not a pos) (lT S T W fun ρ M Q E => t1 ρ M (fun k M1 => Q (!k) M1) E) :=
  PT.imp (pt_not ha) fun σ H Q ⟨c, ρ, M, Q', E, ok, sr, x, t, q⟩ => ⟨c, ρ, M, _, E, ok, sr, x, t, fun k M1 H1 hk k1 m1 => q _ _ _ hk k1 m1⟩
theorem r_and {rest : List Expr} (ha : PE X a (lE S T W ta)) (hb : PE X (.BoolOp .And (b :: rest) pos) (lE S T W tb)) :
    PE X (.BoolOp .And (a :: b :: rest) pos) (lE S T W fun ρ M Q E => ta ρ M (fun x M1 => match x.d with | .bl k => if k = true then tb ρ M1 Q E else Q (.val (.bl false)) M1 | _ => False) E) := by
  refine PE.imp (pe_and ha hb) fun σ H Q ⟨c, ρ, M, Q', E, ok, s, x, t, q⟩ => ⟨c, ρ, M, _, E, ok, s, x, t, fun r M1 v H1 hk rv => ?_⟩
  obtain ⟨k1, m1, d1⟩ := rv.plain
  split at hk
  · rename_i k e
    rw [e] at d1
    simp only [Den] at d1
    subst d1
    refine ⟨k, rfl, ?_⟩
    cases k with
    | true => exact ⟨c, ρ, M1, _, E, ok, s.keep k1 m1, x.after k1, hk, fun r' M' v' H' h1 h2 => q r' M' v' H' h1 (h2.after k1)⟩
    | false => exact q _ _ _ _ hk ⟨k1, m1, by simp only [R.d, Den]⟩
  · exact hk.elim
theorem r_or {rest : List Expr} (ha : PE X a (lE S T W ta)) (hb : PE X (.BoolOp .Or (b :: rest) pos) (lE S T W tb)) :
    PE X (.BoolOp .Or (a :: b :: rest) pos) (lE S T W fun ρ M Q E => ta ρ M (fun x M1 => match x.d with | .bl k => if k = true then Q (.val (.bl true)) M1 else tb ρ M1 Q E | _ => False) E) := by
  refine PE.imp (pe_or ha hb) fun σ H Q ⟨c, ρ, M, Q', E, ok, s, x, t, q⟩ => ⟨c, ρ, M, _, E, ok, s, x, t, fun r M1 v H1 hk rv => ?_⟩
  obtain ⟨k1, m1, d1⟩ := rv.plain
  split at hk
  · rename_i k e
    rw [e] at d1
    simp only [Den] at d1
    subst d1
    refine ⟨k, rfl, ?_⟩
    cases k with
    | false => exact ⟨c, ρ, M1, _, E, ok, s.keep k1 m1, x.after k1, hk, fun r' M' v' H' h1 h2 => q r' M' v' H' h1 (h2.after k1)⟩
    | true => exact q _ _ _ _ hk ⟨k1, m1, by simp only [R.d, Den]⟩
  · exact hk.elim
theorem r_not (hK : X.K = S.K) (ha : PE X a (lE S T W ta)) : PE X (.UnaryOp .Not a pos) (lE S T W fun ρ M Q E => ta ρ M (fun x M1 => truS x.d M1 fun k => Q (.val (.bl (!k))) M1) E) := by
  refine PE.imp (pe_notT ha) fun σ H Q ⟨c, ρ, M, Q', E, ok, s, x, t, q⟩ => ⟨c, ρ, M, _, E, ok, s, x, t, fun r M1 v H1 hk rv => ?_⟩
  obtain ⟨k1, m1, d1⟩ := rv.plain
  obtain ⟨k, tv, h⟩ := tru_v (ok.1.trans hK.symm) m1 d1 hk
  exact ⟨k, tv, q _ _ _ _ h ⟨k1, m1, by simp only [R.d, Den]⟩⟩
theorem r_ite {c : Expr} (hc : PT X c (lT S T W tt)) (ha : PE X a (lE S T W ta)) (hb : PE X b (lE S T W tb)) :
    PE X (.IfExp c a b pos) (lE S T W fun ρ M Q E => tt ρ M (fun k M1 => if k = true then ta ρ M1 Q E else tb ρ M1 Q E) E) := by
  refine PE.imp (pe_ifExp hc ha hb) fun σ H Q ⟨c, ρ, M, Q', E, ok, s, x, t, q⟩ => ⟨c, ρ, M, _, E, ok, s, x, t, fun k M1 H1 hk k1 m1 => ?_⟩
  cases k with
  | true => exact ⟨c, ρ, M1, _, E, ok, s.keep k1 m1, x.after k1, hk, fun r' M' v' H' h1 h2 => q r' M' v' H' h1 (h2.after k1)⟩
  | false => exact ⟨c, ρ, M1, _, E, ok, s.keep k1 m1, x.after k1, hk, fun r' M' v' H' h1 h2 => q r' M' v' H' h1 (h2.after k1)⟩
theorem r_tup {k : Nat} (ha : PA X es (lA S T W es.length tr)) (hl : es.length ≤ 1000) : PE X (.Tuple es k pos) (lE S T W fun ρ M Q E => tr ρ M (fun ds M1 => Q (.val (.tup ds)) M1) E) := by
  refine PE.imp (pe_tup ha) fun σ H Q ⟨c, ρ, M, Q', E, ok, s, x, t, q⟩ => ⟨c, ρ, M, _, E, ok, s, x, t, fun ds M1 vs H1 hn hk k1 m1 d1 => ?_⟩
  have hs : sizeLine = 16777216 := sizeLine_eq
  have l := d1.length
  exact ⟨by omega, fun p hp => q _ _ _ _ hk ((den_tup m1 hp (by omega) d1).after k1)⟩
theorem r_lst (ha : PA X es (lA S T W es.length tr)) (hl : es.length ≤ 1000) : PE X (.List es pos) (lE S T W fun ρ M Q E => tr ρ M (fun ds M1 => Q (.new (.lst ds)) M1) E) := by
  refine PE.imp (pe_lst ha) fun σ H Q ⟨c, ρ, M, Q', E, ok, s, x, t, q⟩ => ⟨c, ρ, M, _, E, ok, s, x, t, fun ds M1 vs H1 hn hk k1 m1 d1 => ?_⟩
  have hs : sizeLine = 16777216 := sizeLine_eq
  have l := d1.length
  exact ⟨by omega, fun p hp => q _ _ _ _ hk ((RV.fresh (o := .lst ds) (u := .lst vs) m1 hp ⟨_, rfl, by omega, d1⟩).after k1)⟩
theorem r_ix (hK : X.K = S.K) (hs : notSlice b = true) (ha : PE X a (lE S T W ta)) (hb : PE X b (lE S T W tb)) :
    PE X (.Subscript a b pos) (lE S T W fun ρ M Q E => ta ρ M (fun x M1 => tb ρ M1 (fun y M2 => ixS x.d y.d M2 fun d => Q (.val d) M2) E) E) :=
  PE.imp (pe_ix (ir_ix hK) ha hb (plain_ix hs)) fun σ H Q h => lE_bin (k := kIx) h
theorem po_n : PO X none (lO S T W fun _ M Q _ => Q none M) := by
  refine ⟨fun pins s σ H Q I ⟨c, ρ, M, Q', E, ok, sr, x, t, q⟩ => ?_⟩
  exact po_none.run pins s σ H Q I (q _ _ _ t (Keep.refl _ _ _) sr.mem)
theorem po_s (ha : PE X a (lE S T W ta)) : PO X (some a) (lO S T W fun ρ M Q E => ta ρ M (fun x M1 => match x.d with | .int i => Q (some i) M1 | _ => False) E) := by
  refine ⟨fun pins s σ H Q I ⟨c, ρ, M, Q', E, ok, sr, x, t, q⟩ => ?_⟩
  refine (po_some ha).run pins s σ H Q I ⟨c, ρ, M, _, E, ok, sr, x, t, fun r M1 v H1 hk rv => ?_⟩
  obtain ⟨k1, m1, d1⟩ := rv.plain
  split at hk
  · rename_i i e
    rw [e] at d1
    simp only [Den] at d1
    exact ⟨i, d1, q _ _ _ hk k1 m1⟩
  · exact hk.elim
theorem r_slice {lo hi : Option Expr} {tl th : Sd → Mem → (Option Int → Mem → Prop) → EX → Prop} {p2 : Pos} (hK : X.K = S.K) (ha : PE X a (lE S T W ta)) (hl : PO X lo (lO S T W tl)) (hh : PO X hi (lO S T W th)) :
    PE X (.Subscript a (.Slice lo hi none p2) pos) (lE S T W fun ρ M Q E => ta ρ M (fun x M1 => tl ρ M1 (fun l M2 => th ρ M2 (fun h M3 => slS x.d l h M3 fun r => Q r M3) E) E) E) := by
  refine PE.imp (pe_slice (sr_sl hK) ha hl hh) fun σ H Q ⟨c, ρ, M, Q', E, ok, s, x, t, q⟩ => ⟨c, ρ, M, _, E, ok, s, x, t, fun r M1 v H1 hk rv => ?_⟩
  obtain ⟨k1, m1, d1⟩ := rv.plain
  refine ⟨c, ρ, M1, _, E, ok, s.keep k1 m1, x.after k1, hk, fun l M2 H2 hk2 k2 m2 => ?_⟩
  refine ⟨c, ρ, M2, _, E, ok, s.keep (k1.trans k2) m2, x.after (k1.trans k2), hk2, fun h M3 H3 hk3 k3 m3 => ?_⟩
  exact ⟨c, M3, r.d, _, ok, m3, Den.keep (k2.trans k3) _ _ d1, hk3, fun r' M' v' H' h1 h2 => q r' M' v' H' h1 (h2.after ((k1.trans k2).trans k3))⟩
theorem boot_fn (f : Fn) : bootBuiltins f.name = some f.val := by cases f <;> decide +kernel
theorem nm_fn (f : Fn) : f.name ≠ "__name__" ∧ (f.name == ("__debug__" : Str)) = false := by cases f <;> decide +kernel
theorem r_fn {f : Fn} (hc : X.calm = true) (hK : X.K = S.K) (hg : Gl X f.name) (hm : X.mg f.name = none) (hn : (e :: es).all notStar = true) (ha : PA X (e :: es) (lA S T W (e :: es).length tr)) :
    PE X (.Call (.Name f.name p) (e :: es) [] pos) (lE S T W fun ρ M Q E => tr ρ M (fun ds M1 => fnS f ds M1 fun r => Q r M1) E) := by
  obtain ⟨n1, n2⟩ := nm_fn f
  have b := boot_fn f
  have h1 : notStar e = true := by simp only [List.all_cons, Bool.and_eq_true] at hn; exact hn.1
  have h2 : es.all notStar = true := by simp only [List.all_cons, Bool.and_eq_true] at hn; exact hn.2
  have cr := cr_fn (S := S) (X := X) (f := f) hc hK
  have fin : ∀ σ H Q, lE S T W (fun ρ M Q E => tr ρ M (fun ds M1 => fnS f ds M1 fun r => Q r M1) E) σ H Q → tCB (LVn S (kFn f)) (lA S T W (e :: es).length tr) σ H Q := fun σ H Q h => lA_fn (k := kFn f) h
  cases f with
  | int => exact PE.imp (pe_callTy cr hg hm b ha n1 n2 (star_cons h1) (star_any h2)) fin
  | str => exact PE.imp (pe_callTy cr hg hm b ha n1 n2 (star_cons h1) (star_any h2)) fin
  | list => exact PE.imp (pe_callTy cr hg hm b ha n1 n2 (star_cons h1) (star_any h2)) fin
  | tuple => exact PE.imp (pe_callTy cr hg hm b ha n1 n2 (star_cons h1) (star_any h2)) fin
  | len => exact PE.imp (pe_callB cr hg hm b ha n1 n2 (star_cons h1) (star_any h2)) fin
  | lenB => exact PE.imp (pe_callB cr hg hm b ha n1 n2 (star_cons h1) (star_any h2)) fin
  | all => exact PE.imp (pe_callB cr hg hm b ha n1 n2 (star_cons h1) (star_any h2)) fin
  | any => exact PE.imp (pe_callB cr hg hm b ha n1 n2 (star_cons h1) (star_any h2)) fin
  | max2 => exact PE.imp (pe_callB cr hg hm b ha n1 n2 (star_cons h1) (star_any h2)) fin
  | min2 => exact PE.imp (pe_callB cr hg hm b ha n1 n2 (star_cons h1) (star_any h2)) fin
  | abs => exact PE.imp (pe_callB cr hg hm b ha n1 n2 (star_cons h1) (star_any h2)) fin
  | sum => exact PE.imp (pe_callB cr hg hm b ha n1 n2 (star_cons h1) (star_any h2)) fin
theorem Mt.pa (m : Mt) : PlainAttrs m.ty := by cases m <;> first | exact PySem.F.plainAttrs_list | exact PySem.F.plainAttrs_str
theorem Mt.slot (m : Mt) : Slot m.ty (mtNm m) m.id_ := by
  cases m <;> first | exact slot_list_append | exact PySem.F.slot_list_pop | exact PySem.F.slot_str_join
theorem Mt.tyof (m : Mt) : typeOf (.builtin m.id_) = pure (.type "method_descriptor") := by
  cases m <;> first | exact type_list_append | exact PySem.F.type_list_pop | exact PySem.F.type_str_join
theorem few_of {args : List Expr} {env : Env} {cpos : Pos} (hs : args.all notStar = true) (hf : args.length < 30) : ((backTo cpos (starEach args env)).all (fun x => !x.1) && (backToKw cpos (keywordEach [] env)).all (fun x => x.1.isSome)
      && decide (args.length + ([] : List Keyword).length + (if ([] : List Keyword).isEmpty then 0 else 1) < 30)) = true := by
  rw [star_all hs]
  have : decide (args.length + ([] : List Keyword).length + (if ([] : List Keyword).isEmpty then 0 else 1) < 30) = true := by
    simp only [List.length_nil, List.isEmpty_nil, if_pos, Nat.add_zero, decide_eq_true_eq]
    exact hf
  rw [this]
  rfl
/-- a method's end, at plain data -/
theorem lm_fn {m : Mt} {n : Nat} {σ : L2.St} {H : Hp} {Q : VK} (hK : X.K = S.K) (h : lE S T W (fun ρ M Q E => ta ρ M (fun x M1 => mtTy m x.d M1 = true ∧ tr ρ M1 (fun ds M2 => mtS m x.d ds M2 Q) E) E) σ H Q) :
    lE S T W ta σ H fun v H1 => tyV X.K m.ty v H1 ∧ lA S T W n tr σ H1 fun vs H2 => LVm S m v vs H2 Q := by
  obtain ⟨c, ρ, M, Q', E, ok, s, x, t, q⟩ := h
  refine ⟨c, ρ, M, _, E, ok, s, x, t, fun r M1 v H1 hk rv => ?_⟩
  obtain ⟨k1, m1, d1⟩ := rv.plain
  refine ⟨mt_ty (ok.1.trans hK.symm) m1 d1 hk.1, c, ρ, M1, _, E, ok, s.keep k1 m1, x.after k1, hk.2, fun ds M2 vs H2 _ hk2 k2 m2 d2 => ?_⟩
  exact ⟨c, M2, r.d, ds, _, ok, m2, Den.keep k2 _ _ d1, d2, hk2, fun r' M' v' H' h1 h2 => q r' M' v' H' h1 (h2.after (k1.trans k2))⟩
theorem r_mt {m : Mt} {apos : Pos} (hK : X.K = S.K) (hb : noSuper a = true) (hl : lineB apos pos = true) (hn : es.all notStar = true) (hf : es.length < 30) (ho : PE X a (lE S T W ta)) (ha : PA X es (lA S T W es.length tr)) (ha0 : es = [] → ∀ ρ M Q E, tr ρ M Q E → Q [] M) :
    PE X (.Call (.Attribute a (mtNm m) apos) es [] pos) (lE S T W fun ρ M Q E => ta ρ M (fun x M1 => mtTy m x.d M1 = true ∧ tr ρ M1 (fun ds M2 => mtS m x.d ds M2 Q) E) E) := by
  cases es with
  | nil =>
    refine PE.imp (pe_bm0 (Mt.pa m) (Mt.slot m) (Mt.tyof m) (mr_mt hK) ho (base_of hb) hl) fun σ H Q h => ?_
    obtain ⟨c, ρ, M, Q', E, ok, s, x, t, q⟩ := lm_fn (n := 0) hK h
    refine ⟨c, ρ, M, Q', E, ok, s, x, t, fun r M' v H' h1 h2 => ?_⟩
    obtain ⟨y1, y2⟩ := q r M' v H' h1 h2
    exact ⟨y1, lA_nil0 (ha0 rfl) y2⟩
  | cons e es =>
    have h1 : notStar e = true := by simp only [List.all_cons, Bool.and_eq_true] at hn; exact hn.1
    have h2 : es.all notStar = true := by simp only [List.all_cons, Bool.and_eq_true] at hn; exact hn.2
    exact PE.imp (pe_bm (Mt.pa m) (Mt.slot m) (Mt.tyof m) (mr_mt hK) ho ha (base_of hb) (few_of hn hf) hl (star_cons h1) (star_any h2)) fun σ H Q h => lm_fn hK h
theorem fld_of {nc : Nat → Bool} {at_ : Nat → List Str} {x : D} {f : Str} {M : Mem} {Q : D → Prop} (h : fldS nc at_ x f M Q) : ∃ k ns xs d, asI M x = some (k, ns, xs) ∧ (ns.zip xs).lookup f = some d ∧ nc k = true ∧ f ∈ at_ k ∧ Q d := by
  unfold fldS at h
  split at h
  · rename_i k ns xs e
    obtain ⟨h1, h⟩ := h
    obtain ⟨d, e2, h⟩ := opt_of h
    rw [Bool.and_eq_true] at h1
    exact ⟨k, ns, xs, d, e, e2, h1.1, by simpa using h1.2, h⟩
  · exact h.elim
theorem lookup_zipD {c : Cn} {M : Mem} {H : Hp} {f : Str} {d : D} : ∀ {ns : List Str} {xs : List D} {vs : List V}, DenL c M H xs vs → (ns.zip xs).lookup f = some d → ∃ v, (ns.zip vs).lookup f = some v ∧ Den c M H d v
  | [], _, _, _, e => by simp at e
  | n :: ns, [], _, _, e => by simp at e
  | n :: ns, x :: xs, _, q, e => by
    simp only [DenL] at q
    obtain ⟨v, r, rfl, h1, h2⟩ := q
    rw [List.zip_cons_cons, List.lookup_cons] at e ⊢
    cases hb : f == n with
    | true => rw [hb] at e; cases e; exact ⟨v, rfl, h1⟩
    | false => rw [hb] at e; exact lookup_zipD h2 e
theorem lookup_mem {α : Type} {f : Str} {d : α} : ∀ {ns : List Str} {xs : List α}, (ns.zip xs).lookup f = some d → f ∈ ns
  | [], _, e => by simp at e
  | n :: ns, [], e => by simp at e
  | n :: ns, x :: xs, e => by
    rw [List.zip_cons_cons, List.lookup_cons] at e
    cases hb : f == n with
    | true => rw [beq_iff_eq.mp hb]; exact List.mem_cons_self
    | false => rw [hb] at e; exact List.mem_cons_of_mem _ (lookup_mem e)
theorem r_fld {f : Str} (hK : X.K = S.K) (hb : noSuper a = true) (hcl : ∀ k, T.nc k = true → ClsOk S.K (S.cA k) (T.at_ k)) (ha : PE X a (lE S T W ta)) :
    PE X (.Attribute a f pos) (lE S T W fun ρ M Q E => ta ρ M (fun x M1 => fldS T.nc T.at_ x.d f M1 fun d => Q (.val d) M1) E) := by
  refine PE.imp (pe_fld ha (base_of hb)) fun σ H Q ⟨c, ρ, M, Q', E, ok, s, x, t, q⟩ => ⟨c, ρ, M, _, E, ok, s, x, t, fun r M1 v H1 hk rv => ?_⟩
  obtain ⟨k1, m1, d1⟩ := rv.plain
  obtain ⟨k, ns, xs, d, e1, e2, hk1, hk2, h⟩ := fld_of hk
  obtain ⟨a0, dx, vs, rfl, hv, r1, l1⟩ := asI_at m1 d1 e1
  obtain ⟨w, hw, dw⟩ := lookup_zipD r1 e2
  have C := hcl k hk1
  rw [ok.2] at hv
  rw [hK]
  exact ⟨a0, _, dx, _, w, rfl, hv, C.cl, C.na f hk2, hw, q _ _ _ _ h ⟨k1, m1, dw⟩⟩
theorem r_tupRev {p2 pos2 : Pos} (hK : X.K = S.K) (hc : X.calm = true) (hg : Gl X "tuple") (hm : X.mg "tuple" = none) (hg2 : Gl X "reversed") (hm2 : X.mg "reversed" = none) (hn : notStar a = true) (ha : PE X a (lE S T W ta)) :
    PE X (.Call (.Name "tuple" p) [.Call (.Name "reversed" p2) [a] [] pos2] [] pos) (lE S T W fun ρ M Q E => ta ρ M (fun x M1 => match asL M1 x.d with | some xs => Q (.val (.tup xs.reverse)) M1 | none => False) E) := by
  refine PE.imp (RT.pe_tupRev hc hg hm hg2 hm2 ha (star_cons hn)) fun σ H Q ⟨c, ρ, M, Q', E, ok, s, x, t, q⟩ => ⟨c, ρ, M, _, E, ok, s, x, t, fun r M1 v H1 hk rv => ?_⟩
  obtain ⟨k1, m1, d1⟩ := rv.plain
  split at hk
  · rename_i xs e
    obtain ⟨b, vs, rfl, rd, r, l⟩ := asL_at (ok.1.trans hK.symm) m1 d1 e
    refine ⟨b, vs, rfl, rd, fun p hp => q _ _ _ _ hk ((den_tup m1 hp (by rw [List.length_reverse]; exact l) ?_).after k1)⟩
    refine DenL.of_get (by rw [List.length_reverse, List.length_reverse, r.length]) fun i x v hx hv => ?_
    have hi : i < xs.length := by
      have := (List.getElem?_eq_some_iff.mp hx).1
      simpa using this
    rw [List.getElem?_reverse hi] at hx
    rw [List.getElem?_reverse (by rw [← r.length]; exact hi), ← r.length] at hv
    obtain ⟨w, hw, dw⟩ := r.get hx
    rw [hv] at hw
    cases hw
    exact dw
  · exact hk.elim
theorem prgA1 {t : TA} (hg : Gl X "range") (hm : X.mg "range" = none) (hn : notStar a = true) (ha : PA X [a] t) : PRg X (.Call (.Name "range" p) [a] [] pos) (fun σ H Q => t σ H fun vs H1 => ∃ n, vs = [.int n] ∧ Q 0 n H1) := by
  intro pins s σ H Q I h
  refine Call_ (ld_blt I hg hm boot_range (PyProof.Rows.callWith_type1 (thn (ha.run pos pins s σ H _ I h) fun us s1 ⟨vs, H1, I1, r1, n, e, q1⟩ => ?_) (star_cons hn) rfl))
  subst e
  cases r1 with
  | cons r rr =>
    cases rr
    obtain ⟨t, rfl⟩ := r
    exact call_range_1 ⟨_, 0, n, _, _, _, H1, rfl, IsRange.new _ _ _ _ _ _ _, I1.kept fun b u e => Heap.get?_push_of_some _ e, q1⟩
theorem prgA2 {t : TA} (hg : Gl X "range") (hm : X.mg "range" = none) (hn : notStar a = true) (hn2 : notStar b = true) (ha : PA X [a, b] t) : PRg X (.Call (.Name "range" p) [a, b] [] pos) (fun σ H Q => t σ H fun vs H1 => ∃ i j, vs = [.int i, .int j] ∧ Q i j H1) := by
  intro pins s σ H Q I h
  refine Call_ (ld_blt I hg hm boot_range (PyProof.Rows.callWith_type1 (thn (ha.run pos pins s σ H _ I h) fun us s1 ⟨vs, H1, I1, r1, i, j, e, q1⟩ => ?_) (star_cons hn) (by rw [star_cons hn2]; rfl)))
  subst e
  cases r1 with
  | cons r rr =>
    cases rr with
    | cons r2 rr =>
      cases rr
      obtain ⟨t, rfl⟩ := r
      obtain ⟨t', rfl⟩ := r2
      exact call_range_2 ⟨_, i, j, _, _, _, H1, rfl, IsRange.new _ _ _ _ _ _ _, I1.kept fun b u e => Heap.get?_push_of_some _ e, q1⟩
theorem den_rg {c : Cn} {M : Mem} {H : Hp} {i j : Int} : DenL c M H (rangeD i j) (rgV i j) := by
  unfold rangeD rgV
  refine DenL.of_get (by rw [List.length_map, List.length_map]) fun k x v hx hv => ?_
  rw [List.getElem?_map] at hx hv
  cases e : (List.range (j - i).toNat)[k]? with
  | none => rw [e] at hx; cases hx
  | some m => rw [e] at hx hv; cases hx; cases hv; simp only [Den]
theorem rg_fin {c : Cn} {M M1 : Mem} {H H1 : Hp} {i j : Int} {Q' : QR} {Q : VK} (m1 : MR c M1 H1) (k1 : Keep c M H M1 H1) (hb : j - i ≤ 16777216) (h : Q' (.val (.tup (rangeD i j))) M1) (q : ∀ r M' v H', Q' r M' → RV c M H M' H' r v → Q v H') (p : Addr) (hp : H1 p = none) : Q (.ref p) (upd H1 p (.tup (rgV i j))) := by
  have hs : sizeLine = 16777216 := sizeLine_eq
  exact q _ _ _ _ h ((den_tup m1 hp (by unfold rangeD; rw [List.length_map, List.length_range]; omega) den_rg).after k1)
theorem r_tupRange1 {p2 pos2 : Pos} (hc : X.calm = true) (hg : Gl X "tuple") (hm : X.mg "tuple" = none) (hg2 : Gl X "range") (hm2 : X.mg "range" = none) (hn : notStar a = true) (ha : PA X [a] (lA S T W 1 tr)) :
    PE X (.Call (.Name "tuple" p) [.Call (.Name "range" p2) [a] [] pos2] [] pos) (lE S T W fun ρ M Q E => tr ρ M (fun ds M1 => rgS ds fun xs => Q (.val (.tup xs)) M1) E) := by
  refine PE.imp (pe_tupRg hc hg hm (prgA1 hg2 hm2 hn ha)) fun σ H Q ⟨c, ρ, M, Q', E, ok, s, x, t, q⟩ => ⟨c, ρ, M, _, E, ok, s, x, t, fun ds M1 vs H1 hl hk k1 m1 d1 => ?_⟩
  rcases rg_of hk with ⟨n, rfl, hb, hk⟩ | ⟨a, b, rfl, _⟩
  · obtain ⟨v, rfl, dv⟩ := d1.one
    simp only [Den] at dv
    subst dv
    exact ⟨n, rfl, ⟨by omega, by omega, by omega, by omega, by omega⟩, rg_fin m1 k1 (by omega) hk q⟩
  · simp at hl
theorem r_tupRange2 {p2 pos2 : Pos} (hc : X.calm = true) (hg : Gl X "tuple") (hm : X.mg "tuple" = none) (hg2 : Gl X "range") (hm2 : X.mg "range" = none) (hn : notStar a = true) (hn2 : notStar b = true) (ha : PA X [a, b] (lA S T W 2 tr)) :
    PE X (.Call (.Name "tuple" p) [.Call (.Name "range" p2) [a, b] [] pos2] [] pos) (lE S T W fun ρ M Q E => tr ρ M (fun ds M1 => rgS ds fun xs => Q (.val (.tup xs)) M1) E) := by
  refine PE.imp (pe_tupRg hc hg hm (prgA2 hg2 hm2 hn hn2 ha)) fun σ H Q ⟨c, ρ, M, Q', E, ok, s, x, t, q⟩ => ⟨c, ρ, M, _, E, ok, s, x, t, fun ds M1 vs H1 hl hk k1 m1 d1 => ?_⟩
  rcases rg_of hk with ⟨n, rfl, _⟩ | ⟨i, j, rfl, hb, hk⟩
  · simp at hl
  · obtain ⟨v, w, rfl, dv, dw⟩ := d1.two
    simp only [Den] at dv dw
    subst dv dw
    exact ⟨i, j, rfl, ⟨by omega, by omega, by omega, by omega, by omega⟩, rg_fin m1 k1 (by omega) hk q⟩

/-! ### isinstance -/
def tyN : Ty → V
  | .cls _ => .non
  | t => .ty t.name
/-- a class's name in the text gives its object -/
structure TyAt (X : Cx) (S : Cs) (t : Ty) (e : Expr) : Prop where
  run : ∃ v, PE X e (tC v) ∧ ClsV v (S.tv t)
theorem boot_ty (t : Ty) (h : ∀ k, t ≠ .cls k) (hn : t ≠ .none) : bootBuiltins (Str.ofString t.name) = some (.type t.name) ∧ Str.ofString t.name ≠ "__name__" ∧ (Str.ofString t.name == ("__debug__" : Str)) = false := by
  cases t <;> first | exact absurd rfl (h _) | exact absurd rfl hn | decide +kernel
theorem tyAt_b {t : Ty} (h : ∀ k, t ≠ .cls k) (hn : t ≠ .none) (hg : Gl X (Str.ofString t.name)) (hm : X.mg (Str.ofString t.name) = none) : TyAt X S t (.Name (Str.ofString t.name) p) := by
  obtain ⟨b1, b2, b3⟩ := boot_ty t h hn
  have e : S.tv t = .type t.name := by cases t <;> first | rfl | exact absurd rfl (h _)
  exact ⟨.ty t.name, pe_bltn hg hm b1 rfl b2 b3, by rw [e]; exact .ty _⟩
theorem tyAt_c {k : Nat} {x : Str} (hg : Gl X x) (hm : X.mg x = some (.ref (S.cA k))) (hd : (x == ("__debug__" : Str)) = false) : TyAt X S (.cls k) (.Name x p) :=
  ⟨.ref (S.cA k), pe_glob hg hm rfl hd, .own _⟩
theorem r_isi1 {t : Ty} {n : Nat → Bool} (hK : X.K = S.K) (kit : KitOk S n) (hb : t.below n = true) (hcl : ∀ k, n k = true → ClsOk S.K (S.cA k) (T.at_ k)) (hg : Gl X "isinstance") (hm : X.mg "isinstance" = none) (hn : notStar a = true) (hn2 : notStar b = true) (ha : PE X a (lE S T W ta)) (ht : TyAt X S t b) :
    PE X (.Call (.Name "isinstance" p) [a, b] [] pos) (lE S T W fun ρ M Q E => ta ρ M (fun x M1 => match typ M1 x.d with | some u => u.below n = true ∧ Q (.val (.bl ([t].any (subT u)))) M1 | none => False) E) := by
  obtain ⟨v, hv, cv⟩ := ht.run
  refine PE.imp (pe_callB call_isi hg hm (by decide +kernel) (pa_cons ha (pa_cons hv pa_nil (star_cons hn2)) (star_cons hn)) (by decide) (by decide) (star_cons hn) (by rw [star_cons hn2]; rfl)) fun σ H Q ⟨c, ρ, M, Q', E, ok, s, x, t0, q⟩ => ⟨c, ρ, M, _, E, ok, s, x, t0, fun r M1 w H1 hk rv => ?_⟩
  obtain ⟨k1, m1, d1⟩ := rv.plain
  split at hk
  · rename_i u e
    refine ⟨w, v, S.tv u, S.tv t, subT u t, rfl, cv, typ_of ok hK hcl m1 d1 e hk.1, by rw [hK]; exact kit_all kit hk.1 hb, ?_⟩
    have := hk.2
    simp only [List.any_cons, List.any_nil, Bool.or_false] at this
    exact q _ _ _ _ this ⟨k1, m1, by simp only [R.d, Den]⟩
  · exact hk.elim
/-- the classes of a written tuple -/
inductive TyAts (X : Cx) (S : Cs) : List Ty → List Expr → Prop where
  | nil : TyAts X S [] []
  | cons {t : Ty} {e : Expr} {ts : List Ty} {es : List Expr} (h : TyAt X S t e) (hn : notStar e = true) (r : TyAts X S ts es) : TyAts X S (t :: ts) (e :: es)
theorem TyAts.pa {ts : List Ty} (h : TyAts X S ts es) : ∃ vs, (∃ t : TA, PA X es t ∧ ∀ σ H Q, Q vs H → t σ H Q) ∧ Paired ClsV vs (ts.map S.tv) ∧ vs.length = es.length := by
  induction h with
  | nil => exact ⟨[], ⟨_, pa_nil, fun σ H Q h => h⟩, .nil, rfl⟩
  | cons h hn r ih =>
    obtain ⟨vs, ⟨t, ht, hq⟩, cv, l⟩ := ih
    obtain ⟨v, hv, c⟩ := h.run
    exact ⟨v :: vs, ⟨_, pa_cons hv ht (star_cons hn), fun σ H Q h => hq σ H _ h⟩, .cons c cv, by simp [l]⟩
theorem kit_any {n : Nat → Bool} {u : Ty} (kit : KitOk S n) (hu : u.below n = true) : ∀ {ts : List Ty}, ts.all (Ty.below n) = true → PySem.W.kitAny S.K (S.tv u) (ts.map S.tv) = some (ts.any (subT u))
  | [], _ => kitAny_nil
  | t :: ts, h => by
    simp only [List.all_cons, Bool.and_eq_true] at h
    have ih := kit_any kit hu h.2
    rw [List.map_cons, List.any_cons]
    refine kitAny_cons (kit_all kit hu h.1) (fun e => ?_) fun e => ?_
    · rw [e]; exact ih
    · rw [e]; rfl
theorem r_isiN {ts : List Ty} {n : Nat → Bool} {k : Nat} {p2 : Pos} (hK : X.K = S.K) (kit : KitOk S n) (hb : ts.all (Ty.below n) = true) (hcl : ∀ k, n k = true → ClsOk S.K (S.cA k) (T.at_ k)) (hg : Gl X "isinstance") (hm : X.mg "isinstance" = none) (hn : notStar a = true) (hl : es.length ≤ 1000) (ha : PE X a (lE S T W ta)) (ht : TyAts X S ts es) :
    PE X (.Call (.Name "isinstance" p) [a, .Tuple es k p2] [] pos) (lE S T W fun ρ M Q E => ta ρ M (fun x M1 => match typ M1 x.d with | some u => u.below n = true ∧ Q (.val (.bl (ts.any (subT u)))) M1 | none => False) E) := by
  obtain ⟨vs, ⟨t, hv, hq⟩, cv, lv⟩ := ht.pa
  have hs : sizeLine = 16777216 := sizeLine_eq
  refine PE.imp (pe_callB call_isiT hg hm (by decide +kernel) (pa_cons ha (pa_cons (pe_tup hv) pa_nil) (star_cons hn)) (by decide) (by decide) (star_cons hn)) fun σ H Q ⟨c, ρ, M, Q', E, ok, s, x, t0, q⟩ => ⟨c, ρ, M, _, E, ok, s, x, t0, fun r M1 w H1 hk rv => ?_⟩
  obtain ⟨k1, m1, d1⟩ := rv.plain
  split at hk
  · rename_i u e
    refine hq σ H1 _ ⟨by omega, fun p hp => ?_⟩
    have k2 := Keep.new (o := .tup vs) m1 hp
    have m2 := MR.new (o := .tup vs) m1 hp
    refine ⟨w, p, vs, S.tv u, ts.map S.tv, ts.any (subT u), rfl, upd_same, cv, typ_of ok hK hcl m2 (Den.keep k2 _ _ d1) e hk.1, by rw [hK]; exact kit_any kit hk.1 hb, ?_⟩
    exact q _ _ _ _ hk.2 ⟨k1.trans k2, m2, by simp only [R.d, Den]⟩
  · exact hk.elim
end
end PL
/-! ### the short text tells the text -/
namespace PL
open PySem PySem.Spec PyProof.Rows L2

def bltN : List Str := ["range", "enumerate", "zip", "tuple", "reversed", "isinstance", "len", "int", "str", "all", "any", "list", "max", "min", "abs", "sum", "bool", "dict", "NoneType"]
/-- what stands around a text -/
structure XC (S : Cs) (T : Tb) (K : Ck) (i : Nat) (X : Cx) : Prop where
  N : X.N = K.N
  nd : X.N.Nodup
  calm : X.calm = true
  hK : X.K = S.K
  room : Room i X.A
  blt : ∀ x ∈ bltN, X.mg x = none
  gl : ∀ g x, K.gl.lookup g = some x → ∃ (u : Value) (v : V), X.mg x = some u ∧ RelV v u ∧ ∀ (c : Cn) (M : Mem) (H : Hp), S.ok c → Den c M H (T.gl g) v
  fn : ∀ k x F, K.fn.lookup k = some (x, F) → ∃ j, j ≤ i ∧ FnEnt X.prog X.w X.mg X.base S T j x (T.fp k) F (T.fn k)
  mt : ∀ k x F, K.mt.lookup k = some (x, F) → ∃ j, j ≤ i ∧ MtEnt X.prog X.w X.mg X.base S T j (T.mc k) x (T.mp k) F (T.mt k) ∧ T.nc (T.mc k) = true ∧ x ∉ T.at_ (T.mc k)
  mkr : ∀ k x F, K.mkr.lookup k = some (x, F) → ∃ j, j + 1 ≤ i ∧ MkEnt X.prog X.w X.mg X.base S T j k x (T.kp k) F (T.mak k)
  cls : ∀ k x, K.cl.lookup k = some x → X.mg x = some (.ref (S.cA k)) ∧ T.nc k = true
  clok : ∀ k, T.nc k = true → ClsOk S.K (S.cA k) (T.at_ k)
  kit : KitOk S T.nc
section
variable {S : Cs} {T : Tb} {K : Ck} {i : Nat} {X : Cx} {W : WX}
theorem XC.units (C : XC S T K i X) : X.A.units + 64 < cLine := C.room.units
theorem XC.blk (C : XC S T K i X) (s : Shared) (H : Hp) (scope : Scope) (cenv : Env) (fp : List Addr) : XC S T K i (X.blk s H scope cenv fp) :=
  ⟨C.N, C.nd, C.calm, C.hK, C.room, C.blt, C.gl, C.fn, C.mt, C.mkr, C.cls, C.clok, C.kit⟩
theorem XC.fnB (C : XC S T K i X) (f : Fn) : X.mg f.name = none := C.blt _ (by cases f <;> decide +kernel)
theorem takes0 {s : Shared} {H : Hp} {scope : Scope} {cenv : Env} {fp : List Addr} : Takes (X.blk s H scope cenv fp) W0 := fun u s' ⟨_, _, _, _, _, _, _, _, _, _, _, _, _, _, _, _, z⟩ => z.elim
theorem ty_ok {sc : Scope} (C : XC S T K i X) (hs : X.env.scope = sc) {t : Ty} {e : Expr} (h : tyB K sc t e = true) : TyAt X S t e ∧ t.below T.nc = true := by
  cases t with
  | cls k =>
    cases e <;> simp only [tyB] at h <;> try (exact absurd h Bool.false_ne_true)
    simp only [Bool.and_eq_true, beq_iff_eq] at h
    obtain ⟨⟨h1, h2⟩, h3⟩ := h
    exact ⟨tyAt_c (gl_of hs h1) (C.cls _ _ h3).1 (dbg_of h2), (C.cls _ _ h3).2⟩
  | none => cases e <;> simp [tyB] at h
  | _ =>
    cases e <;> simp only [tyB] at h <;> try (exact absurd h Bool.false_ne_true)
    simp only [Bool.and_eq_true, beq_iff_eq] at h
    obtain ⟨h1, rfl⟩ := h
    exact ⟨tyAt_b (fun k z => by cases z) (fun z => by cases z) (gl_of hs h1) (C.blt _ (by decide +kernel)), rfl⟩
theorem tys_ok {sc : Scope} (C : XC S T K i X) (hs : X.env.scope = sc) : ∀ {ts : List Ty} {es : List Expr}, tysB K sc ts es = true → TyAts X S ts es ∧ ts.all (Ty.below T.nc) = true
  | [], [], _ => ⟨.nil, rfl⟩
  | t :: ts, e :: es, h => by
    simp only [tysB, Bool.and_eq_true] at h
    obtain ⟨⟨h0, h1⟩, h2⟩ := h
    obtain ⟨a1, a2⟩ := ty_ok C hs h1
    obtain ⟨b1, b2⟩ := tys_ok C hs h2
    exact ⟨.cons a1 h0 b1, by rw [List.all_cons, a2, b2]; rfl⟩
  | [], _ :: _, h => by simp [tysB] at h
  | _ :: _, [], h => by simp [tysB] at h
theorem tg_ok {sc : Scope} {fn : Str → Bool} (C : XC S T K i X) (hs : X.env.scope = sc) (hfn : ∀ x, fn x = true → X.fn x = true) {t : Tg} {e : Expr} (h : tgB K sc fn t e = true) : PG X e (gT X.K t) := by
  have lc : ∀ {x : Str}, (locB sc x || (celB sc x && fn x)) = true → Loc X.env.scope x ∧ (X.fn x = true ∨ X.env.scope.names.lookup x = some .local) := fun {x} h => by
    rw [hs]
    rw [Bool.or_eq_true] at h
    rcases h with h | h
    · have := loc_of h; exact ⟨.inl this, .inr this⟩
    · rw [Bool.and_eq_true] at h
      have h1 := h.1
      unfold celB at h1
      split at h1
      · exact ⟨.inr (by assumption), .inl (hfn _ h.2)⟩
      · exact absurd h1 Bool.false_ne_true
  have nm : ∀ {is : List Nat} {es : List Expr}, tgB.namesB K sc fn is es = true → PGs X es (gNms is) ∧ (assignEach es X.env).length = is.length ∧ (assignEach es X.env).findIdx? (·.1) = none := by
    intro is
    induction is with
    | nil =>
      intro es h
      cases es with
      | nil => exact ⟨pgs_nil, rfl, rfl⟩
      | cons _ _ => simp [tgB.namesB] at h
    | cons j js ih =>
      intro es h
      cases es with
      | nil => simp [tgB.namesB] at h
      | cons e es =>
        cases e <;> simp only [tgB.namesB] at h <;> try (exact absurd h Bool.false_ne_true)
        rw [Bool.and_eq_true, Bool.and_eq_true, beq_iff_eq] at h
        obtain ⟨⟨h1, h2⟩, h3⟩ := h
        obtain ⟨a1, a2, a3⟩ := ih h3
        obtain ⟨l1, l2⟩ := lc h2
        refine ⟨pgs_cons (pg_name C.nd (by rw [C.N]; exact h1) l1 l2) a1, ?_, ?_⟩
        · show (assignEach es X.env).length + 1 = js.length + 1
          rw [a2]
        · show List.findIdx? (·.1) (_ :: assignEach es X.env) = none
          rw [List.findIdx?_cons, a3]
          rfl
  cases t with
  | name j =>
    cases e <;> simp only [tgB] at h <;> try (exact absurd h Bool.false_ne_true)
    rw [Bool.and_eq_true, beq_iff_eq] at h
    obtain ⟨l1, l2⟩ := lc h.2
    exact pg_name C.nd (by rw [C.N]; exact h.1) l1 l2
  | tup is =>
    cases e <;> simp only [tgB] at h <;> try (exact absurd h Bool.false_ne_true)
    obtain ⟨a1, a2, a3⟩ := nm h
    exact pg_tup C.calm a1 a2 a3
end
theorem own_t {t : Tg} {vs : List Nat} (h : ownT t vs = true) : ∀ i ∈ t.slots, i ∈ vs := by
  cases t with
  | name i => intro j hj; simp only [Tg.slots, List.mem_singleton] at hj; subst hj; simpa [ownT] using h
  | tup is => intro j hj; simp only [ownT, List.all_eq_true] at h; simpa using h j hj
theorem con_ok {X : Cx} {S : Cs} {T : Tb} {W : WX} {d : D} {c : Const} {k : Nat} {pos : Pos} (h : conB d c = true) : PE X (.Constant c k pos) (lE S T W fun _ M Q _ => Q (.val d) M) := by
  cases d <;> cases c <;> simp only [conB] at h <;> try (exact absurd h Bool.false_ne_true)
  · exact r_con pe_non fun _ _ _ _ => by simp only [Den]
  · rw [beq_iff_eq] at h; subst h; exact r_con pe_bl fun _ _ _ _ => by simp only [Den]
  · rw [beq_iff_eq] at h; subst h; exact r_con pe_int fun _ _ _ _ => by simp only [Den]
  · rw [beq_iff_eq] at h; subst h; exact r_con pe_str fun _ _ _ _ => by simp only [Den]
theorem pa_c {X : Cx} {S : Cs} {T : Tb} {W : WX} {e : Expr} {es : List Expr} {t : DTE} {u : DTA} (he : PE X e (lE S T W t)) (hr : PA X es (lA S T W es.length u)) (hn : notStar e = true) :
    PA X (e :: es) (lA S T W (e :: es).length fun ρ M Q E => t ρ M (fun x M1 => u ρ M1 (fun ds M2 => Q (x.d :: ds) M2) E) E) := by
  refine PA.imp (pa_cons he hr (star_cons hn)) fun σ H Q ⟨c, ρ, M, Q', E, ok, s, x, t, q⟩ => ⟨c, ρ, M, _, E, ok, s, x, t, fun r M1 v H1 hk rv => ?_⟩
  obtain ⟨k1, m1, d1⟩ := rv.plain
  refine ⟨c, ρ, M1, _, E, ok, s.keep k1 m1, x.after k1, hk, fun ds M2 vs H2 hl hk2 k2 m2 d2 => ?_⟩
  exact q _ _ _ _ (by simp [hl]) hk2 (k1.trans k2) m2 (DenL.cons (Den.keep k2 _ _ d1) d2)
theorem pa_n {X : Cx} {S : Cs} {T : Tb} {W : WX} : PA X [] (lA S T W ([] : List Expr).length fun _ M Q _ => Q [] M) :=
  PA.imp pa_nil fun σ H Q ⟨c, ρ, M, Q', E, ok, s, x, t, q⟩ => q [] M [] H rfl t (Keep.refl _ _ _) s.mem DenL.nil
theorem PK.imp {X : Cx} {e : List Keyword} {t t' : TA} (h : PK X e t) (i : ∀ σ H Q, t' σ H Q → t σ H Q) : PK X e t' := ⟨fun p pins s σ H Q I q => h.run p pins s σ H Q I (i σ H Q q)⟩
theorem pk_c {X : Cx} {S : Cs} {T : Tb} {W : WX} {e : Expr} {es : List Keyword} {t : DTE} {u : DTA} {n : Nat} {nm : Option Str} {kp : Pos} (he : PE X e (lE S T W t)) (hr : PK X es (lA S T W n u)) :
    PK X (⟨nm, e, kp⟩ :: es) (lA S T W (n + 1) fun ρ M Q E => t ρ M (fun x M1 => u ρ M1 (fun ds M2 => Q (x.d :: ds) M2) E) E) := by
  refine PK.imp (pk_cons he hr) fun σ H Q ⟨c, ρ, M, Q', E, ok, s, x, t, q⟩ => ⟨c, ρ, M, _, E, ok, s, x, t, fun r M1 v H1 hk rv => ?_⟩
  obtain ⟨k1, m1, d1⟩ := rv.plain
  refine ⟨c, ρ, M1, _, E, ok, s.keep k1 m1, x.after k1, hk, fun ds M2 vs H2 hl hk2 k2 m2 d2 => ?_⟩
  exact q _ _ _ _ (by simp [hl]) hk2 (k1.trans k2) m2 (DenL.cons (Den.keep k2 _ _ d1) d2)
theorem pk_n {X : Cx} {S : Cs} {T : Tb} {W : WX} : PK X [] (lA S T W 0 fun _ M Q _ => Q [] M) :=
  PK.imp pk_nil fun σ H Q ⟨c, ρ, M, Q', E, ok, s, x, t, q⟩ => q [] M [] H rfl t (Keep.refl _ _ _) s.mem DenL.nil
theorem r_cell {X : Cx} {S : Cs} {T : Tb} {W : WX} {e : Expr} {t : DTE} (he : PE X e (lE S T W t)) : PE X e (lE S T W fun ρ M Q E => t ρ M (fun r M1 => match r with
    | .new o => ∀ p, M1 p = none → Q (.val (.ref p)) (mput M1 p o)
    | .val _ => False) E) := by
  refine PE.imp he fun σ H Q ⟨c, ρ, M, Q', E, ok, s, x, t, q⟩ => ⟨c, ρ, M, _, E, ok, s, x, t, fun r M1 v H1 hk rv => ?_⟩
  cases r with
  | val d => exact hk.elim
  | new o =>
    obtain ⟨p, rfl, hp, k, m⟩ := rv
    exact q _ _ _ _ (hk p hp) ⟨k, m, by simp only [Den]⟩
theorem r_frz {X : Cx} {S : Cs} {T : Tb} {W : WX} {e : Expr} {t : DTE} (he : PE X e (lE S T W t)) : PE X e (lE S T W fun ρ M Q E => t ρ M (fun r M1 => match r with
    | .val (.ref p) => match M1 p with
      | some o => Q (.val o.frz) (mdel M1 p)
      | none => False
    | _ => False) E) := by
  refine PE.imp he fun σ H Q ⟨c, ρ, M, Q', E, ok, s, x, t, q⟩ => ⟨c, ρ, M, _, E, ok, s, x, t, fun r M1 v H1 hk rv => ?_⟩
  split at hk
  · rename_i p
    split at hk
    · rename_i o e
      obtain ⟨k, m, d⟩ := rv
      simp only [Den] at d
      subst d
      exact q _ _ _ _ hk ⟨k.trans (Keep.sub (Sub.del M1 p)), m.sub (Sub.del M1 p), Den.frz m e⟩
    · exact hk.elim
  · exact hk.elim
theorem r_own {X : Cx} {S : Cs} {T : Tb} {W : WX} {e : Expr} {t : DTE} (he : PE X e (lE S T W t)) : PE X e (lE S T W fun ρ M Q E => t ρ M (fun r M1 => match r with
    | .val (.ref p) => match M1 p with
      | some o => Q (.new o) (mdel M1 p)
      | none => False
    | _ => False) E) := by
  refine PE.imp he fun σ H Q ⟨c, ρ, M, Q', E, ok, s, x, t, q⟩ => ⟨c, ρ, M, _, E, ok, s, x, t, fun r M1 v H1 hk rv => ?_⟩
  split at hk
  · rename_i p
    split at hk
    · rename_i o e
      obtain ⟨k, m, d⟩ := rv
      simp only [Den] at d
      subst d
      exact q _ _ _ _ hk ⟨p, rfl, if_pos rfl, by rw [mput_mdel e]; exact k, by rw [mput_mdel e]; exact m⟩
    · exact hk.elim
  · exact hk.elim
theorem form_of {l : List (Nat × Str × List (Nat × List Str))} {k : Nat} {x : Str} {n : Nat} {kw : List Str} (h : formB l k x n kw = true) : ∃ F, l.lookup k = some (x, F) ∧ (n, kw) ∈ F := by
  unfold formB at h
  split at h
  · rename_i y F e
    simp only [Bool.and_eq_true, beq_iff_eq] at h
    obtain ⟨rfl, h⟩ := h
    exact ⟨F, e, by simpa using h⟩
  · cases h

theorem noB {a b : Bool} (h : (a && b) = true) : a = true ∧ b = true := by simpa using h
theorem beqS {x y : Str} (h : (x == y) = true) : x = y := beq_iff_eq.mp h
def cmpE : E → Bool
  | .cmp .. => true
  | .chain .. => true
  | _ => false
theorem val_pl {X : Cx} {W : WX} {S : Cs} {T : Tb} {e : E} {ex : Expr} (hK : X.K = S.K) (p : PE X ex (lE S T W (wpE T e))) (h0 : valB e ex = true) (hc : cmpE e = false) : PT X ex (lT S T W (wpT T (.val e))) ∧ ∀ op xs pos, ex = .BoolOp op xs pos → PW X ex (lT S T W (wpT T (.val e))) := by
  have nb : ∀ op xs pos, ex ≠ .BoolOp op xs pos := fun op xs pos z => by subst z; exact absurd h0 Bool.false_ne_true
  refine ⟨?_, fun op xs pos z => absurd z (nb op xs pos)⟩
  refine rt_val hK p ?_
  cases ex with
  | BoolOp => exact absurd rfl (nb _ _ _)
  | IfExp => exact absurd h0 Bool.false_ne_true
  | UnaryOp op =>
    cases op <;> first | exact absurd h0 Bool.false_ne_true | (intro w; rfl)
  | Compare => cases e <;> first | exact absurd h0 Bool.false_ne_true | exact absurd hc (by simp [cmpE])
  | _ => intro w; rfl
section
variable {S : Cs} {T : Tb} {K : Ck} {i : Nat}
mutual
theorem sndE : ∀ (e : E) {X : Cx} {W : WX} {sc : Scope} {ex : Expr}, XC S T K i X → Takes X W → X.env.scope = sc → chkE K e sc ex = true → PE X ex (lE S T W (wpE T e))
  | .var j, X, W, sc, ex, C, tw, hs, h => by
    unfold chkE at h
    split at h
    · obtain ⟨h, h4⟩ := noB h
      obtain ⟨h, h3⟩ := noB h
      obtain ⟨h1, h2⟩ := noB h
      exact r_var (by rw [C.N]; exact beq_iff_eq.mp h1) (by rw [hs]; exact vis_of h2) (dbg_of h3) (by simpa using h4)
    · exact absurd h Bool.false_ne_true
  | .con d, X, W, sc, ex, C, tw, hs, h => by
    unfold chkE at h
    split at h
    · exact con_ok h
    · exact absurd h Bool.false_ne_true
  | .glob g, X, W, sc, ex, C, tw, hs, h => by
    unfold chkE at h
    split at h
    · obtain ⟨h, h3⟩ := noB h
      obtain ⟨h1, h2⟩ := noB h
      obtain ⟨u, v, hm, r, hd⟩ := C.gl g _ (beq_iff_eq.mp h1)
      exact r_con (pe_glob (gl_of hs h2) hm r (dbg_of h3)) hd
    · exact absurd h Bool.false_ne_true
  | .op o a b, X, W, sc, ex, C, tw, hs, h => by
    unfold chkE at h
    split at h
    · obtain ⟨h, h3⟩ := noB h
      obtain ⟨h1, h2⟩ := noB h
      have e := of_decide_eq_true h1
      subst e
      exact r_op C.hK (sndE a C tw hs h2) (sndE b C tw hs h3)
    · exact absurd h Bool.false_ne_true
  | .neg a, X, W, sc, ex, C, tw, hs, h => by
    unfold chkE at h
    split at h
    · exact r_neg (sndE a C tw hs h)
    · exact absurd h Bool.false_ne_true
  | .cmp o a b, X, W, sc, ex, C, tw, hs, h => by
    unfold chkE at h
    split at h
    · obtain ⟨h, h4⟩ := noB h
      obtain ⟨h, h3⟩ := noB h
      obtain ⟨h1, h2⟩ := noB h
      have e := of_decide_eq_true h1
      subst e
      exact r_cmp C.hK C.units (by simpa [cmpOk] using h2) (sndE a C tw hs h3) (sndE b C tw hs h4)
    · exact absurd h Bool.false_ne_true
  | .chain o o2 a b c, X, W, sc, ex, C, tw, hs, h => by
    unfold chkE at h
    split at h
    · obtain ⟨h, h6⟩ := noB h
      obtain ⟨h, h5⟩ := noB h
      obtain ⟨h, h4⟩ := noB h
      obtain ⟨h, h3⟩ := noB h
      obtain ⟨h1, h2⟩ := noB h
      have e := of_decide_eq_true h1
      have e2 := of_decide_eq_true h2
      subst e e2
      exact r_chain C.hK C.units (by simpa [cmpOk] using h3) (sndE a C tw hs h4) (sndE b C tw hs h5) (sndE c C tw hs h6)
    · exact absurd h Bool.false_ne_true
  | .and a b, X, W, sc, ex, C, tw, hs, h => by
    unfold chkE at h
    split at h
    · rename_i x y r pos
      obtain ⟨h1, h2⟩ := noB h
      refine r_and (sndE a C tw hs h1) ?_
      cases r with
      | nil => exact pe_one (sndE b C tw hs h2)
      | cons z r => exact sndE b C tw hs h2
    · exact absurd h Bool.false_ne_true
  | .or a b, X, W, sc, ex, C, tw, hs, h => by
    unfold chkE at h
    split at h
    · rename_i x y r pos
      obtain ⟨h1, h2⟩ := noB h
      refine r_or (sndE a C tw hs h1) ?_
      cases r with
      | nil => exact pe_one (sndE b C tw hs h2)
      | cons z r => exact sndE b C tw hs h2
    · exact absurd h Bool.false_ne_true
  | .not a, X, W, sc, ex, C, tw, hs, h => by
    unfold chkE at h
    split at h
    · exact r_not C.hK (sndE a C tw hs h)
    · exact absurd h Bool.false_ne_true
  | .ite t a b, X, W, sc, ex, C, tw, hs, h => by
    unfold chkE at h
    split at h
    · obtain ⟨h, h3⟩ := noB h
      obtain ⟨h1, h2⟩ := noB h
      exact r_ite (sndT t C tw hs h1).1 (sndE a C tw hs h2) (sndE b C tw hs h3)
    · exact absurd h Bool.false_ne_true
  | .tup es, X, W, sc, ex, C, tw, hs, h => by
    unfold chkE at h
    split at h
    · obtain ⟨h1, h2⟩ := noB h
      exact r_tup (sndEs es C tw hs h1).1 (of_decide_eq_true h2)
    · exact absurd h Bool.false_ne_true
  | .lst es, X, W, sc, ex, C, tw, hs, h => by
    unfold chkE at h
    split at h
    · obtain ⟨h1, h2⟩ := noB h
      exact r_lst (sndEs es C tw hs h1).1 (of_decide_eq_true h2)
    · exact absurd h Bool.false_ne_true
  | .ix a j, X, W, sc, ex, C, tw, hs, h => by
    unfold chkE at h
    split at h
    · obtain ⟨h, h3⟩ := noB h
      obtain ⟨h1, h2⟩ := noB h
      exact r_ix C.hK h1 (sndE a C tw hs h2) (sndE j C tw hs h3)
    · exact absurd h Bool.false_ne_true
  | .slice a lo hi, X, W, sc, ex, C, tw, hs, h => by
    unfold chkE at h
    split at h
    · obtain ⟨h, h3⟩ := noB h
      obtain ⟨h1, h2⟩ := noB h
      exact r_slice C.hK (sndE a C tw hs h1) (sndEo lo C tw hs h2) (sndEo hi C tw hs h3)
    · exact absurd h Bool.false_ne_true
  | .fn f es, X, W, sc, ex, C, tw, hs, h => by
    unfold chkE at h
    split at h
    · obtain ⟨h, h4⟩ := noB h
      obtain ⟨h, h3⟩ := noB h
      obtain ⟨h1, h2⟩ := noB h
      have e := beqS h1
      subst e
      obtain ⟨a1, a2, _⟩ := sndEs es C tw hs h4
      exact r_fn C.calm C.hK (gl_of hs h2) (C.fnB f) a2 a1
    · exact absurd h Bool.false_ne_true
  | .mt m o es, X, W, sc, ex, C, tw, hs, h => by
    unfold chkE at h
    split at h
    · obtain ⟨h, h6⟩ := noB h
      obtain ⟨h, h5⟩ := noB h
      obtain ⟨h, h4⟩ := noB h
      obtain ⟨h, h3⟩ := noB h
      obtain ⟨h1, h2⟩ := noB h
      have e := beqS h1
      subst e
      obtain ⟨a1, a2, a3⟩ := sndEs es C tw hs h6
      have l := of_decide_eq_true h2
      exact r_mt C.hK h4 h3 a2 (by rw [l]; cases m <;> decide) (sndE o C tw hs h5) a1 a3
    · exact absurd h Bool.false_ne_true
  | .fld o f, X, W, sc, ex, C, tw, hs, h => by
    unfold chkE at h
    split at h
    · obtain ⟨h, h3⟩ := noB h
      obtain ⟨h1, h2⟩ := noB h
      have e := beqS h1
      subst e
      exact r_fld C.hK h2 C.clok (sndE o C tw hs h3)
    · exact absurd h Bool.false_ne_true
  | .isi a ts, X, W, sc, ex, C, tw, hs, h => by
    unfold chkE at h
    split at h
    · obtain ⟨h, h5⟩ := noB h
      obtain ⟨h, h4⟩ := noB h
      obtain ⟨h, h3⟩ := noB h
      obtain ⟨h1, h2⟩ := noB h
      have e := beqS h1
      subst e
      unfold isiB at h5
      split at h5
      · split at h5
        · obtain ⟨t1, t2⟩ := ty_ok C hs h5
          exact r_isi1 C.hK C.kit t2 C.clok (gl_of hs h2) (C.blt _ (by decide +kernel)) h3 rfl (sndE a C tw hs h4) t1
        · exact absurd h5 Bool.false_ne_true
      · obtain ⟨h5, h6⟩ := noB h5
        obtain ⟨t1, t2⟩ := tys_ok C hs h5
        exact r_isiN C.hK C.kit t2 C.clok (gl_of hs h2) (C.blt _ (by decide +kernel)) h3 (of_decide_eq_true h6) (sndE a C tw hs h4) t1
      · exact absurd h5 Bool.false_ne_true
    · exact absurd h Bool.false_ne_true
  | .call k es kw vs, X, W, sc, ex, C, tw, hs, h => by
    unfold chkE at h
    split at h
    · obtain ⟨h, h5⟩ := noB h
      obtain ⟨h, h4⟩ := noB h
      obtain ⟨h, h3⟩ := noB h
      obtain ⟨h1, h2⟩ := noB h
      obtain ⟨F, e, hF⟩ := form_of h1
      obtain ⟨j, hj, en⟩ := C.fn k _ F e
      obtain ⟨a1, a2, a3⟩ := sndEs es C tw hs h4
      obtain ⟨b1, b2, b3⟩ := sndKw vs C tw hs h5
      exact r_call C.hK en hj C.room tw (gl_of hs h2) (dbg_of h3) a1 b1 a3 b3 a2 b2 hF
    · exact absurd h Bool.false_ne_true
  | .make k es kw vs, X, W, sc, ex, C, tw, hs, h => by
    unfold chkE at h
    split at h
    · obtain ⟨h, h5⟩ := noB h
      obtain ⟨h, h4⟩ := noB h
      obtain ⟨h, h3⟩ := noB h
      obtain ⟨h1, h2⟩ := noB h
      obtain ⟨F, e, hF⟩ := form_of h1
      obtain ⟨j, hj, en⟩ := C.mkr k _ F e
      obtain ⟨a1, a2, a3⟩ := sndEs es C tw hs h4
      obtain ⟨b1, b2, b3⟩ := sndKw vs C tw hs h5
      exact r_make C.hK en hj C.room tw (gl_of hs h2) (dbg_of h3) a1 b1 a3 b3 a2 b2 hF
    · exact absurd h Bool.false_ne_true
  | .meth k o es kw vs, X, W, sc, ex, C, tw, hs, h => by
    unfold chkE at h
    split at h
    · obtain ⟨h, h7⟩ := noB h
      obtain ⟨h, h6⟩ := noB h
      obtain ⟨h, h5⟩ := noB h
      obtain ⟨h, h4⟩ := noB h
      obtain ⟨h, h3⟩ := noB h
      obtain ⟨h1, h2⟩ := noB h
      obtain ⟨F, e, hF⟩ := form_of h1
      obtain ⟨j, hj, en, hc, hat⟩ := C.mt k _ F e
      obtain ⟨a1, a2, a3⟩ := sndEs es C tw hs h6
      obtain ⟨b1, b2, b3⟩ := sndKw vs C tw hs h7
      exact r_meth C.hK en (C.clok _ hc).cl hat hj C.room tw h2 h3 (of_decide_eq_true h4) (sndE o C tw hs h5) a1 b1 a3 b3 a2 b2 hF
    · exact absurd h Bool.false_ne_true
  | .comp elt t s cond own, X, W, sc, ex, C, tw, hs, h => by
    unfold chkE at h
    split at h
    · rename_i elt' tg iter ifs scope pos
      obtain ⟨h, h7⟩ := noB h
      obtain ⟨h, h6⟩ := noB h
      obtain ⟨h, h5⟩ := noB h
      obtain ⟨h, h4⟩ := noB h
      obtain ⟨h, h3⟩ := noB h
      obtain ⟨h1, h2⟩ := noB h
      have inn : ∀ (cl : List (Str × Addr)) (A : Addr), (compEnvC scope cl A X.env).scope = inB scope sc := fun cl A => by rw [← hs]; rfl
      exact PE.imp (pe_lc (g := gT X.K t) C.calm C.nd (sndSrc s C tw hs h5) (blkOk_by (by rw [C.N, hs]; exact h1))
        (fun s' H A cl fp => tg_ok (C.blk s' H scope _ fp) (inn cl A) (fun _ z => z) h2)
        (fun s' H A cl fp => sndC cond (C.blk s' H scope _ fp) takes0 (inn cl A) h6)
        (fun s' H A cl fp => sndE elt (C.blk s' H scope _ fp) takes0 (inn cl A) h7) (set_it h4)) fun σ H Q h => comp_run C.hK (own_t h3) h
    · exact absurd h Bool.false_ne_true
  | .tupRev a, X, W, sc, ex, C, tw, hs, h => by
    unfold chkE at h
    split at h
    · obtain ⟨h, h6⟩ := noB h
      obtain ⟨h, h5⟩ := noB h
      obtain ⟨h, h4⟩ := noB h
      obtain ⟨h, h3⟩ := noB h
      obtain ⟨h1, h2⟩ := noB h
      have e1 := beqS h1
      have e2 := beqS h2
      subst e1 e2
      exact r_tupRev C.hK C.calm (gl_of hs h3) (C.blt _ (by decide +kernel)) (gl_of hs h4) (C.blt _ (by decide +kernel)) h5 (sndE a C tw hs h6)
    · exact absurd h Bool.false_ne_true
  | .tupRange es, X, W, sc, ex, C, tw, hs, h => by
    unfold chkE at h
    split at h
    · rename_i x p y p2 es' pos2 pos
      obtain ⟨h, h6⟩ := noB h
      obtain ⟨h, h5⟩ := noB h
      obtain ⟨h, h4⟩ := noB h
      obtain ⟨h, h3⟩ := noB h
      obtain ⟨h1, h2⟩ := noB h
      have e1 := beqS h1
      have e2 := beqS h2
      subst e1 e2
      obtain ⟨a1, a2, a3⟩ := sndEs es C tw hs h6
      match es', h5, a1, a2 with
      | [a], _, a1, a2 =>
        exact r_tupRange1 C.calm (gl_of hs h3) (C.blt _ (by decide +kernel)) (gl_of hs h4) (C.blt _ (by decide +kernel)) (by simpa using a2) a1
      | [a, b], _, a1, a2 =>
        have a2 : notStar a = true ∧ notStar b = true := by simpa using a2
        exact r_tupRange2 C.calm (gl_of hs h3) (C.blt _ (by decide +kernel)) (gl_of hs h4) (C.blt _ (by decide +kernel)) a2.1 a2.2 a1
    · exact absurd h Bool.false_ne_true
  | .cell a, X, W, sc, ex, C, tw, hs, h => by
    unfold chkE at h
    exact r_cell (sndE a C tw hs h)
  | .frz a, X, W, sc, ex, C, tw, hs, h => by
    unfold chkE at h
    exact r_frz (sndE a C tw hs h)
  | .own a, X, W, sc, ex, C, tw, hs, h => by
    unfold chkE at h
    exact r_own (sndE a C tw hs h)
theorem sndEs : ∀ (es : Es) {X : Cx} {W : WX} {sc : Scope} {exs : List Expr}, XC S T K i X → Takes X W → X.env.scope = sc → chkEs K es sc exs = true → PA X exs (lA S T W exs.length (wpEs T es)) ∧ exs.all notStar = true ∧ (exs = [] → ∀ ρ M Q E, wpEs T es ρ M Q E → Q [] M)
  | .nil, X, W, sc, exs, C, tw, hs, h => by
    unfold chkEs at h
    split at h
    · exact ⟨pa_n, rfl, fun _ ρ M Q E h => h⟩
    · exact absurd h Bool.false_ne_true
  | .cons e es, X, W, sc, exs, C, tw, hs, h => by
    unfold chkEs at h
    split at h
    · obtain ⟨h, h3⟩ := noB h
      obtain ⟨h1, h2⟩ := noB h
      obtain ⟨a1, a2, _⟩ := sndEs es C tw hs h3
      exact ⟨pa_c (sndE e C tw hs h2) a1 h1, by rw [List.all_cons, h1, a2]; rfl, fun z => by cases z⟩
    · exact absurd h Bool.false_ne_true
theorem sndKw : ∀ (es : Es) {X : Cx} {W : WX} {sc : Scope} {kw : List Str} {ks : List Keyword}, XC S T K i X → Takes X W → X.env.scope = sc → chkKw K kw es sc ks = true → PK X ks (lA S T W kw.length (wpEs T es)) ∧ kwNm kw ks ∧ (ks = [] → ∀ ρ M Q E, wpEs T es ρ M Q E → Q [] M)
  | .nil, X, W, sc, kw, ks, C, tw, hs, h => by
    unfold chkKw at h
    split at h
    · have e : kw = [] := by simpa using h
      subst e
      exact ⟨pk_n, trivial, fun _ ρ M Q E h => h⟩
    · exact absurd h Bool.false_ne_true
  | .cons e es, X, W, sc, kw, ks, C, tw, hs, h => by
    unfold chkKw at h
    split at h
    · split at h
      · exact absurd h Bool.false_ne_true
      · obtain ⟨h, h3⟩ := noB h
        obtain ⟨h1, h2⟩ := noB h
        have e1 := beqS h1
        subst e1
        obtain ⟨a1, a2, _⟩ := sndKw es C tw hs h3
        exact ⟨pk_c (sndE e C tw hs h2) a1, ⟨rfl, a2⟩, fun z => by cases z⟩
    · exact absurd h Bool.false_ne_true
theorem sndEo : ∀ (eo : Eo) {X : Cx} {W : WX} {sc : Scope} {ex : Option Expr}, XC S T K i X → Takes X W → X.env.scope = sc → chkEo K eo sc ex = true → PO X ex (lO S T W (wpEo T eo))
  | .none, X, W, sc, ex, C, tw, hs, h => by
    unfold chkEo at h
    split at h
    · exact po_n
    · exact absurd h Bool.false_ne_true
  | .some e, X, W, sc, ex, C, tw, hs, h => by
    unfold chkEo at h
    split at h
    · exact po_s (sndE e C tw hs h)
    · exact absurd h Bool.false_ne_true
theorem sndC : ∀ (eo : Teo) {X : Cx} {W : WX} {sc : Scope} {ex : List Expr}, XC S T K i X → Takes X W → X.env.scope = sc → chkC K eo sc ex = true → PTs X ex (lT S T W (wpC T eo))
  | .none, X, W, sc, ex, C, tw, hs, h => by
    unfold chkC at h
    split at h
    · exact ⟨fun pins s σ H Q I ⟨c, ρ, M, Q', E, ok, sr, x, t, q⟩ => pts_nil.run pins s σ H Q I (q _ _ _ t (Keep.refl _ _ _) sr.mem)⟩
    · exact absurd h Bool.false_ne_true
  | .some t, X, W, sc, ex, C, tw, hs, h => by
    unfold chkC at h
    split at h
    · exact pts_one (sndT t C tw hs h).1
    · exact absurd h Bool.false_ne_true
theorem sndT : ∀ (t : Te) {X : Cx} {W : WX} {sc : Scope} {ex : Expr}, XC S T K i X → Takes X W → X.env.scope = sc → chkT K t sc ex = true → PT X ex (lT S T W (wpT T t)) ∧ ∀ op xs pos, ex = .BoolOp op xs pos → PW X ex (lT S T W (wpT T t))
  | .val (.cmp o a b), X, W, sc, ex, C, tw, hs, h => by
    unfold chkT at h
    obtain ⟨h0, h⟩ := noB h
    unfold chkE at h
    split at h
    · obtain ⟨h, h4⟩ := noB h
      obtain ⟨h, h3⟩ := noB h
      obtain ⟨h1, h2⟩ := noB h
      have e := of_decide_eq_true h1
      subst e
      exact ⟨rt_cmp C.hK C.units (by simpa [cmpOk] using h2) (sndE a C tw hs h3) (sndE b C tw hs h4), fun _ _ _ z => by cases z⟩
    · exact absurd h Bool.false_ne_true
  | .val (.chain o o2 a b c), X, W, sc, ex, C, tw, hs, h => by
    unfold chkT at h
    obtain ⟨h0, h⟩ := noB h
    unfold chkE at h
    split at h
    · obtain ⟨h, h6⟩ := noB h
      obtain ⟨h, h5⟩ := noB h
      obtain ⟨h, h4⟩ := noB h
      obtain ⟨h, h3⟩ := noB h
      obtain ⟨h1, h2⟩ := noB h
      have e := of_decide_eq_true h1
      have e2 := of_decide_eq_true h2
      subst e e2
      exact ⟨rt_chain C.hK C.units (by simpa [cmpOk] using h3) (sndE a C tw hs h4) (sndE b C tw hs h5) (sndE c C tw hs h6), fun _ _ _ z => by cases z⟩
    · exact absurd h Bool.false_ne_true
  | .val (.var x0), X, W, sc, ex, C, tw, hs, h => by
    unfold chkT at h
    exact val_pl C.hK (sndE (.var x0) C tw hs (noB h).2) (noB h).1 rfl
  | .val (.con x0), X, W, sc, ex, C, tw, hs, h => by
    unfold chkT at h
    exact val_pl C.hK (sndE (.con x0) C tw hs (noB h).2) (noB h).1 rfl
  | .val (.glob x0), X, W, sc, ex, C, tw, hs, h => by
    unfold chkT at h
    exact val_pl C.hK (sndE (.glob x0) C tw hs (noB h).2) (noB h).1 rfl
  | .val (.op x0 x1 x2), X, W, sc, ex, C, tw, hs, h => by
    unfold chkT at h
    exact val_pl C.hK (sndE (.op x0 x1 x2) C tw hs (noB h).2) (noB h).1 rfl
  | .val (.neg x0), X, W, sc, ex, C, tw, hs, h => by
    unfold chkT at h
    exact val_pl C.hK (sndE (.neg x0) C tw hs (noB h).2) (noB h).1 rfl
  | .val (.and x0 x1), X, W, sc, ex, C, tw, hs, h => by
    unfold chkT at h
    exact val_pl C.hK (sndE (.and x0 x1) C tw hs (noB h).2) (noB h).1 rfl
  | .val (.or x0 x1), X, W, sc, ex, C, tw, hs, h => by
    unfold chkT at h
    exact val_pl C.hK (sndE (.or x0 x1) C tw hs (noB h).2) (noB h).1 rfl
  | .val (.not x0), X, W, sc, ex, C, tw, hs, h => by
    unfold chkT at h
    exact val_pl C.hK (sndE (.not x0) C tw hs (noB h).2) (noB h).1 rfl
  | .val (.ite x0 x1 x2), X, W, sc, ex, C, tw, hs, h => by
    unfold chkT at h
    exact val_pl C.hK (sndE (.ite x0 x1 x2) C tw hs (noB h).2) (noB h).1 rfl
  | .val (.tup x0), X, W, sc, ex, C, tw, hs, h => by
    unfold chkT at h
    exact val_pl C.hK (sndE (.tup x0) C tw hs (noB h).2) (noB h).1 rfl
  | .val (.lst x0), X, W, sc, ex, C, tw, hs, h => by
    unfold chkT at h
    exact val_pl C.hK (sndE (.lst x0) C tw hs (noB h).2) (noB h).1 rfl
  | .val (.ix x0 x1), X, W, sc, ex, C, tw, hs, h => by
    unfold chkT at h
    exact val_pl C.hK (sndE (.ix x0 x1) C tw hs (noB h).2) (noB h).1 rfl
  | .val (.slice x0 x1 x2), X, W, sc, ex, C, tw, hs, h => by
    unfold chkT at h
    exact val_pl C.hK (sndE (.slice x0 x1 x2) C tw hs (noB h).2) (noB h).1 rfl
  | .val (.fn x0 x1), X, W, sc, ex, C, tw, hs, h => by
    unfold chkT at h
    exact val_pl C.hK (sndE (.fn x0 x1) C tw hs (noB h).2) (noB h).1 rfl
  | .val (.mt x0 x1 x2), X, W, sc, ex, C, tw, hs, h => by
    unfold chkT at h
    exact val_pl C.hK (sndE (.mt x0 x1 x2) C tw hs (noB h).2) (noB h).1 rfl
  | .val (.fld x0 x1), X, W, sc, ex, C, tw, hs, h => by
    unfold chkT at h
    exact val_pl C.hK (sndE (.fld x0 x1) C tw hs (noB h).2) (noB h).1 rfl
  | .val (.isi x0 x1), X, W, sc, ex, C, tw, hs, h => by
    unfold chkT at h
    exact val_pl C.hK (sndE (.isi x0 x1) C tw hs (noB h).2) (noB h).1 rfl
  | .val (.call x0 x1 x2 x3), X, W, sc, ex, C, tw, hs, h => by
    unfold chkT at h
    exact val_pl C.hK (sndE (.call x0 x1 x2 x3) C tw hs (noB h).2) (noB h).1 rfl
  | .val (.make x0 x1 x2 x3), X, W, sc, ex, C, tw, hs, h => by
    unfold chkT at h
    exact val_pl C.hK (sndE (.make x0 x1 x2 x3) C tw hs (noB h).2) (noB h).1 rfl
  | .val (.meth x0 x1 x2 x3 x4), X, W, sc, ex, C, tw, hs, h => by
    unfold chkT at h
    exact val_pl C.hK (sndE (.meth x0 x1 x2 x3 x4) C tw hs (noB h).2) (noB h).1 rfl
  | .val (.comp x0 x1 x2 x3 x4), X, W, sc, ex, C, tw, hs, h => by
    unfold chkT at h
    exact val_pl C.hK (sndE (.comp x0 x1 x2 x3 x4) C tw hs (noB h).2) (noB h).1 rfl
  | .val (.tupRev x0), X, W, sc, ex, C, tw, hs, h => by
    unfold chkT at h
    exact val_pl C.hK (sndE (.tupRev x0) C tw hs (noB h).2) (noB h).1 rfl
  | .val (.tupRange x0), X, W, sc, ex, C, tw, hs, h => by
    unfold chkT at h
    exact val_pl C.hK (sndE (.tupRange x0) C tw hs (noB h).2) (noB h).1 rfl
  | .val (.cell x0), X, W, sc, ex, C, tw, hs, h => by
    unfold chkT at h
    exact val_pl C.hK (sndE (.cell x0) C tw hs (noB h).2) (noB h).1 rfl
  | .val (.frz x0), X, W, sc, ex, C, tw, hs, h => by
    unfold chkT at h
    exact val_pl C.hK (sndE (.frz x0) C tw hs (noB h).2) (noB h).1 rfl
  | .val (.own x0), X, W, sc, ex, C, tw, hs, h => by
    unfold chkT at h
    exact val_pl C.hK (sndE (.own x0) C tw hs (noB h).2) (noB h).1 rfl
  | .and a b, X, W, sc, ex, C, tw, hs, h => by
    unfold chkT at h
    split at h
    · rename_i x y r pos
      obtain ⟨h1, h2⟩ := noB h
      have w : PW X (.BoolOp .And (x :: y :: r) pos) (lT S T W (wpT T (.and a b))) := by
        refine rw_and (sndT a C tw hs h1).1 ?_
        cases r with
        | nil => exact pw_and1 (sndT b C tw hs h2).1
        | cons z r => exact (sndT b C tw hs h2).2 _ _ _ rfl
      exact ⟨w.pt, fun _ _ _ _ => w⟩
    · exact absurd h Bool.false_ne_true
  | .or a b, X, W, sc, ex, C, tw, hs, h => by
    unfold chkT at h
    split at h
    · rename_i x y r pos
      obtain ⟨h1, h2⟩ := noB h
      have w : PW X (.BoolOp .Or (x :: y :: r) pos) (lT S T W (wpT T (.or a b))) := by
        refine rw_or (sndT a C tw hs h1).1 ?_
        cases r with
        | nil => exact pw_or1 (sndT b C tw hs h2).1
        | cons z r => exact (sndT b C tw hs h2).2 _ _ _ rfl
      exact ⟨w.pt, fun _ _ _ _ => w⟩
    · exact absurd h Bool.false_ne_true
  | .not a, X, W, sc, ex, C, tw, hs, h => by
    unfold chkT at h
    split at h
    · exact ⟨rt_not (sndT a C tw hs h).1, fun _ _ _ z => by cases z⟩
    · exact absurd h Bool.false_ne_true
theorem sndSrc : ∀ (s : Src) {X : Cx} {W : WX} {sc : Scope} {ex tx : Expr}, XC S T K i X → Takes X W → X.env.scope = sc → chkSrc K s sc ex tx = true → PI X tx ex (lI S T W (wpSrc T s))
  | .seq a, X, W, sc, ex, tx, C, tw, hs, h => by
    unfold chkSrc at h
    exact r_seq C.hK (sndE a C tw hs h)
  | .range es, X, W, sc, ex, tx, C, tw, hs, h => by
    unfold chkSrc at h
    split at h
    · rename_i x p es' pos
      obtain ⟨h, h4⟩ := noB h
      obtain ⟨h, h3⟩ := noB h
      obtain ⟨h1, h2⟩ := noB h
      have e := beqS h1
      subst e
      obtain ⟨a1, a2, a3⟩ := sndEs es C tw hs h4
      match es', h3, a1, a2 with
      | [a], _, a1, a2 => exact r_range1 (gl_of hs h2) (C.blt _ (by decide +kernel)) (by simpa using a2) a1
      | [a, b], _, a1, a2 =>
        have a2 : notStar a = true ∧ notStar b = true := by simpa using a2
        exact r_range2 (gl_of hs h2) (C.blt _ (by decide +kernel)) a2.1 a2.2 a1
    · exact absurd h Bool.false_ne_true
  | .enum a, X, W, sc, ex, tx, C, tw, hs, h => by
    unfold chkSrc at h
    split at h
    · obtain ⟨h, h4⟩ := noB h
      obtain ⟨h, h3⟩ := noB h
      obtain ⟨h1, h2⟩ := noB h
      have e := beqS h1
      subst e
      exact r_enum C.hK (gl_of hs h2) (C.blt _ (by decide +kernel)) h3 (sndE a C tw hs h4)
    · exact absurd h Bool.false_ne_true
  | .zip a b, X, W, sc, ex, tx, C, tw, hs, h => by
    unfold chkSrc at h
    split at h
    · obtain ⟨h, h6⟩ := noB h
      obtain ⟨h, h5⟩ := noB h
      obtain ⟨h, h4⟩ := noB h
      obtain ⟨h, h3⟩ := noB h
      obtain ⟨h1, h2⟩ := noB h
      have e := beqS h1
      subst e
      exact r_zip C.hK (gl_of hs h2) (C.blt _ (by decide +kernel)) h3 h4 (sndE a C tw hs h5) (sndE b C tw hs h6)
    · exact absurd h Bool.false_ne_true
end
end
end PL
/-! ### statements -/
namespace PL
open PySem PySem.Spec PyProof.Rows L2

structure EndsOK (T : Tb) (c : Cn) (W : WX) (M : Mem) (H : Hp) (DD : DEnds) (D : Ends) : Prop where
  nx : ∀ ρ' σ' M' H', DD.nx ρ' M' → SR c ρ' σ' M' H' → Keep c M H M' H' → D.nx σ' H'
  bk : ∀ ρ' σ' M' H', DD.bk ρ' M' → SR c ρ' σ' M' H' → Keep c M H M' H' → D.bk σ' H'
  ct : ∀ ρ' σ' M' H', DD.ct ρ' M' → SR c ρ' σ' M' H' → Keep c M H M' H' → D.ct σ' H'
  rt : ∀ r M' v H', DD.rt r M' → RV c M H M' H' r v → D.rt v H'
  ex : ∀ k f ρ' σ' M' H' d, DD.ex k f ρ' M' → SR c ρ' σ' M' H' → Keep c M H M' H' → XD T c M' H' d k f → W (.ref (c.cA k)) (some d) σ' H'
abbrev DTS := DEnds → Sd → Mem → Prop
def lS (S : Cs) (T : Tb) (W : WX) (t : DTS) : TS := fun D σ H => ∃ (c : Cn) (ρ : Sd) (M : Mem) (DD : DEnds), S.ok c ∧ SR c ρ σ M H ∧ t DD ρ M ∧ EndsOK T c W M H DD D
theorem PS.imp {X : Cx} {e : Stmt} {t t' : TS} (h : PS X e t) (i : ∀ D σ H, t' D σ H → t D σ H) : PS X e t' := ⟨fun pins s σ H D I q => h.run pins s σ H D I (i D σ H q)⟩
theorem PSs.imp {X : Cx} {e : List Stmt} {t t' : TS} (h : PSs X e t) (i : ∀ D σ H, t' D σ H → t D σ H) : PSs X e t' := ⟨fun pins s σ H D I q => h.run pins s σ H D I (i D σ H q)⟩
section
variable {S : Cs} {T : Tb} {W : WX} {c : Cn} {ρ : Sd} {σ : L2.St} {M M1 : Mem} {H H1 : Hp} {DD : DEnds} {D : Ends}
theorem EndsOK.after (e : EndsOK T c W M H DD D) (k : Keep c M H M1 H1) : EndsOK T c W M1 H1 DD D :=
  ⟨fun ρ' σ' M' H' h s k' => e.nx ρ' σ' M' H' h s (k.trans k'), fun ρ' σ' M' H' h s k' => e.bk ρ' σ' M' H' h s (k.trans k'), fun ρ' σ' M' H' h s k' => e.ct ρ' σ' M' H' h s (k.trans k'), fun r M' v H' h rv => e.rt r M' v H' h (rv.after k),
    fun n f ρ' σ' M' H' d h s k' x => e.ex n f ρ' σ' M' H' d h s (k.trans k') x⟩
theorem EndsOK.xok (e : EndsOK T c W M H DD D) (s : SR c ρ σ M H) : XOK T c W σ M H (DD.at_ ρ) := fun k f M' H' d h kp m x => e.ex k f ρ σ M' H' d h (s.keep kp m) kp x
end
theorem swap_eq {v : Expr} {x : Str} {p : Pos} {l : Nat} {env : Env} (h : setOk v = true) : swapsWith v (some (.Name x p)) l env = pure (swB env.scope x p v) := by
  cases v <;> first | rfl | exact absurd h Bool.false_ne_true
theorem swap_comp {v : Expr} {t : Option Expr} {l : Nat} {env : Env} (h : isComp v = false) : swapsWith v t l env = pure false := by
  cases v <;> first | rfl | exact absurd h (by simp [isComp])
section
variable {S : Cs} {T : Tb} {K : Ck} {i : Nat} {X : Cx} {W : WX} {sc : Scope}
/-- name = [..] on its own line -/
theorem set_lc (C : XC S T K i X) (tw : Takes X W) (hs : X.env.scope = sc) {j : Nat} {y : Str} {py pos spos : Pos} {elt : Expr} {gs : List Comprehension} {scope : Scope} (hy : X.N[j]? = some y) (hl : sc.names.lookup y = some .local) (hw : swB sc y py (.ListComp elt gs scope pos) = true) :
    ∀ e : E, chkE K e sc (.ListComp elt gs scope pos) = true → PS X (.Assign [.Name y py] (.ListComp elt gs scope pos) spos) (tAsg (lE S T W (wpE T e)) (gName j))
  | .comp elt0 t s cond own, h => by
    have hsw : swapsWith (.ListComp elt gs scope pos) (some (.Name y py)) spos.line X.env = pure true := by rw [swap_eq rfl, hs, hw]
    unfold chkE at h
    split at h
    · rename_i elt' tg iter ifs scope pos e
      cases e
      obtain ⟨h, h7⟩ := noB h
      obtain ⟨h, h6⟩ := noB h
      obtain ⟨h, h5⟩ := noB h
      obtain ⟨h, h4⟩ := noB h
      obtain ⟨h, h3⟩ := noB h
      obtain ⟨h1, h2⟩ := noB h
      have inn : ∀ (cl : List (Str × Addr)) (A : Addr), (compEnvC scope cl A X.env).scope = inB scope sc := fun cl A => by rw [← hs]; rfl
      exact PS.imp (ps_setLc (g := gT X.K t) C.calm C.nd hy (by rw [hs]; exact hl) hsw (sndSrc s C tw hs h5) (blkOk_by (by rw [C.N, hs]; exact h1))
        (fun s' H A cl fp => tg_ok (C.blk s' H scope _ fp) (inn cl A) (fun _ z => z) h2)
        (fun s' H A cl fp => sndC cond (C.blk s' H scope _ fp) takes0 (inn cl A) h6)
        (fun s' H A cl fp => sndE elt0 (C.blk s' H scope _ fp) takes0 (inn cl A) h7) (set_it h4)) fun D σ H h => comp_run C.hK (own_t h3) h
    · exact absurd h Bool.false_ne_true
  | .cell a, h => by
    unfold chkE at h
    exact PS.imp (set_lc C tw hs hy hl hw a h) fun D σ H h => by
      obtain ⟨c, ρ, M, Q', E, ok, s, x, t, q⟩ := h
      refine ⟨c, ρ, M, _, E, ok, s, x, t, fun r M1 v H1 hk rv => ?_⟩
      cases r with
      | val d => exact hk.elim
      | new o =>
        obtain ⟨p, rfl, hp, k, m⟩ := rv
        exact q _ _ _ _ (hk p hp) ⟨k, m, by simp only [Den]⟩
  | .frz a, h => by
    unfold chkE at h
    exact PS.imp (set_lc C tw hs hy hl hw a h) fun D σ H h => by
      obtain ⟨c, ρ, M, Q', E, ok, s, x, t, q⟩ := h
      refine ⟨c, ρ, M, _, E, ok, s, x, t, fun r M1 v H1 hk rv => ?_⟩
      split at hk
      · rename_i p
        split at hk
        · rename_i o e
          obtain ⟨k, m, d⟩ := rv
          simp only [Den] at d
          subst d
          exact q _ _ _ _ hk ⟨k.trans (Keep.sub (Sub.del M1 p)), m.sub (Sub.del M1 p), Den.frz m e⟩
        · exact hk.elim
      · exact hk.elim
  | .own a, h => by
    unfold chkE at h
    exact PS.imp (set_lc C tw hs hy hl hw a h) fun D σ H h => by
      obtain ⟨c, ρ, M, Q', E, ok, s, x, t, q⟩ := h
      refine ⟨c, ρ, M, _, E, ok, s, x, t, fun r M1 v H1 hk rv => ?_⟩
      split at hk
      · rename_i p
        split at hk
        · rename_i o e
          obtain ⟨k, m, d⟩ := rv
          simp only [Den] at d
          subst d
          exact q _ _ _ _ hk ⟨p, rfl, if_pos rfl, by rw [mput_mdel e]; exact k, by rw [mput_mdel e]; exact m⟩
        · exact hk.elim
      · exact hk.elim
  | .var _, h => by unfold chkE at h; exact absurd h Bool.false_ne_true
  | .con _, h => by unfold chkE at h; exact absurd h Bool.false_ne_true
  | .glob _, h => by unfold chkE at h; exact absurd h Bool.false_ne_true
  | .op _ _ _, h => by unfold chkE at h; exact absurd h Bool.false_ne_true
  | .neg _, h => by unfold chkE at h; exact absurd h Bool.false_ne_true
  | .cmp _ _ _, h => by unfold chkE at h; exact absurd h Bool.false_ne_true
  | .chain _ _ _ _ _, h => by unfold chkE at h; exact absurd h Bool.false_ne_true
  | .and _ _, h => by unfold chkE at h; exact absurd h Bool.false_ne_true
  | .or _ _, h => by unfold chkE at h; exact absurd h Bool.false_ne_true
  | .not _, h => by unfold chkE at h; exact absurd h Bool.false_ne_true
  | .ite _ _ _, h => by unfold chkE at h; exact absurd h Bool.false_ne_true
  | .tup _, h => by unfold chkE at h; exact absurd h Bool.false_ne_true
  | .lst _, h => by unfold chkE at h; exact absurd h Bool.false_ne_true
  | .ix _ _, h => by unfold chkE at h; exact absurd h Bool.false_ne_true
  | .slice _ _ _, h => by unfold chkE at h; exact absurd h Bool.false_ne_true
  | .fn _ _, h => by unfold chkE at h; exact absurd h Bool.false_ne_true
  | .mt _ _ _, h => by unfold chkE at h; exact absurd h Bool.false_ne_true
  | .fld _ _, h => by unfold chkE at h; exact absurd h Bool.false_ne_true
  | .isi _ _, h => by unfold chkE at h; exact absurd h Bool.false_ne_true
  | .call _ _ _ _, h => by unfold chkE at h; exact absurd h Bool.false_ne_true
  | .make _ _ _ _, h => by unfold chkE at h; exact absurd h Bool.false_ne_true
  | .meth _ _ _ _ _, h => by unfold chkE at h; exact absurd h Bool.false_ne_true
  | .tupRev _, h => by unfold chkE at h; exact absurd h Bool.false_ne_true
  | .tupRange _, h => by unfold chkE at h; exact absurd h Bool.false_ne_true
theorem set_at (C : XC S T K i X) (tw : Takes X W) (hs : X.env.scope = sc) (hfn : ∀ x, X.fn x = true) {j : Nat} {y : Str} {py spos : Pos} {v : Expr} {e : E} (h1 : K.N[j]? = some y) (h2 : (locB sc y || celB sc y) = true) (h3 : setOk v = true) (h : chkE K e sc v = true) :
    PS X (.Assign [.Name y py] v spos) (tAsg (lE S T W (wpE T e)) (gName j)) := by
  have hy : X.N[j]? = some y := by rw [C.N]; exact h1
  have hx : Loc X.env.scope y ∧ (X.fn y = true ∨ X.env.scope.names.lookup y = some .local) := by
    rw [hs]
    rw [Bool.or_eq_true] at h2
    rcases h2 with h2 | h2
    · have := loc_of h2; exact ⟨.inl this, .inr this⟩
    · unfold celB at h2
      split at h2
      · exact ⟨.inr (by assumption), .inl (hfn _)⟩
      · exact absurd h2 Bool.false_ne_true
  cases hw : swB sc y py v with
  | false => exact ps_set C.nd hy hx.1 (sndE e C tw hs h) (by rw [swap_eq h3, hs, hw]) hx.2
  | true =>
    cases v <;> try (exact absurd hw Bool.false_ne_true)
    rename_i elt gs scope pos
    have hl : sc.names.lookup y = some .local := by
      have := hw
      simp only [swB, Bool.and_eq_true, beq_iff_eq] at this
      exact this.1.1.2
    exact set_lc C tw hs hy hl hw e h
end
end PL
/-! ### the rules of statements -/
namespace PL
open PySem PySem.Spec PyProof.Rows L2
def putV (f : Str) (v : V) : List Str → List V → List V
  | [], _ => [v]
  | _, [] => [v]
  | g :: r, x :: xs => if g = f then v :: xs else x :: putV f v r xs
theorem putF_zip {f : Str} {v : V} : ∀ {ns : List Str} {vs : List V}, ns.length = vs.length → putF f v (ns.zip vs) = (putN f ns).zip (putV f v ns vs)
  | [], [], _ => rfl
  | n :: ns, w :: vs, h => by
    show (if n = f then (n, v) :: ns.zip vs else (n, w) :: putF f v (ns.zip vs)) = _
    unfold putN putV
    by_cases e : n = f
    · rw [if_pos e, if_pos e, if_pos e]; rfl
    · rw [if_neg e, if_neg e, if_neg e, putF_zip (by simpa using h)]; rfl
  | [], _ :: _, h => by simp at h
  | _ :: _, [], h => by simp at h
theorem putX_len {f : Str} {d : D} : ∀ {ns : List Str} {xs : List D}, ns.length = xs.length → (putN f ns).length = (putX f d ns xs).length
  | [], [], _ => rfl
  | n :: ns, w :: vs, h => by
    unfold putN putX
    by_cases e : n = f
    · rw [if_pos e, if_pos e]; simpa using h
    · rw [if_neg e, if_neg e, List.length_cons, List.length_cons, putX_len (by simpa using h)]
  | [], _ :: _, h => by simp at h
  | _ :: _, [], h => by simp at h
theorem putX_den {c : Cn} {M : Mem} {H : Hp} {f : Str} {d : D} {v : V} (q : Den c M H d v) : ∀ {ns : List Str} {xs : List D} {vs : List V}, ns.length = xs.length → DenL c M H xs vs → DenL c M H (putX f d ns xs) (putV f v ns vs)
  | [], [], _, _, h => by simp only [DenL] at h; subst h; exact DenL.cons q DenL.nil
  | n :: ns, x :: xs, _, hl, h => by
    simp only [DenL] at h
    obtain ⟨w, r, rfl, h1, h2⟩ := h
    unfold putX putV
    by_cases e : n = f
    · rw [if_pos e, if_pos e]; exact DenL.cons q h2
    · rw [if_neg e, if_neg e]; exact DenL.cons h1 (putX_den q (by simpa using hl) h2)
  | [], _ :: _, _, h, _ => by simp at h
  | _ :: _, [], _, h, _ => by simp at h
section
variable {S : Cs} {T : Tb} {K : Ck} {i : Nat} {X : Cx} {W : WX} {te to ti : DTE} {tt : DTT} {tr : DTA} {e o ie : Expr} {a b : List Stmt} {t u : DTS} {pos p : Pos} {D : Ends} {σ : L2.St} {H : Hp}
theorem s_set {j : Nat} (h : lS S T W (fun DD ρ M => te ρ M (fun r M1 => DD.nx (ρ.set j (some r.d)) M1) (DD.at_ ρ)) D σ H) : tAsg (lE S T W te) (gName j) D σ H := by
  obtain ⟨c, ρ, M, DD, ok, s, t, e⟩ := h
  refine ⟨c, ρ, M, _, DD.at_ ρ, ok, s, e.xok s, t, fun r M1 v H1 hk rv => ?_⟩
  obtain ⟨k1, m1, d1⟩ := rv.plain
  exact e.nx _ _ _ _ hk ((s.keep k1 m1).set d1) k1
theorem s_setT {tg : Tg} (hK : X.K = S.K) (h : lS S T W (fun DD ρ M => te ρ M (fun r M1 => bindT tg r.d ρ fun ρ' => DD.nx ρ' M1) (DD.at_ ρ)) D σ H) : tAsg (lE S T W te) (gT X.K tg) D σ H := by
  obtain ⟨c, ρ, M, DD, ok, s, t, e⟩ := h
  refine ⟨c, ρ, M, _, DD.at_ ρ, ok, s, e.xok s, t, fun r M1 v H1 hk rv => ?_⟩
  obtain ⟨k1, m1, d1⟩ := rv.plain
  exact gT_run (ok.1.trans hK.symm) (s.keep k1 m1) d1 hk fun ρ2 σ2 h2 s2 _ _ => e.nx _ _ _ _ h2 s2 k1
theorem s_par {j k n : Nat} (h : lS S T W (fun DD ρ M => tr ρ M (fun ds M1 => [j, k].length = ds.length ∧ DD.nx (([j, k].zip ds).foldl (fun r p => r.set p.1 (some p.2)) ρ) M1) (DD.at_ ρ)) D σ H) : tPar j k (lA S T W n tr) D σ H := by
  obtain ⟨c, ρ, M, DD, ok, s, t, e⟩ := h
  refine ⟨c, ρ, M, _, DD.at_ ρ, ok, s, e.xok s, t, fun ds M1 vs H1 hn hk k1 m1 d1 => ?_⟩
  obtain ⟨hl, hk⟩ := hk
  match ds, hl, hk, d1 with
  | [d1, d2], _, hk, q =>
    obtain ⟨v, w, rfl, q1, q2⟩ := q.two
    exact ⟨v, w, rfl, e.nx _ _ _ _ hk (((s.keep k1 m1).set q1).set q2) k1⟩
theorem s_sub (h : lS S T W (fun DD ρ M => te ρ M (fun r M1 => to ρ M1 (fun x M2 => ti ρ M2 (fun y M3 => setS x.d y.d r.d M3 fun M4 => DD.nx ρ M4) (DD.at_ ρ)) (DD.at_ ρ)) (DD.at_ ρ)) D σ H) :
    tAsg (lE S T W te) (gSub (lE S T W to) (lE S T W ti) rSetL) D σ H := by
  obtain ⟨c, ρ, M, DD, ok, s, t, e⟩ := h
  refine ⟨c, ρ, M, _, DD.at_ ρ, ok, s, e.xok s, t, fun r M1 v H1 hk rv => ?_⟩
  obtain ⟨k1, m1, d1⟩ := rv.plain
  refine ⟨c, ρ, M1, _, DD.at_ ρ, ok, s.keep k1 m1, (e.xok s).after k1, hk, fun r2 M2 v2 H2 hk2 rv2 => ?_⟩
  obtain ⟨k2, m2, d2⟩ := rv2.plain
  have k12 := k1.trans k2
  refine ⟨c, ρ, M2, _, DD.at_ ρ, ok, s.keep k12 m2, (e.xok s).after k12, hk2, fun r3 M3 v3 H3 hk3 rv3 => ?_⟩
  obtain ⟨k3, m3, d3⟩ := rv3.plain
  obtain ⟨p, xs, e1, hp, hk3⟩ := cell_of hk3
  obtain ⟨z, e2, hk3⟩ := int_of hk3
  obtain ⟨j, e3, hk3⟩ := opt_of hk3
  have d2 := Den.keep k3 _ _ d2
  rw [e1] at d2
  rw [e2] at d3
  simp only [Den] at d2 d3
  subst d2 d3
  obtain ⟨vs, hv, l, q⟩ := cell_at m3 hp
  have dv := Den.keep (k2.trans k3) _ _ d1
  have kw := Keep.write (o := .lst (vs.set j v)) (ob' := .lst (xs.set j r.d)) m3 hp
  have mw := MR.write (o := .lst (vs.set j v)) (ob' := .lst (xs.set j r.d)) m3 hp ⟨_, rfl, by rw [List.length_set]; exact l, q.set dv j⟩
  exact ⟨p, vs, z, j, rfl, rfl, hv, by rw [← q.length]; exact e3, e.nx _ _ _ _ hk3 (s.keep ((k12.trans k3).trans kw) mw) ((k12.trans k3).trans kw)⟩
theorem s_fld {f : Str} (hK : X.K = S.K) (hcl : ∀ k, T.nc k = true → ClsOk S.K (S.cA k) (T.at_ k)) (h : lS S T W (fun DD ρ M => te ρ M (fun r M1 => to ρ M1 (fun x M2 => match x.d with
    | .ref p => match M2 p with
      | some (.ins c ns xs) => (T.nc c && (T.at_ c).contains f) = true ∧ ns.length < 1000 ∧ DD.nx ρ (mput M2 p (.ins c (putN f ns) (putX f r.d ns xs)))
      | _ => False
    | _ => False) (DD.at_ ρ)) (DD.at_ ρ)) D σ H) : sFld X.K (lE S T W to) (lE S T W te) f D σ H := by
  obtain ⟨c, ρ, M, DD, ok, s, t, e⟩ := h
  refine ⟨c, ρ, M, _, DD.at_ ρ, ok, s, e.xok s, t, fun r M1 v H1 hk rv => ?_⟩
  obtain ⟨k1, m1, d1⟩ := rv.plain
  refine ⟨c, ρ, M1, _, DD.at_ ρ, ok, s.keep k1 m1, (e.xok s).after k1, hk, fun r2 M2 v2 H2 hk2 rv2 => ?_⟩
  obtain ⟨k2, m2, d2⟩ := rv2.plain
  have k12 := k1.trans k2
  split at hk2
  · rename_i p e1
    split at hk2
    · rename_i cn ns xs e2
      obtain ⟨h1, hn, hk2⟩ := hk2
      rw [Bool.and_eq_true] at h1
      have C := hcl cn h1.1
      rw [e1] at d2
      simp only [Den] at d2
      subst d2
      obtain ⟨u, hu, dx, vs, rfl, l, q⟩ := m2.at_ p _ e2
      have dv := Den.keep k2 _ _ d1
      have lv := q.length
      have ez : putF f v (ns.zip vs) = (putN f ns).zip (putV f v ns vs) := putF_zip (by omega)
      have kw := Keep.write (o := .ins (c.cA cn) dx (putF f v (ns.zip vs))) (ob' := .ins cn (putN f ns) (putX f r.d ns xs)) m2 e2
      have mw := MR.write (o := .ins (c.cA cn) dx (putF f v (ns.zip vs))) (ob' := .ins cn (putN f ns) (putX f r.d ns xs)) m2 e2 ⟨dx, _, by rw [ez], putX_len l, putX_den dv l q⟩
      refine ⟨p, c.cA cn, dx, ns.zip vs, rfl, hu, ?_, ?_, ?_, e.nx _ _ _ _ hk2 (s.keep (k12.trans kw) mw) (k12.trans kw)⟩
      · rw [ok.2, hK]; exact C.cl
      · rw [ok.2, hK]; exact C.na f (by simpa using h1.2)
      · have := List.length_zip (l₁ := ns) (l₂ := vs); omega
    · exact hk2.elim
  · exact hk2.elim
theorem s_expr (h : lS S T W (fun DD ρ M => te ρ M (fun _ M1 => DD.nx ρ M1) (DD.at_ ρ)) D σ H) : tDrop (lE S T W te) D σ H := by
  obtain ⟨c, ρ, M, DD, ok, s, t, e⟩ := h
  refine ⟨c, ρ, M, _, DD.at_ ρ, ok, s, e.xok s, t, fun r M1 v H1 hk rv => ?_⟩
  obtain ⟨k1, m1, d1⟩ := rv.plain
  exact e.nx _ _ _ _ hk (s.keep k1 m1) k1
theorem s_ret (h : lS S T W (fun DD ρ M => te ρ M DD.rt (DD.at_ ρ)) D σ H) : tRet (lE S T W te) D σ H := by
  obtain ⟨c, ρ, M, DD, ok, s, t, e⟩ := h
  exact ⟨c, ρ, M, _, DD.at_ ρ, ok, s, e.xok s, t, fun r M1 v H1 hk rv => e.rt _ _ _ _ hk rv⟩
theorem s_retN (h : lS S T W (fun DD _ M => DD.rt (.val .non) M) D σ H) : tRetN D σ H := by
  obtain ⟨c, ρ, M, DD, ok, s, t, e⟩ := h
  exact e.rt _ _ _ _ t ⟨Keep.refl _ _ _, s.mem, by simp only [Den]⟩
theorem s_ite (h : lS S T W (fun DD ρ M => tt ρ M (fun k M1 => if k = true then t DD ρ M1 else u DD ρ M1) (DD.at_ ρ)) D σ H) : tIfS (lT S T W tt) (lS S T W t) (lS S T W u) D σ H := by
  obtain ⟨c, ρ, M, DD, ok, s, t, e⟩ := h
  refine ⟨c, ρ, M, _, DD.at_ ρ, ok, s, e.xok s, t, fun k M1 H1 hk k1 m1 => ?_⟩
  cases k with
  | true => exact ⟨c, ρ, M1, DD, ok, s.keep k1 m1, hk, e.after k1⟩
  | false => exact ⟨c, ρ, M1, DD, ok, s.keep k1 m1, hk, e.after k1⟩
theorem s_nx (h : lS S T W (fun DD ρ M => DD.nx ρ M) D σ H) : tNext D σ H := by
  obtain ⟨c, ρ, M, DD, ok, s, t, e⟩ := h
  exact e.nx _ _ _ _ t s (Keep.refl _ _ _)
theorem s_bk (h : lS S T W (fun DD ρ M => DD.bk ρ M) D σ H) : tBreak D σ H := by
  obtain ⟨c, ρ, M, DD, ok, s, t, e⟩ := h
  exact e.bk _ _ _ _ t s (Keep.refl _ _ _)
theorem s_ct (h : lS S T W (fun DD ρ M => DD.ct ρ M) D σ H) : tCont D σ H := by
  obtain ⟨c, ρ, M, DD, ok, s, t, e⟩ := h
  exact e.ct _ _ _ _ t s (Keep.refl _ _ _)
theorem s_seq (h : lS S T W (fun DD ρ M => t { DD with nx := u DD } ρ M) D σ H) : tSeq (lS S T W t) (lS S T W u) D σ H := by
  obtain ⟨c, ρ, M, DD, ok, s, t, e⟩ := h
  exact ⟨c, ρ, M, _, ok, s, t, ⟨fun ρ' σ' M' H' h s' k => ⟨c, ρ', M', DD, ok, s', h, e.after k⟩, e.bk, e.ct, e.rt, e.ex⟩⟩
theorem s_for {src : DTK} {tg : Tg} (hK : X.K = S.K) (h : lS S T W (fun DD ρ M => src ρ M (fun items live M1 => ∃ W : Nat → Sd → Mem → Prop, W 0 ρ M1 ∧
      (∀ i ρ' M', i ≤ items.length → W i ρ' M' → live M') ∧
      (∀ i x ρ' M', items[i]? = some x → W i ρ' M' → bindT tg x ρ' fun ρ2 => t { DD with nx := W (i + 1), ct := W (i + 1), bk := DD.nx } ρ2 M') ∧
      (∀ ρ' M', W items.length ρ' M' → DD.nx ρ' M')) (DD.at_ ρ)) D σ H) : tFor (lI S T W src) (gT X.K tg) (lS S T W t) D σ H := by
  obtain ⟨c, ρ, M, DD, ok, s, t0, e⟩ := h
  refine ⟨c, ρ, M, _, DD.at_ ρ, ok, s, e.xok s, t0, fun items live M1 H1 J hk k1 m1 wd => ?_⟩
  obtain ⟨Wd, w0, wl, ws, wq⟩ := hk
  obtain ⟨hsz, wd⟩ := wd
  have s1 := s.keep k1 m1
  have w : Walk J items.length (fun H2 => ∃ M', Keep c M1 H1 M' H2 ∧ MR c M' H2 ∧ live M')
      (fun i H2 x H3 => ∀ M', Keep c M1 H1 M' H2 → MR c M' H2 → live M' → ∃ d, items[i]? = some d ∧ Keep c M' H2 M' H3 ∧ MR c M' H3 ∧ Den c M' H3 d x) :=
    ⟨fun i H2 hi ⟨M', k, m, l⟩ => (wd _ M' H2 k.g m l).1 i hi, fun H2 ⟨M', k, m, l⟩ => (wd _ M' H2 k.g m l).2.1, fun i H2 x H3 hi _ y M' k m l => (wd _ M' H2 k.g m l).2.2 i x H3 hi y⟩
  refine for_it w (fun i σ2 H2 => ∃ ρ' M', i ≤ items.length ∧ Wd i ρ' M' ∧ SR c ρ' σ2 M' H2 ∧ Keep c M1 H1 M' H2) ⟨ρ, M1, Nat.zero_le _, w0, s1, Keep.refl _ _ _⟩ ?_ ?_ ?_
  · rintro i σ2 H2 hi ⟨ρ', M', _, wi, sr, k⟩
    exact ⟨M', k, sr.mem, wl i ρ' M' hi wi⟩
  · rintro i x σ2 H2 H3 hi ⟨ρ', M', _, wi, sr, k⟩ y
    obtain ⟨d, hd, k3, m3, dx⟩ := y M' k sr.mem (wl i ρ' M' (Nat.le_of_lt hi) wi)
    refine gT_run (ok.1.trans hK.symm) (sr.keep k3 m3) dx (ws i d ρ' M' hd wi) fun ρ2 σ3 h2 s2 _ _ => ?_
    have ka := k.trans k3
    exact ⟨c, ρ2, M', _, ok, s2, h2, ⟨fun ρ4 σ4 M4 H4 h s' k' => ⟨ρ4, M4, hi, h, s', ka.trans k'⟩, fun ρ4 σ4 M4 H4 h s' k' => e.nx _ _ _ _ h s' (k1.trans (ka.trans k')), fun ρ4 σ4 M4 H4 h s' k' => ⟨ρ4, M4, hi, h, s', ka.trans k'⟩,
      fun r M4 v H4 h rv => e.rt _ _ _ _ h (rv.after (k1.trans ka)), fun n f ρ4 σ4 M4 H4 d h s' k' xd => e.ex n f ρ4 σ4 M4 H4 d h s' (k1.trans (ka.trans k')) xd⟩⟩
  · rintro σ2 H2 ⟨ρ', M', _, wi, sr, k⟩
    exact e.nx _ _ _ _ (wq ρ' M' wi) sr (k1.trans k)
theorem s_while (h : lS S T W (fun DD ρ M => ∃ W : Nat → Sd → Mem → Prop, (∃ m, W m ρ M) ∧ ∀ m ρ' M', W m ρ' M' →
      tt ρ' M' (fun k M1 => if k = true then t { DD with nx := fun ρ2 M2 => ∃ m', m' < m ∧ W m' ρ2 M2, ct := fun ρ2 M2 => ∃ m', m' < m ∧ W m' ρ2 M2, bk := DD.nx } ρ' M1 else DD.nx ρ' M1) (DD.at_ ρ')) D σ H) :
    tWhile (lT S T W tt) (lS S T W t) D σ H := by
  obtain ⟨c, ρ, M, DD, ok, s, ⟨Wd, ⟨m0, w0⟩, hw⟩, e⟩ := h
  refine ⟨fun m σ2 H2 => ∃ ρ' M', Wd m ρ' M' ∧ SR c ρ' σ2 M' H2 ∧ Keep c M H M' H2, ⟨m0, ρ, M, w0, s, Keep.refl _ _ _⟩, ?_⟩
  rintro m σ2 H2 ⟨ρ', M', wm, sr, k⟩
  refine ⟨c, ρ', M', _, DD.at_ ρ', ok, sr, (e.after k).xok sr, hw m ρ' M' wm, fun b M3 H3 hb k3 m3 => ?_⟩
  have ka := k.trans k3
  cases b with
  | false => exact e.nx _ _ _ _ hb (sr.keep k3 m3) ka
  | true =>
    refine ⟨fun σ4 H4 => ∃ m', m' < m ∧ ∃ ρ2 M2, Wd m' ρ2 M2 ∧ SR c ρ2 σ4 M2 H4 ∧ Keep c M H M2 H4, fun σ4 H4 h => h, ?_⟩
    exact ⟨c, ρ', M3, _, ok, sr.keep k3 m3, hb, ⟨fun ρ4 σ4 M4 H4 ⟨m', hm, h⟩ s' k' => ⟨m', hm, ρ4, M4, h, s', ka.trans k'⟩, fun ρ4 σ4 M4 H4 h s' k' => e.nx _ _ _ _ h s' (ka.trans k'), fun ρ4 σ4 M4 H4 ⟨m', hm, h⟩ s' k' => ⟨m', hm, ρ4, M4, h, s', ka.trans k'⟩,
      fun r M4 v H4 h rv => e.rt _ _ _ _ h (rv.after ka), fun n f ρ4 σ4 M4 H4 d h s' k' xd => e.ex n f ρ4 σ4 M4 H4 d h s' (ka.trans k') xd⟩⟩
theorem s_frz {j : Nat} (h : lS S T W (fun DD ρ M => match ρ[j]? with
    | some (some (.ref p)) => match M p with
      | some o => t DD (ρ.set j (some o.frz)) (mdel M p)
      | none => False
    | _ => False) D σ H) : lS S T W t D σ H := by
  obtain ⟨c, ρ, M, DD, ok, s, h, e⟩ := h
  split at h
  · rename_i p e1
    split at h
    · rename_i o e2
      obtain ⟨v, hv, q⟩ := s.get j _ e1
      simp only [Den] at q
      subst q
      have k : Keep c M H (mdel M p) H := Keep.sub (Sub.del M p)
      have m := s.mem.sub (Sub.del M p)
      have s2 := (s.keep k m).set (i := j) (Den.frz s.mem e2)
      have es : σ.set j (some (.ref p)) = σ := by
        apply List.ext_getElem?
        intro n
        by_cases z : j = n
        · subst z
          have := (List.getElem?_eq_some_iff.mp hv).1
          rw [List.getElem?_set_self this, hv]
        · rw [List.getElem?_set_ne z]
      rw [es] at s2
      exact ⟨c, _, _, DD, ok, s2, h, e.after k⟩
    · exact h.elim
  · exact h.elim
theorem iadd_ok : PIp X .Add (LV2 S fun x y M Q => augS .Add x y M fun r => Q r M) := by
  intro pins s σ H x y v u Q I rx ry ⟨c, M, dx, dy, Q', ok, m, d1, d2, h, q⟩
  dsimp only [augS] at h
  split at h
  · split at h
    · simp only [Den] at d1 d2
      subst d1 d2
      exact ip_add pins s σ H _ _ v u Q I rx ry ⟨_, _, rfl, rfl, q _ _ _ _ h (RV.same m (by simp only [Den]))⟩
    · exact h.elim
  · exact h.elim
theorem isub_ok : PIp X .Sub (LV2 S fun x y M Q => augS .Sub x y M fun r => Q r M) := by
  intro pins s σ H x y v u Q I rx ry ⟨c, M, dx, dy, Q', ok, m, d1, d2, h, q⟩
  obtain ⟨i, j, rfl, rfl, h⟩ := int2_of (show int2 dx dy _ from h)
  simp only [Den] at d1 d2
  subst d1 d2
  exact ip_sub pins s σ H _ _ v u Q I rx ry ⟨_, _, rfl, rfl, q _ _ _ _ h (RV.same m (by simp only [Den]))⟩
theorem s_aug {j : Nat} {op : Operator} (h : lS S T W (fun DD ρ M => match ρ[j]? with
    | some (some d) => te ρ M (fun r M1 => augS op d r.d M1 fun z => DD.nx (ρ.set j (some z.d)) M1) (DD.at_ ρ)
    | _ => False) D σ H) : tAug j (lE S T W te) (LV2 S fun x y M Q => augS op x y M fun r => Q r M) D σ H := by
  obtain ⟨c, ρ, M, DD, ok, s, h, e⟩ := h
  split at h
  · rename_i d e1
    obtain ⟨v, hv, q⟩ := s.get j _ e1
    refine ⟨v, hv, c, ρ, M, _, DD.at_ ρ, ok, s, e.xok s, h, fun r M1 w H1 hk rv => ?_⟩
    obtain ⟨k1, m1, d1⟩ := rv.plain
    refine ⟨c, M1, d, r.d, fun r' M' => DD.nx (ρ.set j (some r'.d)) M', ok, m1, Den.keep k1 _ _ q, d1, hk, fun r' M' v' H' h1 h2 => ?_⟩
    obtain ⟨k2, m2, d2⟩ := h2.plain
    exact e.nx _ _ _ _ h1 ((s.keep (k1.trans k2) m2).set d2) (k1.trans k2)
  · exact h.elim
end
end PL
/-! ### the short text tells a def's text -/
namespace PL
open PySem PySem.Spec PyProof.Rows L2
theorem par_eq {x y : Str} {px py pt pt2 : Pos} {kt k2 : Nat} {a b : Expr} {env : Env} (hx : env.scope.names.lookup x = some .local) (hy : env.scope.names.lookup y = some .local) (h : parB env.scope x y px py a b = true) :
    swappedStores [.Tuple [.Name x px, .Name y py] kt pt] (.Tuple [a, b] k2 pt2) env = pure (some [x, y]) := by
  unfold parB at h
  obtain ⟨h, h7⟩ := noB h
  obtain ⟨h, h6⟩ := noB h
  obtain ⟨h, h5⟩ := noB h
  obtain ⟨h, h4⟩ := noB h
  obtain ⟨h, h3⟩ := noB h
  obtain ⟨h1, h2⟩ := noB h
  have kx : env.kindOf x = some .local := hx
  have ky : env.kindOf y = some .local := hy
  have hbk : (env.blockKind != .function) = false := by
    have : (env.blockKind == .function) = true := h3
    rw [bne, this]; rfl
  have st : ([a, b].any fun | .Starred .. => true | _ => false) = false := by
    simp only [List.any_cons, List.any_nil, Bool.or_false, Bool.or_eq_false_iff]
    constructor
    · cases a <;> first | rfl | exact absurd h1 Bool.false_ne_true
    · cases b <;> first | rfl | exact absurd h2 Bool.false_ne_true
  have xy : (x == y) = false := by simpa using h4
  have yx : (y == x) = false := by
    rw [beq_eq_false_iff_ne] at xy ⊢
    exact fun e => xy e.symm
  have nt : ∀ {z : Bool}, (!z) = true → z = false := fun {z} h => by cases z <;> first | rfl | cases h
  have f1 : [a, b].all (foldedForSure 8) = false := nt h6
  have f2 : [a, b].all (constantsAlone 8) = false := nt h7
  have h5' : py.line = px.line := by simpa using h5
  unfold swappedStores
  simp only [hbk, st, f1, f2, List.length_cons, List.length_nil]
  rw [if_neg (by decide)]
  rw [if_neg (by rw [Bool.not_eq_true]; exact st)]
  simp [List.filterMap_cons, kx, ky, Expr.pos, h5', yx, List.eraseDups_cons]
section
variable {S : Cs} {T : Tb} {K : Ck} {i : Nat} {X : Cx} {W : WX} {sc : Scope}
theorem aug_ok {o : Operator} (h : (decide (o = .Add) || decide (o = .Sub)) = true) : PIp X o (LV2 S fun x y M Q => augS o x y M fun r => Q r M) := by
  rw [Bool.or_eq_true, decide_eq_true_eq, decide_eq_true_eq] at h
  rcases h with rfl | rfl
  · exact iadd_ok
  · exact isub_ok
theorem tup_sw {es : List Expr} {k : Nat} {p1 : Pos} {v : Expr} {l : Nat} {env : Env} (h : tupV es v = true) : swapsWithSole [.Tuple es k p1] v l env = pure false ∧ swappedStores [.Tuple es k p1] v env = pure none := by
  cases v <;> first | exact ⟨rfl, rfl⟩ | exact absurd h Bool.false_ne_true | skip
  refine ⟨rfl, ?_⟩
  have h' : (!(es.length == 2 || es.length == 3) || _ != es.length) = true := h
  unfold swappedStores
  simp only [h', Bool.true_or]
  rfl
mutual
theorem sndS (C : XC S T K i X) (tw : Takes X W) (hp : PassesOwn (model X.prog X.w) X.A X.env X.xe) (hs : X.env.scope = sc) (hfn : ∀ x, X.fn x = true) : ∀ (s : PL.S) {st : Stmt}, chkS K sc s st = true → PS X st (lS S T W (wpS T s))
  | .set j e, st, h => by
    unfold chkS at h
    split at h
    · obtain ⟨h, h4⟩ := noB h
      obtain ⟨h, h3⟩ := noB h
      obtain ⟨h1, h2⟩ := noB h
      exact PS.imp (set_at C tw hs hfn (beq_iff_eq.mp h1) h2 h3 h4) fun D σ H h => s_set h
    · exact absurd h Bool.false_ne_true
  | .setT t e, st, h => by
    unfold chkS at h
    split at h
    · obtain ⟨h, h3⟩ := noB h
      obtain ⟨h1, h2⟩ := noB h
      obtain ⟨s1, s2⟩ := tup_sw h1
      exact PS.imp (ps_asg (sndE e C tw hs h3) (tg_ok C hs (fun x _ => hfn x) h2) s1 s2) fun D σ H h => s_setT C.hK h
    · exact absurd h Bool.false_ne_true
  | .par is es, st, h => by
    unfold chkS at h
    split at h
    · rename_i x px y py kt pt a b k2 pt2 pos
      obtain ⟨h, h3⟩ := noB h
      obtain ⟨h1, h2⟩ := noB h
      split at h1
      · rename_i j k hh
        obtain ⟨h1, g5⟩ := noB h1
        obtain ⟨h1, g4⟩ := noB h1
        obtain ⟨h1, g3⟩ := noB h1
        obtain ⟨g1, g2⟩ := noB h1
        have lx := loc_of g3
        have ly := loc_of g4
        rw [← hs] at lx ly h2
        have hne : j ≠ k := by
          have : (j == k) = false := by simpa using g5
          exact beq_eq_false_iff_ne.mp this
        exact PS.imp (ps_par C.calm C.nd (by rw [C.N]; exact beq_iff_eq.mp g1) (by rw [C.N]; exact beq_iff_eq.mp g2) hne lx ly (sndEs es C tw hs h3).1 (par_eq lx ly h2)) fun D σ H h => s_par h
      · exact absurd h1 Bool.false_ne_true
    · exact absurd h Bool.false_ne_true
  | .sub o j e, st, h => by
    unfold chkS at h
    split at h
    · rename_i o' i' p1 v pos
      obtain ⟨h, h5⟩ := noB h
      obtain ⟨h, h4⟩ := noB h
      obtain ⟨h, h3⟩ := noB h
      obtain ⟨h1, h2⟩ := noB h
      have nc : isComp v = false := by simpa using h1
      refine PS.imp (ps_asg (sndE e C tw hs h3) (pg_sub (sndE o C tw hs h4) (sndE j C tw hs h5) set_list ?_) (swap_comp (t := some (.Subscript o' i' p1)) (l := pos.line) (env := X.env) nc) ?_) fun D σ H h => s_sub h
      · intro v
        cases i' <;> first | rfl | exact absurd h2 Bool.false_ne_true
      · cases v <;> rfl
    · exact absurd h Bool.false_ne_true
  | .fld o f e, st, h => by
    unfold chkS at h
    split at h
    · obtain ⟨h, h4⟩ := noB h
      obtain ⟨h, h3⟩ := noB h
      obtain ⟨h1, h2⟩ := noB h
      have e0 := beqS h2
      subst e0
      exact PS.imp (ps_fld (sndE o C tw hs h4) (sndE e C tw hs h3) (swap_comp (by simpa using h1))) fun D σ H h => s_fld C.hK C.clok h
    · exact absurd h Bool.false_ne_true
  | .aug j o e, st, h => by
    unfold chkS at h
    split at h
    · rename_i x p1 o' v pos
      obtain ⟨h, h5⟩ := noB h
      obtain ⟨h, h4⟩ := noB h
      obtain ⟨h, h3⟩ := noB h
      obtain ⟨h1, h2⟩ := noB h
      have e0 := of_decide_eq_true h3
      subst e0
      have lx : Loc X.env.scope x := by
        rw [hs]
        rw [Bool.or_eq_true] at h2
        rcases h2 with h2 | h2
        · exact .inl (loc_of h2)
        · unfold celB at h2
          split at h2
          · exact .inr (by assumption)
          · exact absurd h2 Bool.false_ne_true
      exact PS.imp (ps_aug C.nd (by rw [C.N]; exact beq_iff_eq.mp h1) lx (sndE e C tw hs h5) (aug_ok h4) (.inl (hfn x))) fun D σ H h => s_aug h
    · exact absurd h Bool.false_ne_true
  | .expr e, st, h => by
    unfold chkS at h
    split at h
    · obtain ⟨h1, h2⟩ := noB h
      exact PS.imp (ps_expr (sndE e C tw hs h2) (swap_comp (by simpa using h1))) fun D σ H h => s_expr h
    · exact absurd h Bool.false_ne_true
  | .ret e, st, h => by
    unfold chkS at h
    split at h
    · exact PS.imp (ps_ret (sndE e C tw hs h)) fun D σ H h => s_ret h
    · exact absurd h Bool.false_ne_true
  | .retN, st, h => by
    unfold chkS at h
    split at h
    · exact PS.imp ps_retN fun D σ H h => s_retN h
    · exact absurd h Bool.false_ne_true
  | .ite t a b, st, h => by
    unfold chkS at h
    split at h
    · obtain ⟨h, h3⟩ := noB h
      obtain ⟨h1, h2⟩ := noB h
      exact PS.imp (ps_if (sndT t C tw hs h1).1 (sndSs C tw hp hs hfn a h2) (sndSs C tw hp hs hfn b h3)) fun D σ H h => s_ite h
    · exact absurd h Bool.false_ne_true
  | .for_ t s b, st, h => by
    unfold chkS at h
    split at h
    · obtain ⟨h, h4⟩ := noB h
      obtain ⟨h, h3⟩ := noB h
      obtain ⟨h1, h2⟩ := noB h
      exact PS.imp (ps_for hp C.calm (sndSrc s C tw hs h3) (tg_ok C hs (fun x _ => hfn x) h1) (sndSs C tw hp hs hfn b h4) (set_it h2)) fun D σ H h => s_for C.hK h
    · exact absurd h Bool.false_ne_true
  | .while_ t b, st, h => by
    unfold chkS at h
    split at h
    · obtain ⟨h1, h2⟩ := noB h
      exact PS.imp (ps_while hp (sndT t C tw hs h1).1 (sndSs C tw hp hs hfn b h2)) fun D σ H h => s_while h
    · exact absurd h Bool.false_ne_true
  | .brk, st, h => by
    unfold chkS at h
    split at h
    · exact PS.imp ps_break fun D σ H h => s_bk h
    · exact absurd h Bool.false_ne_true
  | .cont, st, h => by
    unfold chkS at h
    split at h
    · exact PS.imp ps_continue fun D σ H h => s_ct h
    · exact absurd h Bool.false_ne_true
  | .pass, st, h => by
    unfold chkS at h
    split at h
    · exact PS.imp ps_pass fun D σ H h => s_nx h
    · exact absurd h Bool.false_ne_true
  | .never, st, h => PS.imp ps_never fun D σ H ⟨_, _, _, _, _, _, z, _⟩ => z
theorem sndSs (C : XC S T K i X) (tw : Takes X W) (hp : PassesOwn (model X.prog X.w) X.A X.env X.xe) (hs : X.env.scope = sc) (hfn : ∀ x, X.fn x = true) : ∀ (ss : Ss) {sts : List Stmt}, chkSs K sc ss sts = true → PSs X sts (lS S T W (wpSs T ss))
  | .nil, sts, h => by
    unfold chkSs at h
    split at h
    · exact PSs.imp pss_nil fun D σ H h => s_nx h
    · exact absurd h Bool.false_ne_true
  | .cons s ss, sts, h => by
    unfold chkSs at h
    split at h
    · obtain ⟨h1, h2⟩ := noB h
      exact PSs.imp (pss_cons (sndS C tw hp hs hfn s h1) (sndSs C tw hp hs hfn ss h2)) fun D σ H h => s_seq h
    · exact absurd h Bool.false_ne_true
  | .frz j ss, sts, h => by
    unfold chkSs at h
    exact PSs.imp (sndSs C tw hp hs hfn ss h) fun D σ H h => s_frz (j := j) h
end
end
end PL
/-! ### a def by its short text; the law -/
namespace PL
open PySem PySem.Spec PyProof.Rows L2
def startD (N : List Str) (ds : List D) : Sd := ds.map some ++ List.replicate (N.length - ds.length) none
theorem start_sr {c : Cn} {M : Mem} {H : Hp} {N : List Str} {ds : List D} {vs : List V} (m : MR c M H) (q : DenL c M H ds vs) : SR c (startD N ds) (L2.start N vs) M H := by
  have hl := q.length
  refine ⟨by unfold startD L2.start; rw [List.length_append, List.length_append, List.length_map, List.length_map, List.length_replicate, List.length_replicate, hl], fun i d e => ?_, m⟩
  unfold startD at e
  by_cases hi : i < ds.length
  · rw [List.getElem?_append_left (by simpa using hi), List.getElem?_map] at e
    cases e1 : ds[i]? with
    | none => rw [e1] at e; cases e
    | some x =>
      rw [e1] at e
      cases e
      obtain ⟨v, hv, dv⟩ := q.get e1
      refine ⟨v, ?_, dv⟩
      unfold L2.start
      rw [List.getElem?_append_left (by rw [List.length_map, ← hl]; exact hi), List.getElem?_map, hv]
      rfl
  · rw [List.getElem?_append_right (by simpa using hi), List.getElem?_replicate] at e
    split at e <;> cases e
/-- what stands around the defs -/
structure Ent (P : Program) (w : World) (mg : Str → Option Value) (base : Heap) (S : Cs) (T : Tb) (K : Ck) (i : Nat) : Prop where
  blt : ∀ x ∈ bltN, mg x = none
  gl : ∀ g x, K.gl.lookup g = some x → ∃ (u : Value) (v : V), mg x = some u ∧ RelV v u ∧ ∀ (c : Cn) (M : Mem) (H : Hp), S.ok c → Den c M H (T.gl g) v
  fn : ∀ k x F, K.fn.lookup k = some (x, F) → ∃ j, j ≤ i ∧ FnEnt P w mg base S T j x (T.fp k) F (T.fn k)
  mt : ∀ k x F, K.mt.lookup k = some (x, F) → ∃ j, j ≤ i ∧ MtEnt P w mg base S T j (T.mc k) x (T.mp k) F (T.mt k) ∧ T.nc (T.mc k) = true ∧ x ∉ T.at_ (T.mc k)
  mkr : ∀ k x F, K.mkr.lookup k = some (x, F) → ∃ j, j + 1 ≤ i ∧ MkEnt P w mg base S T j k x (T.kp k) F (T.mak k)
  cls : ∀ k x, K.cl.lookup k = some x → mg x = some (.ref (S.cA k)) ∧ T.nc k = true
  clok : ∀ k, T.nc k = true → ClsOk S.K (S.cA k) (T.at_ k)
  kit : KitOk S T.nc
/-- the promise by the short text -/
def SpOk (T : Tb) (N : List Str) (body : Ss) (n : Nat) (sp : DSp) : Prop := ∀ ds M Q E, ds.length = n → sp ds M Q E → wpSs T body { nx := fun _ M' => Q (.val .non) M', rt := Q, ex := fun k f _ M' => E k f M' } (startD N ds) M
theorem def_ok {P : Program} {w : World} {mg : Str → Option Value} {base : Heap} {S : Cs} {T : Tb} {K : Ck} {i : Nat} {x qual : Str} {st : Stmt} {f : Addr} {fd : FuncData} {ps : List Str} {body : Ss} {sp : DSp} (E1 : Ent P w mg base S T K i) (F : L2.Fun S.K x qual st f fd) (Sc : FnScope K.N ps (defScope st))
    (hc : chkSs K (defScope st) body (defBody st) = true) (h : SpOk T K.N body ps.length sp) : FnOk P w S.K mg base (L2.CX P w) (i + 1) f fd ps (lSp S T ps.length sp) := by
  refine F.okX Sc (fun vs H Q E q => ?_) (fun cdv A outer s H vs Q E hr q => ?_)
  · obtain ⟨c, M, ds, Q', E', ok, m, dl, hl, _⟩ := q
    rw [← dl.length, hl]
  · obtain ⟨c, M, ds, Q', E', ok, m, dl, hl, hs, hq, hx⟩ := q
    have C : XC S T K i (cxOf (L2.CX P w) P w S.K mg base K.N qual (defScope st) f cdv A outer s H E) := ⟨rfl, Sc.nd, rfl, rfl, hr, E1.blt, E1.gl, E1.fn, E1.mt, E1.mkr, E1.cls, E1.clok, E1.kit⟩
    have tk : Takes (cxOf (L2.CX P w) P w S.K mg base K.N qual (defScope st) f cdv A outer s H E) (fun cls d _ H' => E cls d H') := takes_of rfl rfl rfl rfl
    refine ⟨_, sndSs C tk (passes_of rfl) rfl (fun _ => rfl) body hc, ?_⟩
    refine ⟨c, startD K.N ds, M, _, ok, start_sr m dl, h ds M Q' E' hl hs, ?_⟩
    exact ⟨fun ρ' σ' M' H' z sr k => hq _ _ _ _ z ⟨k, sr.mem, by simp only [Den]⟩, fun _ _ _ _ z => z.elim, fun _ _ _ _ z => z.elim, hq, fun k f ρ' σ' M' H' d z sr kk xd => hx k f M' H' d z kk sr.mem xd⟩
/-- the law's promise -/
def lawSp : DSp := fun ds M Q _ => ∃ ns : List Int, ds = [.lst (ns.map D.int)] ∧ ns.length ≤ 63 ∧ (M = fun _ => none) ∧ ∀ M', Q (.val (.bl true)) M'
def lawSpV (K : PySem.W.Frag) : Sp := fun vs H Q _ => ∃ (a : Addr) (ns : List Int), vs = [.ref a] ∧ SqL K H a (ns.map V.int) ∧ ns.length ≤ 63 ∧ ∀ H', Q (.bl true) H'
theorem den_ints {c : Cn} {M : Mem} {H : Hp} : ∀ ns : List Int, DenL c M H (ns.map D.int) (ns.map V.int)
  | [] => DenL.nil
  | n :: ns => DenL.cons (by simp only [Den]) (den_ints ns)
theorem law_sp {S : Cs} {T : Tb} {vs : List V} {H : Hp} {Q : VK} {E : XK} (h : lawSpV S.K vs H Q E) : lSp S T 1 lawSp vs H Q E := by
  obtain ⟨a, ns, rfl, sq, hl, k⟩ := h
  have hs : sizeLine = 16777216 := sizeLine_eq
  refine ⟨⟨S.K, S.cA, fun _ => False⟩, fun _ => none, [.lst (ns.map D.int)], fun r _ => r.d = .bl true, noEX, ⟨rfl, rfl⟩, (⟨fun _ _ z => (nomatch z), fun _ (z : False) => z.elim⟩), DenL.cons ?_ DenL.nil, rfl, ⟨ns, rfl, hl, rfl, fun _ => rfl⟩, fun r M' v H' e rv => ?_, fun _ _ _ _ _ z => z.elim⟩
  · simp only [Den]
    refine ⟨a, _, rfl, ?_, by rw [List.length_map]; omega, den_ints ns⟩
    rcases sq with sq | sq
    · exact .inl ⟨fun z => z, rfl, sq⟩
    · exact .inr sq
  · obtain ⟨_, _, d⟩ := rv.plain
    rw [e] at d
    simp only [Den] at d
    subst d
    exact k H'
theorem law_ok {P : Program} {w : World} {mg : Str → Option Value} {base : Heap} {S : Cs} {T : Tb} {f : Addr} {fd : FuncData} {k : Nat} (h : FnOk P w S.K mg base (L2.CX P w) k f fd ["script"] (lSp S T 1 lawSp)) : FnOk P w S.K mg base (L2.CX P w) k f fd ["script"] (lawSpV S.K) :=
  h.imp fun _ _ _ _ q => law_sp q
theorem walk {l : PySem.W.OpenLaw} {q : Program} {loose : List Str} {XP : (Str → Option Value) → Heap → Prop} {YP : World → Heap → Prop} {d : DefRec} {K : Params → PySem.W.Frag} {k : Nat} (hn : l.most = some 63) (hdf : d.params.defaults = []) (hr : Room k callerA)
    (hY : ∀ (w : World) (h : Heap), YP w h → (K w.params).In h)
    (F : ∀ (w : World) (mg : Str → Option Value) (fa : Addr) (h : Heap), (K w.params).In h → h.Ns mainGlobals mg → mg d.name = some (.ref fa) →
      ∃ fd : FuncData, (∀ (s : Shared) (u : Value), BindsTo s fd ⟨[u], []⟩ [("script", u)]) ∧ ∀ base : Heap, (K w.params).In base → base.Ns mainGlobals mg → FnOk l.prog w (K w.params) mg base (L2.CX l.prog w) k fa fd ["script"] (lawSpV (K w.params))) :
    PySem.W.WalkO q loose XP YP l.row.toRowW d [] (fun f vs => PySem.call f vs) :=
  L2.walk_of (n := 63) (k := k) (x := "script") (CX := fun w => L2.CX l.prog w) (sp := fun w => lawSpV (K w.params)) hn (by decide) hdf hr hY F (fun _ _ a ns hl _ hS => ⟨a, ns, rfl, hS, hl, fun _ => rfl⟩) fun w H s e s' z => by
    obtain ⟨_, _, _, _, _, _, _, _, _, _, _, _, z⟩ := z
    exact z
end PL
/-! ### tables, put together -/
namespace PL
open PySem PySem.Spec PyProof.Rows L2
inductive AllE (P : Nat → Str → List Form → Prop) : List (Nat × Str × List Form) → Prop where
  | nil : AllE P []
  | cons {k : Nat} {x : Str} {F : List Form} {l : List (Nat × Str × List Form)} (h : P k x F) (t : AllE P l) : AllE P ((k, x, F) :: l)
theorem AllE.get {P : Nat → Str → List Form → Prop} : ∀ {l : List (Nat × Str × List Form)}, AllE P l → ∀ k x F, l.lookup k = some (x, F) → P k x F
  | [], _, k, x, F, e => by simp at e
  | (k', x', F') :: l, .cons h t, k, x, F, e => by
    rw [List.lookup_cons] at e
    cases hb : k == k' with
    | true => rw [hb] at e; cases e; rw [beq_iff_eq.mp hb]; exact h
    | false => rw [hb] at e; exact AllE.get t k x F e
inductive AllG (P : Nat → Str → Prop) : List (Nat × Str) → Prop where
  | nil : AllG P []
  | cons {k : Nat} {x : Str} {l : List (Nat × Str)} (h : P k x) (t : AllG P l) : AllG P ((k, x) :: l)
theorem AllG.get {P : Nat → Str → Prop} : ∀ {l : List (Nat × Str)}, AllG P l → ∀ k x, l.lookup k = some x → P k x
  | [], _, k, x, e => by simp at e
  | (k', x') :: l, .cons h t, k, x, e => by
    rw [List.lookup_cons] at e
    cases hb : k == k' with
    | true => rw [hb] at e; cases e; rw [beq_iff_eq.mp hb]; exact h
    | false => rw [hb] at e; exact AllG.get t k x e
inductive AllF (P : Form → Prop) : List Form → Prop where
  | nil : AllF P []
  | cons {g : Form} {l : List Form} (h : P g) (t : AllF P l) : AllF P (g :: l)
theorem AllF.all {P : Form → Prop} : ∀ {l : List Form}, AllF P l → ∀ g ∈ l, P g
  | [], _, g, h => by simp at h
  | g' :: l, .cons h t, g, hm => by
    rcases List.mem_cons.mp hm with rfl | hm
    · exact h
    · exact AllF.all t g hm
/-- one def's promise, another one -/
def Tb.at1 (T : Tb) (k : Nat) (sp : DSp) : Tb := { T with fn := fun j => if j = k then sp else T.fn j }
theorem fn_false {P : Program} {w : World} {K : PySem.W.Frag} {mg : Str → Option Value} {base : Heap} {CX : CXT} {k n : Nat} {f : Addr} {fd : FuncData} {ps : List Str} {S : Cs} {T : Tb} {sp : DSp} (h : ∀ ds M Q E, sp ds M Q E → False) : FnOk P w K mg base CX k f fd ps (lSp S T n sp) :=
  ⟨fun _ _ _ _ ⟨_, _, _, _, _, _, _, _, _, z, _⟩ => (h _ _ _ _ z).elim, fun _ _ _ _ _ _ _ _ _ _ _ _ _ ⟨_, _, _, _, _, _, _, _, _, z, _⟩ => (h _ _ _ _ z).elim⟩
theorem den_w {c : Cn} {M : Mem} {H : Hp} {q : Addr} {od : Option Addr} {its : Array Value} {n : Nat} {sl : Array (Option Value)} {vs : List V} {xs : List D} (h : c.K.lookup q = some ⟨.type "tuple", od, .seq its n, sl⟩) (hz : its.size ≤ 1000) (r : Vals vs its.toList) (d : DenL c M H xs vs) : Den c M H (.tup xs) (.ref q) := by
  have hs : sizeLine = 16777216 := sizeLine_eq
  have l1 := d.length
  have l2 := r.length
  have l3 : its.toList.length = its.size := Array.length_toList
  simp only [Den]
  exact ⟨q, vs, rfl, .inr ⟨_, its, n, h, rfl, rfl, by omega, r⟩, by omega, d⟩

theorem kit_ct {K : PySem.W.Frag} {C : Addr} {T : String} {b : Bool} (h : PySem.W.mroIn K C (.type T) = some b) (hm : PySem.W.kitMeta T = true) : PySem.W.kitOne K (.ref C) (.type T) = some b := by
  unfold PySem.W.kitOne PySem.W.kitCls
  have e : (Value.ref C == Value.type T) = false := rfl
  rw [e, if_neg Bool.false_ne_true]
  show (if PySem.W.kitMeta T = true then PySem.W.subIn K (.ref C) (.type T) else none) = _
  rw [if_pos hm]
  exact h
def allTy (T : String) : Bool := match fastBuiltinMro T with
  | some l => l.all fun v => match v with | .type _ => true | _ => false
  | none => false
theorem kit_tc {K : PySem.W.Frag} {C : Addr} {T : String} (i : PySem.W.isClsIn K C = true) (ty : PySem.W.typeIn K (.ref C) = some (.type "type")) (h : allTy T = true) : PySem.W.kitOne K (.type T) (.ref C) = some false := by
  unfold PySem.W.kitOne PySem.W.kitCls
  have e : (Value.type T == Value.ref C) = false := rfl
  rw [e, if_neg Bool.false_ne_true]
  have i' : (PySem.W.clsIn K C).isSome = true := i
  show (if ((PySem.W.clsIn K C).isSome && PySem.W.typeIn K (.ref C) == some (.type "type")) = true then PySem.W.subIn K (.type T) (.ref C) else none) = _
  rw [i', ty, if_pos (by rfl)]
  show (fastBuiltinMro T).map (·.contains (Value.ref C)) = _
  unfold allTy at h
  cases e1 : fastBuiltinMro T with
  | none => rw [e1] at h; cases h
  | some l =>
    rw [e1] at h
    show some (l.contains (Value.ref C)) = _
    congr 1
    rw [Bool.eq_false_iff]
    intro hc
    have hm : Value.ref C ∈ l := by simpa using hc
    have := List.all_eq_true.mp h _ hm
    cases this
theorem kit_cc {K : PySem.W.Frag} {C C' : Addr} (i : PySem.W.isClsIn K C' = true) (ty : PySem.W.typeIn K (.ref C') = some (.type "type")) (m : PySem.W.mroIn K C (.ref C') = some false) (ms : PySem.W.mroIn K C (.ref C) = some true) : PySem.W.kitOne K (.ref C) (.ref C') = some false := by
  have ne : C ≠ C' := fun e => by subst e; rw [m] at ms; cases ms
  unfold PySem.W.kitOne PySem.W.kitCls
  have e : (Value.ref C == Value.ref C') = false := by
    rw [beq_eq_false_iff_ne]
    exact fun z => ne (by cases z; rfl)
  rw [e, if_neg Bool.false_ne_true]
  have i' : (PySem.W.clsIn K C').isSome = true := i
  show (if ((PySem.W.clsIn K C').isSome && PySem.W.typeIn K (.ref C') == some (.type "type")) = true then PySem.W.subIn K (.ref C) (.ref C') else none) = _
  rw [i', ty, if_pos (by rfl)]
  exact m
theorem kit_cs {K : PySem.W.Frag} {C : Addr} : PySem.W.kitOne K (.ref C) (.ref C) = some true := by
  unfold PySem.W.kitOne
  rw [beq_self_eq_true, if_pos rfl]
end PL
/-! ### plain lemmas -/
namespace PL
open PySem PySem.Spec PyProof.Rows L2
theorem kw_nil {α : Type} {ps : List Str} {ds vs : List α} : kwArgs ps ds [] vs = ds := by
  unfold kwArgs
  simp
theorem Rd_val {d : D} : R.d (.val d) = d := rfl
theorem Rd_new {o : Ob} : R.d (.new o) = o.frz := rfl
theorem frz_lst {xs : List D} : Ob.frz (.lst xs) = .lst xs := rfl
theorem frz_ins {c : Nat} {ns : List Str} {xs : List D} : Ob.frz (.ins c ns xs) = .ins c ns xs := rfl
/-! ### what the operations are on known data -/
section
variable {M : Mem} {Q : R → Prop} {B : Bool → Prop} {i j : Int} {a b : Str} {xs ys : List D} {n : Nat} {d e : D}
theorem o_add : opS .Add (.int i) (.int j) M Q = Q (.val (.int (i + j))) := rfl
theorem o_adds : opS .Add (.str a) (.str b) M Q = (a.length + b.length ≤ sizeLine ∧ Q (.val (.str (a ++ b)))) := rfl
theorem o_addt : opS .Add (.tup xs) (.tup ys) M Q = (xs.length + ys.length ≤ sizeLine ∧ Q (.val (.tup (xs ++ ys)))) := rfl
theorem o_addl : opS .Add (.lst xs) (.lst ys) M Q = (xs.length + ys.length ≤ sizeLine ∧ Q (.new (.lst (xs ++ ys)))) := rfl
theorem o_sub : opS .Sub (.int i) (.int j) M Q = Q (.val (.int (i - j))) := rfl
theorem o_mul : opS .Mult (.int i) (.int j) M Q = (i.natAbs.log2 + j.natAbs.log2 < 1000000 ∧ Q (.val (.int (i * j)))) := rfl
theorem o_div : opS .FloorDiv (.int i) (.int j) M Q = ((0 < j ∧ j.natAbs.log2 < 9000) ∧ Q (.val (.int (i / j)))) := rfl
theorem o_mod : opS .Mod (.int i) (.int j) M Q = (0 < j ∧ Q (.val (.int (i % j)))) := rfl
theorem o_pow : opS .Pow (.int i) (.int j) M Q = ((0 ≤ j ∧ j ≤ 1000000 ∧ i.natAbs < 2 ^ 64) ∧ Q (.val (.int (i ^ j.toNat)))) := rfl
theorem c_lt : cmpS .Lt (.int i) (.int j) M B = B (decide (i < j)) := rfl
theorem c_le : cmpS .LtE (.int i) (.int j) M B = B (decide (i ≤ j)) := rfl
theorem c_gt : cmpS .Gt (.int i) (.int j) M B = B (decide (j < i)) := rfl
theorem c_ge : cmpS .GtE (.int i) (.int j) M B = B (decide (j ≤ i)) := rfl
theorem c_eq : cmpS .Eq d e M B = eqS d e M B := rfl
theorem c_ne : cmpS .NotEq d e M B = eqS d e M fun k => B (!k) := rfl
theorem c_in : cmpS .In d e M B = inS d e M B := rfl
theorem c_ni : cmpS .NotIn d e M B = inS d e M fun k => B (!k) := rfl
theorem c_is : cmpS .Is d .non M B = B (isNon d) := rfl
theorem c_isn : cmpS .IsNot d .non M B = B (!isNon d) := rfl
theorem sh_int : SeqAt.shaped (.int i) = true := rfl
theorem sh_bool {k : Bool} : SeqAt.shaped (.bool k) = true := rfl
theorem sh_none : SeqAt.shaped .none = true := rfl
theorem e_int : eqS (.int i) (.int j) M B = B (decide (i = j)) := by
  show (_ ∧ _ ∧ B (PyData.eqv (.int i) (.int j))) = _
  rw [sh_int, sh_int]
  have : PyData.eqv (.int i) (.int j) = decide (i = j) := by
    by_cases h : i = j <;> simp [PyData.eqv, h]
  rw [this]
  simp
theorem e_str : eqS (.str a) (.str b) M B = (SeqAt.shaped (.str a) = true ∧ SeqAt.shaped (.str b) = true ∧ B (a == b)) := rfl
theorem e_bool {k l : Bool} : eqS (.bl k) (.bl l) M B = B (k == l) := by
  show (_ ∧ _ ∧ B (PyData.eqv (.bool k) (.bool l))) = _
  rw [sh_bool, sh_bool]
  have : PyData.eqv (.bool k) (.bool l) = (k == l) := by
    cases k <;> cases l <;> rfl
  rw [this]
  simp
theorem t_bl {k : Bool} : truS (.bl k) M B = B k := rfl
theorem t_int : truS (.int i) M B = B (i != 0) := rfl
theorem t_lst : truS (.lst xs) M B = B (!xs.isEmpty) := rfl
theorem t_tup : truS (.tup xs) M B = B (!xs.isEmpty) := rfl
theorem t_non : truS .non M B = B false := rfl
theorem f_lent : fnS .len [.tup xs] M Q = Q (.val (.int xs.length)) := rfl
theorem f_lenl : fnS .len [.lst xs] M Q = Q (.val (.int xs.length)) := rfl
theorem f_lens : fnS .len [.str a] M Q = (a.length ≤ sizeLine ∧ Q (.val (.int a.length))) := rfl
theorem f_lbt : fnS .lenB [.tup xs] M Q = (xs.length ≤ sizeLine → Q (.val (.int xs.length))) := rfl
theorem f_lbl : fnS .lenB [.lst xs] M Q = (xs.length ≤ sizeLine → Q (.val (.int xs.length))) := rfl
theorem f_lbs : fnS .lenB [.str a] M Q = (a.length ≤ sizeLine ∧ Q (.val (.int a.length))) := rfl
theorem f_inti : fnS .int [.int i] M Q = Q (.val (.int i)) := rfl
theorem f_tupl : fnS .tuple [.lst xs] M Q = Q (.val (.tup xs)) := rfl
theorem f_tupt : fnS .tuple [.tup xs] M Q = Q (.val (.tup xs)) := rfl
theorem f_lstt : fnS .list [.tup xs] M Q = Q (.new (.lst xs)) := rfl
theorem f_lstl : fnS .list [.lst xs] M Q = Q (.new (.lst xs)) := rfl
theorem f_stri : fnS .str [.int i] M Q = (i.natAbs.log2 < 1920 ∧ Q (.val (.str (toString i)))) := rfl
theorem y_non : typ M .non = some .none := rfl
theorem y_bl {k : Bool} : typ M (.bl k) = some .bool := rfl
theorem y_int : typ M (.int i) = some .int := rfl
theorem y_str : typ M (.str a) = some .str := rfl
theorem y_tup : typ M (.tup xs) = some .tuple := rfl
theorem y_lst : typ M (.lst xs) = some .list := rfl
theorem y_ins {c : Nat} {ns : List Str} : typ M (.ins c ns xs) = some (.cls c) := rfl
theorem rg_1 {K : List D → Prop} : rgS [.int i] K = ((-(2 ^ 62) ≤ i ∧ i ≤ 16777216) ∧ K (rangeD 0 i)) := rfl
theorem rg_2 {K : List D → Prop} : rgS [.int i, .int j] K = ((-(2 ^ 62) ≤ i ∧ i < 2 ^ 62 ∧ -(2 ^ 62) ≤ j ∧ j < 2 ^ 62 ∧ j - i ≤ 16777216) ∧ K (rangeD i j)) := rfl
theorem sq_tup {K : List D → (Mem → Prop) → Prop} : seqS (.tup xs) M K = K xs fun _ => True := rfl
theorem sq_lst {K : List D → (Mem → Prop) → Prop} : seqS (.lst xs) M K = K xs fun _ => True := rfl
theorem zp_tup {K : List D → (Mem → Prop) → Prop} : zipS (.tup xs) (.tup ys) M K = K (zipD xs ys) fun _ => True := rfl
theorem en_lst {K : List D → Prop} : optS (asS M (.lst xs)) K = K xs := rfl
theorem en_tup {K : List D → Prop} : optS (asS M (.tup xs)) K = K xs := rfl
theorem aL_lst : asL M (.lst xs) = some xs := rfl
theorem ix_t {K : D → Prop} (h : atI xs i = some d) : ixS (.tup xs) (.int i) M K = K d := by
  simp only [ixS, asS, h]
theorem ix_l {K : D → Prop} (h : atI xs i = some d) : ixS (.lst xs) (.int i) M K = K d := by
  simp only [ixS, asS, asL, h]
theorem sl_t {lo hi : Option Int} : slS (.tup xs) lo hi M Q = Q (.val (.tup (cutD xs lo hi))) := rfl
theorem sl_s {lo hi : Option Int} : slS (.str a) lo hi M Q = (a.length ≤ sizeLine ∧ Q (.val (.str (cutS a lo hi)))) := rfl
theorem at_nat {α : Type} {l : List α} {k : Nat} {x : α} (h : l[k]? = some x) : atI l (k : Int) = some x := by
  have hk := (List.getElem?_eq_some_iff.mp h).1
  unfold atI ixN
  rw [if_pos (by omega), if_pos (by omega)]
  show l[(k : Int).toNat]? = some x
  rw [Int.toNat_natCast]
  exact h
theorem at_int {α : Type} {l : List α} {x : α} (h0 : 0 ≤ i) (h : l[i.toNat]? = some x) : atI l i = some x := by
  have := at_nat h
  rwa [Int.toNat_of_nonneg h0] at this
end
/-! live lists -/
section
variable {M : Mem} {p : Addr} {xs : List D} {i : Int} {j : Nat} {d v : D}
theorem ix_c {K : D → Prop} (hM : M p = some (.lst xs)) (h : atI xs i = some d) : ixS (.ref p) (.int i) M K = K d := by simp only [ixS, asS, asL, hM, h]
theorem set_c {K : Mem → Prop} (hM : M p = some (.lst xs)) (h : ixN xs.length i = some j) : setS (.ref p) (.int i) v M K = K (mput M p (.lst (xs.set j v))) := by simp only [setS, cellS, intS, optS, hM, h]
theorem len_c {K : R → Prop} (hM : M p = some (.lst xs)) : fnS .len [.ref p] M K = K (.val (.int xs.length)) := by simp only [fnS, one, asS, asL, hM]
theorem app_c {Q : QR} (hM : M p = some (.lst xs)) : mtS .append (.ref p) [d] M Q = (xs.length < sizeLine ∧ Q (.val .non) (mput M p (.lst (xs ++ [d])))) := by simp only [mtS, one, cellS, hM]
theorem pat_c {Q : QR} (hM : M p = some (.lst xs)) (h : ixN xs.length i = some j) (hv : xs[j]? = some v) : mtS .popAt (.ref p) [.int i] M Q = Q (.val v) (mput M p (.lst (xs.eraseIdx j))) := by simp only [mtS, one, cellS, intS, optS, hM, h, hv]
theorem ty_c {m : Mt} (hM : M p = some (.lst xs)) (hm : m ≠ .join) : mtTy m (.ref p) M = true := by cases m <;> first | exact absurd rfl hm | simp only [mtTy, asL, hM, Option.isSome_some]
end
theorem log_n {n : Int} (h0 : 0 < n) (h1 : n < 2 ^ 64) : n.natAbs.log2 < 9000 := by
  by_cases z : n.natAbs = 0
  · rw [z]; decide
  · have : n.natAbs < 2 ^ 64 := by omega
    have := (Nat.log2_lt z).mpr this
    omega
theorem sq_c {M : Mem} {p : Addr} {xs : List D} {K : List D → (Mem → Prop) → Prop} (hM : M p = some (.lst xs)) : seqS (.ref p) M K = K xs fun M' => M' p = some (.lst xs) := by simp only [seqS, hM]
theorem tup_c {M : Mem} {p : Addr} {xs : List D} {Q : R → Prop} (hM : M p = some (.lst xs)) : fnS .tuple [.ref p] M Q = Q (.val (.tup xs)) := by simp only [fnS, one, asS, asL, hM]
theorem enum_get {xs : List D} {i : Nat} {x : D} (h : (enumD xs)[i]? = some x) : ∃ y, xs[i]? = some y ∧ x = .tup [.int (i : Nat), y] := by
  unfold enumD at h
  rw [List.getElem?_map] at h
  by_cases hi : i < xs.length
  · rw [List.getElem?_range hi] at h
    cases h
    exact ⟨xs[i], List.getElem?_eq_getElem hi, by simp [List.getD, hi]⟩
  · rw [List.getElem?_eq_none (by simpa using hi)] at h
    cases h
theorem map_get {α : Type} {f : α → D} {l : List α} {i : Nat} {x : D} (h : (l.map f)[i]? = some x) : ∃ y, l[i]? = some y ∧ x = f y := by
  rw [List.getElem?_map] at h
  cases e : l[i]? with
  | none => rw [e] at h; cases h
  | some c => rw [e] at h; cases h; exact ⟨c, rfl, rfl⟩
theorem drop_get {α : Type} {xs : List α} {i : Nat} {x : α} (hx : xs[i]? = some x) : xs.drop i = x :: xs.drop (i + 1) := by
  have hlt : i < xs.length := (List.getElem?_eq_some_iff.mp hx).1
  rw [List.drop_eq_getElem_cons hlt]
  rw [List.getElem?_eq_getElem hlt] at hx
  cases hx; rfl
theorem take_get {α : Type} {xs : List α} {i : Nat} {x : α} (hx : xs[i]? = some x) : xs.take (i + 1) = xs.take i ++ [x] := by
  rw [List.take_succ, hx]; rfl
theorem zip_get {xs ys : List D} {i : Nat} {x : D} (h : (zipD xs ys)[i]? = some x) : ∃ u v, xs[i]? = some u ∧ ys[i]? = some v ∧ x = .tup [u, v] := by
  unfold zipD at h
  rw [List.getElem?_map] at h
  cases e : (xs.zip ys)[i]? with
  | none => rw [e] at h; cases h
  | some p =>
    rw [e] at h
    cases h
    obtain ⟨h1, h2⟩ := List.getElem?_zip_eq_some.mp e
    exact ⟨p.1, p.2, h1, h2, rfl⟩
theorem wpSs_cons {T : Tb} {s : PL.S} {ss : Ss} {D : DEnds} {ρ : Sd} {M : Mem} : wpSs T (.cons s ss) D ρ M = wpS T s { D with nx := wpSs T ss D } ρ M := rfl
theorem wpSs_nil {T : Tb} {D : DEnds} {ρ : Sd} {M : Mem} : wpSs T .nil D ρ M = D.nx ρ M := rfl
mutual
def pureD : D → Bool
  | .non => true | .bl _ => true | .int _ => true | .str _ => true
  | .tup xs => pureL xs
  | .lst xs => pureL xs
  | _ => false
def pureL : List D → Bool
  | [] => true
  | x :: xs => pureD x && pureL xs
end
theorem pureL_get {xs : List D} {i : Nat} {x : D} (h : pureL xs = true) (e : xs[i]? = some x) : pureD x = true := by
  induction xs generalizing i with
  | nil => simp at e
  | cons y ys ih =>
    simp only [pureL, Bool.and_eq_true] at h
    cases i with
    | zero => simp at e; subst e; exact h.1
    | succ j => exact ih h.2 (by simpa using e)
theorem pureL_of {xs : List D} (h : ∀ x ∈ xs, pureD x = true) : pureL xs = true := by
  induction xs with
  | nil => rfl
  | cons y ys ih =>
    simp only [pureL, Bool.and_eq_true]
    exact ⟨h y List.mem_cons_self, ih fun x hx => h x (List.mem_cons_of_mem _ hx)⟩
theorem pureL_mem {xs : List D} (h : pureL xs = true) : ∀ x ∈ xs, pureD x = true := fun x hx => by
  obtain ⟨i, hi, e⟩ := List.mem_iff_getElem.mp hx
  exact pureL_get (i := i) h (by rw [List.getElem?_eq_getElem hi, e])
/-! walks -/
theorem rg_len {a b : Int} : (rangeD a b).length = (b - a).toNat := by unfold rangeD; rw [List.length_map, List.length_range]
theorem rg_get {a b : Int} {i : Nat} {x : D} (h : (rangeD a b)[i]? = some x) : i < (b - a).toNat ∧ x = .int (a + i) := by
  unfold rangeD at h
  rw [List.getElem?_map] at h
  by_cases hi : i < (b - a).toNat
  · rw [List.getElem?_range hi] at h
    cases h
    exact ⟨hi, rfl⟩
  · rw [List.getElem?_eq_none (by simpa using hi)] at h
    cases h
theorem take_fm {f : D → Option D} {items : List D} {i : Nat} {x : D} (h : items[i]? = some x) : (items.take (i + 1)).filterMap f = (items.take i).filterMap f ++ (f x).toList := by
  have hlt := (List.getElem?_eq_some_iff.mp h).1
  rw [List.take_succ, h, List.filterMap_append]
  cases e : f x <;> simp [e]
/-- a comprehension that changes nothing -/
theorem comp_fm {tc : Sd → Mem → (Bool → Mem → Prop) → Prop} {te : Sd → Mem → QR → Prop} {t : Tg} {ρ : Sd} {M : Mem} {Q : QR} {items : List D} {live : Mem → Prop} (f : D → Option D) (hl : live M)
    (hs : ∀ (i : Nat) (x : D) (acc : List D) (K : List D → Mem → Prop), items[i]? = some x → K (acc ++ (f x).toList) M → bindT t x ρ fun ρ2 => tc ρ2 M (fun k M2 => if k = true then te ρ2 M2 (fun r M3 => K (acc ++ [r.d]) M3) else K acc M2))
    (hq : Q (.new (.lst (items.filterMap f))) M) : compS tc te t ρ M Q items live := by
  refine ⟨fun i acc M' => M' = M ∧ acc = (items.take i).filterMap f, ⟨rfl, by simp⟩, fun _ _ _ _ h => by rw [h.1]; exact hl, ?_, ?_⟩
  · rintro i x acc M' hx ⟨rfl, rfl⟩
    have := hs i x ((items.take i).filterMap f) (fun a M3 => M3 = M' ∧ a = (items.take (i + 1)).filterMap f) hx ⟨rfl, (take_fm hx).symm⟩
    exact this
  · rintro acc M' ⟨rfl, rfl⟩
    rw [List.take_length]
    exact hq
/-! ### the pool of a law: numbers drawn from it -/
def PoolV (l : List Int) : Prop := ∃ s r, l = s :: r ∧ 0 ≤ s ∧ s < 2305843009213693951 ∧ (∀ x ∈ r, 0 < x) ∧ r.length ≤ 63
def PoolAt (M : Mem) (p : Addr) : Prop := ∃ l : List Int, M p = some (.lst (l.map .int)) ∧ PoolV l
/-- the pool may have changed, all else stands (more may stand) -/
structure Step (p : Addr) (M M' : Mem) : Prop where
  pool : PoolAt M' p
  rest : ∀ a o, a ≠ p → M a = some o → M' a = some o
theorem Step.trans {p : Addr} {M M' M'' : Mem} (a : Step p M M') (b : Step p M' M'') : Step p M M'' := ⟨b.pool, fun x o h e => b.rest x o h (a.rest x o h e)⟩
theorem Step.refl {p : Addr} {M : Mem} (h : PoolAt M p) : Step p M M := ⟨h, fun _ _ _ h => h⟩
theorem Step.put {p : Addr} {M : Mem} {l : List Int} (h : PoolV l) : Step p M (mput M p (.lst (l.map .int))) := ⟨⟨l, mput_same, h⟩, fun _ _ hne e => by rw [mput_ne hne]; exact e⟩
theorem PoolAt.ne {M : Mem} {p q : Addr} (h : PoolAt M p) (e : M q = none) : q ≠ p := fun z => by
  obtain ⟨l, hl, _⟩ := h
  rw [← z, e] at hl
  cases hl
theorem PoolAt.put {M : Mem} {p q : Addr} {o : Ob} (h : PoolAt M p) (n : q ≠ p) : PoolAt (mput M q o) p := by
  obtain ⟨l, hl, v⟩ := h
  exact ⟨l, by rw [mput_ne (Ne.symm n)]; exact hl, v⟩
theorem log_small {s : Int} (h0 : 0 ≤ s) (h1 : s < 2305843009213693951) : s.natAbs.log2 ≤ 61 := by
  by_cases z : s.natAbs = 0
  · rw [z]; decide
  · have : s.natAbs < 2 ^ 61 := by omega
    have := (Nat.log2_lt z).mpr this
    omega
/-- a draw below n -/
def sp_draw : DSp := fun ds M Q _ => ∃ p n, ds = [.ref p, .int n] ∧ 0 < n ∧ n < 2 ^ 64 ∧ PoolAt M p ∧ ∀ r M', 0 ≤ r → r < n → Step p M M' → Q (.val (.int r)) M'
end PL
namespace PL
open PySem PySem.Spec PyProof.Rows L2
def top (i : Nat) : Stmt := PySem.Challenge.pw_rightfulhands_k03_marks_judged.main.body.getD i (.Pass ⟨0, 0, 0, 0⟩)
abbrev s_law_draw : Stmt := (top 21)
def N_law_draw : List Str := ["pool", "many", "drawn"]
def ir_law_draw : Ss :=
  (.cons (.ite (.val (.cmp .Gt (.fn .len (.cons (.var 0) .nil)) (.con (.int 1))))
   (.cons (.set 2 (.op .Mod (.fn .int (.cons (.ix (.var 0) (.con (.int 1))) .nil)) (.var 1)))
   (.cons (.sub (.var 0) (.con (.int 1)) (.op .FloorDiv (.ix (.var 0) (.con (.int 1))) (.var 1)))
   (.cons (.ite (.val (.cmp .Eq (.ix (.var 0) (.con (.int 1))) (.con (.int 0))))
    (.cons (.expr (.mt .popAt (.var 0) (.cons (.con (.int 1)) .nil)))
    .nil)
    .nil)
   (.cons (.ret (.var 2))
   .nil))))
   .nil)
  (.cons (.sub (.var 0) (.con (.int 0)) (.op .Mod (.fn .int (.cons (.op .Add (.op .Mult (.ix (.var 0) (.con (.int 0))) (.ix (.var 0) (.con (.int 0)))) (.con (.int 40014))) .nil)) (.con (.int 2305843009213693951))))
  (.cons (.ret (.op .Mod (.fn .int (.cons (.op .FloorDiv (.ix (.var 0) (.con (.int 0))) (.con (.int 4194304))) .nil)) (.var 1)))
  .nil)))
def K_law_draw : Ck := { N := N_law_draw, gl := [], fn := [], mt := [], mkr := [], cl := [] }
theorem ck_law_draw : chkSs K_law_draw (defScope s_law_draw) ir_law_draw (defBody s_law_draw) = true := by decide +kernel
theorem sc_law_draw : FnScope N_law_draw ["pool", "many"] (defScope s_law_draw) := ⟨rfl, rfl, rfl, by decide +kernel, rfl, by decide +kernel, by decide +kernel⟩
abbrev s_law_whole : Stmt := (top 25)
def N_law_whole : List Str := ["value"]
def ir_law_whole : Ss :=
  (.cons (.ret (.and (.isi (.var 0) [.int]) (.not (.isi (.var 0) [.bool]))))
  .nil)
def K_law_whole : Ck := { N := N_law_whole, gl := [], fn := [], mt := [], mkr := [], cl := [] }
theorem ck_law_whole : chkSs K_law_whole (defScope s_law_whole) ir_law_whole (defBody s_law_whole) = true := by decide +kernel
theorem sc_law_whole : FnScope N_law_whole ["value"] (defScope s_law_whole) := ⟨rfl, rfl, rfl, by decide +kernel, rfl, by decide +kernel, by decide +kernel⟩
abbrev s_law_are_marks : Stmt := (top 26)
def N_law_are_marks : List Str := ["sizes", "value", "k", "row", "one", "j"]
def ir_law_are_marks : Ss :=
  (.cons (.ite (.or (.not (.val (.isi (.var 1) [.tuple]))) (.val (.cmp .NotEq (.fn .len (.cons (.var 1) .nil)) (.fn .len (.cons (.var 0) .nil)))))
   (.cons (.ret (.con (.bl false)))
   .nil)
   .nil)
  (.cons (.for_ (.name 2) (.range (.cons (.fn .lenB (.cons (.var 0) .nil)) .nil))
   (.cons (.set 3 (.ix (.var 1) (.var 2)))
   (.cons (.ite (.or (.not (.val (.isi (.var 3) [.tuple]))) (.or (.val (.cmp .Eq (.fn .len (.cons (.var 3) .nil)) (.con (.int 0)))) (.val (.comp (.var 4) (.name 4) (.seq (.var 3)) (.some (.not (.val (.call 10 (.cons (.var 4) .nil) [] .nil)))) [("one", 4)]))))
    (.cons (.ret (.con (.bl false)))
    .nil)
    .nil)
   (.cons (.ite (.or (.val (.comp (.var 4) (.name 4) (.seq (.var 3)) (.some (.or (.val (.cmp .Lt (.var 4) (.con (.int 0)))) (.val (.cmp .GtE (.var 4) (.ix (.var 0) (.var 2)))))) [("one", 4)])) (.val (.comp (.var 5) (.name 5) (.range (.cons (.con (.int 1)) (.cons (.fn .lenB (.cons (.var 3) .nil)) .nil))) (.some (.val (.cmp .LtE (.ix (.var 3) (.var 5)) (.ix (.var 3) (.op .Sub (.var 5) (.con (.int 1))))))) [("j", 5)])))
    (.cons (.ret (.con (.bl false)))
    .nil)
    .nil)
   .nil))))
  (.cons (.ret (.con (.bl true)))
  .nil)))
def K_law_are_marks : Ck := { N := N_law_are_marks, gl := [], fn := [(10, "_law_whole", [(1, [])])], mt := [], mkr := [], cl := [] }
theorem ck_law_are_marks : chkSs K_law_are_marks (defScope s_law_are_marks) ir_law_are_marks (defBody s_law_are_marks) = true := by decide +kernel
theorem sc_law_are_marks : FnScope N_law_are_marks ["sizes", "value"] (defScope s_law_are_marks) := ⟨rfl, rfl, rfl, by decide +kernel, rfl, by decide +kernel, by decide +kernel⟩
abbrev s_law_row_changed : Stmt := (top 27)
def N_law_row_changed : List Str := ["pool", "row", "size", "rows", "first", "last"]
def ir_law_row_changed : Ss :=
  (.cons (.par [4, 5] (.cons (.ix (.var 1) (.con (.int 0))) (.cons (.ix (.var 1) (.op .Sub (.fn .len (.cons (.var 1) .nil)) (.con (.int 1)))) .nil)))
  (.cons (.set 3 (.tup (.cons (.op .Add (.var 1) (.tup (.cons (.var 2) .nil))) (.cons (.tup (.cons (.var 2) .nil)) (.cons (.op .Add (.tup (.cons (.neg (.con (.int 1))) .nil)) (.var 1)) (.cons (.slice (.var 1) .none (.some (.neg (.con (.int 1))))) (.cons (.op .Add (.var 1) (.tup (.cons (.var 5) .nil))) (.cons (.op .Add (.tup (.cons (.var 4) .nil)) (.var 1)) (.cons (.tupRev (.fn .list (.cons (.var 1) .nil))) (.cons (.tup .nil) (.cons (.fn .list (.cons (.var 1) .nil)) (.cons (.op .Add (.var 1) (.tup (.cons (.con (.bl true)) .nil))) (.cons (.op .Add (.tup (.cons (.cmp .Eq (.var 4) (.con (.int 1))) .nil)) (.slice (.var 1) (.some (.con (.int 1))) .none)) (.cons (.op .Add (.slice (.var 1) .none (.some (.neg (.con (.int 1))))) (.tup (.cons (.fn .str (.cons (.var 5) .nil)) .nil))) (.cons (.tup (.cons (.con .non) .nil)) (.cons (.con .non) (.cons (.var 4) (.cons (.op .Add (.var 1) (.tup (.cons (.con (.int 8)) .nil))) (.cons (.tup (.cons (.var 1) .nil)) (.cons (.op .Add (.slice (.var 1) (.some (.con (.int 1))) .none) (.slice (.var 1) .none (.some (.con (.int 1))))) (.cons (.tupRange (.cons (.var 2) .nil)) (.cons (.op .Add (.slice (.var 1) .none (.some (.neg (.con (.int 1))))) (.tup (.cons (.op .Pow (.con (.int 10)) (.con (.int 28))) .nil))) (.cons (.op .Add (.slice (.var 1) .none (.some (.neg (.con (.int 1))))) (.tup (.cons (.op .Add (.var 5) (.con (.int 1))) .nil))) .nil)))))))))))))))))))))))
  (.cons (.ret (.ix (.var 3) (.call 8 (.cons (.var 0) (.cons (.fn .len (.cons (.var 3) .nil)) .nil)) [] .nil)))
  .nil)))
def K_law_row_changed : Ck := { N := N_law_row_changed, gl := [], fn := [(8, "_law_draw", [(2, [])])], mt := [], mkr := [], cl := [] }
theorem ck_law_row_changed : chkSs K_law_row_changed (defScope s_law_row_changed) ir_law_row_changed (defBody s_law_row_changed) = true := by decide +kernel
theorem sc_law_row_changed : FnScope N_law_row_changed ["pool", "row", "size"] (defScope s_law_row_changed) := ⟨rfl, rfl, rfl, by decide +kernel, rfl, by decide +kernel, by decide +kernel⟩
abbrev s_law_changed : Stmt := (top 28)
def N_law_changed : List Str := ["pool", "marks", "sizes", "at", "way", "rows", "row"]
def ir_law_changed : Ss :=
  (.cons (.set 3 (.call 8 (.cons (.var 0) (.cons (.fn .len (.cons (.var 1) .nil)) .nil)) [] .nil))
  (.cons (.set 4 (.call 8 (.cons (.var 0) (.cons (.con (.int 12)) .nil)) [] .nil))
  (.cons (.ite (.val (.cmp .Gt (.var 4) (.con (.int 2))))
   (.cons (.ret (.op .Add (.op .Add (.slice (.var 1) .none (.some (.var 3))) (.tup (.cons (.call 11 (.cons (.var 0) (.cons (.ix (.var 1) (.var 3)) (.cons (.ix (.var 2) (.var 3)) .nil))) [] .nil) .nil))) (.slice (.var 1) (.some (.op .Add (.var 3) (.con (.int 1)))) .none)))
   .nil)
   .nil)
  (.cons (.set 5 (.tup (.cons (.fn .list (.cons (.var 1) .nil)) (.cons (.op .Add (.slice (.var 1) .none (.some (.var 3))) (.slice (.var 1) (.some (.op .Add (.var 3) (.con (.int 1)))) .none)) (.cons (.op .Add (.var 1) (.tup (.cons (.tup (.cons (.con (.int 0)) .nil)) .nil))) (.cons (.ix (.var 1) (.var 3)) (.cons (.tup .nil) (.cons (.con .non) (.cons (.con (.int 0)) (.cons (.con (.str "01")) (.cons (.tup (.cons (.var 1) .nil)) (.cons (.op .Add (.var 1) (.var 1)) (.cons (.comp (.fn .list (.cons (.var 6) .nil)) (.name 6) (.seq (.var 1)) .none [("row", 6)]) (.cons (.con (.bl true)) (.cons (.var 2) (.cons (.fn .tuple (.cons (.var 2) .nil)) .nil))))))))))))))))
  (.cons (.ret (.ix (.var 5) (.call 8 (.cons (.var 0) (.cons (.fn .len (.cons (.var 5) .nil)) .nil)) [] .nil)))
  .nil)))))
def K_law_changed : Ck := { N := N_law_changed, gl := [], fn := [(8, "_law_draw", [(2, [])]), (11, "_law_row_changed", [(3, [])])], mt := [], mkr := [], cl := [] }
theorem ck_law_changed : chkSs K_law_changed (defScope s_law_changed) ir_law_changed (defBody s_law_changed) = true := by decide +kernel
theorem sc_law_changed : FnScope N_law_changed ["pool", "marks", "sizes"] (defScope s_law_changed) := ⟨rfl, rfl, rfl, by decide +kernel, rfl, by decide +kernel, by decide +kernel⟩
abbrev s_law_same : Stmt := (top 24)
def N_law_same : List Str := ["told", "due", "k"]
def ir_law_same : Ss :=
  (.cons (.ite (.val (.isi (.var 1) [.tuple]))
   (.cons (.ite (.or (.not (.val (.isi (.var 0) [.tuple]))) (.val (.cmp .NotEq (.fn .len (.cons (.var 0) .nil)) (.fn .len (.cons (.var 1) .nil)))))
    (.cons (.ret (.con (.bl false)))
    .nil)
    .nil)
   (.cons (.ret (.not (.comp (.var 2) (.name 2) (.range (.cons (.fn .lenB (.cons (.var 1) .nil)) .nil)) (.some (.not (.val (.call 9 (.cons (.ix (.var 0) (.var 2)) (.cons (.ix (.var 1) (.var 2)) .nil)) [] .nil)))) [("k", 2)])))
   .nil))
   .nil)
  (.cons (.ite (.val (.isi (.var 1) [.list]))
   (.cons (.ite (.or (.not (.val (.isi (.var 0) [.list]))) (.val (.cmp .NotEq (.fn .len (.cons (.var 0) .nil)) (.fn .len (.cons (.var 1) .nil)))))
    (.cons (.ret (.con (.bl false)))
    .nil)
    .nil)
   (.cons (.ret (.not (.comp (.var 2) (.name 2) (.range (.cons (.fn .lenB (.cons (.var 1) .nil)) .nil)) (.some (.not (.val (.call 9 (.cons (.ix (.var 0) (.var 2)) (.cons (.ix (.var 1) (.var 2)) .nil)) [] .nil)))) [("k", 2)])))
   .nil))
   .nil)
  (.cons (.ite (.val (.isi (.var 1) [.bool]))
   (.cons (.ret (.and (.isi (.var 0) [.bool]) (.cmp .Eq (.var 0) (.var 1))))
   .nil)
   .nil)
  (.cons (.ite (.val (.isi (.var 1) [.int]))
   (.cons (.ret (.and (.isi (.var 0) [.int]) (.and (.not (.isi (.var 0) [.bool])) (.cmp .Eq (.var 0) (.var 1)))))
   .nil)
   .nil)
  (.cons (.ite (.val (.isi (.var 1) [.str]))
   (.cons (.ret (.and (.isi (.var 0) [.str]) (.cmp .Eq (.var 0) (.var 1))))
   .nil)
   .nil)
  (.cons (.ret (.and (.cmp .Is (.var 1) (.con .non)) (.cmp .Is (.var 0) (.con .non))))
  .nil))))))
def K_law_same : Ck := { N := N_law_same, gl := [], fn := [(9, "_law_same", [(2, [])])], mt := [], mkr := [], cl := [] }
theorem ck_law_same : chkSs K_law_same (defScope s_law_same) ir_law_same (defBody s_law_same) = true := by decide +kernel
theorem sc_law_same : FnScope N_law_same ["told", "due"] (defScope s_law_same) := ⟨rfl, rfl, rfl, by decide +kernel, rfl, by decide +kernel, by decide +kernel⟩
abbrev s_law_values : Stmt := (top 23)
def N_law_values : List Str := ["pool", "many", "way", "powers", "code", "picked", "k"]
def ir_law_values : Ss :=
  (.cons (.set 3 (.tup (.cons (.con (.int 1)) (.cons (.con (.int 2)) (.cons (.con (.int 4)) (.cons (.con (.int 8)) (.cons (.con (.int 16)) (.cons (.con (.int 32)) (.cons (.con (.int 64)) (.cons (.con (.int 128)) (.cons (.con (.int 256)) .nil)))))))))))
  (.cons (.ite (.val (.cmp .Gt (.var 2) (.con (.int 4))))
   (.cons (.set 2 (.call 8 (.cons (.var 0) (.cons (.con (.int 5)) .nil)) [] .nil))
   .nil)
   .nil)
  (.cons (.ite (.val (.cmp .Eq (.var 2) (.con (.int 0))))
   (.cons (.ret (.tup (.cons (.call 8 (.cons (.var 0) (.cons (.var 1) .nil)) [] .nil) .nil)))
   .nil)
   .nil)
  (.cons (.ite (.val (.cmp .Eq (.var 2) (.con (.int 1))))
   (.cons (.set 5 (.comp (.call 8 (.cons (.var 0) (.cons (.var 1) .nil)) [] .nil) (.name 6) (.range (.cons (.con (.int 3)) .nil)) .none [("k", 6)]))
   (.cons (.ret (.fn .tuple (.cons (.comp (.var 6) (.name 6) (.range (.cons (.var 1) .nil)) (.some (.val (.cmp .In (.var 6) (.var 5)))) [("k", 6)]) .nil)))
   .nil))
   .nil)
  (.cons (.set 4 (.op .Sub (.ix (.var 3) (.var 1)) (.con (.int 1))))
  (.cons (.ite (.val (.cmp .Eq (.var 2) (.con (.int 2))))
   (.cons (.set 4 (.op .Add (.con (.int 1)) (.call 8 (.cons (.var 0) (.cons (.var 4) .nil)) [] .nil)))
   .nil)
   .nil)
  (.cons (.ite (.val (.cmp .Eq (.var 2) (.con (.int 3))))
   (.cons (.set 4 (.op .Sub (.var 4) (.ix (.var 3) (.call 8 (.cons (.var 0) (.cons (.var 1) .nil)) [] .nil))))
   .nil)
   .nil)
  (.cons (.ret (.fn .tuple (.cons (.comp (.var 6) (.name 6) (.range (.cons (.var 1) .nil)) (.some (.val (.cmp .Eq (.op .Mod (.fn .int (.cons (.op .FloorDiv (.var 4) (.ix (.var 3) (.var 6))) .nil)) (.con (.int 2))) (.con (.int 1))))) [("k", 6)]) .nil)))
  .nil))))))))
def K_law_values : Ck := { N := N_law_values, gl := [], fn := [(8, "_law_draw", [(2, [])])], mt := [], mkr := [], cl := [] }
theorem ck_law_values : chkSs K_law_values (defScope s_law_values) ir_law_values (defBody s_law_values) = true := by decide +kernel
theorem sc_law_values : FnScope N_law_values ["pool", "many", "way"] (defScope s_law_values) := ⟨rfl, rfl, rfl, by decide +kernel, rfl, by decide +kernel, by decide +kernel⟩
abbrev s_law_words : Stmt := (top 22)
def N_law_words : List Str := ["pool", "many", "letters", "alike", "size", "word", "at", "shift", "words", "k", "new", "turn", "j"]
def ir_law_words : Ss :=
  (.cons (.set 2 (.con (.str "abcdefghijklmnopqrstuvwxyz")))
  (.cons (.set 3 (.call 8 (.cons (.var 0) (.cons (.con (.int 2)) .nil)) [] .nil))
  (.cons (.set 4 (.op .Add (.con (.int 1)) (.call 8 (.cons (.var 0) (.cons (.con (.int 12)) .nil)) [] .nil)))
  (.cons (.set 5 (.mt .join (.con (.str "")) (.cons (.comp (.ix (.var 2) (.call 8 (.cons (.var 0) (.cons (.con (.int 26)) .nil)) [] .nil)) (.name 9) (.range (.cons (.var 4) .nil)) .none [("k", 9)]) .nil)))
  (.cons (.set 6 (.call 8 (.cons (.var 0) (.cons (.var 4) .nil)) [] .nil))
  (.cons (.set 7 (.call 8 (.cons (.var 0) (.cons (.con (.int 26)) .nil)) [] .nil))
  (.cons (.set 8 (.cell (.lst .nil)))
  (.cons (.for_ (.name 9) (.range (.cons (.var 1) .nil))
   (.cons (.ite (.val (.cmp .Eq (.var 3) (.con (.int 0))))
    (.cons (.set 4 (.op .Add (.con (.int 1)) (.call 8 (.cons (.var 0) (.cons (.con (.int 12)) .nil)) [] .nil)))
    (.cons (.set 5 (.mt .join (.con (.str "")) (.cons (.comp (.ix (.var 2) (.call 8 (.cons (.var 0) (.cons (.con (.int 26)) .nil)) [] .nil)) (.name 12) (.range (.cons (.var 4) .nil)) .none [("j", 12)]) .nil)))
    (.cons (.set 6 (.call 8 (.cons (.var 0) (.cons (.var 4) .nil)) [] .nil))
    .nil)))
    .nil)
   (.cons (.set 10 (.var 5))
   (.cons (.for_ (.name 11) (.range (.cons (.con (.int 26)) .nil))
    (.cons (.set 10 (.op .Add (.op .Add (.slice (.var 5) .none (.some (.var 6))) (.ix (.var 2) (.op .Mod (.fn .int (.cons (.op .Add (.op .Add (.var 7) (.op .Mult (.con (.int 7)) (.var 9))) (.var 11)) .nil)) (.con (.int 26))))) (.slice (.var 5) (.some (.op .Add (.var 6) (.con (.int 1)))) .none)))
    (.cons (.ite (.val (.cmp .NotIn (.var 10) (.var 8)))
     (.cons (.brk)
     .nil)
     .nil)
    .nil)))
   (.cons (.expr (.mt .append (.var 8) (.cons (.var 10) .nil)))
   .nil)))))
  (.cons (.ret (.frz (.var 8)))
  .nil)))))))))
def K_law_words : Ck := { N := N_law_words, gl := [], fn := [(8, "_law_draw", [(2, [])])], mt := [], mkr := [], cl := [] }
theorem ck_law_words : chkSs K_law_words (defScope s_law_words) ir_law_words (defBody s_law_words) = true := by decide +kernel
theorem sc_law_words : FnScope N_law_words ["pool", "many"] (defScope s_law_words) := ⟨rfl, rfl, rfl, by decide +kernel, rfl, by decide +kernel, by decide +kernel⟩
abbrev s_Kinds_all_marks : Stmt := (inClass (top 18) 3)
def N_Kinds_all_marks : List Str := ["self", "feature"]
def ir_Kinds_all_marks : Ss :=
  (.cons (.ret (.fn .tuple (.cons (.comp (.tupRange (.cons (.ix (.var 1) (.con (.int 1))) .nil)) (.name 1) (.seq (.fld (.var 0) "features")) .none [("feature", 1)]) .nil)))
  .nil)
def K_Kinds_all_marks : Ck := { N := N_Kinds_all_marks, gl := [], fn := [], mt := [], mkr := [], cl := [] }
theorem ck_Kinds_all_marks : chkSs K_Kinds_all_marks (defScope s_Kinds_all_marks) ir_Kinds_all_marks (defBody s_Kinds_all_marks) = true := by decide +kernel
theorem sc_Kinds_all_marks : FnScope N_Kinds_all_marks ["self"] (defScope s_Kinds_all_marks) := ⟨rfl, rfl, rfl, by decide +kernel, rfl, by decide +kernel, by decide +kernel⟩
abbrev s_is_integer : Stmt := (top 7)
def N_is_integer : List Str := ["value"]
def ir_is_integer : Ss :=
  (.cons (.ret (.and (.isi (.var 0) [.int]) (.not (.isi (.var 0) [.bool]))))
  .nil)
def K_is_integer : Ck := { N := N_is_integer, gl := [], fn := [], mt := [], mkr := [], cl := [] }
theorem ck_is_integer : chkSs K_is_integer (defScope s_is_integer) ir_is_integer (defBody s_is_integer) = true := by decide +kernel
theorem sc_is_integer : FnScope N_is_integer ["value"] (defScope s_is_integer) := ⟨rfl, rfl, rfl, by decide +kernel, rfl, by decide +kernel, by decide +kernel⟩
abbrev s_is_from_to : Stmt := (top 8)
def N_is_from_to : List Str := ["value", "least", "most"]
def ir_is_from_to : Ss :=
  (.cons (.ret (.and (.call 0 (.cons (.var 0) .nil) [] .nil) (.chain .LtE .LtE (.var 1) (.var 0) (.var 2))))
  .nil)
def K_is_from_to : Ck := { N := N_is_from_to, gl := [], fn := [(0, "is_integer", [(1, [])])], mt := [], mkr := [], cl := [] }
theorem ck_is_from_to : chkSs K_is_from_to (defScope s_is_from_to) ir_is_from_to (defBody s_is_from_to) = true := by decide +kernel
theorem sc_is_from_to : FnScope N_is_from_to ["value", "least", "most"] (defScope s_is_from_to) := ⟨rfl, rfl, rfl, by decide +kernel, rfl, by decide +kernel, by decide +kernel⟩
abbrev s_rises : Stmt := (top 11)
def N_rises : List Str := ["value", "bound", "least", "one"]
def ir_rises : Ss :=
  (.cons (.set 2 (.con (.int 0)))
  (.cons (.for_ (.name 3) (.seq (.var 0))
   (.cons (.ite (.not (.val (.call 1 (.cons (.var 3) (.cons (.var 2) (.cons (.op .Sub (.var 1) (.con (.int 1))) .nil))) [] .nil)))
    (.cons (.ret (.con (.bl false)))
    .nil)
    .nil)
   (.cons (.set 2 (.op .Add (.var 3) (.con (.int 1))))
   .nil)))
  (.cons (.ret (.con (.bl true)))
  .nil)))
def K_rises : Ck := { N := N_rises, gl := [], fn := [(1, "is_from_to", [(3, [])])], mt := [], mkr := [], cl := [] }
theorem ck_rises : chkSs K_rises (defScope s_rises) ir_rises (defBody s_rises) = true := by decide +kernel
theorem sc_rises : FnScope N_rises ["value", "bound"] (defScope s_rises) := ⟨rfl, rfl, rfl, by decide +kernel, rfl, by decide +kernel, by decide +kernel⟩
abbrev s_is_rising : Stmt := (top 12)
def N_is_rising : List Str := ["value", "bound"]
def ir_is_rising : Ss :=
  (.cons (.ret (.and (.isi (.var 0) [.tuple]) (.call 2 (.cons (.var 0) (.cons (.var 1) .nil)) [] .nil)))
  .nil)
def K_is_rising : Ck := { N := N_is_rising, gl := [], fn := [(2, "rises", [(2, [])])], mt := [], mkr := [], cl := [] }
theorem ck_is_rising : chkSs K_is_rising (defScope s_is_rising) ir_is_rising (defBody s_is_rising) = true := by decide +kernel
theorem sc_is_rising : FnScope N_is_rising ["value", "bound"] (defScope s_is_rising) := ⟨rfl, rfl, rfl, by decide +kernel, rfl, by decide +kernel, by decide +kernel⟩
abbrev s_Kinds_are_marks : Stmt := (inClass (top 18) 2)
def N_Kinds_are_marks : List Str := ["self", "value", "values", "feature"]
def ir_Kinds_are_marks : Ss :=
  (.cons (.ite (.or (.not (.val (.isi (.var 1) [.tuple]))) (.val (.cmp .NotEq (.fn .len (.cons (.var 1) .nil)) (.fn .len (.cons (.fld (.var 0) "features") .nil)))))
   (.cons (.ret (.con (.bl false)))
   .nil)
   .nil)
  (.cons (.for_ (.tup [2, 3]) (.zip (.var 1) (.fld (.var 0) "features"))
   (.cons (.ite (.or (.not (.val (.call 6 (.cons (.var 2) (.cons (.ix (.var 3) (.con (.int 1))) .nil)) [] .nil))) (.val (.cmp .Eq (.fn .len (.cons (.var 2) .nil)) (.con (.int 0)))))
    (.cons (.ret (.con (.bl false)))
    .nil)
    .nil)
   .nil))
  (.cons (.ret (.con (.bl true)))
  .nil)))
def K_Kinds_are_marks : Ck := { N := N_Kinds_are_marks, gl := [], fn := [(6, "is_rising", [(2, [])])], mt := [], mkr := [], cl := [] }
theorem ck_Kinds_are_marks : chkSs K_Kinds_are_marks (defScope s_Kinds_are_marks) ir_Kinds_are_marks (defBody s_Kinds_are_marks) = true := by decide +kernel
theorem sc_Kinds_are_marks : FnScope N_Kinds_are_marks ["self", "value"] (defScope s_Kinds_are_marks) := ⟨rfl, rfl, rfl, by decide +kernel, rfl, by decide +kernel, by decide +kernel⟩
abbrev s_is_sequence : Stmt := (top 9)
def N_is_sequence : List Str := ["value"]
def ir_is_sequence : Ss :=
  (.cons (.ret (.isi (.var 0) [.tuple, .list]))
  .nil)
def K_is_sequence : Ck := { N := N_is_sequence, gl := [], fn := [], mt := [], mkr := [], cl := [] }
theorem ck_is_sequence : chkSs K_is_sequence (defScope s_is_sequence) ir_is_sequence (defBody s_is_sequence) = true := by decide +kernel
theorem sc_is_sequence : FnScope N_is_sequence ["value"] (defScope s_is_sequence) := ⟨rfl, rfl, rfl, by decide +kernel, rfl, by decide +kernel, by decide +kernel⟩
abbrev s_is_word : Stmt := (top 10)
def N_is_word : List Str := ["value", "sign"]
def ir_is_word : Ss :=
  (.cons (.ite (.or (.not (.val (.isi (.var 0) [.str]))) (.not (.val (.chain .LtE .LtE (.con (.int 1)) (.fn .len (.cons (.var 0) .nil)) (.glob 0)))))
   (.cons (.ret (.con (.bl false)))
   .nil)
   .nil)
  (.cons (.ret (.fn .all (.cons (.comp (.cmp .In (.var 1) (.glob 1)) (.name 1) (.seq (.var 0)) .none [("sign", 1)]) .nil)))
  .nil))
def K_is_word : Ck := { N := N_is_word, gl := [(1, "LETTERS"), (0, "MOST_WORD")], fn := [], mt := [], mkr := [], cl := [] }
theorem ck_is_word : chkSs K_is_word (defScope s_is_word) ir_is_word (defBody s_is_word) = true := by decide +kernel
theorem sc_is_word : FnScope N_is_word ["value"] (defScope s_is_word) := ⟨rfl, rfl, rfl, by decide +kernel, rfl, by decide +kernel, by decide +kernel⟩
abbrev s_is_feature : Stmt := (top 17)
def N_is_feature : List Str := ["value"]
def ir_is_feature : Ss :=
  (.cons (.ite (.or (.not (.val (.call 4 (.cons (.var 0) .nil) [] .nil))) (.or (.val (.cmp .NotEq (.fn .len (.cons (.var 0) .nil)) (.con (.int 3)))) (.not (.val (.call 3 (.cons (.ix (.var 0) (.con (.int 0))) .nil) [] .nil)))))
   (.cons (.ret (.con (.bl false)))
   .nil)
   .nil)
  (.cons (.ret (.and (.call 1 (.cons (.ix (.var 0) (.con (.int 1))) (.cons (.con (.int 2)) (.cons (.glob 3) .nil))) [] .nil) (.call 1 (.cons (.ix (.var 0) (.con (.int 2))) (.cons (.con (.int 0)) (.cons (.glob 2) .nil))) [] .nil)))
  .nil))
def K_is_feature : Ck := { N := N_is_feature, gl := [(3, "MOST_VALUES"), (2, "MOST_WEIGHT")], fn := [(1, "is_from_to", [(3, [])]), (4, "is_sequence", [(1, [])]), (3, "is_word", [(1, [])])], mt := [], mkr := [], cl := [] }
theorem ck_is_feature : chkSs K_is_feature (defScope s_is_feature) ir_is_feature (defBody s_is_feature) = true := by decide +kernel
theorem sc_is_feature : FnScope N_is_feature ["value"] (defScope s_is_feature) := ⟨rfl, rfl, rfl, by decide +kernel, rfl, by decide +kernel, by decide +kernel⟩
abbrev s_Kinds_init : Stmt := (inClass (top 18) 0)
def N_Kinds_init : List Str := ["self", "features", "found", "place", "feature", "ahead"]
def ir_Kinds_init : Ss :=
  (.cons (.ite (.or (.not (.val (.call 4 (.cons (.var 1) .nil) [] .nil))) (.not (.val (.chain .LtE .LtE (.con (.int 1)) (.fn .len (.cons (.var 1) .nil)) (.glob 4)))))
   (.cons (.never)
   .nil)
   .nil)
  (.cons (.set 2 (.cell (.lst .nil)))
  (.cons (.for_ (.tup [3, 4]) (.enum (.var 1))
   (.cons (.ite (.or (.not (.val (.call 5 (.cons (.var 4) .nil) [] .nil))) (.val (.cmp .In (.ix (.var 4) (.con (.int 0))) (.comp (.ix (.var 5) (.con (.int 0))) (.name 5) (.seq (.var 2)) .none [("ahead", 5)]))))
    (.cons (.never)
    .nil)
    .nil)
   (.cons (.expr (.mt .append (.var 2) (.cons (.tup (.cons (.ix (.var 4) (.con (.int 0))) (.cons (.ix (.var 4) (.con (.int 1))) (.cons (.ix (.var 4) (.con (.int 2))) .nil)))) .nil)))
   .nil)))
  (.cons (.fld (.var 0) "features" (.fn .tuple (.cons (.var 2) .nil)))
  .nil))))
-- never: line 45, raise
-- never: line 49, raise
def K_Kinds_init : Ck := { N := N_Kinds_init, gl := [(4, "MOST_FEATURES")], fn := [(5, "is_feature", [(1, [])]), (4, "is_sequence", [(1, [])])], mt := [], mkr := [], cl := [] }
theorem ck_Kinds_init : chkSs K_Kinds_init (defScope s_Kinds_init) ir_Kinds_init (defBody s_Kinds_init) = true := by decide +kernel
theorem sc_Kinds_init : FnScope N_Kinds_init ["self", "features"] (defScope s_Kinds_init) := ⟨rfl, rfl, rfl, by decide +kernel, rfl, by decide +kernel, by decide +kernel⟩
abbrev s_law_holds : Stmt := (top 29)
def N_law_holds : List Str := ["pool", "sizes", "words", "kinds", "every", "turn", "marks", "more", "value", "k", "size"]
def ir_law_holds : Ss :=
  (.cons (.set 2 (.call 12 (.cons (.var 0) (.cons (.fn .len (.cons (.var 1) .nil)) .nil)) [] .nil))
  (.cons (.set 3 (.make 0 (.cons (.comp (.tup (.cons (.ix (.var 2) (.var 9)) (.cons (.ix (.var 1) (.var 9)) (.cons (.call 8 (.cons (.var 0) (.cons (.con (.int 10)) .nil)) [] .nil) .nil)))) (.name 9) (.range (.cons (.fn .lenB (.cons (.var 1) .nil)) .nil)) .none [("k", 9)]) .nil) [] .nil))
  (.cons (.set 4 (.fn .tuple (.cons (.comp (.tupRange (.cons (.var 10) .nil)) (.name 10) (.seq (.var 1)) .none [("size", 10)]) .nil)))
  (.cons (.ite (.or (.not (.val (.call 9 (.cons (.meth 1 (.var 3) .nil [] .nil) (.cons (.var 4) .nil)) [] .nil))) (.not (.val (.call 9 (.cons (.meth 0 (.var 3) (.cons (.var 4) .nil) [] .nil) (.cons (.con (.bl true)) .nil)) [] .nil))))
   (.cons (.ret (.con (.bl false)))
   .nil)
   .nil)
  (.cons (.for_ (.name 5) (.range (.cons (.con (.int 3)) .nil))
   (.cons (.set 6 (.fn .tuple (.cons (.comp (.call 13 (.cons (.var 0) (.cons (.var 10) (.cons (.con (.int 5)) .nil))) [] .nil) (.name 10) (.seq (.var 1)) .none [("size", 10)]) .nil)))
   (.cons (.ite (.not (.val (.call 9 (.cons (.meth 0 (.var 3) (.cons (.var 6) .nil) [] .nil) (.cons (.con (.bl true)) .nil)) [] .nil)))
    (.cons (.ret (.con (.bl false)))
    .nil)
    .nil)
   (.cons (.for_ (.name 7) (.range (.cons (.con (.int 2)) .nil))
    (.cons (.set 8 (.call 14 (.cons (.var 0) (.cons (.var 6) (.cons (.var 1) .nil))) [] .nil))
    (.cons (.ite (.not (.val (.call 9 (.cons (.meth 0 (.var 3) .nil ["value"] (.cons (.var 8) .nil)) (.cons (.call 15 (.cons (.var 1) (.cons (.var 8) .nil)) [] .nil) .nil)) [] .nil)))
     (.cons (.ret (.con (.bl false)))
     .nil)
     .nil)
    .nil)))
   .nil))))
  (.cons (.ret (.call 9 (.cons (.meth 1 (.var 3) .nil [] .nil) (.cons (.var 4) .nil)) [] .nil))
  .nil))))))
def K_law_holds : Ck := { N := N_law_holds, gl := [], fn := [(15, "_law_are_marks", [(2, [])]), (14, "_law_changed", [(3, [])]), (8, "_law_draw", [(2, [])]), (9, "_law_same", [(2, [])]), (13, "_law_values", [(3, [])]), (12, "_law_words", [(2, [])])], mt := [(1, "all_marks", [(1, [])]), (0, "are_marks", [(2, []), (1, ["value"])])], mkr := [(0, "Kinds", [(2, [])])], cl := [] }
theorem ck_law_holds : chkSs K_law_holds (defScope s_law_holds) ir_law_holds (defBody s_law_holds) = true := by decide +kernel
theorem sc_law_holds : FnScope N_law_holds ["pool", "sizes"] (defScope s_law_holds) := ⟨rfl, rfl, rfl, by decide +kernel, rfl, by decide +kernel, by decide +kernel⟩
abbrev s_law_pool : Stmt := (top 20)
def N_law_pool : List Str := ["script", "seed", "cell", "turn"]
def ir_law_pool : Ss :=
  (.cons (.set 1 (.op .Add (.con (.int 88172645463325252)) (.fn .len (.cons (.var 0) .nil))))
  (.cons (.for_ (.name 2) (.seq (.var 0))
   (.cons (.set 1 (.op .Mod (.fn .int (.cons (.op .Add (.op .Add (.op .Mult (.var 1) (.var 1)) (.var 2)) (.con (.int 40014))) .nil)) (.con (.int 2305843009213693951))))
   .nil))
  (.cons (.for_ (.name 3) (.range (.cons (.con (.int 2)) .nil))
   (.cons (.set 1 (.op .Mod (.fn .int (.cons (.op .Add (.op .Mult (.var 1) (.var 1)) (.con (.int 40014))) .nil)) (.con (.int 2305843009213693951))))
   .nil))
  (.cons (.ret (.op .Add (.lst (.cons (.var 1) .nil)) (.comp (.var 2) (.name 2) (.seq (.var 0)) (.some (.val (.cmp .GtE (.var 2) (.con (.int 1000000000000000000))))) [("cell", 2)])))
  .nil))))
def K_law_pool : Ck := { N := N_law_pool, gl := [], fn := [], mt := [], mkr := [], cl := [] }
theorem ck_law_pool : chkSs K_law_pool (defScope s_law_pool) ir_law_pool (defBody s_law_pool) = true := by decide +kernel
theorem sc_law_pool : FnScope N_law_pool ["script"] (defScope s_law_pool) := ⟨rfl, rfl, rfl, by decide +kernel, rfl, by decide +kernel, by decide +kernel⟩
abbrev s_law : Stmt := (top 30)
def N_law : List Str := ["script", "pool", "turn", "sizes", "k"]
def ir_law : Ss :=
  (.cons (.set 1 (.cell (.call 16 (.cons (.var 0) .nil) [] .nil)))
  (.cons (.for_ (.name 2) (.range (.cons (.con (.int 2)) .nil))
   (.cons (.set 3 (.comp (.op .Add (.con (.int 2)) (.call 8 (.cons (.var 1) (.cons (.con (.int 7)) .nil)) [] .nil)) (.name 4) (.range (.cons (.op .Add (.con (.int 1)) (.call 8 (.cons (.var 1) (.cons (.con (.int 6)) .nil)) [] .nil)) .nil)) .none [("k", 4)]))
   (.cons (.ite (.not (.val (.call 17 (.cons (.var 1) (.cons (.var 3) .nil)) [] .nil)))
    (.cons (.ret (.con (.bl false)))
    .nil)
    .nil)
   .nil)))
  (.cons (.ret (.con (.bl true)))
  .nil)))
def K_law : Ck := { N := N_law, gl := [], fn := [(8, "_law_draw", [(2, [])]), (17, "_law_holds", [(2, [])]), (16, "_law_pool", [(1, [])])], mt := [], mkr := [], cl := [] }
theorem ck_law : chkSs K_law (defScope s_law) ir_law (defBody s_law) = true := by decide +kernel
theorem sc_law : FnScope N_law ["script"] (defScope s_law) := ⟨rfl, rfl, rfl, by decide +kernel, rfl, by decide +kernel, by decide +kernel⟩
end PL
namespace PL
open PySem PySem.Spec PyProof.Rows L2
def isInt : D → Bool
  | .int _ => true
  | _ => false
def inFT (d : D) (a b : Int) : Bool := match d with
  | .int i => decide (a ≤ i) && decide (i ≤ b)
  | _ => false
def sp_is_integer : DSp := fun ds M Q _ => ∃ d, ds = [d] ∧ pureD d = true ∧ Q (.val (.bl (isInt d))) M
theorem ok_is_integer {T : Tb} : SpOk T N_is_integer ir_is_integer 1 sp_is_integer := by
  rintro ds M Q E hl ⟨d, rfl, hp, hq⟩
  show wpSs T ir_is_integer _ [some d] M
  unfold ir_is_integer
  cases d <;> first | (simp [pureD] at hp; done) | (simp only [wpSs, wpS, wpE, wpEs, wpEo, wpC, wpT, wpSrc, Rd_val, Rd_new, frz_lst, frz_ins, List.getElem?_cons_zero, List.getElem?_cons_succ, List.set_cons_zero, List.set_cons_succ, kw_nil, bindT, wipeD, List.map_cons, List.map_nil, List.zip_cons_cons, List.zip_nil_right, List.zip_nil_left, List.foldl_cons, List.foldl_nil, o_add, o_adds, o_addt, o_addl, o_sub, o_mul, o_div, o_mod, o_pow, c_lt, c_le, c_gt, c_ge, c_eq, c_ne, c_in, c_ni, c_is, c_isn, e_int, e_str, e_bool, t_bl, t_int, t_lst, t_tup, t_non, f_lent, f_lenl, f_lens, f_lbt, f_lbl, f_lbs, f_inti, f_tupl, f_tupt, f_lstt, f_lstl, f_stri, y_non, y_bl, y_int, y_str, y_tup, y_lst, y_ins, rg_1, rg_2, sq_tup, sq_lst, zp_tup, en_lst, en_tup, aL_lst, sl_t, sl_s, Ty.below, List.any_cons, List.any_nil, subT, Bool.or_false, Bool.not_true, Bool.not_false, true_and, and_true, reduceCtorEq, decide_false, decide_true, Bool.false_eq_true, if_false, if_true, Bool.not_eq_true', Bool.not_not]; exact hq)
def sp_is_from_to : DSp := fun ds M Q _ => ∃ d a b, ds = [d, .int a, .int b] ∧ pureD d = true ∧ Q (.val (.bl (inFT d a b))) M
theorem ok_is_from_to {T : Tb} (h0 : T.fn 0 = sp_is_integer) : SpOk T N_is_from_to ir_is_from_to 3 sp_is_from_to := by
  rintro ds M Q E hl ⟨d, a, b, rfl, hp, hq⟩
  show wpSs T ir_is_from_to _ [some d, some (.int a), some (.int b)] M
  unfold ir_is_from_to
  simp only [wpSs, wpS, wpE, wpEs, wpEo, wpC, wpT, wpSrc, Rd_val, Rd_new, frz_lst, frz_ins, List.getElem?_cons_zero, List.getElem?_cons_succ, List.set_cons_zero, List.set_cons_succ, kw_nil, bindT, wipeD, List.map_cons, List.map_nil, List.zip_cons_cons, List.zip_nil_right, List.zip_nil_left, List.foldl_cons, List.foldl_nil, o_add, o_adds, o_addt, o_addl, o_sub, o_mul, o_div, o_mod, o_pow, c_lt, c_le, c_gt, c_ge, c_eq, c_ne, c_in, c_ni, c_is, c_isn, e_int, e_str, e_bool, t_bl, t_int, t_lst, t_tup, t_non, f_lent, f_lenl, f_lens, f_lbt, f_lbl, f_lbs, f_inti, f_tupl, f_tupt, f_lstt, f_lstl, f_stri, y_non, y_bl, y_int, y_str, y_tup, y_lst, y_ins, rg_1, rg_2, sq_tup, sq_lst, zp_tup, en_lst, en_tup, aL_lst, sl_t, sl_s, Ty.below, List.any_cons, List.any_nil, subT, Bool.or_false, Bool.not_true, Bool.not_false, true_and, and_true, reduceCtorEq, decide_false, decide_true, Bool.false_eq_true, if_false, if_true, Bool.not_eq_true', Bool.not_not]
  rw [h0]
  refine ⟨d, rfl, hp, ?_⟩
  cases d <;> first | exact hq | skip
  rename_i i
  simp only [wpSs, wpS, wpE, wpEs, wpEo, wpC, wpT, wpSrc, Rd_val, Rd_new, frz_lst, frz_ins, List.getElem?_cons_zero, List.getElem?_cons_succ, List.set_cons_zero, List.set_cons_succ, kw_nil, bindT, wipeD, List.map_cons, List.map_nil, List.zip_cons_cons, List.zip_nil_right, List.zip_nil_left, List.foldl_cons, List.foldl_nil, o_add, o_adds, o_addt, o_addl, o_sub, o_mul, o_div, o_mod, o_pow, c_lt, c_le, c_gt, c_ge, c_eq, c_ne, c_in, c_ni, c_is, c_isn, e_int, e_str, e_bool, t_bl, t_int, t_lst, t_tup, t_non, f_lent, f_lenl, f_lens, f_lbt, f_lbl, f_lbs, f_inti, f_tupl, f_tupt, f_lstt, f_lstl, f_stri, y_non, y_bl, y_int, y_str, y_tup, y_lst, y_ins, rg_1, rg_2, sq_tup, sq_lst, zp_tup, en_lst, en_tup, aL_lst, sl_t, sl_s, Ty.below, List.any_cons, List.any_nil, subT, Bool.or_false, Bool.not_true, Bool.not_false, true_and, and_true, reduceCtorEq, decide_false, decide_true, Bool.false_eq_true, if_false, if_true, Bool.not_eq_true', Bool.not_not]
  simp only [isInt, if_true, inFT] at hq ⊢
  split
  · rename_i h; rw [h, Bool.true_and] at hq; exact hq
  · rename_i h; rw [Bool.not_eq_true] at h; rw [h, Bool.false_and] at hq; exact hq
def isSeq : D → Bool
  | .tup _ => true
  | .lst _ => true
  | _ => false
def sp_is_sequence : DSp := fun ds M Q _ => ∃ d, ds = [d] ∧ pureD d = true ∧ Q (.val (.bl (isSeq d))) M
theorem ok_is_sequence {T : Tb} : SpOk T N_is_sequence ir_is_sequence 1 sp_is_sequence := by
  rintro ds M Q E hl ⟨d, rfl, hp, hq⟩
  show wpSs T ir_is_sequence _ [some d] M
  unfold ir_is_sequence
  cases d <;> first | (simp [pureD] at hp; done) | (simp only [wpSs, wpS, wpE, wpEs, wpEo, wpC, wpT, wpSrc, Rd_val, Rd_new, frz_lst, frz_ins, List.getElem?_cons_zero, List.getElem?_cons_succ, List.set_cons_zero, List.set_cons_succ, kw_nil, bindT, wipeD, List.map_cons, List.map_nil, List.zip_cons_cons, List.zip_nil_right, List.zip_nil_left, List.foldl_cons, List.foldl_nil, o_add, o_adds, o_addt, o_addl, o_sub, o_mul, o_div, o_mod, o_pow, c_lt, c_le, c_gt, c_ge, c_eq, c_ne, c_in, c_ni, c_is, c_isn, e_int, e_str, e_bool, t_bl, t_int, t_lst, t_tup, t_non, f_lent, f_lenl, f_lens, f_lbt, f_lbl, f_lbs, f_inti, f_tupl, f_tupt, f_lstt, f_lstl, f_stri, y_non, y_bl, y_int, y_str, y_tup, y_lst, y_ins, rg_1, rg_2, sq_tup, sq_lst, zp_tup, en_lst, en_tup, aL_lst, sl_t, sl_s, Ty.below, List.any_cons, List.any_nil, subT, Bool.or_false, Bool.not_true, Bool.not_false, true_and, and_true, reduceCtorEq, decide_false, decide_true, Bool.false_eq_true, if_false, if_true, Bool.not_eq_true', Bool.not_not]; exact hq)
def risesD : List D → Int → Int → Bool
  | [], _, _ => true
  | x :: r, a, b => inFT x a (b - 1) && (match x with | .int i => risesD r (i + 1) b | _ => false)
def sp_rises : DSp := fun ds M Q _ => ∃ xs b, ds = [.tup xs, .int b] ∧ pureL xs = true ∧ Q (.val (.bl (risesD xs 0 b))) M
theorem ok_rises {T : Tb} (h1 : T.fn 1 = sp_is_from_to) : SpOk T N_rises ir_rises 2 sp_rises := by
  rintro ds M Q E hl ⟨xs, b, rfl, hp, hq⟩
  show wpSs T ir_rises _ [some (.tup xs), some (.int b), none, none] M
  unfold ir_rises
  simp only [wpSs, wpS, wpE, wpEs, wpEo, wpC, wpT, wpSrc, Rd_val, Rd_new, frz_lst, frz_ins, List.getElem?_cons_zero, List.getElem?_cons_succ, List.set_cons_zero, List.set_cons_succ, kw_nil, bindT, wipeD, List.map_cons, List.map_nil, List.zip_cons_cons, List.zip_nil_right, List.zip_nil_left, List.foldl_cons, List.foldl_nil, o_add, o_adds, o_addt, o_addl, o_sub, o_mul, o_div, o_mod, o_pow, c_lt, c_le, c_gt, c_ge, c_eq, c_ne, c_in, c_ni, c_is, c_isn, e_int, e_str, e_bool, t_bl, t_int, t_lst, t_tup, t_non, f_lent, f_lenl, f_lens, f_lbt, f_lbl, f_lbs, f_inti, f_tupl, f_tupt, f_lstt, f_lstl, f_stri, y_non, y_bl, y_int, y_str, y_tup, y_lst, y_ins, rg_1, rg_2, sq_tup, sq_lst, zp_tup, en_lst, en_tup, aL_lst, sl_t, sl_s, Ty.below, List.any_cons, List.any_nil, subT, Bool.or_false, Bool.not_true, Bool.not_false, true_and, and_true, reduceCtorEq, decide_false, decide_true, Bool.false_eq_true, if_false, if_true, Bool.not_eq_true', Bool.not_not]
  refine ⟨fun i ρ M' => M' = M ∧ i ≤ xs.length ∧ ∃ a z, ρ = [some (.tup xs), some (.int b), some (.int a), z] ∧ risesD xs 0 b = risesD (xs.drop i) a b, ⟨rfl, Nat.zero_le _, 0, none, rfl, rfl⟩, fun _ _ _ _ _ => trivial, ?_, ?_⟩
  · rintro i x ρ M' hx ⟨rfl, hi, a, z, rfl, e⟩
    simp only [wpSs, wpS, wpE, wpEs, wpEo, wpC, wpT, wpSrc, Rd_val, Rd_new, frz_lst, frz_ins, List.getElem?_cons_zero, List.getElem?_cons_succ, List.set_cons_zero, List.set_cons_succ, kw_nil, bindT, wipeD, List.map_cons, List.map_nil, List.zip_cons_cons, List.zip_nil_right, List.zip_nil_left, List.foldl_cons, List.foldl_nil, o_add, o_adds, o_addt, o_addl, o_sub, o_mul, o_div, o_mod, o_pow, c_lt, c_le, c_gt, c_ge, c_eq, c_ne, c_in, c_ni, c_is, c_isn, e_int, e_str, e_bool, t_bl, t_int, t_lst, t_tup, t_non, f_lent, f_lenl, f_lens, f_lbt, f_lbl, f_lbs, f_inti, f_tupl, f_tupt, f_lstt, f_lstl, f_stri, y_non, y_bl, y_int, y_str, y_tup, y_lst, y_ins, rg_1, rg_2, sq_tup, sq_lst, zp_tup, en_lst, en_tup, aL_lst, sl_t, sl_s, Ty.below, List.any_cons, List.any_nil, subT, Bool.or_false, Bool.not_true, Bool.not_false, true_and, and_true, reduceCtorEq, decide_false, decide_true, Bool.false_eq_true, if_false, if_true, Bool.not_eq_true', Bool.not_not]
    rw [h1]
    have px := pureL_get hp hx
    have hlt : i < xs.length := (List.getElem?_eq_some_iff.mp hx).1
    refine ⟨x, a, b - 1, rfl, px, ?_⟩
    rw [drop_get hx] at e
    cases hf : inFT x a (b - 1) with
    | false =>
      simp only [wpSs, wpS, wpE, wpEs, wpEo, wpC, wpT, wpSrc, Rd_val, Rd_new, frz_lst, frz_ins, List.getElem?_cons_zero, List.getElem?_cons_succ, List.set_cons_zero, List.set_cons_succ, kw_nil, bindT, wipeD, List.map_cons, List.map_nil, List.zip_cons_cons, List.zip_nil_right, List.zip_nil_left, List.foldl_cons, List.foldl_nil, o_add, o_adds, o_addt, o_addl, o_sub, o_mul, o_div, o_mod, o_pow, c_lt, c_le, c_gt, c_ge, c_eq, c_ne, c_in, c_ni, c_is, c_isn, e_int, e_str, e_bool, t_bl, t_int, t_lst, t_tup, t_non, f_lent, f_lenl, f_lens, f_lbt, f_lbl, f_lbs, f_inti, f_tupl, f_tupt, f_lstt, f_lstl, f_stri, y_non, y_bl, y_int, y_str, y_tup, y_lst, y_ins, rg_1, rg_2, sq_tup, sq_lst, zp_tup, en_lst, en_tup, aL_lst, sl_t, sl_s, Ty.below, List.any_cons, List.any_nil, subT, Bool.or_false, Bool.not_true, Bool.not_false, true_and, and_true, reduceCtorEq, decide_false, decide_true, Bool.false_eq_true, if_false, if_true, Bool.not_eq_true', Bool.not_not]
      have : risesD xs 0 b = false := by rw [e]; simp [risesD, hf]
      rw [this] at hq
      exact hq
    | true =>
      simp only [wpSs, wpS, wpE, wpEs, wpEo, wpC, wpT, wpSrc, Rd_val, Rd_new, frz_lst, frz_ins, List.getElem?_cons_zero, List.getElem?_cons_succ, List.set_cons_zero, List.set_cons_succ, kw_nil, bindT, wipeD, List.map_cons, List.map_nil, List.zip_cons_cons, List.zip_nil_right, List.zip_nil_left, List.foldl_cons, List.foldl_nil, o_add, o_adds, o_addt, o_addl, o_sub, o_mul, o_div, o_mod, o_pow, c_lt, c_le, c_gt, c_ge, c_eq, c_ne, c_in, c_ni, c_is, c_isn, e_int, e_str, e_bool, t_bl, t_int, t_lst, t_tup, t_non, f_lent, f_lenl, f_lens, f_lbt, f_lbl, f_lbs, f_inti, f_tupl, f_tupt, f_lstt, f_lstl, f_stri, y_non, y_bl, y_int, y_str, y_tup, y_lst, y_ins, rg_1, rg_2, sq_tup, sq_lst, zp_tup, en_lst, en_tup, aL_lst, sl_t, sl_s, Ty.below, List.any_cons, List.any_nil, subT, Bool.or_false, Bool.not_true, Bool.not_false, true_and, and_true, reduceCtorEq, decide_false, decide_true, Bool.false_eq_true, if_false, if_true, Bool.not_eq_true', Bool.not_not]
      cases x <;> try (simp [inFT] at hf; done)
      rename_i n
      simp only [wpSs, wpS, wpE, wpEs, wpEo, wpC, wpT, wpSrc, Rd_val, Rd_new, frz_lst, frz_ins, List.getElem?_cons_zero, List.getElem?_cons_succ, List.set_cons_zero, List.set_cons_succ, kw_nil, bindT, wipeD, List.map_cons, List.map_nil, List.zip_cons_cons, List.zip_nil_right, List.zip_nil_left, List.foldl_cons, List.foldl_nil, o_add, o_adds, o_addt, o_addl, o_sub, o_mul, o_div, o_mod, o_pow, c_lt, c_le, c_gt, c_ge, c_eq, c_ne, c_in, c_ni, c_is, c_isn, e_int, e_str, e_bool, t_bl, t_int, t_lst, t_tup, t_non, f_lent, f_lenl, f_lens, f_lbt, f_lbl, f_lbs, f_inti, f_tupl, f_tupt, f_lstt, f_lstl, f_stri, y_non, y_bl, y_int, y_str, y_tup, y_lst, y_ins, rg_1, rg_2, sq_tup, sq_lst, zp_tup, en_lst, en_tup, aL_lst, sl_t, sl_s, Ty.below, List.any_cons, List.any_nil, subT, Bool.or_false, Bool.not_true, Bool.not_false, true_and, and_true, reduceCtorEq, decide_false, decide_true, Bool.false_eq_true, if_false, if_true, Bool.not_eq_true', Bool.not_not]
      refine ⟨hlt, n + 1, _, rfl, ?_⟩
      rw [e]
      simp [risesD, hf]
  · rintro ρ M' ⟨rfl, hi, a, z, rfl, e⟩
    rw [List.drop_eq_nil_of_le (Nat.le_refl _)] at e
    have : risesD xs 0 b = true := by rw [e]; rfl
    rw [this] at hq
    exact hq
def risingD (d : D) (b : Int) : Bool := match d with
  | .tup xs => risesD xs 0 b
  | _ => false
def sp_is_rising : DSp := fun ds M Q _ => ∃ d b, ds = [d, .int b] ∧ pureD d = true ∧ Q (.val (.bl (risingD d b))) M
theorem ok_is_rising {T : Tb} (h2 : T.fn 2 = sp_rises) : SpOk T N_is_rising ir_is_rising 2 sp_is_rising := by
  rintro ds M Q E hl ⟨d, b, rfl, hp, hq⟩
  show wpSs T ir_is_rising _ [some d, some (.int b)] M
  unfold ir_is_rising
  cases d <;> first | (simp [pureD] at hp; done) | (simp only [wpSs, wpS, wpE, wpEs, wpEo, wpC, wpT, wpSrc, Rd_val, Rd_new, frz_lst, frz_ins, List.getElem?_cons_zero, List.getElem?_cons_succ, List.set_cons_zero, List.set_cons_succ, kw_nil, bindT, wipeD, List.map_cons, List.map_nil, List.zip_cons_cons, List.zip_nil_right, List.zip_nil_left, List.foldl_cons, List.foldl_nil, o_add, o_adds, o_addt, o_addl, o_sub, o_mul, o_div, o_mod, o_pow, c_lt, c_le, c_gt, c_ge, c_eq, c_ne, c_in, c_ni, c_is, c_isn, e_int, e_str, e_bool, t_bl, t_int, t_lst, t_tup, t_non, f_lent, f_lenl, f_lens, f_lbt, f_lbl, f_lbs, f_inti, f_tupl, f_tupt, f_lstt, f_lstl, f_stri, y_non, y_bl, y_int, y_str, y_tup, y_lst, y_ins, rg_1, rg_2, sq_tup, sq_lst, zp_tup, en_lst, en_tup, aL_lst, sl_t, sl_s, Ty.below, List.any_cons, List.any_nil, subT, Bool.or_false, Bool.not_true, Bool.not_false, true_and, and_true, reduceCtorEq, decide_false, decide_true, Bool.false_eq_true, if_false, if_true, Bool.not_eq_true', Bool.not_not]; exact hq) | skip
  rename_i xs
  simp only [wpSs, wpS, wpE, wpEs, wpEo, wpC, wpT, wpSrc, Rd_val, Rd_new, frz_lst, frz_ins, List.getElem?_cons_zero, List.getElem?_cons_succ, List.set_cons_zero, List.set_cons_succ, kw_nil, bindT, wipeD, List.map_cons, List.map_nil, List.zip_cons_cons, List.zip_nil_right, List.zip_nil_left, List.foldl_cons, List.foldl_nil, o_add, o_adds, o_addt, o_addl, o_sub, o_mul, o_div, o_mod, o_pow, c_lt, c_le, c_gt, c_ge, c_eq, c_ne, c_in, c_ni, c_is, c_isn, e_int, e_str, e_bool, t_bl, t_int, t_lst, t_tup, t_non, f_lent, f_lenl, f_lens, f_lbt, f_lbl, f_lbs, f_inti, f_tupl, f_tupt, f_lstt, f_lstl, f_stri, y_non, y_bl, y_int, y_str, y_tup, y_lst, y_ins, rg_1, rg_2, sq_tup, sq_lst, zp_tup, en_lst, en_tup, aL_lst, sl_t, sl_s, Ty.below, List.any_cons, List.any_nil, subT, Bool.or_false, Bool.not_true, Bool.not_false, true_and, and_true, reduceCtorEq, decide_false, decide_true, Bool.false_eq_true, if_false, if_true, Bool.not_eq_true', Bool.not_not]
  rw [h2]
  exact ⟨xs, b, rfl, by simpa [pureD] using hp, hq⟩
/-! ### kinds -/
def featD (f : Str × Int × Int) : D := .tup [.str f.1, .int f.2.1, .int f.2.2]
def kindsD (fs : List (Str × Int × Int)) : D := .ins 0 ["features"] [.tup (fs.map featD)]
def lenPos : D → Bool
  | .tup xs => !xs.isEmpty
  | _ => false
def marksL : List D → List Int → Bool
  | [], [] => true
  | x :: xs, s :: ss => risingD x s && lenPos x && marksL xs ss
  | _, _ => false
def marksD (ss : List Int) (d : D) : Bool := match d with
  | .tup xs => marksL xs ss
  | _ => false
theorem marksL_cons {x : D} {xs : List D} {s : Int} {ss : List Int} : marksL (x :: xs) (s :: ss) = (risingD x s && lenPos x && marksL xs ss) := rfl
theorem marksL_len : ∀ {xs : List D} {ss : List Int}, xs.length ≠ ss.length → marksL xs ss = false
  | [], [], h => absurd rfl h
  | [], _ :: _, _ => rfl
  | _ :: _, [], _ => rfl
  | x :: xs, s :: ss, h => by
    unfold marksL
    rw [marksL_len (by simpa using h)]
    simp
def sp_Kinds_are_marks : DSp := fun ds M Q _ => ∃ fs d, ds = [kindsD fs, d] ∧ pureD d = true ∧ Q (.val (.bl (marksD (fs.map fun f => f.2.1) d))) M
theorem ok_Kinds_are_marks {T : Tb} (h6 : T.fn 6 = sp_is_rising) (ha : T.at_ 0 = (["features"] : List Str)) (hn : T.nc 0 = true) : SpOk T N_Kinds_are_marks ir_Kinds_are_marks 2 sp_Kinds_are_marks := by
  rintro ds M Q E hl ⟨fs, d, rfl, hp, hq⟩
  show wpSs T ir_Kinds_are_marks _ [some (kindsD fs), some d, none, none] M
  unfold ir_Kinds_are_marks
  have fld : ∀ (Q : D → Prop) M, fldS T.nc T.at_ (kindsD fs) "features" M Q = Q (.tup (fs.map featD)) := fun Q M => by
    simp [fldS, kindsD, asI, ha, hn, optS]
  cases d <;> first | (simp [pureD] at hp; done) | (simp only [wpSs, wpS, wpE, wpEs, wpEo, wpC, wpT, wpSrc, Rd_val, Rd_new, frz_lst, frz_ins, List.getElem?_cons_zero, List.getElem?_cons_succ, List.set_cons_zero, List.set_cons_succ, kw_nil, bindT, wipeD, List.map_cons, List.map_nil, List.zip_cons_cons, List.zip_nil_right, List.zip_nil_left, List.foldl_cons, List.foldl_nil, o_add, o_adds, o_addt, o_addl, o_sub, o_mul, o_div, o_mod, o_pow, c_lt, c_le, c_gt, c_ge, c_eq, c_ne, c_in, c_ni, c_is, c_isn, e_int, e_str, e_bool, t_bl, t_int, t_lst, t_tup, t_non, f_lent, f_lenl, f_lens, f_lbt, f_lbl, f_lbs, f_inti, f_tupl, f_tupt, f_lstt, f_lstl, f_stri, y_non, y_bl, y_int, y_str, y_tup, y_lst, y_ins, rg_1, rg_2, sq_tup, sq_lst, zp_tup, en_lst, en_tup, aL_lst, sl_t, sl_s, Ty.below, List.any_cons, List.any_nil, subT, Bool.or_false, Bool.not_true, Bool.not_false, true_and, and_true, reduceCtorEq, decide_false, decide_true, Bool.false_eq_true, if_false, if_true, Bool.not_eq_true', Bool.not_not]; exact hq) | skip
  rename_i xs
  simp only [wpSs, wpS, wpE, wpEs, wpEo, wpC, wpT, wpSrc, Rd_val, Rd_new, frz_lst, frz_ins, List.getElem?_cons_zero, List.getElem?_cons_succ, List.set_cons_zero, List.set_cons_succ, kw_nil, bindT, wipeD, List.map_cons, List.map_nil, List.zip_cons_cons, List.zip_nil_right, List.zip_nil_left, List.foldl_cons, List.foldl_nil, o_add, o_adds, o_addt, o_addl, o_sub, o_mul, o_div, o_mod, o_pow, c_lt, c_le, c_gt, c_ge, c_eq, c_ne, c_in, c_ni, c_is, c_isn, e_int, e_str, e_bool, t_bl, t_int, t_lst, t_tup, t_non, f_lent, f_lenl, f_lens, f_lbt, f_lbl, f_lbs, f_inti, f_tupl, f_tupt, f_lstt, f_lstl, f_stri, y_non, y_bl, y_int, y_str, y_tup, y_lst, y_ins, rg_1, rg_2, sq_tup, sq_lst, zp_tup, en_lst, en_tup, aL_lst, sl_t, sl_s, Ty.below, List.any_cons, List.any_nil, subT, Bool.or_false, Bool.not_true, Bool.not_false, true_and, and_true, reduceCtorEq, decide_false, decide_true, Bool.false_eq_true, if_false, if_true, Bool.not_eq_true', Bool.not_not]
  simp only [fld]
  simp only [wpSs, wpS, wpE, wpEs, wpEo, wpC, wpT, wpSrc, Rd_val, Rd_new, frz_lst, frz_ins, List.getElem?_cons_zero, List.getElem?_cons_succ, List.set_cons_zero, List.set_cons_succ, kw_nil, bindT, wipeD, List.map_cons, List.map_nil, List.zip_cons_cons, List.zip_nil_right, List.zip_nil_left, List.foldl_cons, List.foldl_nil, o_add, o_adds, o_addt, o_addl, o_sub, o_mul, o_div, o_mod, o_pow, c_lt, c_le, c_gt, c_ge, c_eq, c_ne, c_in, c_ni, c_is, c_isn, e_int, e_str, e_bool, t_bl, t_int, t_lst, t_tup, t_non, f_lent, f_lenl, f_lens, f_lbt, f_lbl, f_lbs, f_inti, f_tupl, f_tupt, f_lstt, f_lstl, f_stri, y_non, y_bl, y_int, y_str, y_tup, y_lst, y_ins, rg_1, rg_2, sq_tup, sq_lst, zp_tup, en_lst, en_tup, aL_lst, sl_t, sl_s, Ty.below, List.any_cons, List.any_nil, subT, Bool.or_false, Bool.not_true, Bool.not_false, true_and, and_true, reduceCtorEq, decide_false, decide_true, Bool.false_eq_true, if_false, if_true, Bool.not_eq_true', Bool.not_not]
  simp only [marksD] at hq
  by_cases hlen : xs.length = fs.length
  · rw [if_neg (by simp [hlen])]
    refine ⟨fun i ρ M' => M' = M ∧ i ≤ xs.length ∧ ∃ y z, ρ = [some (kindsD fs), some (.tup xs), y, z] ∧ marksL xs (fs.map fun f => f.2.1) = marksL (xs.drop i) ((fs.map fun f => f.2.1).drop i), ⟨rfl, Nat.zero_le _, none, none, rfl, rfl⟩, fun _ _ _ _ _ => trivial, ?_, ?_⟩
    · rintro i x ρ M' hx ⟨rfl, hi, y, z, rfl, e⟩
      obtain ⟨u, f, hu, hf, rfl⟩ := zip_get hx
      obtain ⟨g, hg, rfl⟩ : ∃ g, fs[i]? = some g ∧ f = featD g := by
        rw [List.getElem?_map] at hf
        cases e1 : fs[i]? with
        | none => rw [e1] at hf; cases hf
        | some g => rw [e1] at hf; cases hf; exact ⟨g, rfl, rfl⟩
      have hlt : i < xs.length := (List.getElem?_eq_some_iff.mp hu).1
      rw [drop_get hu, drop_get (x := g.2.1) (by rw [List.getElem?_map, hg]; rfl)] at e
      refine ⟨rfl, ?_⟩
      simp only [wpSs, wpS, wpE, wpEs, wpEo, wpC, wpT, wpSrc, Rd_val, Rd_new, frz_lst, frz_ins, List.getElem?_cons_zero, List.getElem?_cons_succ, List.set_cons_zero, List.set_cons_succ, kw_nil, bindT, wipeD, List.map_cons, List.map_nil, List.zip_cons_cons, List.zip_nil_right, List.zip_nil_left, List.foldl_cons, List.foldl_nil, o_add, o_adds, o_addt, o_addl, o_sub, o_mul, o_div, o_mod, o_pow, c_lt, c_le, c_gt, c_ge, c_eq, c_ne, c_in, c_ni, c_is, c_isn, e_int, e_str, e_bool, t_bl, t_int, t_lst, t_tup, t_non, f_lent, f_lenl, f_lens, f_lbt, f_lbl, f_lbs, f_inti, f_tupl, f_tupt, f_lstt, f_lstl, f_stri, y_non, y_bl, y_int, y_str, y_tup, y_lst, y_ins, rg_1, rg_2, sq_tup, sq_lst, zp_tup, en_lst, en_tup, aL_lst, sl_t, sl_s, Ty.below, List.any_cons, List.any_nil, subT, Bool.or_false, Bool.not_true, Bool.not_false, true_and, and_true, reduceCtorEq, decide_false, decide_true, Bool.false_eq_true, if_false, if_true, Bool.not_eq_true', Bool.not_not]
      simp only [featD]
      rw [ix_t (d := .int g.2.1) rfl, h6]
      have pu : pureD u = true := pureL_get (by simpa [pureD] using hp) hu
      refine ⟨u, g.2.1, rfl, pu, ?_⟩
      rw [marksL_cons] at e
      cases hr : risingD u g.2.1 with
      | false =>
        simp only [wpSs, wpS, wpE, wpEs, wpEo, wpC, wpT, wpSrc, Rd_val, Rd_new, frz_lst, frz_ins, List.getElem?_cons_zero, List.getElem?_cons_succ, List.set_cons_zero, List.set_cons_succ, kw_nil, bindT, wipeD, List.map_cons, List.map_nil, List.zip_cons_cons, List.zip_nil_right, List.zip_nil_left, List.foldl_cons, List.foldl_nil, o_add, o_adds, o_addt, o_addl, o_sub, o_mul, o_div, o_mod, o_pow, c_lt, c_le, c_gt, c_ge, c_eq, c_ne, c_in, c_ni, c_is, c_isn, e_int, e_str, e_bool, t_bl, t_int, t_lst, t_tup, t_non, f_lent, f_lenl, f_lens, f_lbt, f_lbl, f_lbs, f_inti, f_tupl, f_tupt, f_lstt, f_lstl, f_stri, y_non, y_bl, y_int, y_str, y_tup, y_lst, y_ins, rg_1, rg_2, sq_tup, sq_lst, zp_tup, en_lst, en_tup, aL_lst, sl_t, sl_s, Ty.below, List.any_cons, List.any_nil, subT, Bool.or_false, Bool.not_true, Bool.not_false, true_and, and_true, reduceCtorEq, decide_false, decide_true, Bool.false_eq_true, if_false, if_true, Bool.not_eq_true', Bool.not_not]
        rw [hr] at e
        simp only [Bool.false_and] at e
        rw [e] at hq
        exact hq
      | true =>
        simp only [wpSs, wpS, wpE, wpEs, wpEo, wpC, wpT, wpSrc, Rd_val, Rd_new, frz_lst, frz_ins, List.getElem?_cons_zero, List.getElem?_cons_succ, List.set_cons_zero, List.set_cons_succ, kw_nil, bindT, wipeD, List.map_cons, List.map_nil, List.zip_cons_cons, List.zip_nil_right, List.zip_nil_left, List.foldl_cons, List.foldl_nil, o_add, o_adds, o_addt, o_addl, o_sub, o_mul, o_div, o_mod, o_pow, c_lt, c_le, c_gt, c_ge, c_eq, c_ne, c_in, c_ni, c_is, c_isn, e_int, e_str, e_bool, t_bl, t_int, t_lst, t_tup, t_non, f_lent, f_lenl, f_lens, f_lbt, f_lbl, f_lbs, f_inti, f_tupl, f_tupt, f_lstt, f_lstl, f_stri, y_non, y_bl, y_int, y_str, y_tup, y_lst, y_ins, rg_1, rg_2, sq_tup, sq_lst, zp_tup, en_lst, en_tup, aL_lst, sl_t, sl_s, Ty.below, List.any_cons, List.any_nil, subT, Bool.or_false, Bool.not_true, Bool.not_false, true_and, and_true, reduceCtorEq, decide_false, decide_true, Bool.false_eq_true, if_false, if_true, Bool.not_eq_true', Bool.not_not]
        rw [hr] at e
        cases u <;> try (simp [risingD] at hr; done)
        rename_i ys
        simp only [wpSs, wpS, wpE, wpEs, wpEo, wpC, wpT, wpSrc, Rd_val, Rd_new, frz_lst, frz_ins, List.getElem?_cons_zero, List.getElem?_cons_succ, List.set_cons_zero, List.set_cons_succ, kw_nil, bindT, wipeD, List.map_cons, List.map_nil, List.zip_cons_cons, List.zip_nil_right, List.zip_nil_left, List.foldl_cons, List.foldl_nil, o_add, o_adds, o_addt, o_addl, o_sub, o_mul, o_div, o_mod, o_pow, c_lt, c_le, c_gt, c_ge, c_eq, c_ne, c_in, c_ni, c_is, c_isn, e_int, e_str, e_bool, t_bl, t_int, t_lst, t_tup, t_non, f_lent, f_lenl, f_lens, f_lbt, f_lbl, f_lbs, f_inti, f_tupl, f_tupt, f_lstt, f_lstl, f_stri, y_non, y_bl, y_int, y_str, y_tup, y_lst, y_ins, rg_1, rg_2, sq_tup, sq_lst, zp_tup, en_lst, en_tup, aL_lst, sl_t, sl_s, Ty.below, List.any_cons, List.any_nil, subT, Bool.or_false, Bool.not_true, Bool.not_false, true_and, and_true, reduceCtorEq, decide_false, decide_true, Bool.false_eq_true, if_false, if_true, Bool.not_eq_true', Bool.not_not]
        cases ys with
        | nil =>
          rw [if_pos (by rfl)]
          simp only [lenPos, List.isEmpty_nil, Bool.not_true, Bool.and_false, Bool.false_and] at e
          rw [e] at hq
          exact hq
        | cons w ys =>
          rw [if_neg (by simp; omega)]
          simp only [lenPos, List.isEmpty_cons, Bool.not_false, Bool.and_true, Bool.true_and] at e
          exact ⟨hlt, _, _, rfl, e⟩
    · rintro ρ M' ⟨rfl, hi, y, z, rfl, e⟩
      rw [zipD_len, List.length_map, hlen, Nat.min_self, List.drop_eq_nil_of_le (by omega), List.drop_eq_nil_of_le (by simp)] at e
      rw [e] at hq
      exact hq
  · rw [if_pos (by simp; omega)]
    rw [marksL_len (by simpa using hlen)] at hq
    exact hq
/-! words -/
def wordOk (x : Str) : Bool := decide (1 ≤ x.length) && decide (x.length ≤ 12) && x.cps.toList.all fun c => decide (97 ≤ c) && decide (c ≤ 122)
end PL
namespace PL
open PySem PySem.Spec PyProof.Rows L2
abbrev sp_law_draw : DSp := sp_draw
theorem ok_law_draw {T : Tb} : SpOk T N_law_draw ir_law_draw 2 sp_law_draw := by
  rintro ds M Q E hl ⟨p, n, rfl, h0, h1, ⟨l, hM, s, r, rfl, hs0, hs1, hr, hl2⟩, hq⟩
  show wpSs T ir_law_draw _ [some (.ref p), some (.int n), none] M
  unfold ir_law_draw
  simp only [wpSs, wpS, wpE, wpEs, wpEo, wpC, wpT, wpSrc, Rd_val, Rd_new, frz_lst, frz_ins, List.getElem?_cons_zero, List.getElem?_cons_succ, List.set_cons_zero, List.set_cons_succ, kw_nil, bindT, wipeD, List.map_cons, List.map_nil, List.zip_cons_cons, List.zip_nil_right, List.zip_nil_left, List.foldl_cons, List.foldl_nil, o_add, o_adds, o_addt, o_addl, o_sub, o_mul, o_div, o_mod, o_pow, c_lt, c_le, c_gt, c_ge, c_eq, c_ne, c_in, c_ni, c_is, c_isn, e_int, e_str, e_bool, t_bl, t_int, t_lst, t_tup, t_non, f_lent, f_lenl, f_lens, f_lbt, f_lbl, f_lbs, f_inti, f_tupl, f_tupt, f_lstt, f_lstl, f_stri, y_non, y_bl, y_int, y_str, y_tup, y_lst, y_ins, rg_1, rg_2, sq_tup, sq_lst, zp_tup, en_lst, en_tup, aL_lst, sl_t, sl_s, Ty.below, List.any_cons, List.any_nil, subT, Bool.or_false, Bool.not_true, Bool.not_false, true_and, and_true, reduceCtorEq, decide_false, decide_true, Bool.false_eq_true, if_false, if_true, Bool.not_eq_true', Bool.not_not]
  rw [len_c hM]
  simp only [wpSs, wpS, wpE, wpEs, wpEo, wpC, wpT, wpSrc, Rd_val, Rd_new, frz_lst, frz_ins, List.getElem?_cons_zero, List.getElem?_cons_succ, List.set_cons_zero, List.set_cons_succ, kw_nil, bindT, wipeD, List.map_cons, List.map_nil, List.zip_cons_cons, List.zip_nil_right, List.zip_nil_left, List.foldl_cons, List.foldl_nil, o_add, o_adds, o_addt, o_addl, o_sub, o_mul, o_div, o_mod, o_pow, c_lt, c_le, c_gt, c_ge, c_eq, c_ne, c_in, c_ni, c_is, c_isn, e_int, e_str, e_bool, t_bl, t_int, t_lst, t_tup, t_non, f_lent, f_lenl, f_lens, f_lbt, f_lbl, f_lbs, f_inti, f_tupl, f_tupt, f_lstt, f_lstl, f_stri, y_non, y_bl, y_int, y_str, y_tup, y_lst, y_ins, rg_1, rg_2, sq_tup, sq_lst, zp_tup, en_lst, en_tup, aL_lst, sl_t, sl_s, Ty.below, List.any_cons, List.any_nil, subT, Bool.or_false, Bool.not_true, Bool.not_false, true_and, and_true, reduceCtorEq, decide_false, decide_true, Bool.false_eq_true, if_false, if_true, Bool.not_eq_true', Bool.not_not]
  have hlog := log_n h0 h1
  cases r with
  | nil =>
    rw [if_neg (by simp)]
    rw [ix_c (i := 0) hM (at_int (by decide) rfl), ix_c (i := 0) hM (at_int (by decide) rfl)]
    have hm0 : ∀ x : Int, 0 ≤ x % 2305843009213693951 := fun x => Int.emod_nonneg _ (by decide)
    have hm1 : ∀ x : Int, x % 2305843009213693951 < 2305843009213693951 := fun x => Int.emod_lt_of_pos _ (by decide)
    simp only [wpSs, wpS, wpE, wpEs, wpEo, wpC, wpT, wpSrc, Rd_val, Rd_new, frz_lst, frz_ins, List.getElem?_cons_zero, List.getElem?_cons_succ, List.set_cons_zero, List.set_cons_succ, kw_nil, bindT, wipeD, List.map_cons, List.map_nil, List.zip_cons_cons, List.zip_nil_right, List.zip_nil_left, List.foldl_cons, List.foldl_nil, o_add, o_adds, o_addt, o_addl, o_sub, o_mul, o_div, o_mod, o_pow, c_lt, c_le, c_gt, c_ge, c_eq, c_ne, c_in, c_ni, c_is, c_isn, e_int, e_str, e_bool, t_bl, t_int, t_lst, t_tup, t_non, f_lent, f_lenl, f_lens, f_lbt, f_lbl, f_lbs, f_inti, f_tupl, f_tupt, f_lstt, f_lstl, f_stri, y_non, y_bl, y_int, y_str, y_tup, y_lst, y_ins, rg_1, rg_2, sq_tup, sq_lst, zp_tup, en_lst, en_tup, aL_lst, sl_t, sl_s, Ty.below, List.any_cons, List.any_nil, subT, Bool.or_false, Bool.not_true, Bool.not_false, true_and, and_true, reduceCtorEq, decide_false, decide_true, Bool.false_eq_true, if_false, if_true, Bool.not_eq_true', Bool.not_not]
    refine ⟨by have := log_small hs0 hs1; omega, by decide, ?_⟩
    rw [set_c hM (j := 0) rfl]
    simp only [List.map_cons, List.map_nil, List.set_cons_zero]
    have hM2 : mput M p (.lst [.int ((s * s + 40014) % 2305843009213693951)]) p = some (.lst [.int ((s * s + 40014) % 2305843009213693951)]) := mput_same
    rw [ix_c (i := 0) hM2 (at_int (by decide) rfl)]
    simp only [wpSs, wpS, wpE, wpEs, wpEo, wpC, wpT, wpSrc, Rd_val, Rd_new, frz_lst, frz_ins, List.getElem?_cons_zero, List.getElem?_cons_succ, List.set_cons_zero, List.set_cons_succ, kw_nil, bindT, wipeD, List.map_cons, List.map_nil, List.zip_cons_cons, List.zip_nil_right, List.zip_nil_left, List.foldl_cons, List.foldl_nil, o_add, o_adds, o_addt, o_addl, o_sub, o_mul, o_div, o_mod, o_pow, c_lt, c_le, c_gt, c_ge, c_eq, c_ne, c_in, c_ni, c_is, c_isn, e_int, e_str, e_bool, t_bl, t_int, t_lst, t_tup, t_non, f_lent, f_lenl, f_lens, f_lbt, f_lbl, f_lbs, f_inti, f_tupl, f_tupt, f_lstt, f_lstl, f_stri, y_non, y_bl, y_int, y_str, y_tup, y_lst, y_ins, rg_1, rg_2, sq_tup, sq_lst, zp_tup, en_lst, en_tup, aL_lst, sl_t, sl_s, Ty.below, List.any_cons, List.any_nil, subT, Bool.or_false, Bool.not_true, Bool.not_false, true_and, and_true, reduceCtorEq, decide_false, decide_true, Bool.false_eq_true, if_false, if_true, Bool.not_eq_true', Bool.not_not]
    refine ⟨⟨by decide, by decide⟩, h0, ?_⟩
    exact hq _ _ (Int.emod_nonneg _ (by omega)) (Int.emod_lt_of_pos _ h0) (Step.put (l := [(s * s + 40014) % 2305843009213693951]) ⟨_, [], rfl, hm0 _, hm1 _, by simp, by simp⟩)
  | cons z r =>
    rw [if_pos (by simp; omega)]
    have hz : 0 < z := hr z List.mem_cons_self
    rw [ix_c (i := 1) hM (at_int (by decide) rfl)]
    simp only [wpSs, wpS, wpE, wpEs, wpEo, wpC, wpT, wpSrc, Rd_val, Rd_new, frz_lst, frz_ins, List.getElem?_cons_zero, List.getElem?_cons_succ, List.set_cons_zero, List.set_cons_succ, kw_nil, bindT, wipeD, List.map_cons, List.map_nil, List.zip_cons_cons, List.zip_nil_right, List.zip_nil_left, List.foldl_cons, List.foldl_nil, o_add, o_adds, o_addt, o_addl, o_sub, o_mul, o_div, o_mod, o_pow, c_lt, c_le, c_gt, c_ge, c_eq, c_ne, c_in, c_ni, c_is, c_isn, e_int, e_str, e_bool, t_bl, t_int, t_lst, t_tup, t_non, f_lent, f_lenl, f_lens, f_lbt, f_lbl, f_lbs, f_inti, f_tupl, f_tupt, f_lstt, f_lstl, f_stri, y_non, y_bl, y_int, y_str, y_tup, y_lst, y_ins, rg_1, rg_2, sq_tup, sq_lst, zp_tup, en_lst, en_tup, aL_lst, sl_t, sl_s, Ty.below, List.any_cons, List.any_nil, subT, Bool.or_false, Bool.not_true, Bool.not_false, true_and, and_true, reduceCtorEq, decide_false, decide_true, Bool.false_eq_true, if_false, if_true, Bool.not_eq_true', Bool.not_not]
    refine ⟨h0, ?_⟩
    rw [ix_c (i := 1) hM (at_int (by decide) rfl)]
    simp only [wpSs, wpS, wpE, wpEs, wpEo, wpC, wpT, wpSrc, Rd_val, Rd_new, frz_lst, frz_ins, List.getElem?_cons_zero, List.getElem?_cons_succ, List.set_cons_zero, List.set_cons_succ, kw_nil, bindT, wipeD, List.map_cons, List.map_nil, List.zip_cons_cons, List.zip_nil_right, List.zip_nil_left, List.foldl_cons, List.foldl_nil, o_add, o_adds, o_addt, o_addl, o_sub, o_mul, o_div, o_mod, o_pow, c_lt, c_le, c_gt, c_ge, c_eq, c_ne, c_in, c_ni, c_is, c_isn, e_int, e_str, e_bool, t_bl, t_int, t_lst, t_tup, t_non, f_lent, f_lenl, f_lens, f_lbt, f_lbl, f_lbs, f_inti, f_tupl, f_tupt, f_lstt, f_lstl, f_stri, y_non, y_bl, y_int, y_str, y_tup, y_lst, y_ins, rg_1, rg_2, sq_tup, sq_lst, zp_tup, en_lst, en_tup, aL_lst, sl_t, sl_s, Ty.below, List.any_cons, List.any_nil, subT, Bool.or_false, Bool.not_true, Bool.not_false, true_and, and_true, reduceCtorEq, decide_false, decide_true, Bool.false_eq_true, if_false, if_true, Bool.not_eq_true', Bool.not_not]
    refine ⟨⟨h0, hlog⟩, ?_⟩
    rw [set_c hM (j := 1) (by simp [ixN]; omega)]
    simp only [List.map_cons, List.map_nil, List.set_cons_zero, List.set_cons_succ]
    have hM2 : mput M p (.lst (.int s :: .int (z / n) :: r.map D.int)) p = some (.lst (.int s :: .int (z / n) :: r.map D.int)) := mput_same
    rw [ix_c (i := 1) hM2 (at_int (by decide) rfl)]
    simp only [wpSs, wpS, wpE, wpEs, wpEo, wpC, wpT, wpSrc, Rd_val, Rd_new, frz_lst, frz_ins, List.getElem?_cons_zero, List.getElem?_cons_succ, List.set_cons_zero, List.set_cons_succ, kw_nil, bindT, wipeD, List.map_cons, List.map_nil, List.zip_cons_cons, List.zip_nil_right, List.zip_nil_left, List.foldl_cons, List.foldl_nil, o_add, o_adds, o_addt, o_addl, o_sub, o_mul, o_div, o_mod, o_pow, c_lt, c_le, c_gt, c_ge, c_eq, c_ne, c_in, c_ni, c_is, c_isn, e_int, e_str, e_bool, t_bl, t_int, t_lst, t_tup, t_non, f_lent, f_lenl, f_lens, f_lbt, f_lbl, f_lbs, f_inti, f_tupl, f_tupt, f_lstt, f_lstl, f_stri, y_non, y_bl, y_int, y_str, y_tup, y_lst, y_ins, rg_1, rg_2, sq_tup, sq_lst, zp_tup, en_lst, en_tup, aL_lst, sl_t, sl_s, Ty.below, List.any_cons, List.any_nil, subT, Bool.or_false, Bool.not_true, Bool.not_false, true_and, and_true, reduceCtorEq, decide_false, decide_true, Bool.false_eq_true, if_false, if_true, Bool.not_eq_true', Bool.not_not]
    have r0 : 0 ≤ z % n := Int.emod_nonneg _ (by omega)
    have r1 : z % n < n := Int.emod_lt_of_pos _ h0
    by_cases e : z / n = 0
    · rw [if_pos (by simpa using e)]
      refine ⟨ty_c hM2 (by simp), ?_⟩
      rw [pat_c (i := 1) hM2 (j := 1) (v := .int (z / n)) (by simp [ixN]; omega) rfl, mput_mput]
      exact hq _ _ r0 r1 (Step.put (l := s :: r) ⟨s, r, rfl, hs0, hs1, fun x hx => hr x (List.mem_cons_of_mem _ hx), by simp at hl2; omega⟩)
    · rw [if_neg (by simpa using e)]
      have : 0 ≤ z / n := Int.ediv_nonneg (by omega) (by omega)
      exact hq _ _ r0 r1 (Step.put (l := s :: (z / n) :: r) ⟨s, _, rfl, hs0, hs1, fun x hx => by
        rcases List.mem_cons.mp hx with rfl | hx
        · omega
        · exact hr x (List.mem_cons_of_mem _ hx), hl2⟩)
/-! the pool's making -/
def sp_law_pool : DSp := fun ds M Q _ => ∃ ns : List Int, ds = [.lst (ns.map .int)] ∧ ns.length ≤ 63 ∧ ∀ l, PoolV l → Q (.new (.lst (l.map .int))) M
theorem ok_law_pool {T : Tb} : SpOk T N_law_pool ir_law_pool 1 sp_law_pool := by
  rintro ds M Q E hl ⟨ns, rfl, hn, hq⟩
  show wpSs T ir_law_pool _ [some (.lst (ns.map .int)), none, none, none] M
  unfold ir_law_pool
  have hm0 : ∀ x : Int, 0 ≤ x % 2305843009213693951 := fun x => Int.emod_nonneg _ (by decide)
  have hm1 : ∀ x : Int, x % 2305843009213693951 < 2305843009213693951 := fun x => Int.emod_lt_of_pos _ (by decide)
  simp only [wpSs, wpS, wpE, wpEs, wpEo, wpC, wpT, wpSrc, Rd_val, Rd_new, frz_lst, frz_ins, List.getElem?_cons_zero, List.getElem?_cons_succ, List.set_cons_zero, List.set_cons_succ, kw_nil, bindT, wipeD, List.map_cons, List.map_nil, List.zip_cons_cons, List.zip_nil_right, List.zip_nil_left, List.foldl_cons, List.foldl_nil, o_add, o_adds, o_addt, o_addl, o_sub, o_mul, o_div, o_mod, o_pow, c_lt, c_le, c_gt, c_ge, c_eq, c_ne, c_in, c_ni, c_is, c_isn, e_int, e_str, e_bool, t_bl, t_int, t_lst, t_tup, t_non, f_lent, f_lenl, f_lens, f_lbt, f_lbl, f_lbs, f_inti, f_tupl, f_tupt, f_lstt, f_lstl, f_stri, y_non, y_bl, y_int, y_str, y_tup, y_lst, y_ins, rg_1, rg_2, sq_tup, sq_lst, zp_tup, en_lst, en_tup, aL_lst, sl_t, sl_s, Ty.below, List.any_cons, List.any_nil, subT, Bool.or_false, Bool.not_true, Bool.not_false, true_and, and_true, reduceCtorEq, decide_false, decide_true, Bool.false_eq_true, if_false, if_true, Bool.not_eq_true', Bool.not_not]
  refine ⟨fun i ρ M' => M' = M ∧ ∃ s y, ρ = [some (.lst (ns.map .int)), some (.int s), y, none] ∧ 0 ≤ s ∧ s < 2305843009213693951, ⟨rfl, _, none, rfl, by omega, by simp; omega⟩, fun _ _ _ _ _ => trivial, ?_, ?_⟩
  · rintro i x ρ M' hx ⟨rfl, s, y, rfl, s0, s1⟩
    obtain ⟨c, hc, rfl⟩ : ∃ c, ns[i]? = some c ∧ x = .int c := by
      rw [List.getElem?_map] at hx
      cases e : ns[i]? with
      | none => rw [e] at hx; cases hx
      | some c => rw [e] at hx; cases hx; exact ⟨c, rfl, rfl⟩
    simp only [wpSs, wpS, wpE, wpEs, wpEo, wpC, wpT, wpSrc, Rd_val, Rd_new, frz_lst, frz_ins, List.getElem?_cons_zero, List.getElem?_cons_succ, List.set_cons_zero, List.set_cons_succ, kw_nil, bindT, wipeD, List.map_cons, List.map_nil, List.zip_cons_cons, List.zip_nil_right, List.zip_nil_left, List.foldl_cons, List.foldl_nil, o_add, o_adds, o_addt, o_addl, o_sub, o_mul, o_div, o_mod, o_pow, c_lt, c_le, c_gt, c_ge, c_eq, c_ne, c_in, c_ni, c_is, c_isn, e_int, e_str, e_bool, t_bl, t_int, t_lst, t_tup, t_non, f_lent, f_lenl, f_lens, f_lbt, f_lbl, f_lbs, f_inti, f_tupl, f_tupt, f_lstt, f_lstl, f_stri, y_non, y_bl, y_int, y_str, y_tup, y_lst, y_ins, rg_1, rg_2, sq_tup, sq_lst, zp_tup, en_lst, en_tup, aL_lst, sl_t, sl_s, Ty.below, List.any_cons, List.any_nil, subT, Bool.or_false, Bool.not_true, Bool.not_false, true_and, and_true, reduceCtorEq, decide_false, decide_true, Bool.false_eq_true, if_false, if_true, Bool.not_eq_true', Bool.not_not]
    exact ⟨by have := log_small s0 s1; omega, by decide, _, _, rfl, hm0 _, hm1 _⟩
  · rintro ρ M' ⟨rfl, s, y, rfl, s0, s1⟩
    refine ⟨⟨by decide, by decide⟩, ?_⟩
    refine ⟨fun i ρ M2 => M2 = M' ∧ ∃ s z, ρ = [some (.lst (ns.map .int)), some (.int s), y, z] ∧ 0 ≤ s ∧ s < 2305843009213693951, ⟨rfl, _, none, rfl, s0, s1⟩, fun _ _ _ _ _ => trivial, ?_, ?_⟩
    · rintro i x ρ M2 hx ⟨rfl, s, z, rfl, s0, s1⟩
      simp only [wpSs, wpS, wpE, wpEs, wpEo, wpC, wpT, wpSrc, Rd_val, Rd_new, frz_lst, frz_ins, List.getElem?_cons_zero, List.getElem?_cons_succ, List.set_cons_zero, List.set_cons_succ, kw_nil, bindT, wipeD, List.map_cons, List.map_nil, List.zip_cons_cons, List.zip_nil_right, List.zip_nil_left, List.foldl_cons, List.foldl_nil, o_add, o_adds, o_addt, o_addl, o_sub, o_mul, o_div, o_mod, o_pow, c_lt, c_le, c_gt, c_ge, c_eq, c_ne, c_in, c_ni, c_is, c_isn, e_int, e_str, e_bool, t_bl, t_int, t_lst, t_tup, t_non, f_lent, f_lenl, f_lens, f_lbt, f_lbl, f_lbs, f_inti, f_tupl, f_tupt, f_lstt, f_lstl, f_stri, y_non, y_bl, y_int, y_str, y_tup, y_lst, y_ins, rg_1, rg_2, sq_tup, sq_lst, zp_tup, en_lst, en_tup, aL_lst, sl_t, sl_s, Ty.below, List.any_cons, List.any_nil, subT, Bool.or_false, Bool.not_true, Bool.not_false, true_and, and_true, reduceCtorEq, decide_false, decide_true, Bool.false_eq_true, if_false, if_true, Bool.not_eq_true', Bool.not_not]
      exact ⟨by have := log_small s0 s1; omega, by decide, _, _, rfl, hm0 _, hm1 _⟩
    · rintro ρ M2 ⟨rfl, s, z, rfl, s0, s1⟩
      simp only [wpSs, wpS, wpE, wpEs, wpEo, wpC, wpT, wpSrc, Rd_val, Rd_new, frz_lst, frz_ins, List.getElem?_cons_zero, List.getElem?_cons_succ, List.set_cons_zero, List.set_cons_succ, kw_nil, bindT, wipeD, List.map_cons, List.map_nil, List.zip_cons_cons, List.zip_nil_right, List.zip_nil_left, List.foldl_cons, List.foldl_nil, o_add, o_adds, o_addt, o_addl, o_sub, o_mul, o_div, o_mod, o_pow, c_lt, c_le, c_gt, c_ge, c_eq, c_ne, c_in, c_ni, c_is, c_isn, e_int, e_str, e_bool, t_bl, t_int, t_lst, t_tup, t_non, f_lent, f_lenl, f_lens, f_lbt, f_lbl, f_lbs, f_inti, f_tupl, f_tupt, f_lstt, f_lstl, f_stri, y_non, y_bl, y_int, y_str, y_tup, y_lst, y_ins, rg_1, rg_2, sq_tup, sq_lst, zp_tup, en_lst, en_tup, aL_lst, sl_t, sl_s, Ty.below, List.any_cons, List.any_nil, subT, Bool.or_false, Bool.not_true, Bool.not_false, true_and, and_true, reduceCtorEq, decide_false, decide_true, Bool.false_eq_true, if_false, if_true, Bool.not_eq_true', Bool.not_not]
      refine comp_fm (fun d => match d with | .int c => if 1000000000000000000 ≤ c then some (.int c) else none | _ => none) trivial ?_ ?_
      · intro i x acc K hx hK
        obtain ⟨c, hc, rfl⟩ : ∃ c, ns[i]? = some c ∧ x = .int c := by
          rw [List.getElem?_map] at hx
          cases e : ns[i]? with
          | none => rw [e] at hx; cases hx
          | some c => rw [e] at hx; cases hx; exact ⟨c, rfl, rfl⟩
        simp only [wpSs, wpS, wpE, wpEs, wpEo, wpC, wpT, wpSrc, Rd_val, Rd_new, frz_lst, frz_ins, List.getElem?_cons_zero, List.getElem?_cons_succ, List.set_cons_zero, List.set_cons_succ, kw_nil, bindT, wipeD, List.map_cons, List.map_nil, List.zip_cons_cons, List.zip_nil_right, List.zip_nil_left, List.foldl_cons, List.foldl_nil, o_add, o_adds, o_addt, o_addl, o_sub, o_mul, o_div, o_mod, o_pow, c_lt, c_le, c_gt, c_ge, c_eq, c_ne, c_in, c_ni, c_is, c_isn, e_int, e_str, e_bool, t_bl, t_int, t_lst, t_tup, t_non, f_lent, f_lenl, f_lens, f_lbt, f_lbl, f_lbs, f_inti, f_tupl, f_tupt, f_lstt, f_lstl, f_stri, y_non, y_bl, y_int, y_str, y_tup, y_lst, y_ins, rg_1, rg_2, sq_tup, sq_lst, zp_tup, en_lst, en_tup, aL_lst, sl_t, sl_s, Ty.below, List.any_cons, List.any_nil, subT, Bool.or_false, Bool.not_true, Bool.not_false, true_and, and_true, reduceCtorEq, decide_false, decide_true, Bool.false_eq_true, if_false, if_true, Bool.not_eq_true', Bool.not_not]
        by_cases h : 1000000000000000000 ≤ c
        · simp [h] at hK ⊢; exact hK
        · simp [h] at hK ⊢; exact hK
      · have e : ∀ l : List Int, (l.map D.int).filterMap (fun d => match d with | .int c => if 1000000000000000000 ≤ c then some (D.int c) else none | _ => none) = (l.filter fun c => decide (1000000000000000000 ≤ c)).map D.int := by
          intro l
          induction l with
          | nil => rfl
          | cons c l ih =>
            rw [List.map_cons, List.filterMap_cons, List.filter_cons]
            by_cases h : 1000000000000000000 ≤ c
            · simp only [h, if_true, decide_true]; rw [ih]; rfl
            · simp only [h, if_false, decide_false, Bool.false_eq_true]; rw [ih]
        rw [e]
        simp only [wpSs, wpS, wpE, wpEs, wpEo, wpC, wpT, wpSrc, Rd_val, Rd_new, frz_lst, frz_ins, List.getElem?_cons_zero, List.getElem?_cons_succ, List.set_cons_zero, List.set_cons_succ, kw_nil, bindT, wipeD, List.map_cons, List.map_nil, List.zip_cons_cons, List.zip_nil_right, List.zip_nil_left, List.foldl_cons, List.foldl_nil, o_add, o_adds, o_addt, o_addl, o_sub, o_mul, o_div, o_mod, o_pow, c_lt, c_le, c_gt, c_ge, c_eq, c_ne, c_in, c_ni, c_is, c_isn, e_int, e_str, e_bool, t_bl, t_int, t_lst, t_tup, t_non, f_lent, f_lenl, f_lens, f_lbt, f_lbl, f_lbs, f_inti, f_tupl, f_tupt, f_lstt, f_lstl, f_stri, y_non, y_bl, y_int, y_str, y_tup, y_lst, y_ins, rg_1, rg_2, sq_tup, sq_lst, zp_tup, en_lst, en_tup, aL_lst, sl_t, sl_s, Ty.below, List.any_cons, List.any_nil, subT, Bool.or_false, Bool.not_true, Bool.not_false, true_and, and_true, reduceCtorEq, decide_false, decide_true, Bool.false_eq_true, if_false, if_true, Bool.not_eq_true', Bool.not_not]
        have hs : sizeLine = 16777216 := sizeLine_eq
        have hf : (ns.filter fun c => decide (1000000000000000000 ≤ c)).length ≤ 63 := Nat.le_trans (List.length_filter_le _ _) hn
        refine ⟨by simp; omega, ?_⟩
        refine hq (s :: ns.filter fun c => decide (1000000000000000000 ≤ c)) ⟨s, _, rfl, s0, s1, fun x hx => ?_, hf⟩
        have := (List.mem_filter.mp hx).2
        simp at this
        omega
end PL
namespace PL
open PySem PySem.Spec PyProof.Rows L2
/-! the same -/
mutual
def sokD : D → Bool
  | .non => true | .bl _ => true | .int _ => true
  | .str x => SeqAt.shaped (.str x)
  | .tup xs => decide (xs.length ≤ 16777216) && sokL xs
  | .lst xs => decide (xs.length ≤ 16777216) && sokL xs
  | _ => false
def sokL : List D → Bool
  | [] => true
  | x :: xs => sokD x && sokL xs
end
mutual
def depD : D → Nat
  | .tup xs => depL xs + 1
  | .lst xs => depL xs + 1
  | _ => 0
def depL : List D → Nat
  | [] => 0
  | x :: xs => max (depD x) (depL xs)
end
theorem sokL_get {xs : List D} {i : Nat} {x : D} (h : sokL xs = true) (e : xs[i]? = some x) : sokD x = true := by
  induction xs generalizing i with
  | nil => simp at e
  | cons y ys ih =>
    simp only [sokL, Bool.and_eq_true] at h
    cases i with
    | zero => simp at e; subst e; exact h.1
    | succ j => exact ih h.2 (by simpa using e)
theorem depL_get {xs : List D} {i : Nat} {x : D} (e : xs[i]? = some x) : depD x ≤ depL xs := by
  induction xs generalizing i with
  | nil => simp at e
  | cons y ys ih =>
    simp only [depL]
    cases i with
    | zero => simp at e; subst e; omega
    | succ j => have := ih (i := j) (by simpa using e); omega
def sp_law_same (n : Nat) : DSp := fun ds M Q _ => ∃ d, ds = [d, d] ∧ sokD d = true ∧ depD d < n ∧ Q (.val (.bl true)) M
theorem no_law_same {ds : List D} {M : Mem} {Q : QR} {E : EX} : sp_law_same 0 ds M Q E → False := fun ⟨_, _, _, h, _⟩ => absurd h (Nat.not_lt_zero _)
theorem ok_law_same {T : Tb} (n : Nat) (h9 : T.fn 9 = sp_law_same n) : SpOk T N_law_same ir_law_same 2 (sp_law_same (n + 1)) := by
  rintro ds M Q E hl ⟨d, rfl, hs, hd, hq⟩
  show wpSs T ir_law_same _ [some d, some d, none] M
  unfold ir_law_same
  cases d with
  | non => simp only [wpSs, wpS, wpE, wpEs, wpEo, wpC, wpT, wpSrc, Rd_val, Rd_new, frz_lst, frz_ins, List.getElem?_cons_zero, List.getElem?_cons_succ, List.set_cons_zero, List.set_cons_succ, kw_nil, bindT, wipeD, List.map_cons, List.map_nil, List.zip_cons_cons, List.zip_nil_right, List.zip_nil_left, List.foldl_cons, List.foldl_nil, o_add, o_adds, o_addt, o_addl, o_sub, o_mul, o_div, o_mod, o_pow, c_lt, c_le, c_gt, c_ge, c_eq, c_ne, c_in, c_ni, c_is, c_isn, e_int, e_str, e_bool, t_bl, t_int, t_lst, t_tup, t_non, f_lent, f_lenl, f_lens, f_lbt, f_lbl, f_lbs, f_inti, f_tupl, f_tupt, f_lstt, f_lstl, f_stri, y_non, y_bl, y_int, y_str, y_tup, y_lst, y_ins, rg_1, rg_2, sq_tup, sq_lst, zp_tup, en_lst, en_tup, aL_lst, sl_t, sl_s, Ty.below, List.any_cons, List.any_nil, subT, Bool.or_false, Bool.not_true, Bool.not_false, true_and, and_true, reduceCtorEq, decide_false, decide_true, Bool.false_eq_true, if_false, if_true, Bool.not_eq_true', Bool.not_not]; exact hq
  | bl b =>
    simp only [wpSs, wpS, wpE, wpEs, wpEo, wpC, wpT, wpSrc, Rd_val, Rd_new, frz_lst, frz_ins, List.getElem?_cons_zero, List.getElem?_cons_succ, List.set_cons_zero, List.set_cons_succ, kw_nil, bindT, wipeD, List.map_cons, List.map_nil, List.zip_cons_cons, List.zip_nil_right, List.zip_nil_left, List.foldl_cons, List.foldl_nil, o_add, o_adds, o_addt, o_addl, o_sub, o_mul, o_div, o_mod, o_pow, c_lt, c_le, c_gt, c_ge, c_eq, c_ne, c_in, c_ni, c_is, c_isn, e_int, e_str, e_bool, t_bl, t_int, t_lst, t_tup, t_non, f_lent, f_lenl, f_lens, f_lbt, f_lbl, f_lbs, f_inti, f_tupl, f_tupt, f_lstt, f_lstl, f_stri, y_non, y_bl, y_int, y_str, y_tup, y_lst, y_ins, rg_1, rg_2, sq_tup, sq_lst, zp_tup, en_lst, en_tup, aL_lst, sl_t, sl_s, Ty.below, List.any_cons, List.any_nil, subT, Bool.or_false, Bool.not_true, Bool.not_false, true_and, and_true, reduceCtorEq, decide_false, decide_true, Bool.false_eq_true, if_false, if_true, Bool.not_eq_true', Bool.not_not]
    have : (b == b) = true := by simp
    rw [this]
    exact hq
  | int i =>
    simp only [wpSs, wpS, wpE, wpEs, wpEo, wpC, wpT, wpSrc, Rd_val, Rd_new, frz_lst, frz_ins, List.getElem?_cons_zero, List.getElem?_cons_succ, List.set_cons_zero, List.set_cons_succ, kw_nil, bindT, wipeD, List.map_cons, List.map_nil, List.zip_cons_cons, List.zip_nil_right, List.zip_nil_left, List.foldl_cons, List.foldl_nil, o_add, o_adds, o_addt, o_addl, o_sub, o_mul, o_div, o_mod, o_pow, c_lt, c_le, c_gt, c_ge, c_eq, c_ne, c_in, c_ni, c_is, c_isn, e_int, e_str, e_bool, t_bl, t_int, t_lst, t_tup, t_non, f_lent, f_lenl, f_lens, f_lbt, f_lbl, f_lbs, f_inti, f_tupl, f_tupt, f_lstt, f_lstl, f_stri, y_non, y_bl, y_int, y_str, y_tup, y_lst, y_ins, rg_1, rg_2, sq_tup, sq_lst, zp_tup, en_lst, en_tup, aL_lst, sl_t, sl_s, Ty.below, List.any_cons, List.any_nil, subT, Bool.or_false, Bool.not_true, Bool.not_false, true_and, and_true, reduceCtorEq, decide_false, decide_true, Bool.false_eq_true, if_false, if_true, Bool.not_eq_true', Bool.not_not]
    exact hq
  | str x =>
    simp only [wpSs, wpS, wpE, wpEs, wpEo, wpC, wpT, wpSrc, Rd_val, Rd_new, frz_lst, frz_ins, List.getElem?_cons_zero, List.getElem?_cons_succ, List.set_cons_zero, List.set_cons_succ, kw_nil, bindT, wipeD, List.map_cons, List.map_nil, List.zip_cons_cons, List.zip_nil_right, List.zip_nil_left, List.foldl_cons, List.foldl_nil, o_add, o_adds, o_addt, o_addl, o_sub, o_mul, o_div, o_mod, o_pow, c_lt, c_le, c_gt, c_ge, c_eq, c_ne, c_in, c_ni, c_is, c_isn, e_int, e_str, e_bool, t_bl, t_int, t_lst, t_tup, t_non, f_lent, f_lenl, f_lens, f_lbt, f_lbl, f_lbs, f_inti, f_tupl, f_tupt, f_lstt, f_lstl, f_stri, y_non, y_bl, y_int, y_str, y_tup, y_lst, y_ins, rg_1, rg_2, sq_tup, sq_lst, zp_tup, en_lst, en_tup, aL_lst, sl_t, sl_s, Ty.below, List.any_cons, List.any_nil, subT, Bool.or_false, Bool.not_true, Bool.not_false, true_and, and_true, reduceCtorEq, decide_false, decide_true, Bool.false_eq_true, if_false, if_true, Bool.not_eq_true', Bool.not_not]
    have : (x == x) = true := by simp
    rw [this]
    have h : SeqAt.shaped (.str x) = true := hs
    exact ⟨h, h, hq⟩
  | tup xs =>
    simp only [sokD, Bool.and_eq_true, decide_eq_true_eq] at hs
    simp only [wpSs, wpS, wpE, wpEs, wpEo, wpC, wpT, wpSrc, Rd_val, Rd_new, frz_lst, frz_ins, List.getElem?_cons_zero, List.getElem?_cons_succ, List.set_cons_zero, List.set_cons_succ, kw_nil, bindT, wipeD, List.map_cons, List.map_nil, List.zip_cons_cons, List.zip_nil_right, List.zip_nil_left, List.foldl_cons, List.foldl_nil, o_add, o_adds, o_addt, o_addl, o_sub, o_mul, o_div, o_mod, o_pow, c_lt, c_le, c_gt, c_ge, c_eq, c_ne, c_in, c_ni, c_is, c_isn, e_int, e_str, e_bool, t_bl, t_int, t_lst, t_tup, t_non, f_lent, f_lenl, f_lens, f_lbt, f_lbl, f_lbs, f_inti, f_tupl, f_tupt, f_lstt, f_lstl, f_stri, y_non, y_bl, y_int, y_str, y_tup, y_lst, y_ins, rg_1, rg_2, sq_tup, sq_lst, zp_tup, en_lst, en_tup, aL_lst, sl_t, sl_s, Ty.below, List.any_cons, List.any_nil, subT, Bool.or_false, Bool.not_true, Bool.not_false, true_and, and_true, reduceCtorEq, decide_false, decide_true, Bool.false_eq_true, if_false, if_true, Bool.not_eq_true', Bool.not_not]
    intro _
    refine ⟨⟨by omega, by omega⟩, ?_⟩
    refine comp_fm (fun _ => none) trivial ?_ ?_
    · intro i x acc K hx hK
      obtain ⟨hi, rfl⟩ := rg_get hx
      have hi' : i < xs.length := by omega
      have g : xs[i]? = some xs[i] := List.getElem?_eq_getElem hi'
      simp only [wpSs, wpS, wpE, wpEs, wpEo, wpC, wpT, wpSrc, Rd_val, Rd_new, frz_lst, frz_ins, List.getElem?_cons_zero, List.getElem?_cons_succ, List.set_cons_zero, List.set_cons_succ, kw_nil, bindT, wipeD, List.map_cons, List.map_nil, List.zip_cons_cons, List.zip_nil_right, List.zip_nil_left, List.foldl_cons, List.foldl_nil, o_add, o_adds, o_addt, o_addl, o_sub, o_mul, o_div, o_mod, o_pow, c_lt, c_le, c_gt, c_ge, c_eq, c_ne, c_in, c_ni, c_is, c_isn, e_int, e_str, e_bool, t_bl, t_int, t_lst, t_tup, t_non, f_lent, f_lenl, f_lens, f_lbt, f_lbl, f_lbs, f_inti, f_tupl, f_tupt, f_lstt, f_lstl, f_stri, y_non, y_bl, y_int, y_str, y_tup, y_lst, y_ins, rg_1, rg_2, sq_tup, sq_lst, zp_tup, en_lst, en_tup, aL_lst, sl_t, sl_s, Ty.below, List.any_cons, List.any_nil, subT, Bool.or_false, Bool.not_true, Bool.not_false, true_and, and_true, reduceCtorEq, decide_false, decide_true, Bool.false_eq_true, if_false, if_true, Bool.not_eq_true', Bool.not_not]
      have e : (0 + (i : Int)) = ((i : Nat) : Int) := by omega
      rw [e, ix_t (at_nat g), ix_t (at_nat g), h9]
      refine ⟨xs[i], rfl, sokL_get hs.2 g, ?_, ?_⟩
      · have := depL_get g
        simp only [depD] at hd
        omega
      · simp only [wpSs, wpS, wpE, wpEs, wpEo, wpC, wpT, wpSrc, Rd_val, Rd_new, frz_lst, frz_ins, List.getElem?_cons_zero, List.getElem?_cons_succ, List.set_cons_zero, List.set_cons_succ, kw_nil, bindT, wipeD, List.map_cons, List.map_nil, List.zip_cons_cons, List.zip_nil_right, List.zip_nil_left, List.foldl_cons, List.foldl_nil, o_add, o_adds, o_addt, o_addl, o_sub, o_mul, o_div, o_mod, o_pow, c_lt, c_le, c_gt, c_ge, c_eq, c_ne, c_in, c_ni, c_is, c_isn, e_int, e_str, e_bool, t_bl, t_int, t_lst, t_tup, t_non, f_lent, f_lenl, f_lens, f_lbt, f_lbl, f_lbs, f_inti, f_tupl, f_tupt, f_lstt, f_lstl, f_stri, y_non, y_bl, y_int, y_str, y_tup, y_lst, y_ins, rg_1, rg_2, sq_tup, sq_lst, zp_tup, en_lst, en_tup, aL_lst, sl_t, sl_s, Ty.below, List.any_cons, List.any_nil, subT, Bool.or_false, Bool.not_true, Bool.not_false, true_and, and_true, reduceCtorEq, decide_false, decide_true, Bool.false_eq_true, if_false, if_true, Bool.not_eq_true', Bool.not_not]
        simpa using hK
    · rw [show (rangeD 0 (xs.length : Nat)).filterMap (fun _ => (none : Option D)) = [] by simp]
      simp only [wpSs, wpS, wpE, wpEs, wpEo, wpC, wpT, wpSrc, Rd_val, Rd_new, frz_lst, frz_ins, List.getElem?_cons_zero, List.getElem?_cons_succ, List.set_cons_zero, List.set_cons_succ, kw_nil, bindT, wipeD, List.map_cons, List.map_nil, List.zip_cons_cons, List.zip_nil_right, List.zip_nil_left, List.foldl_cons, List.foldl_nil, o_add, o_adds, o_addt, o_addl, o_sub, o_mul, o_div, o_mod, o_pow, c_lt, c_le, c_gt, c_ge, c_eq, c_ne, c_in, c_ni, c_is, c_isn, e_int, e_str, e_bool, t_bl, t_int, t_lst, t_tup, t_non, f_lent, f_lenl, f_lens, f_lbt, f_lbl, f_lbs, f_inti, f_tupl, f_tupt, f_lstt, f_lstl, f_stri, y_non, y_bl, y_int, y_str, y_tup, y_lst, y_ins, rg_1, rg_2, sq_tup, sq_lst, zp_tup, en_lst, en_tup, aL_lst, sl_t, sl_s, Ty.below, List.any_cons, List.any_nil, subT, Bool.or_false, Bool.not_true, Bool.not_false, true_and, and_true, reduceCtorEq, decide_false, decide_true, Bool.false_eq_true, if_false, if_true, Bool.not_eq_true', Bool.not_not]
      exact hq
  | lst xs =>
    simp only [sokD, Bool.and_eq_true, decide_eq_true_eq] at hs
    simp only [wpSs, wpS, wpE, wpEs, wpEo, wpC, wpT, wpSrc, Rd_val, Rd_new, frz_lst, frz_ins, List.getElem?_cons_zero, List.getElem?_cons_succ, List.set_cons_zero, List.set_cons_succ, kw_nil, bindT, wipeD, List.map_cons, List.map_nil, List.zip_cons_cons, List.zip_nil_right, List.zip_nil_left, List.foldl_cons, List.foldl_nil, o_add, o_adds, o_addt, o_addl, o_sub, o_mul, o_div, o_mod, o_pow, c_lt, c_le, c_gt, c_ge, c_eq, c_ne, c_in, c_ni, c_is, c_isn, e_int, e_str, e_bool, t_bl, t_int, t_lst, t_tup, t_non, f_lent, f_lenl, f_lens, f_lbt, f_lbl, f_lbs, f_inti, f_tupl, f_tupt, f_lstt, f_lstl, f_stri, y_non, y_bl, y_int, y_str, y_tup, y_lst, y_ins, rg_1, rg_2, sq_tup, sq_lst, zp_tup, en_lst, en_tup, aL_lst, sl_t, sl_s, Ty.below, List.any_cons, List.any_nil, subT, Bool.or_false, Bool.not_true, Bool.not_false, true_and, and_true, reduceCtorEq, decide_false, decide_true, Bool.false_eq_true, if_false, if_true, Bool.not_eq_true', Bool.not_not]
    intro _
    refine ⟨⟨by omega, by omega⟩, ?_⟩
    refine comp_fm (fun _ => none) trivial ?_ ?_
    · intro i x acc K hx hK
      obtain ⟨hi, rfl⟩ := rg_get hx
      have hi' : i < xs.length := by omega
      have g : xs[i]? = some xs[i] := List.getElem?_eq_getElem hi'
      simp only [wpSs, wpS, wpE, wpEs, wpEo, wpC, wpT, wpSrc, Rd_val, Rd_new, frz_lst, frz_ins, List.getElem?_cons_zero, List.getElem?_cons_succ, List.set_cons_zero, List.set_cons_succ, kw_nil, bindT, wipeD, List.map_cons, List.map_nil, List.zip_cons_cons, List.zip_nil_right, List.zip_nil_left, List.foldl_cons, List.foldl_nil, o_add, o_adds, o_addt, o_addl, o_sub, o_mul, o_div, o_mod, o_pow, c_lt, c_le, c_gt, c_ge, c_eq, c_ne, c_in, c_ni, c_is, c_isn, e_int, e_str, e_bool, t_bl, t_int, t_lst, t_tup, t_non, f_lent, f_lenl, f_lens, f_lbt, f_lbl, f_lbs, f_inti, f_tupl, f_tupt, f_lstt, f_lstl, f_stri, y_non, y_bl, y_int, y_str, y_tup, y_lst, y_ins, rg_1, rg_2, sq_tup, sq_lst, zp_tup, en_lst, en_tup, aL_lst, sl_t, sl_s, Ty.below, List.any_cons, List.any_nil, subT, Bool.or_false, Bool.not_true, Bool.not_false, true_and, and_true, reduceCtorEq, decide_false, decide_true, Bool.false_eq_true, if_false, if_true, Bool.not_eq_true', Bool.not_not]
      have e : (0 + (i : Int)) = ((i : Nat) : Int) := by omega
      rw [e, ix_l (at_nat g), ix_l (at_nat g), h9]
      refine ⟨xs[i], rfl, sokL_get hs.2 g, ?_, ?_⟩
      · have := depL_get g
        simp only [depD] at hd
        omega
      · simp only [wpSs, wpS, wpE, wpEs, wpEo, wpC, wpT, wpSrc, Rd_val, Rd_new, frz_lst, frz_ins, List.getElem?_cons_zero, List.getElem?_cons_succ, List.set_cons_zero, List.set_cons_succ, kw_nil, bindT, wipeD, List.map_cons, List.map_nil, List.zip_cons_cons, List.zip_nil_right, List.zip_nil_left, List.foldl_cons, List.foldl_nil, o_add, o_adds, o_addt, o_addl, o_sub, o_mul, o_div, o_mod, o_pow, c_lt, c_le, c_gt, c_ge, c_eq, c_ne, c_in, c_ni, c_is, c_isn, e_int, e_str, e_bool, t_bl, t_int, t_lst, t_tup, t_non, f_lent, f_lenl, f_lens, f_lbt, f_lbl, f_lbs, f_inti, f_tupl, f_tupt, f_lstt, f_lstl, f_stri, y_non, y_bl, y_int, y_str, y_tup, y_lst, y_ins, rg_1, rg_2, sq_tup, sq_lst, zp_tup, en_lst, en_tup, aL_lst, sl_t, sl_s, Ty.below, List.any_cons, List.any_nil, subT, Bool.or_false, Bool.not_true, Bool.not_false, true_and, and_true, reduceCtorEq, decide_false, decide_true, Bool.false_eq_true, if_false, if_true, Bool.not_eq_true', Bool.not_not]
        simpa using hK
    · rw [show (rangeD 0 (xs.length : Nat)).filterMap (fun _ => (none : Option D)) = [] by simp]
      simp only [wpSs, wpS, wpE, wpEs, wpEo, wpC, wpT, wpSrc, Rd_val, Rd_new, frz_lst, frz_ins, List.getElem?_cons_zero, List.getElem?_cons_succ, List.set_cons_zero, List.set_cons_succ, kw_nil, bindT, wipeD, List.map_cons, List.map_nil, List.zip_cons_cons, List.zip_nil_right, List.zip_nil_left, List.foldl_cons, List.foldl_nil, o_add, o_adds, o_addt, o_addl, o_sub, o_mul, o_div, o_mod, o_pow, c_lt, c_le, c_gt, c_ge, c_eq, c_ne, c_in, c_ni, c_is, c_isn, e_int, e_str, e_bool, t_bl, t_int, t_lst, t_tup, t_non, f_lent, f_lenl, f_lens, f_lbt, f_lbl, f_lbs, f_inti, f_tupl, f_tupt, f_lstt, f_lstl, f_stri, y_non, y_bl, y_int, y_str, y_tup, y_lst, y_ins, rg_1, rg_2, sq_tup, sq_lst, zp_tup, en_lst, en_tup, aL_lst, sl_t, sl_s, Ty.below, List.any_cons, List.any_nil, subT, Bool.or_false, Bool.not_true, Bool.not_false, true_and, and_true, reduceCtorEq, decide_false, decide_true, Bool.false_eq_true, if_false, if_true, Bool.not_eq_true', Bool.not_not]
      exact hq
  | _ => simp [sokD] at hs
/-! words, features -/
theorem f_all {xs : List D} {bs : List Bool} {M : Mem} {Q : R → Prop} (h : asBs xs = some bs) : fnS .all [.lst xs] M Q = Q (.val (.bl (bs.all id))) := by simp only [fnS, one, asL, h]
theorem asBs_true {α : Type} : ∀ l : List α, asBs (l.map fun _ => D.bl true) = some (l.map fun _ => true)
  | [] => rfl
  | _ :: l => by simp only [List.map_cons, asBs, asBs_true l]
theorem all_true {α : Type} (l : List α) : (l.map fun _ => true).all id = true := by simp
theorem in_letters : ∀ k : Fin 26, (!(Builtin.Str.occurrences "abcdefghijklmnopqrstuvwxyz" ⟨#[97 + k.val]⟩ 0 (Str.ofString "abcdefghijklmnopqrstuvwxyz").length 1).isEmpty) = true := by decide +kernel
def sp_is_word : DSp := fun ds M Q _ => ∃ x, ds = [.str x] ∧ wordOk x = true ∧ Q (.val (.bl true)) M
theorem ok_is_word {T : Tb} (g0 : T.gl 0 = .int 12) (g1 : T.gl 1 = .str "abcdefghijklmnopqrstuvwxyz") : SpOk T N_is_word ir_is_word 1 sp_is_word := by
  rintro ds M Q E hl ⟨x, rfl, hw, hq⟩
  show wpSs T ir_is_word _ [some (.str x), none] M
  unfold ir_is_word
  simp only [wordOk, Bool.and_eq_true, decide_eq_true_eq] at hw
  obtain ⟨⟨w1, w2⟩, w3⟩ := hw
  have hs : sizeLine = 16777216 := sizeLine_eq
  simp only [wpSs, wpS, wpE, wpEs, wpEo, wpC, wpT, wpSrc, Rd_val, Rd_new, frz_lst, frz_ins, List.getElem?_cons_zero, List.getElem?_cons_succ, List.set_cons_zero, List.set_cons_succ, kw_nil, bindT, wipeD, List.map_cons, List.map_nil, List.zip_cons_cons, List.zip_nil_right, List.zip_nil_left, List.foldl_cons, List.foldl_nil, o_add, o_adds, o_addt, o_addl, o_sub, o_mul, o_div, o_mod, o_pow, c_lt, c_le, c_gt, c_ge, c_eq, c_ne, c_in, c_ni, c_is, c_isn, e_int, e_str, e_bool, t_bl, t_int, t_lst, t_tup, t_non, f_lent, f_lenl, f_lens, f_lbt, f_lbl, f_lbs, f_inti, f_tupl, f_tupt, f_lstt, f_lstl, f_stri, y_non, y_bl, y_int, y_str, y_tup, y_lst, y_ins, rg_1, rg_2, sq_tup, sq_lst, zp_tup, en_lst, en_tup, aL_lst, sl_t, sl_s, Ty.below, List.any_cons, List.any_nil, subT, Bool.or_false, Bool.not_true, Bool.not_false, true_and, and_true, reduceCtorEq, decide_false, decide_true, Bool.false_eq_true, if_false, if_true, Bool.not_eq_true', Bool.not_not]
  simp only [g0, g1]
  refine ⟨by omega, ?_⟩
  simp only [wpSs, wpS, wpE, wpEs, wpEo, wpC, wpT, wpSrc, Rd_val, Rd_new, frz_lst, frz_ins, List.getElem?_cons_zero, List.getElem?_cons_succ, List.set_cons_zero, List.set_cons_succ, kw_nil, bindT, wipeD, List.map_cons, List.map_nil, List.zip_cons_cons, List.zip_nil_right, List.zip_nil_left, List.foldl_cons, List.foldl_nil, o_add, o_adds, o_addt, o_addl, o_sub, o_mul, o_div, o_mod, o_pow, c_lt, c_le, c_gt, c_ge, c_eq, c_ne, c_in, c_ni, c_is, c_isn, e_int, e_str, e_bool, t_bl, t_int, t_lst, t_tup, t_non, f_lent, f_lenl, f_lens, f_lbt, f_lbl, f_lbs, f_inti, f_tupl, f_tupt, f_lstt, f_lstl, f_stri, y_non, y_bl, y_int, y_str, y_tup, y_lst, y_ins, rg_1, rg_2, sq_tup, sq_lst, zp_tup, en_lst, en_tup, aL_lst, sl_t, sl_s, Ty.below, List.any_cons, List.any_nil, subT, Bool.or_false, Bool.not_true, Bool.not_false, true_and, and_true, reduceCtorEq, decide_false, decide_true, Bool.false_eq_true, if_false, if_true, Bool.not_eq_true', Bool.not_not]
  rw [if_pos (by simp; omega)]
  rw [if_neg (by simp; omega)]
  show _ ∧ compS _ _ _ _ _ _ _ _
  refine ⟨by show x.cps.size ≤ _; have : x.length = x.cps.size := rfl; omega, ?_⟩
  refine comp_fm (fun _ => some (.bl true)) trivial ?_ ?_
  · intro i y acc K hy hK
    obtain ⟨c, hc, rfl⟩ : ∃ c, x.cps.toList[i]? = some c ∧ y = .str ⟨#[c]⟩ := by
      rw [List.getElem?_map] at hy
      cases e : x.cps.toList[i]? with
      | none => rw [e] at hy; cases hy
      | some c => rw [e] at hy; cases hy; exact ⟨c, rfl, rfl⟩
    have hm := List.all_eq_true.mp w3 c (List.mem_of_getElem? hc)
    simp only [Bool.and_eq_true, decide_eq_true_eq] at hm
    have hin := in_letters ⟨c - 97, by omega⟩
    have e97 : 97 + (c - 97) = c := by omega
    simp only [e97] at hin
    simp only [wpSs, wpS, wpE, wpEs, wpEo, wpC, wpT, wpSrc, Rd_val, Rd_new, frz_lst, frz_ins, List.getElem?_cons_zero, List.getElem?_cons_succ, List.set_cons_zero, List.set_cons_succ, kw_nil, bindT, wipeD, List.map_cons, List.map_nil, List.zip_cons_cons, List.zip_nil_right, List.zip_nil_left, List.foldl_cons, List.foldl_nil, o_add, o_adds, o_addt, o_addl, o_sub, o_mul, o_div, o_mod, o_pow, c_lt, c_le, c_gt, c_ge, c_eq, c_ne, c_in, c_ni, c_is, c_isn, e_int, e_str, e_bool, t_bl, t_int, t_lst, t_tup, t_non, f_lent, f_lenl, f_lens, f_lbt, f_lbl, f_lbs, f_inti, f_tupl, f_tupt, f_lstt, f_lstl, f_stri, y_non, y_bl, y_int, y_str, y_tup, y_lst, y_ins, rg_1, rg_2, sq_tup, sq_lst, zp_tup, en_lst, en_tup, aL_lst, sl_t, sl_s, Ty.below, List.any_cons, List.any_nil, subT, Bool.or_false, Bool.not_true, Bool.not_false, true_and, and_true, reduceCtorEq, decide_false, decide_true, Bool.false_eq_true, if_false, if_true, Bool.not_eq_true', Bool.not_not]
    show K _ _
    rw [show (!(Builtin.Str.occurrences "abcdefghijklmnopqrstuvwxyz" ⟨#[c]⟩ 0 (Str.ofString "abcdefghijklmnopqrstuvwxyz").length 1).isEmpty) = true from hin]
    simpa using hK
  · rw [show ∀ l : List D, l.filterMap (fun _ => some (D.bl true)) = l.map (fun _ => D.bl true) from fun l => by simp]
    rw [Rd_new, frz_lst, f_all (asBs_true _), all_true]
    exact hq
def featOk (f : Str × Int × Int) : Prop := wordOk f.1 = true ∧ 2 ≤ f.2.1 ∧ f.2.1 ≤ 8 ∧ 0 ≤ f.2.2 ∧ f.2.2 ≤ 9
def sp_is_feature : DSp := fun ds M Q _ => ∃ f, ds = [featD f] ∧ featOk f ∧ Q (.val (.bl true)) M
theorem ok_is_feature {T : Tb} (g2 : T.gl 2 = .int 9) (g3 : T.gl 3 = .int 8) (h1 : T.fn 1 = sp_is_from_to) (h3 : T.fn 3 = sp_is_word) (h4 : T.fn 4 = sp_is_sequence) : SpOk T N_is_feature ir_is_feature 1 sp_is_feature := by
  rintro ds M Q E hl ⟨⟨w, n, z⟩, rfl, ⟨hw, n1, n2, z1, z2⟩, hq⟩
  show wpSs T ir_is_feature _ [some (featD (w, n, z))] M
  unfold ir_is_feature
  simp only [wpSs, wpS, wpE, wpEs, wpEo, wpC, wpT, wpSrc, Rd_val, Rd_new, frz_lst, frz_ins, List.getElem?_cons_zero, List.getElem?_cons_succ, List.set_cons_zero, List.set_cons_succ, kw_nil, bindT, wipeD, List.map_cons, List.map_nil, List.zip_cons_cons, List.zip_nil_right, List.zip_nil_left, List.foldl_cons, List.foldl_nil, o_add, o_adds, o_addt, o_addl, o_sub, o_mul, o_div, o_mod, o_pow, c_lt, c_le, c_gt, c_ge, c_eq, c_ne, c_in, c_ni, c_is, c_isn, e_int, e_str, e_bool, t_bl, t_int, t_lst, t_tup, t_non, f_lent, f_lenl, f_lens, f_lbt, f_lbl, f_lbs, f_inti, f_tupl, f_tupt, f_lstt, f_lstl, f_stri, y_non, y_bl, y_int, y_str, y_tup, y_lst, y_ins, rg_1, rg_2, sq_tup, sq_lst, zp_tup, en_lst, en_tup, aL_lst, sl_t, sl_s, Ty.below, List.any_cons, List.any_nil, subT, Bool.or_false, Bool.not_true, Bool.not_false, true_and, and_true, reduceCtorEq, decide_false, decide_true, Bool.false_eq_true, if_false, if_true, Bool.not_eq_true', Bool.not_not]
  simp only at hw n1 n2 z1 z2
  rw [h4]
  refine ⟨_, rfl, rfl, ?_⟩
  simp only [featD, isSeq]
  simp only [wpSs, wpS, wpE, wpEs, wpEo, wpC, wpT, wpSrc, Rd_val, Rd_new, frz_lst, frz_ins, List.getElem?_cons_zero, List.getElem?_cons_succ, List.set_cons_zero, List.set_cons_succ, kw_nil, bindT, wipeD, List.map_cons, List.map_nil, List.zip_cons_cons, List.zip_nil_right, List.zip_nil_left, List.foldl_cons, List.foldl_nil, o_add, o_adds, o_addt, o_addl, o_sub, o_mul, o_div, o_mod, o_pow, c_lt, c_le, c_gt, c_ge, c_eq, c_ne, c_in, c_ni, c_is, c_isn, e_int, e_str, e_bool, t_bl, t_int, t_lst, t_tup, t_non, f_lent, f_lenl, f_lens, f_lbt, f_lbl, f_lbs, f_inti, f_tupl, f_tupt, f_lstt, f_lstl, f_stri, y_non, y_bl, y_int, y_str, y_tup, y_lst, y_ins, rg_1, rg_2, sq_tup, sq_lst, zp_tup, en_lst, en_tup, aL_lst, sl_t, sl_s, Ty.below, List.any_cons, List.any_nil, subT, Bool.or_false, Bool.not_true, Bool.not_false, true_and, and_true, reduceCtorEq, decide_false, decide_true, Bool.false_eq_true, if_false, if_true, Bool.not_eq_true', Bool.not_not]
  rw [if_neg (by simp), ix_t (d := .str w) rfl, h3]
  refine ⟨w, rfl, hw, ?_⟩
  simp only [wpSs, wpS, wpE, wpEs, wpEo, wpC, wpT, wpSrc, Rd_val, Rd_new, frz_lst, frz_ins, List.getElem?_cons_zero, List.getElem?_cons_succ, List.set_cons_zero, List.set_cons_succ, kw_nil, bindT, wipeD, List.map_cons, List.map_nil, List.zip_cons_cons, List.zip_nil_right, List.zip_nil_left, List.foldl_cons, List.foldl_nil, o_add, o_adds, o_addt, o_addl, o_sub, o_mul, o_div, o_mod, o_pow, c_lt, c_le, c_gt, c_ge, c_eq, c_ne, c_in, c_ni, c_is, c_isn, e_int, e_str, e_bool, t_bl, t_int, t_lst, t_tup, t_non, f_lent, f_lenl, f_lens, f_lbt, f_lbl, f_lbs, f_inti, f_tupl, f_tupt, f_lstt, f_lstl, f_stri, y_non, y_bl, y_int, y_str, y_tup, y_lst, y_ins, rg_1, rg_2, sq_tup, sq_lst, zp_tup, en_lst, en_tup, aL_lst, sl_t, sl_s, Ty.below, List.any_cons, List.any_nil, subT, Bool.or_false, Bool.not_true, Bool.not_false, true_and, and_true, reduceCtorEq, decide_false, decide_true, Bool.false_eq_true, if_false, if_true, Bool.not_eq_true', Bool.not_not]
  rw [ix_t (d := .int n) rfl, h1, g3]
  refine ⟨_, _, _, rfl, rfl, ?_⟩
  have e : inFT (.int n) 2 8 = true := by simp [inFT]; omega
  rw [e]
  simp only [wpSs, wpS, wpE, wpEs, wpEo, wpC, wpT, wpSrc, Rd_val, Rd_new, frz_lst, frz_ins, List.getElem?_cons_zero, List.getElem?_cons_succ, List.set_cons_zero, List.set_cons_succ, kw_nil, bindT, wipeD, List.map_cons, List.map_nil, List.zip_cons_cons, List.zip_nil_right, List.zip_nil_left, List.foldl_cons, List.foldl_nil, o_add, o_adds, o_addt, o_addl, o_sub, o_mul, o_div, o_mod, o_pow, c_lt, c_le, c_gt, c_ge, c_eq, c_ne, c_in, c_ni, c_is, c_isn, e_int, e_str, e_bool, t_bl, t_int, t_lst, t_tup, t_non, f_lent, f_lenl, f_lens, f_lbt, f_lbl, f_lbs, f_inti, f_tupl, f_tupt, f_lstt, f_lstl, f_stri, y_non, y_bl, y_int, y_str, y_tup, y_lst, y_ins, rg_1, rg_2, sq_tup, sq_lst, zp_tup, en_lst, en_tup, aL_lst, sl_t, sl_s, Ty.below, List.any_cons, List.any_nil, subT, Bool.or_false, Bool.not_true, Bool.not_false, true_and, and_true, reduceCtorEq, decide_false, decide_true, Bool.false_eq_true, if_false, if_true, Bool.not_eq_true', Bool.not_not]
  rw [ix_t (d := .int z) rfl, g2]
  refine ⟨_, _, _, rfl, rfl, ?_⟩
  have e : inFT (.int z) 0 9 = true := by simp [inFT]; omega
  rw [e]
  exact hq
def sp_Kinds_all_marks : DSp := fun ds M Q _ => ∃ fs, ds = [kindsD fs] ∧ (∀ f ∈ fs, 0 ≤ f.2.1 ∧ f.2.1 ≤ 8) ∧ Q (.val (.tup (fs.map fun f => .tup (rangeD 0 f.2.1)))) M
theorem ok_Kinds_all_marks {T : Tb} (ha : T.at_ 0 = (["features"] : List Str)) (hn : T.nc 0 = true) : SpOk T N_Kinds_all_marks ir_Kinds_all_marks 1 sp_Kinds_all_marks := by
  rintro ds M Q E hl ⟨fs, rfl, hf, hq⟩
  show wpSs T ir_Kinds_all_marks _ [some (kindsD fs), none] M
  unfold ir_Kinds_all_marks
  have fld : ∀ (Q : D → Prop) M, fldS T.nc T.at_ (kindsD fs) "features" M Q = Q (.tup (fs.map featD)) := fun Q M => by
    simp [fldS, kindsD, asI, ha, hn, optS]
  simp only [wpSs, wpS, wpE, wpEs, wpEo, wpC, wpT, wpSrc, Rd_val, Rd_new, frz_lst, frz_ins, List.getElem?_cons_zero, List.getElem?_cons_succ, List.set_cons_zero, List.set_cons_succ, kw_nil, bindT, wipeD, List.map_cons, List.map_nil, List.zip_cons_cons, List.zip_nil_right, List.zip_nil_left, List.foldl_cons, List.foldl_nil, o_add, o_adds, o_addt, o_addl, o_sub, o_mul, o_div, o_mod, o_pow, c_lt, c_le, c_gt, c_ge, c_eq, c_ne, c_in, c_ni, c_is, c_isn, e_int, e_str, e_bool, t_bl, t_int, t_lst, t_tup, t_non, f_lent, f_lenl, f_lens, f_lbt, f_lbl, f_lbs, f_inti, f_tupl, f_tupt, f_lstt, f_lstl, f_stri, y_non, y_bl, y_int, y_str, y_tup, y_lst, y_ins, rg_1, rg_2, sq_tup, sq_lst, zp_tup, en_lst, en_tup, aL_lst, sl_t, sl_s, Ty.below, List.any_cons, List.any_nil, subT, Bool.or_false, Bool.not_true, Bool.not_false, true_and, and_true, reduceCtorEq, decide_false, decide_true, Bool.false_eq_true, if_false, if_true, Bool.not_eq_true', Bool.not_not]
  rw [fld]
  simp only [wpSs, wpS, wpE, wpEs, wpEo, wpC, wpT, wpSrc, Rd_val, Rd_new, frz_lst, frz_ins, List.getElem?_cons_zero, List.getElem?_cons_succ, List.set_cons_zero, List.set_cons_succ, kw_nil, bindT, wipeD, List.map_cons, List.map_nil, List.zip_cons_cons, List.zip_nil_right, List.zip_nil_left, List.foldl_cons, List.foldl_nil, o_add, o_adds, o_addt, o_addl, o_sub, o_mul, o_div, o_mod, o_pow, c_lt, c_le, c_gt, c_ge, c_eq, c_ne, c_in, c_ni, c_is, c_isn, e_int, e_str, e_bool, t_bl, t_int, t_lst, t_tup, t_non, f_lent, f_lenl, f_lens, f_lbt, f_lbl, f_lbs, f_inti, f_tupl, f_tupt, f_lstt, f_lstl, f_stri, y_non, y_bl, y_int, y_str, y_tup, y_lst, y_ins, rg_1, rg_2, sq_tup, sq_lst, zp_tup, en_lst, en_tup, aL_lst, sl_t, sl_s, Ty.below, List.any_cons, List.any_nil, subT, Bool.or_false, Bool.not_true, Bool.not_false, true_and, and_true, reduceCtorEq, decide_false, decide_true, Bool.false_eq_true, if_false, if_true, Bool.not_eq_true', Bool.not_not]
  refine comp_fm (fun d => match d with | .tup [_, .int n, _] => some (.tup (rangeD 0 n)) | _ => none) trivial ?_ ?_
  · intro i x acc K hx hK
    obtain ⟨f, hfm, rfl⟩ : ∃ f, fs[i]? = some f ∧ x = featD f := by
      rw [List.getElem?_map] at hx
      cases e : fs[i]? with
      | none => rw [e] at hx; cases hx
      | some c => rw [e] at hx; cases hx; exact ⟨c, rfl, rfl⟩
    obtain ⟨b1, b2⟩ := hf f (List.mem_of_getElem? hfm)
    simp only [wpSs, wpS, wpE, wpEs, wpEo, wpC, wpT, wpSrc, Rd_val, Rd_new, frz_lst, frz_ins, List.getElem?_cons_zero, List.getElem?_cons_succ, List.set_cons_zero, List.set_cons_succ, kw_nil, bindT, wipeD, List.map_cons, List.map_nil, List.zip_cons_cons, List.zip_nil_right, List.zip_nil_left, List.foldl_cons, List.foldl_nil, o_add, o_adds, o_addt, o_addl, o_sub, o_mul, o_div, o_mod, o_pow, c_lt, c_le, c_gt, c_ge, c_eq, c_ne, c_in, c_ni, c_is, c_isn, e_int, e_str, e_bool, t_bl, t_int, t_lst, t_tup, t_non, f_lent, f_lenl, f_lens, f_lbt, f_lbl, f_lbs, f_inti, f_tupl, f_tupt, f_lstt, f_lstl, f_stri, y_non, y_bl, y_int, y_str, y_tup, y_lst, y_ins, rg_1, rg_2, sq_tup, sq_lst, zp_tup, en_lst, en_tup, aL_lst, sl_t, sl_s, Ty.below, List.any_cons, List.any_nil, subT, Bool.or_false, Bool.not_true, Bool.not_false, true_and, and_true, reduceCtorEq, decide_false, decide_true, Bool.false_eq_true, if_false, if_true, Bool.not_eq_true', Bool.not_not]
    simp only [featD] at hK ⊢
    rw [ix_t (d := .int f.2.1) rfl]
    simp only [wpSs, wpS, wpE, wpEs, wpEo, wpC, wpT, wpSrc, Rd_val, Rd_new, frz_lst, frz_ins, List.getElem?_cons_zero, List.getElem?_cons_succ, List.set_cons_zero, List.set_cons_succ, kw_nil, bindT, wipeD, List.map_cons, List.map_nil, List.zip_cons_cons, List.zip_nil_right, List.zip_nil_left, List.foldl_cons, List.foldl_nil, o_add, o_adds, o_addt, o_addl, o_sub, o_mul, o_div, o_mod, o_pow, c_lt, c_le, c_gt, c_ge, c_eq, c_ne, c_in, c_ni, c_is, c_isn, e_int, e_str, e_bool, t_bl, t_int, t_lst, t_tup, t_non, f_lent, f_lenl, f_lens, f_lbt, f_lbl, f_lbs, f_inti, f_tupl, f_tupt, f_lstt, f_lstl, f_stri, y_non, y_bl, y_int, y_str, y_tup, y_lst, y_ins, rg_1, rg_2, sq_tup, sq_lst, zp_tup, en_lst, en_tup, aL_lst, sl_t, sl_s, Ty.below, List.any_cons, List.any_nil, subT, Bool.or_false, Bool.not_true, Bool.not_false, true_and, and_true, reduceCtorEq, decide_false, decide_true, Bool.false_eq_true, if_false, if_true, Bool.not_eq_true', Bool.not_not]
    refine ⟨⟨by omega, by omega⟩, ?_⟩
    simpa using hK
  · have e : (fs.map featD).filterMap (fun d => match d with | .tup [_, .int n, _] => some (D.tup (rangeD 0 n)) | _ => none) = fs.map fun f => .tup (rangeD 0 f.2.1) := by
      rw [List.filterMap_map]
      rw [← List.filterMap_eq_map]
      rfl
    rw [e]
    simp only [wpSs, wpS, wpE, wpEs, wpEo, wpC, wpT, wpSrc, Rd_val, Rd_new, frz_lst, frz_ins, List.getElem?_cons_zero, List.getElem?_cons_succ, List.set_cons_zero, List.set_cons_succ, kw_nil, bindT, wipeD, List.map_cons, List.map_nil, List.zip_cons_cons, List.zip_nil_right, List.zip_nil_left, List.foldl_cons, List.foldl_nil, o_add, o_adds, o_addt, o_addl, o_sub, o_mul, o_div, o_mod, o_pow, c_lt, c_le, c_gt, c_ge, c_eq, c_ne, c_in, c_ni, c_is, c_isn, e_int, e_str, e_bool, t_bl, t_int, t_lst, t_tup, t_non, f_lent, f_lenl, f_lens, f_lbt, f_lbl, f_lbs, f_inti, f_tupl, f_tupt, f_lstt, f_lstl, f_stri, y_non, y_bl, y_int, y_str, y_tup, y_lst, y_ins, rg_1, rg_2, sq_tup, sq_lst, zp_tup, en_lst, en_tup, aL_lst, sl_t, sl_s, Ty.below, List.any_cons, List.any_nil, subT, Bool.or_false, Bool.not_true, Bool.not_false, true_and, and_true, reduceCtorEq, decide_false, decide_true, Bool.false_eq_true, if_false, if_true, Bool.not_eq_true', Bool.not_not]
    exact hq
end PL
namespace PL
open PySem PySem.Spec PyProof.Rows L2
theorem pure_feat (f : Str × Int × Int) : pureD (featD f) = true := rfl
theorem pure_feats (fs : List (Str × Int × Int)) : pureL (fs.map featD) = true := pureL_of fun x hx => by
  obtain ⟨f, _, rfl⟩ := List.mem_map.mp hx
  rfl
theorem in_strs {w : Str} {ws : List Str} {M : Mem} {B : Bool → Prop} : inS (.str w) (.lst (ws.map D.str)) M B = B (ws.contains w) := by
  have h1 : (ws.map D.str).all flatD = true := by simp [flatD]
  have h2 : ((ws.map D.str).any fun z => eqF z (.str w)) = ws.contains w := by
    induction ws with
    | nil => rfl
    | cons a ws ih =>
      have h1' : (ws.map D.str).all flatD = true := by simp [flatD]
      rw [List.map_cons, List.any_cons, ih h1', List.contains_cons]
      show ((a == w) || _) = ((w == a) || _)
      rw [show (a == w) = (w == a) by rw [Bool.eq_iff_iff, beq_iff_eq, beq_iff_eq]; exact eq_comm]
  simp only [inS, asS, asL, h1, h2, flatD, and_self, true_and]
def sp_Kinds_init : DSp := fun ds M Q _ => ∃ (p : Addr) (fs : List (Str × Int × Int)), ds = [.ref p, .lst (fs.map featD)] ∧ M p = some (.ins 0 [] []) ∧ 1 ≤ fs.length ∧ fs.length ≤ 6 ∧ (∀ f ∈ fs, featOk f) ∧ (fs.map (·.1)).Nodup ∧
  ∀ M', M' p = some (.ins 0 ["features"] [.tup (fs.map featD)]) → (∀ a o, a ≠ p → M a = some o → M' a = some o) → Q (.val .non) M'
theorem ok_Kinds_init {T : Tb} (g4 : T.gl 4 = .int 6) (h4 : T.fn 4 = sp_is_sequence) (h5 : T.fn 5 = sp_is_feature) (ha : T.at_ 0 = (["features"] : List Str)) (hn : T.nc 0 = true) : SpOk T N_Kinds_init ir_Kinds_init 2 sp_Kinds_init := by
  rintro ds M Q E hl ⟨p, fs, rfl, hM, l1, l2, hf, hnd, hq⟩
  show wpSs T ir_Kinds_init _ [some (.ref p), some (.lst (fs.map featD)), none, none, none, none] M
  unfold ir_Kinds_init
  have hs : sizeLine = 16777216 := sizeLine_eq
  simp only [wpSs, wpS, wpE, wpEs, wpEo, wpC, wpT, wpSrc, Rd_val, Rd_new, frz_lst, frz_ins, List.getElem?_cons_zero, List.getElem?_cons_succ, List.set_cons_zero, List.set_cons_succ, kw_nil, bindT, wipeD, List.map_cons, List.map_nil, List.zip_cons_cons, List.zip_nil_right, List.zip_nil_left, List.foldl_cons, List.foldl_nil, o_add, o_adds, o_addt, o_addl, o_sub, o_mul, o_div, o_mod, o_pow, c_lt, c_le, c_gt, c_ge, c_eq, c_ne, c_in, c_ni, c_is, c_isn, e_int, e_str, e_bool, t_bl, t_int, t_lst, t_tup, t_non, f_lent, f_lenl, f_lens, f_lbt, f_lbl, f_lbs, f_inti, f_tupl, f_tupt, f_lstt, f_lstl, f_stri, y_non, y_bl, y_int, y_str, y_tup, y_lst, y_ins, rg_1, rg_2, sq_tup, sq_lst, zp_tup, en_lst, en_tup, aL_lst, sl_t, sl_s, Ty.below, List.any_cons, List.any_nil, subT, Bool.or_false, Bool.not_true, Bool.not_false, true_and, and_true, reduceCtorEq, decide_false, decide_true, Bool.false_eq_true, if_false, if_true, Bool.not_eq_true', Bool.not_not]
  rw [h4]
  refine ⟨_, rfl, by simpa [pureD] using pure_feats fs, ?_⟩
  simp only [isSeq]
  simp only [wpSs, wpS, wpE, wpEs, wpEo, wpC, wpT, wpSrc, Rd_val, Rd_new, frz_lst, frz_ins, List.getElem?_cons_zero, List.getElem?_cons_succ, List.set_cons_zero, List.set_cons_succ, kw_nil, bindT, wipeD, List.map_cons, List.map_nil, List.zip_cons_cons, List.zip_nil_right, List.zip_nil_left, List.foldl_cons, List.foldl_nil, o_add, o_adds, o_addt, o_addl, o_sub, o_mul, o_div, o_mod, o_pow, c_lt, c_le, c_gt, c_ge, c_eq, c_ne, c_in, c_ni, c_is, c_isn, e_int, e_str, e_bool, t_bl, t_int, t_lst, t_tup, t_non, f_lent, f_lenl, f_lens, f_lbt, f_lbl, f_lbs, f_inti, f_tupl, f_tupt, f_lstt, f_lstl, f_stri, y_non, y_bl, y_int, y_str, y_tup, y_lst, y_ins, rg_1, rg_2, sq_tup, sq_lst, zp_tup, en_lst, en_tup, aL_lst, sl_t, sl_s, Ty.below, List.any_cons, List.any_nil, subT, Bool.or_false, Bool.not_true, Bool.not_false, true_and, and_true, reduceCtorEq, decide_false, decide_true, Bool.false_eq_true, if_false, if_true, Bool.not_eq_true', Bool.not_not]
  rw [g4]
  simp only [wpSs, wpS, wpE, wpEs, wpEo, wpC, wpT, wpSrc, Rd_val, Rd_new, frz_lst, frz_ins, List.getElem?_cons_zero, List.getElem?_cons_succ, List.set_cons_zero, List.set_cons_succ, kw_nil, bindT, wipeD, List.map_cons, List.map_nil, List.zip_cons_cons, List.zip_nil_right, List.zip_nil_left, List.foldl_cons, List.foldl_nil, o_add, o_adds, o_addt, o_addl, o_sub, o_mul, o_div, o_mod, o_pow, c_lt, c_le, c_gt, c_ge, c_eq, c_ne, c_in, c_ni, c_is, c_isn, e_int, e_str, e_bool, t_bl, t_int, t_lst, t_tup, t_non, f_lent, f_lenl, f_lens, f_lbt, f_lbl, f_lbs, f_inti, f_tupl, f_tupt, f_lstt, f_lstl, f_stri, y_non, y_bl, y_int, y_str, y_tup, y_lst, y_ins, rg_1, rg_2, sq_tup, sq_lst, zp_tup, en_lst, en_tup, aL_lst, sl_t, sl_s, Ty.below, List.any_cons, List.any_nil, subT, Bool.or_false, Bool.not_true, Bool.not_false, true_and, and_true, reduceCtorEq, decide_false, decide_true, Bool.false_eq_true, if_false, if_true, Bool.not_eq_true', Bool.not_not]
  rw [if_pos (by simp; omega), if_neg (by simp; omega)]
  intro q hqn
  have npq : p ≠ q := fun e => by rw [e, hqn] at hM; cases hM
  refine ⟨fun i ρ M' => M' = mput M q (.lst ((fs.take i).map featD)) ∧ ∃ y z, ρ = [some (.ref p), some (.lst (fs.map featD)), some (.ref q), y, z, none], ⟨rfl, none, none, rfl⟩, fun _ _ _ _ _ => rfl, ?_, ?_⟩
  · rintro i x ρ M' hx ⟨rfl, y, z, rfl⟩
    obtain ⟨u, hu, rfl⟩ := enum_get hx
    obtain ⟨f, hfi, rfl⟩ := map_get hu
    have hfm := List.mem_of_getElem? hfi
    have hi : i < fs.length := (List.getElem?_eq_some_iff.mp hfi).1
    simp only [wpSs, wpS, wpE, wpEs, wpEo, wpC, wpT, wpSrc, Rd_val, Rd_new, frz_lst, frz_ins, List.getElem?_cons_zero, List.getElem?_cons_succ, List.set_cons_zero, List.set_cons_succ, kw_nil, bindT, wipeD, List.map_cons, List.map_nil, List.zip_cons_cons, List.zip_nil_right, List.zip_nil_left, List.foldl_cons, List.foldl_nil, o_add, o_adds, o_addt, o_addl, o_sub, o_mul, o_div, o_mod, o_pow, c_lt, c_le, c_gt, c_ge, c_eq, c_ne, c_in, c_ni, c_is, c_isn, e_int, e_str, e_bool, t_bl, t_int, t_lst, t_tup, t_non, f_lent, f_lenl, f_lens, f_lbt, f_lbl, f_lbs, f_inti, f_tupl, f_tupt, f_lstt, f_lstl, f_stri, y_non, y_bl, y_int, y_str, y_tup, y_lst, y_ins, rg_1, rg_2, sq_tup, sq_lst, zp_tup, en_lst, en_tup, aL_lst, sl_t, sl_s, Ty.below, List.any_cons, List.any_nil, subT, Bool.or_false, Bool.not_true, Bool.not_false, true_and, and_true, reduceCtorEq, decide_false, decide_true, Bool.false_eq_true, if_false, if_true, Bool.not_eq_true', Bool.not_not]
    rw [h5]
    refine ⟨rfl, f, rfl, hf f hfm, ?_⟩
    have hM2 : mput M q (.lst ((fs.take i).map featD)) q = some (.lst ((fs.take i).map featD)) := mput_same
    simp only [featD]
    simp only [wpSs, wpS, wpE, wpEs, wpEo, wpC, wpT, wpSrc, Rd_val, Rd_new, frz_lst, frz_ins, List.getElem?_cons_zero, List.getElem?_cons_succ, List.set_cons_zero, List.set_cons_succ, kw_nil, bindT, wipeD, List.map_cons, List.map_nil, List.zip_cons_cons, List.zip_nil_right, List.zip_nil_left, List.foldl_cons, List.foldl_nil, o_add, o_adds, o_addt, o_addl, o_sub, o_mul, o_div, o_mod, o_pow, c_lt, c_le, c_gt, c_ge, c_eq, c_ne, c_in, c_ni, c_is, c_isn, e_int, e_str, e_bool, t_bl, t_int, t_lst, t_tup, t_non, f_lent, f_lenl, f_lens, f_lbt, f_lbl, f_lbs, f_inti, f_tupl, f_tupt, f_lstt, f_lstl, f_stri, y_non, y_bl, y_int, y_str, y_tup, y_lst, y_ins, rg_1, rg_2, sq_tup, sq_lst, zp_tup, en_lst, en_tup, aL_lst, sl_t, sl_s, Ty.below, List.any_cons, List.any_nil, subT, Bool.or_false, Bool.not_true, Bool.not_false, true_and, and_true, reduceCtorEq, decide_false, decide_true, Bool.false_eq_true, if_false, if_true, Bool.not_eq_true', Bool.not_not]
    rw [ix_t (d := .str f.1) rfl, sq_c hM2]
    refine comp_fm (fun d => match d with | .tup [.str w, _, _] => some (.str w) | _ => none) hM2 ?_ ?_
    · intro j x acc K hx hK
      obtain ⟨g, hg, rfl⟩ := map_get hx
      simp only [wpSs, wpS, wpE, wpEs, wpEo, wpC, wpT, wpSrc, Rd_val, Rd_new, frz_lst, frz_ins, List.getElem?_cons_zero, List.getElem?_cons_succ, List.set_cons_zero, List.set_cons_succ, kw_nil, bindT, wipeD, List.map_cons, List.map_nil, List.zip_cons_cons, List.zip_nil_right, List.zip_nil_left, List.foldl_cons, List.foldl_nil, o_add, o_adds, o_addt, o_addl, o_sub, o_mul, o_div, o_mod, o_pow, c_lt, c_le, c_gt, c_ge, c_eq, c_ne, c_in, c_ni, c_is, c_isn, e_int, e_str, e_bool, t_bl, t_int, t_lst, t_tup, t_non, f_lent, f_lenl, f_lens, f_lbt, f_lbl, f_lbs, f_inti, f_tupl, f_tupt, f_lstt, f_lstl, f_stri, y_non, y_bl, y_int, y_str, y_tup, y_lst, y_ins, rg_1, rg_2, sq_tup, sq_lst, zp_tup, en_lst, en_tup, aL_lst, sl_t, sl_s, Ty.below, List.any_cons, List.any_nil, subT, Bool.or_false, Bool.not_true, Bool.not_false, true_and, and_true, reduceCtorEq, decide_false, decide_true, Bool.false_eq_true, if_false, if_true, Bool.not_eq_true', Bool.not_not]
      simp only [featD] at hK ⊢
      rw [ix_t (d := .str g.1) rfl]
      simpa using hK
    · have e : ((fs.take i).map featD).filterMap (fun d => match d with | .tup [.str w, _, _] => some (D.str w) | _ => none) = ((fs.take i).map (·.1)).map D.str := by
        rw [List.filterMap_map, List.map_map, ← List.filterMap_eq_map]
        rfl
      rw [e]
      simp only [wpSs, wpS, wpE, wpEs, wpEo, wpC, wpT, wpSrc, Rd_val, Rd_new, frz_lst, frz_ins, List.getElem?_cons_zero, List.getElem?_cons_succ, List.set_cons_zero, List.set_cons_succ, kw_nil, bindT, wipeD, List.map_cons, List.map_nil, List.zip_cons_cons, List.zip_nil_right, List.zip_nil_left, List.foldl_cons, List.foldl_nil, o_add, o_adds, o_addt, o_addl, o_sub, o_mul, o_div, o_mod, o_pow, c_lt, c_le, c_gt, c_ge, c_eq, c_ne, c_in, c_ni, c_is, c_isn, e_int, e_str, e_bool, t_bl, t_int, t_lst, t_tup, t_non, f_lent, f_lenl, f_lens, f_lbt, f_lbl, f_lbs, f_inti, f_tupl, f_tupt, f_lstt, f_lstl, f_stri, y_non, y_bl, y_int, y_str, y_tup, y_lst, y_ins, rg_1, rg_2, sq_tup, sq_lst, zp_tup, en_lst, en_tup, aL_lst, sl_t, sl_s, Ty.below, List.any_cons, List.any_nil, subT, Bool.or_false, Bool.not_true, Bool.not_false, true_and, and_true, reduceCtorEq, decide_false, decide_true, Bool.false_eq_true, if_false, if_true, Bool.not_eq_true', Bool.not_not]
      rw [in_strs]
      have nc : ((fs.take i).map (·.1)).contains f.1 = false := by
        rw [Bool.eq_false_iff]
        intro hc
        have hc' : f.1 ∈ (fs.take i).map (·.1) := by simpa using hc
        have h1 : fs.map (·.1) = (fs.take i).map (·.1) ++ f.1 :: (fs.drop (i + 1)).map (·.1) := by
          conv => lhs; rw [← List.take_append_drop i fs, drop_get hfi]
          rw [List.map_append, List.map_cons]
        rw [h1] at hnd
        have := (List.nodup_append.mp hnd).2.2
        exact this _ hc' _ List.mem_cons_self rfl
      rw [nc]
      simp only [wpSs, wpS, wpE, wpEs, wpEo, wpC, wpT, wpSrc, Rd_val, Rd_new, frz_lst, frz_ins, List.getElem?_cons_zero, List.getElem?_cons_succ, List.set_cons_zero, List.set_cons_succ, kw_nil, bindT, wipeD, List.map_cons, List.map_nil, List.zip_cons_cons, List.zip_nil_right, List.zip_nil_left, List.foldl_cons, List.foldl_nil, o_add, o_adds, o_addt, o_addl, o_sub, o_mul, o_div, o_mod, o_pow, c_lt, c_le, c_gt, c_ge, c_eq, c_ne, c_in, c_ni, c_is, c_isn, e_int, e_str, e_bool, t_bl, t_int, t_lst, t_tup, t_non, f_lent, f_lenl, f_lens, f_lbt, f_lbl, f_lbs, f_inti, f_tupl, f_tupt, f_lstt, f_lstl, f_stri, y_non, y_bl, y_int, y_str, y_tup, y_lst, y_ins, rg_1, rg_2, sq_tup, sq_lst, zp_tup, en_lst, en_tup, aL_lst, sl_t, sl_s, Ty.below, List.any_cons, List.any_nil, subT, Bool.or_false, Bool.not_true, Bool.not_false, true_and, and_true, reduceCtorEq, decide_false, decide_true, Bool.false_eq_true, if_false, if_true, Bool.not_eq_true', Bool.not_not]
      refine ⟨ty_c hM2 (by simp), ?_⟩
      rw [ix_t (d := .str f.1) rfl, ix_t (d := .int f.2.1) rfl, ix_t (d := .int f.2.2) rfl, app_c hM2, mput_mput]
      refine ⟨by simp; omega, ?_⟩
      refine ⟨?_, _, _, rfl⟩
      rw [take_get hfi, List.map_append]
      rfl
  · rintro ρ M' ⟨rfl, y, z, rfl⟩
    have hlen : (enumD (fs.map featD)).length = fs.length := by rw [enumD_len, List.length_map]
    rw [hlen, List.take_length]
    simp only [wpSs, wpS, wpE, wpEs, wpEo, wpC, wpT, wpSrc, Rd_val, Rd_new, frz_lst, frz_ins, List.getElem?_cons_zero, List.getElem?_cons_succ, List.set_cons_zero, List.set_cons_succ, kw_nil, bindT, wipeD, List.map_cons, List.map_nil, List.zip_cons_cons, List.zip_nil_right, List.zip_nil_left, List.foldl_cons, List.foldl_nil, o_add, o_adds, o_addt, o_addl, o_sub, o_mul, o_div, o_mod, o_pow, c_lt, c_le, c_gt, c_ge, c_eq, c_ne, c_in, c_ni, c_is, c_isn, e_int, e_str, e_bool, t_bl, t_int, t_lst, t_tup, t_non, f_lent, f_lenl, f_lens, f_lbt, f_lbl, f_lbs, f_inti, f_tupl, f_tupt, f_lstt, f_lstl, f_stri, y_non, y_bl, y_int, y_str, y_tup, y_lst, y_ins, rg_1, rg_2, sq_tup, sq_lst, zp_tup, en_lst, en_tup, aL_lst, sl_t, sl_s, Ty.below, List.any_cons, List.any_nil, subT, Bool.or_false, Bool.not_true, Bool.not_false, true_and, and_true, reduceCtorEq, decide_false, decide_true, Bool.false_eq_true, if_false, if_true, Bool.not_eq_true', Bool.not_not]
    rw [tup_c mput_same]
    simp only [wpSs, wpS, wpE, wpEs, wpEo, wpC, wpT, wpSrc, Rd_val, Rd_new, frz_lst, frz_ins, List.getElem?_cons_zero, List.getElem?_cons_succ, List.set_cons_zero, List.set_cons_succ, kw_nil, bindT, wipeD, List.map_cons, List.map_nil, List.zip_cons_cons, List.zip_nil_right, List.zip_nil_left, List.foldl_cons, List.foldl_nil, o_add, o_adds, o_addt, o_addl, o_sub, o_mul, o_div, o_mod, o_pow, c_lt, c_le, c_gt, c_ge, c_eq, c_ne, c_in, c_ni, c_is, c_isn, e_int, e_str, e_bool, t_bl, t_int, t_lst, t_tup, t_non, f_lent, f_lenl, f_lens, f_lbt, f_lbl, f_lbs, f_inti, f_tupl, f_tupt, f_lstt, f_lstl, f_stri, y_non, y_bl, y_int, y_str, y_tup, y_lst, y_ins, rg_1, rg_2, sq_tup, sq_lst, zp_tup, en_lst, en_tup, aL_lst, sl_t, sl_s, Ty.below, List.any_cons, List.any_nil, subT, Bool.or_false, Bool.not_true, Bool.not_false, true_and, and_true, reduceCtorEq, decide_false, decide_true, Bool.false_eq_true, if_false, if_true, Bool.not_eq_true', Bool.not_not]
    rw [mput_ne npq, hM]
    simp only [ha, hn]
    refine ⟨by decide, by decide, ?_⟩
    refine hq _ mput_same fun a o hne e => ?_
    rw [mput_ne hne, mput_ne fun z => by rw [z, hqn] at e; cases e]
    exact e
end PL
namespace PL
open PySem PySem.Spec PyProof.Rows L2
/-- a right row: values below m, rising, at least one -/
def RowOk (row : List Int) (m : Int) : Prop := ∃ P : Nat → Bool, row = ((List.range m.toNat).filter P).map (fun k : Nat => (k : Int)) ∧ ∃ k, k < m.toNat ∧ P k = true
theorem rises_filter (P : Nat → Bool) (b : Int) : ∀ (n a : Nat) (c : Int), c ≤ a → (a + n : Nat) ≤ b → risesD ((((List.range' a n).filter P).map (fun k : Nat => (k : Int))).map D.int) c b = true
  | 0, _, _, _, _ => rfl
  | n + 1, a, c, h1, h2 => by
    rw [List.range'_succ, List.filter_cons]
    cases P a with
    | false =>
      rw [if_neg Bool.false_ne_true]
      exact rises_filter P b n (a + 1) c (by omega) (by omega)
    | true =>
      rw [if_pos rfl, List.map_cons, List.map_cons]
      unfold risesD
      have e : inFT (.int (a : Nat)) c (b - 1) = true := by simp [inFT]; omega
      rw [e, Bool.true_and]
      exact rises_filter P b n (a + 1) _ (by omega) (by omega)
theorem row_rises {row : List Int} {m : Int} (h0 : 0 ≤ m) (h : RowOk row m) : risesD (row.map D.int) 0 m = true := by
  obtain ⟨P, rfl, _⟩ := h
  rw [List.range_eq_range']
  exact rises_filter P m m.toNat 0 0 (by omega) (by omega)
theorem row_ne {row : List Int} {m : Int} (h : RowOk row m) : row ≠ [] := by
  obtain ⟨P, rfl, k, hk, hp⟩ := h
  intro e
  have : (k : Int) ∈ ((List.range m.toNat).filter P).map (fun k : Nat => (k : Int)) := List.mem_map.mpr ⟨k, List.mem_filter.mpr ⟨List.mem_range.mpr hk, hp⟩, rfl⟩
  rw [e] at this
  cases this
theorem bits : ∀ m : Fin 9, ∀ c : Fin 256, 1 ≤ c.val → c.val < 2 ^ m.val → ∃ k : Fin 8, k.val < m.val ∧ (c.val / 2 ^ k.val) % 2 = 1 := by decide +kernel
def sp_law_values : DSp := fun ds M Q _ => ∃ p m, ds = [.ref p, .int m, .int 5] ∧ 2 ≤ m ∧ m ≤ 8 ∧ PoolAt M p ∧ ∀ row M', RowOk row m → Step p M M' → Q (.val (.tup (row.map .int))) M'
abbrev powsD : List D := [.int 1, .int 2, .int 4, .int 8, .int 16, .int 32, .int 64, .int 128, .int 256]
theorem pow_at {k : Int} (h0 : 0 ≤ k) (h1 : k ≤ 8) : atI powsD k = some (.int (2 ^ k.toNat)) := by
  have : k = 0 ∨ k = 1 ∨ k = 2 ∨ k = 3 ∨ k = 4 ∨ k = 5 ∨ k = 6 ∨ k = 7 ∨ k = 8 := by omega
  rcases this with rfl | rfl | rfl | rfl | rfl | rfl | rfl | rfl | rfl <;> rfl
/-- tuple([k for k in range(m) if ..]) -/
def rowF (P : Nat → Bool) : D → Option D
  | .int k => match P k.toNat with | true => some (.int k) | false => none
  | _ => none
theorem rowF_t {P : Nat → Bool} {i : Nat} (h : P i = true) : (rowF P (.int (i : Nat))).toList = [.int (i : Nat)] := by simp [rowF, h]
theorem rowF_f {P : Nat → Bool} {i : Nat} (h : P i = false) : (rowF P (.int (i : Nat))).toList = [] := by simp [rowF, h]
theorem fm_rows (m : Int) (P : Nat → Bool) : (rangeD 0 m).filterMap (rowF P) = (((List.range m.toNat).filter P).map (fun k : Nat => (k : Int))).map D.int := by
  unfold rangeD
  rw [Int.sub_zero]
  generalize m.toNat = n
  have : ∀ l : List Nat, (l.map fun i : Nat => D.int (0 + (i : Nat))).filterMap (rowF P) = ((l.filter P).map (fun k : Nat => (k : Int))).map D.int := by
    intro l
    induction l with
    | nil => rfl
    | cons a l ih =>
      rw [List.map_cons, List.filterMap_cons, List.filter_cons]
      have e : (0 + (a : Int)) = ((a : Nat) : Int) := by omega
      rw [e]
      cases h : P a with
      | false => simp [rowF, h]; simpa using ih
      | true => simp [rowF, h]; simpa using ih
  exact this _
theorem filter_one : ∀ (n a j : Nat), a ≤ j → j < a + n → (List.range' a n).filter (fun k => k == j) = [j]
  | 0, a, j, h1, h2 => by omega
  | n + 1, a, j, h1, h2 => by
    rw [List.range'_succ, List.filter_cons]
    by_cases e : a = j
    · subst e
      rw [if_pos (by simp)]
      congr 1
      rw [List.filter_eq_nil_iff]
      intro x hx
      have := (List.mem_range'_1.mp hx).1
      simp; omega
    · rw [if_neg (by simpa using e)]
      exact filter_one n (a + 1) j (by omega) (by omega)
theorem in_ints {w : Int} {ws : List Int} {M : Mem} {B : Bool → Prop} : inS (.int w) (.lst (ws.map D.int)) M B = B (ws.contains w) := by
  have h1 : (ws.map D.int).all flatD = true := by simp [flatD]
  have h2 : ((ws.map D.int).any fun z => eqF z (.int w)) = ws.contains w := by
    induction ws with
    | nil => rfl
    | cons a ws ih =>
      have h1' : (ws.map D.int).all flatD = true := by simp [flatD]
      rw [List.map_cons, List.any_cons, ih h1', List.contains_cons]
      show ((a == w) || _) = ((w == a) || _)
      rw [show (a == w) = (w == a) by rw [Bool.eq_iff_iff, beq_iff_eq, beq_iff_eq]; exact eq_comm]
  simp only [inS, asS, asL, h1, h2, flatD, and_self, true_and]
theorem opt_if {b : Bool} {d : D} : (match b with | true => some d | false => none) = if b = true then some d else none := by cases b <;> rfl
theorem pow_small {k : Nat} (h : k ≤ 8) : ((2 : Int) ^ k) > 0 ∧ ((2 : Int) ^ k).natAbs.log2 < 9000 := by
  have : k = 0 ∨ k = 1 ∨ k = 2 ∨ k = 3 ∨ k = 4 ∨ k = 5 ∨ k = 6 ∨ k = 7 ∨ k = 8 := by omega
  rcases this with rfl | rfl | rfl | rfl | rfl | rfl | rfl | rfl | rfl <;> exact ⟨by decide, by decide⟩
def vtail : Ss := (.cons (.ret (.fn .tuple (.cons (.comp (.var 6) (.name 6) (.range (.cons (.var 1) .nil)) (.some (.val (.cmp .Eq (.op .Mod (.fn .int (.cons (.op .FloorDiv (.var 4) (.ix (.var 3) (.var 6))) .nil)) (.con (.int 2))) (.con (.int 1))))) [("k", 6)]) .nil)))
  .nil)
theorem ok_vtail {T : Tb} {Q : QR} {D0 : DEnds} {p : Addr} {m way code : Int} {M M' : Mem} (hrt : D0.rt = Q) (m2 : 2 ≤ m) (m8 : m ≤ 8) (c1 : 1 ≤ code) (c2 : code < 2 ^ m.toNat) (s1 : Step p M M') (hq : ∀ row M', RowOk row m → Step p M M' → Q (.val (.tup (row.map .int))) M') :
    wpSs T vtail D0 [some (.ref p), some (.int m), some (.int way), some (.tup powsD), some (.int code), none, none] M' := by
  unfold vtail
  (rw [wpSs_cons]; simp only [wpSs_nil, wpS, wpE, wpEs, wpEo, wpC, wpT, wpSrc, Rd_val, Rd_new, frz_lst, frz_ins, List.getElem?_cons_zero, List.getElem?_cons_succ, List.set_cons_zero, List.set_cons_succ, kw_nil, bindT, wipeD, List.map_cons, List.map_nil, List.zip_cons_cons, List.zip_nil_right, List.zip_nil_left, List.foldl_cons, List.foldl_nil, o_add, o_adds, o_addt, o_addl, o_sub, o_mul, o_div, o_mod, o_pow, c_lt, c_le, c_gt, c_ge, c_eq, c_ne, c_in, c_ni, c_is, c_isn, e_int, e_str, e_bool, t_bl, t_int, t_lst, t_tup, t_non, f_lent, f_lenl, f_lens, f_lbt, f_lbl, f_lbs, f_inti, f_tupl, f_tupt, f_lstt, f_lstl, f_stri, y_non, y_bl, y_int, y_str, y_tup, y_lst, y_ins, rg_1, rg_2, sq_tup, sq_lst, zp_tup, en_lst, en_tup, aL_lst, sl_t, sl_s, Ty.below, List.any_cons, List.any_nil, subT, Bool.or_false, Bool.not_true, Bool.not_false, true_and, and_true, reduceCtorEq, decide_false, decide_true, Bool.false_eq_true, if_false, if_true, Bool.not_eq_true', Bool.not_not])
  refine ⟨⟨by omega, by omega⟩, ?_⟩
  refine comp_fm (rowF fun n : Nat => decide (code / 2 ^ n % 2 = 1)) trivial ?_ ?_
  · intro i x acc K hx hK
    obtain ⟨hi, rfl⟩ := rg_get hx
    have e : (0 + (i : Int)) = ((i : Nat) : Int) := by omega
    rw [e] at hK ⊢
    obtain ⟨q1, q2⟩ := pow_small (k := i) (by omega)
    simp only [wpSs_nil, wpS, wpE, wpEs, wpEo, wpC, wpT, wpSrc, Rd_val, Rd_new, frz_lst, frz_ins, List.getElem?_cons_zero, List.getElem?_cons_succ, List.set_cons_zero, List.set_cons_succ, kw_nil, bindT, wipeD, List.map_cons, List.map_nil, List.zip_cons_cons, List.zip_nil_right, List.zip_nil_left, List.foldl_cons, List.foldl_nil, o_add, o_adds, o_addt, o_addl, o_sub, o_mul, o_div, o_mod, o_pow, c_lt, c_le, c_gt, c_ge, c_eq, c_ne, c_in, c_ni, c_is, c_isn, e_int, e_str, e_bool, t_bl, t_int, t_lst, t_tup, t_non, f_lent, f_lenl, f_lens, f_lbt, f_lbl, f_lbs, f_inti, f_tupl, f_tupt, f_lstt, f_lstl, f_stri, y_non, y_bl, y_int, y_str, y_tup, y_lst, y_ins, rg_1, rg_2, sq_tup, sq_lst, zp_tup, en_lst, en_tup, aL_lst, sl_t, sl_s, Ty.below, List.any_cons, List.any_nil, subT, Bool.or_false, Bool.not_true, Bool.not_false, true_and, and_true, reduceCtorEq, decide_false, decide_true, Bool.false_eq_true, if_false, if_true, Bool.not_eq_true', Bool.not_not]
    rw [ix_t (pow_at (k := (i : Int)) (by omega) (by omega))]
    simp only [Int.toNat_natCast]
    simp only [wpSs_nil, wpS, wpE, wpEs, wpEo, wpC, wpT, wpSrc, Rd_val, Rd_new, frz_lst, frz_ins, List.getElem?_cons_zero, List.getElem?_cons_succ, List.set_cons_zero, List.set_cons_succ, kw_nil, bindT, wipeD, List.map_cons, List.map_nil, List.zip_cons_cons, List.zip_nil_right, List.zip_nil_left, List.foldl_cons, List.foldl_nil, o_add, o_adds, o_addt, o_addl, o_sub, o_mul, o_div, o_mod, o_pow, c_lt, c_le, c_gt, c_ge, c_eq, c_ne, c_in, c_ni, c_is, c_isn, e_int, e_str, e_bool, t_bl, t_int, t_lst, t_tup, t_non, f_lent, f_lenl, f_lens, f_lbt, f_lbl, f_lbs, f_inti, f_tupl, f_tupt, f_lstt, f_lstl, f_stri, y_non, y_bl, y_int, y_str, y_tup, y_lst, y_ins, rg_1, rg_2, sq_tup, sq_lst, zp_tup, en_lst, en_tup, aL_lst, sl_t, sl_s, Ty.below, List.any_cons, List.any_nil, subT, Bool.or_false, Bool.not_true, Bool.not_false, true_and, and_true, reduceCtorEq, decide_false, decide_true, Bool.false_eq_true, if_false, if_true, Bool.not_eq_true', Bool.not_not]
    refine ⟨⟨q1, q2⟩, by decide, ?_⟩
    cases h : decide (code / 2 ^ i % 2 = 1) with
    | true => rw [rowF_t h] at hK; rw [if_pos rfl]; exact hK
    | false => rw [rowF_f h, List.append_nil] at hK; rw [if_neg Bool.false_ne_true]; exact hK
  · rw [fm_rows]
    simp only [wpSs_nil, wpS, wpE, wpEs, wpEo, wpC, wpT, wpSrc, Rd_val, Rd_new, frz_lst, frz_ins, List.getElem?_cons_zero, List.getElem?_cons_succ, List.set_cons_zero, List.set_cons_succ, kw_nil, bindT, wipeD, List.map_cons, List.map_nil, List.zip_cons_cons, List.zip_nil_right, List.zip_nil_left, List.foldl_cons, List.foldl_nil, o_add, o_adds, o_addt, o_addl, o_sub, o_mul, o_div, o_mod, o_pow, c_lt, c_le, c_gt, c_ge, c_eq, c_ne, c_in, c_ni, c_is, c_isn, e_int, e_str, e_bool, t_bl, t_int, t_lst, t_tup, t_non, f_lent, f_lenl, f_lens, f_lbt, f_lbl, f_lbs, f_inti, f_tupl, f_tupt, f_lstt, f_lstl, f_stri, y_non, y_bl, y_int, y_str, y_tup, y_lst, y_ins, rg_1, rg_2, sq_tup, sq_lst, zp_tup, en_lst, en_tup, aL_lst, sl_t, sl_s, Ty.below, List.any_cons, List.any_nil, subT, Bool.or_false, Bool.not_true, Bool.not_false, true_and, and_true, reduceCtorEq, decide_false, decide_true, Bool.false_eq_true, if_false, if_true, Bool.not_eq_true', Bool.not_not]
    rw [hrt]
    refine hq _ _ ⟨_, rfl, ?_⟩ s1
    have p8 : (2 : Int) ^ m.toNat ≤ 256 := by
      have : m.toNat ≤ 8 := by omega
      have := Nat.pow_le_pow_right (n := 2) (by decide) this
      exact_mod_cast this
    obtain ⟨k, hk, hb⟩ := bits ⟨m.toNat, by omega⟩ ⟨code.toNat, by omega⟩ (by simp; omega) (by
      simp only
      have : ((code.toNat : Nat) : Int) < ((2 ^ m.toNat : Nat) : Int) := by
        rw [Int.toNat_of_nonneg (by omega)]
        exact_mod_cast c2
      exact_mod_cast this)
    refine ⟨k.val, hk, ?_⟩
    simp only [decide_eq_true_eq]
    have : ((code.toNat / 2 ^ k.val % 2 : Nat) : Int) = 1 := by rw [hb]; rfl
    rw [← this]
    have hc : code = ((code.toNat : Nat) : Int) := (Int.toNat_of_nonneg (by omega)).symm
    conv => lhs; rw [hc]
    simp
theorem ok_law_values {T : Tb} (h8 : T.fn 8 = sp_draw) : SpOk T N_law_values ir_law_values 3 sp_law_values := by
  rintro ds M Q E hl ⟨p, m, rfl, m2, m8, hp, hq⟩
  show wpSs T ir_law_values _ [some (.ref p), some (.int m), some (.int 5), none, none, none, none] M
  unfold ir_law_values
  (rw [wpSs_cons]; simp only [wpSs_nil, wpS, wpE, wpEs, wpEo, wpC, wpT, wpSrc, Rd_val, Rd_new, frz_lst, frz_ins, List.getElem?_cons_zero, List.getElem?_cons_succ, List.set_cons_zero, List.set_cons_succ, kw_nil, bindT, wipeD, List.map_cons, List.map_nil, List.zip_cons_cons, List.zip_nil_right, List.zip_nil_left, List.foldl_cons, List.foldl_nil, o_add, o_adds, o_addt, o_addl, o_sub, o_mul, o_div, o_mod, o_pow, c_lt, c_le, c_gt, c_ge, c_eq, c_ne, c_in, c_ni, c_is, c_isn, e_int, e_str, e_bool, t_bl, t_int, t_lst, t_tup, t_non, f_lent, f_lenl, f_lens, f_lbt, f_lbl, f_lbs, f_inti, f_tupl, f_tupt, f_lstt, f_lstl, f_stri, y_non, y_bl, y_int, y_str, y_tup, y_lst, y_ins, rg_1, rg_2, sq_tup, sq_lst, zp_tup, en_lst, en_tup, aL_lst, sl_t, sl_s, Ty.below, List.any_cons, List.any_nil, subT, Bool.or_false, Bool.not_true, Bool.not_false, true_and, and_true, reduceCtorEq, decide_false, decide_true, Bool.false_eq_true, if_false, if_true, Bool.not_eq_true', Bool.not_not])
  (rw [wpSs_cons]; simp only [wpSs_nil, wpS, wpE, wpEs, wpEo, wpC, wpT, wpSrc, Rd_val, Rd_new, frz_lst, frz_ins, List.getElem?_cons_zero, List.getElem?_cons_succ, List.set_cons_zero, List.set_cons_succ, kw_nil, bindT, wipeD, List.map_cons, List.map_nil, List.zip_cons_cons, List.zip_nil_right, List.zip_nil_left, List.foldl_cons, List.foldl_nil, o_add, o_adds, o_addt, o_addl, o_sub, o_mul, o_div, o_mod, o_pow, c_lt, c_le, c_gt, c_ge, c_eq, c_ne, c_in, c_ni, c_is, c_isn, e_int, e_str, e_bool, t_bl, t_int, t_lst, t_tup, t_non, f_lent, f_lenl, f_lens, f_lbt, f_lbl, f_lbs, f_inti, f_tupl, f_tupt, f_lstt, f_lstl, f_stri, y_non, y_bl, y_int, y_str, y_tup, y_lst, y_ins, rg_1, rg_2, sq_tup, sq_lst, zp_tup, en_lst, en_tup, aL_lst, sl_t, sl_s, Ty.below, List.any_cons, List.any_nil, subT, Bool.or_false, Bool.not_true, Bool.not_false, true_and, and_true, reduceCtorEq, decide_false, decide_true, Bool.false_eq_true, if_false, if_true, Bool.not_eq_true', Bool.not_not])
  rw [if_pos (by decide)]
  (rw [wpSs_cons]; simp only [wpSs_nil, wpS, wpE, wpEs, wpEo, wpC, wpT, wpSrc, Rd_val, Rd_new, frz_lst, frz_ins, List.getElem?_cons_zero, List.getElem?_cons_succ, List.set_cons_zero, List.set_cons_succ, kw_nil, bindT, wipeD, List.map_cons, List.map_nil, List.zip_cons_cons, List.zip_nil_right, List.zip_nil_left, List.foldl_cons, List.foldl_nil, o_add, o_adds, o_addt, o_addl, o_sub, o_mul, o_div, o_mod, o_pow, c_lt, c_le, c_gt, c_ge, c_eq, c_ne, c_in, c_ni, c_is, c_isn, e_int, e_str, e_bool, t_bl, t_int, t_lst, t_tup, t_non, f_lent, f_lenl, f_lens, f_lbt, f_lbl, f_lbs, f_inti, f_tupl, f_tupt, f_lstt, f_lstl, f_stri, y_non, y_bl, y_int, y_str, y_tup, y_lst, y_ins, rg_1, rg_2, sq_tup, sq_lst, zp_tup, en_lst, en_tup, aL_lst, sl_t, sl_s, Ty.below, List.any_cons, List.any_nil, subT, Bool.or_false, Bool.not_true, Bool.not_false, true_and, and_true, reduceCtorEq, decide_false, decide_true, Bool.false_eq_true, if_false, if_true, Bool.not_eq_true', Bool.not_not])
  rw [h8]
  refine ⟨p, 5, rfl, by decide, by decide, hp, fun way M1 w0 w1 s1 => ?_⟩
  simp only [wpSs_nil, wpS, wpE, wpEs, wpEo, wpC, wpT, wpSrc, Rd_val, Rd_new, frz_lst, frz_ins, List.getElem?_cons_zero, List.getElem?_cons_succ, List.set_cons_zero, List.set_cons_succ, kw_nil, bindT, wipeD, List.map_cons, List.map_nil, List.zip_cons_cons, List.zip_nil_right, List.zip_nil_left, List.foldl_cons, List.foldl_nil, o_add, o_adds, o_addt, o_addl, o_sub, o_mul, o_div, o_mod, o_pow, c_lt, c_le, c_gt, c_ge, c_eq, c_ne, c_in, c_ni, c_is, c_isn, e_int, e_str, e_bool, t_bl, t_int, t_lst, t_tup, t_non, f_lent, f_lenl, f_lens, f_lbt, f_lbl, f_lbs, f_inti, f_tupl, f_tupt, f_lstt, f_lstl, f_stri, y_non, y_bl, y_int, y_str, y_tup, y_lst, y_ins, rg_1, rg_2, sq_tup, sq_lst, zp_tup, en_lst, en_tup, aL_lst, sl_t, sl_s, Ty.below, List.any_cons, List.any_nil, subT, Bool.or_false, Bool.not_true, Bool.not_false, true_and, and_true, reduceCtorEq, decide_false, decide_true, Bool.false_eq_true, if_false, if_true, Bool.not_eq_true', Bool.not_not]
  (rw [wpSs_cons]; simp only [wpSs_nil, wpS, wpE, wpEs, wpEo, wpC, wpT, wpSrc, Rd_val, Rd_new, frz_lst, frz_ins, List.getElem?_cons_zero, List.getElem?_cons_succ, List.set_cons_zero, List.set_cons_succ, kw_nil, bindT, wipeD, List.map_cons, List.map_nil, List.zip_cons_cons, List.zip_nil_right, List.zip_nil_left, List.foldl_cons, List.foldl_nil, o_add, o_adds, o_addt, o_addl, o_sub, o_mul, o_div, o_mod, o_pow, c_lt, c_le, c_gt, c_ge, c_eq, c_ne, c_in, c_ni, c_is, c_isn, e_int, e_str, e_bool, t_bl, t_int, t_lst, t_tup, t_non, f_lent, f_lenl, f_lens, f_lbt, f_lbl, f_lbs, f_inti, f_tupl, f_tupt, f_lstt, f_lstl, f_stri, y_non, y_bl, y_int, y_str, y_tup, y_lst, y_ins, rg_1, rg_2, sq_tup, sq_lst, zp_tup, en_lst, en_tup, aL_lst, sl_t, sl_s, Ty.below, List.any_cons, List.any_nil, subT, Bool.or_false, Bool.not_true, Bool.not_false, true_and, and_true, reduceCtorEq, decide_false, decide_true, Bool.false_eq_true, if_false, if_true, Bool.not_eq_true', Bool.not_not])
  by_cases e0 : way = 0
  · rw [if_pos (by simpa using e0)]
    (rw [wpSs_cons]; simp only [wpSs_nil, wpS, wpE, wpEs, wpEo, wpC, wpT, wpSrc, Rd_val, Rd_new, frz_lst, frz_ins, List.getElem?_cons_zero, List.getElem?_cons_succ, List.set_cons_zero, List.set_cons_succ, kw_nil, bindT, wipeD, List.map_cons, List.map_nil, List.zip_cons_cons, List.zip_nil_right, List.zip_nil_left, List.foldl_cons, List.foldl_nil, o_add, o_adds, o_addt, o_addl, o_sub, o_mul, o_div, o_mod, o_pow, c_lt, c_le, c_gt, c_ge, c_eq, c_ne, c_in, c_ni, c_is, c_isn, e_int, e_str, e_bool, t_bl, t_int, t_lst, t_tup, t_non, f_lent, f_lenl, f_lens, f_lbt, f_lbl, f_lbs, f_inti, f_tupl, f_tupt, f_lstt, f_lstl, f_stri, y_non, y_bl, y_int, y_str, y_tup, y_lst, y_ins, rg_1, rg_2, sq_tup, sq_lst, zp_tup, en_lst, en_tup, aL_lst, sl_t, sl_s, Ty.below, List.any_cons, List.any_nil, subT, Bool.or_false, Bool.not_true, Bool.not_false, true_and, and_true, reduceCtorEq, decide_false, decide_true, Bool.false_eq_true, if_false, if_true, Bool.not_eq_true', Bool.not_not])
    rw [h8]
    refine ⟨p, m, rfl, by omega, by omega, s1.pool, fun r M2 r0 r1 s2 => ?_⟩
    simp only [wpSs_nil, wpS, wpE, wpEs, wpEo, wpC, wpT, wpSrc, Rd_val, Rd_new, frz_lst, frz_ins, List.getElem?_cons_zero, List.getElem?_cons_succ, List.set_cons_zero, List.set_cons_succ, kw_nil, bindT, wipeD, List.map_cons, List.map_nil, List.zip_cons_cons, List.zip_nil_right, List.zip_nil_left, List.foldl_cons, List.foldl_nil, o_add, o_adds, o_addt, o_addl, o_sub, o_mul, o_div, o_mod, o_pow, c_lt, c_le, c_gt, c_ge, c_eq, c_ne, c_in, c_ni, c_is, c_isn, e_int, e_str, e_bool, t_bl, t_int, t_lst, t_tup, t_non, f_lent, f_lenl, f_lens, f_lbt, f_lbl, f_lbs, f_inti, f_tupl, f_tupt, f_lstt, f_lstl, f_stri, y_non, y_bl, y_int, y_str, y_tup, y_lst, y_ins, rg_1, rg_2, sq_tup, sq_lst, zp_tup, en_lst, en_tup, aL_lst, sl_t, sl_s, Ty.below, List.any_cons, List.any_nil, subT, Bool.or_false, Bool.not_true, Bool.not_false, true_and, and_true, reduceCtorEq, decide_false, decide_true, Bool.false_eq_true, if_false, if_true, Bool.not_eq_true', Bool.not_not]
    refine hq [r] M2 ⟨fun k => k == r.toNat, ?_, r.toNat, by omega, by simp⟩ (s1.trans s2)
    rw [List.range_eq_range', filter_one _ _ _ (by omega) (by omega)]
    simp; omega
  rw [if_neg (by simpa using e0)]
  (rw [wpSs_cons]; simp only [wpSs_nil, wpS, wpE, wpEs, wpEo, wpC, wpT, wpSrc, Rd_val, Rd_new, frz_lst, frz_ins, List.getElem?_cons_zero, List.getElem?_cons_succ, List.set_cons_zero, List.set_cons_succ, kw_nil, bindT, wipeD, List.map_cons, List.map_nil, List.zip_cons_cons, List.zip_nil_right, List.zip_nil_left, List.foldl_cons, List.foldl_nil, o_add, o_adds, o_addt, o_addl, o_sub, o_mul, o_div, o_mod, o_pow, c_lt, c_le, c_gt, c_ge, c_eq, c_ne, c_in, c_ni, c_is, c_isn, e_int, e_str, e_bool, t_bl, t_int, t_lst, t_tup, t_non, f_lent, f_lenl, f_lens, f_lbt, f_lbl, f_lbs, f_inti, f_tupl, f_tupt, f_lstt, f_lstl, f_stri, y_non, y_bl, y_int, y_str, y_tup, y_lst, y_ins, rg_1, rg_2, sq_tup, sq_lst, zp_tup, en_lst, en_tup, aL_lst, sl_t, sl_s, Ty.below, List.any_cons, List.any_nil, subT, Bool.or_false, Bool.not_true, Bool.not_false, true_and, and_true, reduceCtorEq, decide_false, decide_true, Bool.false_eq_true, if_false, if_true, Bool.not_eq_true', Bool.not_not])
  by_cases e1 : way = 1
  · rw [if_pos (by simpa using e1)]
    (rw [wpSs_cons]; simp only [wpSs_nil, wpS, wpE, wpEs, wpEo, wpC, wpT, wpSrc, Rd_val, Rd_new, frz_lst, frz_ins, List.getElem?_cons_zero, List.getElem?_cons_succ, List.set_cons_zero, List.set_cons_succ, kw_nil, bindT, wipeD, List.map_cons, List.map_nil, List.zip_cons_cons, List.zip_nil_right, List.zip_nil_left, List.foldl_cons, List.foldl_nil, o_add, o_adds, o_addt, o_addl, o_sub, o_mul, o_div, o_mod, o_pow, c_lt, c_le, c_gt, c_ge, c_eq, c_ne, c_in, c_ni, c_is, c_isn, e_int, e_str, e_bool, t_bl, t_int, t_lst, t_tup, t_non, f_lent, f_lenl, f_lens, f_lbt, f_lbl, f_lbs, f_inti, f_tupl, f_tupt, f_lstt, f_lstl, f_stri, y_non, y_bl, y_int, y_str, y_tup, y_lst, y_ins, rg_1, rg_2, sq_tup, sq_lst, zp_tup, en_lst, en_tup, aL_lst, sl_t, sl_s, Ty.below, List.any_cons, List.any_nil, subT, Bool.or_false, Bool.not_true, Bool.not_false, true_and, and_true, reduceCtorEq, decide_false, decide_true, Bool.false_eq_true, if_false, if_true, Bool.not_eq_true', Bool.not_not])
    refine ⟨⟨by decide, by decide⟩, ?_⟩
    refine ⟨fun i acc M2 => ∃ rs : List Int, acc = rs.map D.int ∧ rs.length = i ∧ (∀ r ∈ rs, 0 ≤ r ∧ r < m) ∧ Step p M1 M2, ⟨[], rfl, rfl, by simp, Step.refl s1.pool⟩, fun _ _ _ _ _ => trivial, ?_, ?_⟩
    · rintro i x acc M2 hx ⟨rs, rfl, rfl, hr, s2⟩
      simp only [wpSs_nil, wpS, wpE, wpEs, wpEo, wpC, wpT, wpSrc, Rd_val, Rd_new, frz_lst, frz_ins, List.getElem?_cons_zero, List.getElem?_cons_succ, List.set_cons_zero, List.set_cons_succ, kw_nil, bindT, wipeD, List.map_cons, List.map_nil, List.zip_cons_cons, List.zip_nil_right, List.zip_nil_left, List.foldl_cons, List.foldl_nil, o_add, o_adds, o_addt, o_addl, o_sub, o_mul, o_div, o_mod, o_pow, c_lt, c_le, c_gt, c_ge, c_eq, c_ne, c_in, c_ni, c_is, c_isn, e_int, e_str, e_bool, t_bl, t_int, t_lst, t_tup, t_non, f_lent, f_lenl, f_lens, f_lbt, f_lbl, f_lbs, f_inti, f_tupl, f_tupt, f_lstt, f_lstl, f_stri, y_non, y_bl, y_int, y_str, y_tup, y_lst, y_ins, rg_1, rg_2, sq_tup, sq_lst, zp_tup, en_lst, en_tup, aL_lst, sl_t, sl_s, Ty.below, List.any_cons, List.any_nil, subT, Bool.or_false, Bool.not_true, Bool.not_false, true_and, and_true, reduceCtorEq, decide_false, decide_true, Bool.false_eq_true, if_false, if_true, Bool.not_eq_true', Bool.not_not]
      rw [h8]
      refine ⟨p, m, rfl, by omega, by omega, s2.pool, fun r M3 r0 r1 s3 => ⟨rs ++ [r], by simp [Rd_val], by simp, ?_, s2.trans s3⟩⟩
      intro y hy
      rcases List.mem_append.mp hy with hy | hy
      · exact hr y hy
      · simp at hy; subst hy; exact ⟨r0, r1⟩
    · rintro acc M2 ⟨rs, rfl, hl3, hr, s2⟩
      simp only [wpSs_nil, wpS, wpE, wpEs, wpEo, wpC, wpT, wpSrc, Rd_val, Rd_new, frz_lst, frz_ins, List.getElem?_cons_zero, List.getElem?_cons_succ, List.set_cons_zero, List.set_cons_succ, kw_nil, bindT, wipeD, List.map_cons, List.map_nil, List.zip_cons_cons, List.zip_nil_right, List.zip_nil_left, List.foldl_cons, List.foldl_nil, o_add, o_adds, o_addt, o_addl, o_sub, o_mul, o_div, o_mod, o_pow, c_lt, c_le, c_gt, c_ge, c_eq, c_ne, c_in, c_ni, c_is, c_isn, e_int, e_str, e_bool, t_bl, t_int, t_lst, t_tup, t_non, f_lent, f_lenl, f_lens, f_lbt, f_lbl, f_lbs, f_inti, f_tupl, f_tupt, f_lstt, f_lstl, f_stri, y_non, y_bl, y_int, y_str, y_tup, y_lst, y_ins, rg_1, rg_2, sq_tup, sq_lst, zp_tup, en_lst, en_tup, aL_lst, sl_t, sl_s, Ty.below, List.any_cons, List.any_nil, subT, Bool.or_false, Bool.not_true, Bool.not_false, true_and, and_true, reduceCtorEq, decide_false, decide_true, Bool.false_eq_true, if_false, if_true, Bool.not_eq_true', Bool.not_not]
      (rw [wpSs_cons]; simp only [wpSs_nil, wpS, wpE, wpEs, wpEo, wpC, wpT, wpSrc, Rd_val, Rd_new, frz_lst, frz_ins, List.getElem?_cons_zero, List.getElem?_cons_succ, List.set_cons_zero, List.set_cons_succ, kw_nil, bindT, wipeD, List.map_cons, List.map_nil, List.zip_cons_cons, List.zip_nil_right, List.zip_nil_left, List.foldl_cons, List.foldl_nil, o_add, o_adds, o_addt, o_addl, o_sub, o_mul, o_div, o_mod, o_pow, c_lt, c_le, c_gt, c_ge, c_eq, c_ne, c_in, c_ni, c_is, c_isn, e_int, e_str, e_bool, t_bl, t_int, t_lst, t_tup, t_non, f_lent, f_lenl, f_lens, f_lbt, f_lbl, f_lbs, f_inti, f_tupl, f_tupt, f_lstt, f_lstl, f_stri, y_non, y_bl, y_int, y_str, y_tup, y_lst, y_ins, rg_1, rg_2, sq_tup, sq_lst, zp_tup, en_lst, en_tup, aL_lst, sl_t, sl_s, Ty.below, List.any_cons, List.any_nil, subT, Bool.or_false, Bool.not_true, Bool.not_false, true_and, and_true, reduceCtorEq, decide_false, decide_true, Bool.false_eq_true, if_false, if_true, Bool.not_eq_true', Bool.not_not])
      refine ⟨⟨by omega, by omega⟩, ?_⟩
      refine comp_fm (rowF fun n : Nat => rs.contains (n : Int)) trivial ?_ ?_
      · intro i x acc K hx hK
        obtain ⟨hi, rfl⟩ := rg_get hx
        have e : (0 + (i : Int)) = ((i : Nat) : Int) := by omega
        rw [e] at hK ⊢
        simp only [wpSs_nil, wpS, wpE, wpEs, wpEo, wpC, wpT, wpSrc, Rd_val, Rd_new, frz_lst, frz_ins, List.getElem?_cons_zero, List.getElem?_cons_succ, List.set_cons_zero, List.set_cons_succ, kw_nil, bindT, wipeD, List.map_cons, List.map_nil, List.zip_cons_cons, List.zip_nil_right, List.zip_nil_left, List.foldl_cons, List.foldl_nil, o_add, o_adds, o_addt, o_addl, o_sub, o_mul, o_div, o_mod, o_pow, c_lt, c_le, c_gt, c_ge, c_eq, c_ne, c_in, c_ni, c_is, c_isn, e_int, e_str, e_bool, t_bl, t_int, t_lst, t_tup, t_non, f_lent, f_lenl, f_lens, f_lbt, f_lbl, f_lbs, f_inti, f_tupl, f_tupt, f_lstt, f_lstl, f_stri, y_non, y_bl, y_int, y_str, y_tup, y_lst, y_ins, rg_1, rg_2, sq_tup, sq_lst, zp_tup, en_lst, en_tup, aL_lst, sl_t, sl_s, Ty.below, List.any_cons, List.any_nil, subT, Bool.or_false, Bool.not_true, Bool.not_false, true_and, and_true, reduceCtorEq, decide_false, decide_true, Bool.false_eq_true, if_false, if_true, Bool.not_eq_true', Bool.not_not]
        rw [in_ints]
        cases h : rs.contains (i : Int) with
        | true => rw [rowF_t h] at hK; rw [if_pos rfl]; exact hK
        | false => rw [rowF_f h, List.append_nil] at hK; rw [if_neg Bool.false_ne_true]; exact hK
      · rw [fm_rows]
        simp only [wpSs_nil, wpS, wpE, wpEs, wpEo, wpC, wpT, wpSrc, Rd_val, Rd_new, frz_lst, frz_ins, List.getElem?_cons_zero, List.getElem?_cons_succ, List.set_cons_zero, List.set_cons_succ, kw_nil, bindT, wipeD, List.map_cons, List.map_nil, List.zip_cons_cons, List.zip_nil_right, List.zip_nil_left, List.foldl_cons, List.foldl_nil, o_add, o_adds, o_addt, o_addl, o_sub, o_mul, o_div, o_mod, o_pow, c_lt, c_le, c_gt, c_ge, c_eq, c_ne, c_in, c_ni, c_is, c_isn, e_int, e_str, e_bool, t_bl, t_int, t_lst, t_tup, t_non, f_lent, f_lenl, f_lens, f_lbt, f_lbl, f_lbs, f_inti, f_tupl, f_tupt, f_lstt, f_lstl, f_stri, y_non, y_bl, y_int, y_str, y_tup, y_lst, y_ins, rg_1, rg_2, sq_tup, sq_lst, zp_tup, en_lst, en_tup, aL_lst, sl_t, sl_s, Ty.below, List.any_cons, List.any_nil, subT, Bool.or_false, Bool.not_true, Bool.not_false, true_and, and_true, reduceCtorEq, decide_false, decide_true, Bool.false_eq_true, if_false, if_true, Bool.not_eq_true', Bool.not_not]
        refine hq _ _ ⟨_, rfl, ?_⟩ (s1.trans s2)
        cases rs with
        | nil => simp [rg_len] at hl3
        | cons r rs =>
          obtain ⟨r0, r1⟩ := hr r List.mem_cons_self
          refine ⟨r.toNat, by omega, ?_⟩
          rw [Int.toNat_of_nonneg r0]
          simp
  rw [if_neg (by simpa using e1)]
  (rw [wpSs_cons]; simp only [wpSs_nil, wpS, wpE, wpEs, wpEo, wpC, wpT, wpSrc, Rd_val, Rd_new, frz_lst, frz_ins, List.getElem?_cons_zero, List.getElem?_cons_succ, List.set_cons_zero, List.set_cons_succ, kw_nil, bindT, wipeD, List.map_cons, List.map_nil, List.zip_cons_cons, List.zip_nil_right, List.zip_nil_left, List.foldl_cons, List.foldl_nil, o_add, o_adds, o_addt, o_addl, o_sub, o_mul, o_div, o_mod, o_pow, c_lt, c_le, c_gt, c_ge, c_eq, c_ne, c_in, c_ni, c_is, c_isn, e_int, e_str, e_bool, t_bl, t_int, t_lst, t_tup, t_non, f_lent, f_lenl, f_lens, f_lbt, f_lbl, f_lbs, f_inti, f_tupl, f_tupt, f_lstt, f_lstl, f_stri, y_non, y_bl, y_int, y_str, y_tup, y_lst, y_ins, rg_1, rg_2, sq_tup, sq_lst, zp_tup, en_lst, en_tup, aL_lst, sl_t, sl_s, Ty.below, List.any_cons, List.any_nil, subT, Bool.or_false, Bool.not_true, Bool.not_false, true_and, and_true, reduceCtorEq, decide_false, decide_true, Bool.false_eq_true, if_false, if_true, Bool.not_eq_true', Bool.not_not])
  rw [ix_t (pow_at (by omega) (by omega))]
  simp only [wpSs_nil, wpS, wpE, wpEs, wpEo, wpC, wpT, wpSrc, Rd_val, Rd_new, frz_lst, frz_ins, List.getElem?_cons_zero, List.getElem?_cons_succ, List.set_cons_zero, List.set_cons_succ, kw_nil, bindT, wipeD, List.map_cons, List.map_nil, List.zip_cons_cons, List.zip_nil_right, List.zip_nil_left, List.foldl_cons, List.foldl_nil, o_add, o_adds, o_addt, o_addl, o_sub, o_mul, o_div, o_mod, o_pow, c_lt, c_le, c_gt, c_ge, c_eq, c_ne, c_in, c_ni, c_is, c_isn, e_int, e_str, e_bool, t_bl, t_int, t_lst, t_tup, t_non, f_lent, f_lenl, f_lens, f_lbt, f_lbl, f_lbs, f_inti, f_tupl, f_tupt, f_lstt, f_lstl, f_stri, y_non, y_bl, y_int, y_str, y_tup, y_lst, y_ins, rg_1, rg_2, sq_tup, sq_lst, zp_tup, en_lst, en_tup, aL_lst, sl_t, sl_s, Ty.below, List.any_cons, List.any_nil, subT, Bool.or_false, Bool.not_true, Bool.not_false, true_and, and_true, reduceCtorEq, decide_false, decide_true, Bool.false_eq_true, if_false, if_true, Bool.not_eq_true', Bool.not_not]
  have pm : (2 : Int) ^ m.toNat ≥ 4 := by
    have : 2 ≤ m.toNat := by omega
    have := Nat.pow_le_pow_right (n := 2) (by decide) this
    exact_mod_cast this
  have pm2 : (2 : Int) ^ m.toNat ≤ 256 := by
    have : m.toNat ≤ 8 := by omega
    have := Nat.pow_le_pow_right (n := 2) (by decide) this
    exact_mod_cast this
  (rw [wpSs_cons]; simp only [wpSs_nil, wpS, wpE, wpEs, wpEo, wpC, wpT, wpSrc, Rd_val, Rd_new, frz_lst, frz_ins, List.getElem?_cons_zero, List.getElem?_cons_succ, List.set_cons_zero, List.set_cons_succ, kw_nil, bindT, wipeD, List.map_cons, List.map_nil, List.zip_cons_cons, List.zip_nil_right, List.zip_nil_left, List.foldl_cons, List.foldl_nil, o_add, o_adds, o_addt, o_addl, o_sub, o_mul, o_div, o_mod, o_pow, c_lt, c_le, c_gt, c_ge, c_eq, c_ne, c_in, c_ni, c_is, c_isn, e_int, e_str, e_bool, t_bl, t_int, t_lst, t_tup, t_non, f_lent, f_lenl, f_lens, f_lbt, f_lbl, f_lbs, f_inti, f_tupl, f_tupt, f_lstt, f_lstl, f_stri, y_non, y_bl, y_int, y_str, y_tup, y_lst, y_ins, rg_1, rg_2, sq_tup, sq_lst, zp_tup, en_lst, en_tup, aL_lst, sl_t, sl_s, Ty.below, List.any_cons, List.any_nil, subT, Bool.or_false, Bool.not_true, Bool.not_false, true_and, and_true, reduceCtorEq, decide_false, decide_true, Bool.false_eq_true, if_false, if_true, Bool.not_eq_true', Bool.not_not])
  by_cases e2 : way = 2
  · rw [if_pos (by simpa using e2)]
    (rw [wpSs_cons]; simp only [wpSs_nil, wpS, wpE, wpEs, wpEo, wpC, wpT, wpSrc, Rd_val, Rd_new, frz_lst, frz_ins, List.getElem?_cons_zero, List.getElem?_cons_succ, List.set_cons_zero, List.set_cons_succ, kw_nil, bindT, wipeD, List.map_cons, List.map_nil, List.zip_cons_cons, List.zip_nil_right, List.zip_nil_left, List.foldl_cons, List.foldl_nil, o_add, o_adds, o_addt, o_addl, o_sub, o_mul, o_div, o_mod, o_pow, c_lt, c_le, c_gt, c_ge, c_eq, c_ne, c_in, c_ni, c_is, c_isn, e_int, e_str, e_bool, t_bl, t_int, t_lst, t_tup, t_non, f_lent, f_lenl, f_lens, f_lbt, f_lbl, f_lbs, f_inti, f_tupl, f_tupt, f_lstt, f_lstl, f_stri, y_non, y_bl, y_int, y_str, y_tup, y_lst, y_ins, rg_1, rg_2, sq_tup, sq_lst, zp_tup, en_lst, en_tup, aL_lst, sl_t, sl_s, Ty.below, List.any_cons, List.any_nil, subT, Bool.or_false, Bool.not_true, Bool.not_false, true_and, and_true, reduceCtorEq, decide_false, decide_true, Bool.false_eq_true, if_false, if_true, Bool.not_eq_true', Bool.not_not])
    rw [h8]
    refine ⟨p, _, rfl, by omega, by omega, s1.pool, fun r M2 r0 r1 s2 => ?_⟩
    simp only [wpSs_nil, wpS, wpE, wpEs, wpEo, wpC, wpT, wpSrc, Rd_val, Rd_new, frz_lst, frz_ins, List.getElem?_cons_zero, List.getElem?_cons_succ, List.set_cons_zero, List.set_cons_succ, kw_nil, bindT, wipeD, List.map_cons, List.map_nil, List.zip_cons_cons, List.zip_nil_right, List.zip_nil_left, List.foldl_cons, List.foldl_nil, o_add, o_adds, o_addt, o_addl, o_sub, o_mul, o_div, o_mod, o_pow, c_lt, c_le, c_gt, c_ge, c_eq, c_ne, c_in, c_ni, c_is, c_isn, e_int, e_str, e_bool, t_bl, t_int, t_lst, t_tup, t_non, f_lent, f_lenl, f_lens, f_lbt, f_lbl, f_lbs, f_inti, f_tupl, f_tupt, f_lstt, f_lstl, f_stri, y_non, y_bl, y_int, y_str, y_tup, y_lst, y_ins, rg_1, rg_2, sq_tup, sq_lst, zp_tup, en_lst, en_tup, aL_lst, sl_t, sl_s, Ty.below, List.any_cons, List.any_nil, subT, Bool.or_false, Bool.not_true, Bool.not_false, true_and, and_true, reduceCtorEq, decide_false, decide_true, Bool.false_eq_true, if_false, if_true, Bool.not_eq_true', Bool.not_not]
    (rw [wpSs_cons]; simp only [wpSs_nil, wpS, wpE, wpEs, wpEo, wpC, wpT, wpSrc, Rd_val, Rd_new, frz_lst, frz_ins, List.getElem?_cons_zero, List.getElem?_cons_succ, List.set_cons_zero, List.set_cons_succ, kw_nil, bindT, wipeD, List.map_cons, List.map_nil, List.zip_cons_cons, List.zip_nil_right, List.zip_nil_left, List.foldl_cons, List.foldl_nil, o_add, o_adds, o_addt, o_addl, o_sub, o_mul, o_div, o_mod, o_pow, c_lt, c_le, c_gt, c_ge, c_eq, c_ne, c_in, c_ni, c_is, c_isn, e_int, e_str, e_bool, t_bl, t_int, t_lst, t_tup, t_non, f_lent, f_lenl, f_lens, f_lbt, f_lbl, f_lbs, f_inti, f_tupl, f_tupt, f_lstt, f_lstl, f_stri, y_non, y_bl, y_int, y_str, y_tup, y_lst, y_ins, rg_1, rg_2, sq_tup, sq_lst, zp_tup, en_lst, en_tup, aL_lst, sl_t, sl_s, Ty.below, List.any_cons, List.any_nil, subT, Bool.or_false, Bool.not_true, Bool.not_false, true_and, and_true, reduceCtorEq, decide_false, decide_true, Bool.false_eq_true, if_false, if_true, Bool.not_eq_true', Bool.not_not])
    rw [if_neg (by simp; omega)]
    exact ok_vtail rfl m2 m8 (by omega) (by omega) (s1.trans s2) hq
  rw [if_neg (by simpa using e2)]
  (rw [wpSs_cons]; simp only [wpSs_nil, wpS, wpE, wpEs, wpEo, wpC, wpT, wpSrc, Rd_val, Rd_new, frz_lst, frz_ins, List.getElem?_cons_zero, List.getElem?_cons_succ, List.set_cons_zero, List.set_cons_succ, kw_nil, bindT, wipeD, List.map_cons, List.map_nil, List.zip_cons_cons, List.zip_nil_right, List.zip_nil_left, List.foldl_cons, List.foldl_nil, o_add, o_adds, o_addt, o_addl, o_sub, o_mul, o_div, o_mod, o_pow, c_lt, c_le, c_gt, c_ge, c_eq, c_ne, c_in, c_ni, c_is, c_isn, e_int, e_str, e_bool, t_bl, t_int, t_lst, t_tup, t_non, f_lent, f_lenl, f_lens, f_lbt, f_lbl, f_lbs, f_inti, f_tupl, f_tupt, f_lstt, f_lstl, f_stri, y_non, y_bl, y_int, y_str, y_tup, y_lst, y_ins, rg_1, rg_2, sq_tup, sq_lst, zp_tup, en_lst, en_tup, aL_lst, sl_t, sl_s, Ty.below, List.any_cons, List.any_nil, subT, Bool.or_false, Bool.not_true, Bool.not_false, true_and, and_true, reduceCtorEq, decide_false, decide_true, Bool.false_eq_true, if_false, if_true, Bool.not_eq_true', Bool.not_not])
  by_cases e3 : way = 3
  · rw [if_pos (by simpa using e3)]
    (rw [wpSs_cons]; simp only [wpSs_nil, wpS, wpE, wpEs, wpEo, wpC, wpT, wpSrc, Rd_val, Rd_new, frz_lst, frz_ins, List.getElem?_cons_zero, List.getElem?_cons_succ, List.set_cons_zero, List.set_cons_succ, kw_nil, bindT, wipeD, List.map_cons, List.map_nil, List.zip_cons_cons, List.zip_nil_right, List.zip_nil_left, List.foldl_cons, List.foldl_nil, o_add, o_adds, o_addt, o_addl, o_sub, o_mul, o_div, o_mod, o_pow, c_lt, c_le, c_gt, c_ge, c_eq, c_ne, c_in, c_ni, c_is, c_isn, e_int, e_str, e_bool, t_bl, t_int, t_lst, t_tup, t_non, f_lent, f_lenl, f_lens, f_lbt, f_lbl, f_lbs, f_inti, f_tupl, f_tupt, f_lstt, f_lstl, f_stri, y_non, y_bl, y_int, y_str, y_tup, y_lst, y_ins, rg_1, rg_2, sq_tup, sq_lst, zp_tup, en_lst, en_tup, aL_lst, sl_t, sl_s, Ty.below, List.any_cons, List.any_nil, subT, Bool.or_false, Bool.not_true, Bool.not_false, true_and, and_true, reduceCtorEq, decide_false, decide_true, Bool.false_eq_true, if_false, if_true, Bool.not_eq_true', Bool.not_not])
    rw [h8]
    refine ⟨p, m, rfl, by omega, by omega, s1.pool, fun r M2 r0 r1 s2 => ?_⟩
    simp only [wpSs_nil, wpS, wpE, wpEs, wpEo, wpC, wpT, wpSrc, Rd_val, Rd_new, frz_lst, frz_ins, List.getElem?_cons_zero, List.getElem?_cons_succ, List.set_cons_zero, List.set_cons_succ, kw_nil, bindT, wipeD, List.map_cons, List.map_nil, List.zip_cons_cons, List.zip_nil_right, List.zip_nil_left, List.foldl_cons, List.foldl_nil, o_add, o_adds, o_addt, o_addl, o_sub, o_mul, o_div, o_mod, o_pow, c_lt, c_le, c_gt, c_ge, c_eq, c_ne, c_in, c_ni, c_is, c_isn, e_int, e_str, e_bool, t_bl, t_int, t_lst, t_tup, t_non, f_lent, f_lenl, f_lens, f_lbt, f_lbl, f_lbs, f_inti, f_tupl, f_tupt, f_lstt, f_lstl, f_stri, y_non, y_bl, y_int, y_str, y_tup, y_lst, y_ins, rg_1, rg_2, sq_tup, sq_lst, zp_tup, en_lst, en_tup, aL_lst, sl_t, sl_s, Ty.below, List.any_cons, List.any_nil, subT, Bool.or_false, Bool.not_true, Bool.not_false, true_and, and_true, reduceCtorEq, decide_false, decide_true, Bool.false_eq_true, if_false, if_true, Bool.not_eq_true', Bool.not_not]
    rw [ix_t (pow_at r0 (by omega))]
    simp only [wpSs_nil, wpS, wpE, wpEs, wpEo, wpC, wpT, wpSrc, Rd_val, Rd_new, frz_lst, frz_ins, List.getElem?_cons_zero, List.getElem?_cons_succ, List.set_cons_zero, List.set_cons_succ, kw_nil, bindT, wipeD, List.map_cons, List.map_nil, List.zip_cons_cons, List.zip_nil_right, List.zip_nil_left, List.foldl_cons, List.foldl_nil, o_add, o_adds, o_addt, o_addl, o_sub, o_mul, o_div, o_mod, o_pow, c_lt, c_le, c_gt, c_ge, c_eq, c_ne, c_in, c_ni, c_is, c_isn, e_int, e_str, e_bool, t_bl, t_int, t_lst, t_tup, t_non, f_lent, f_lenl, f_lens, f_lbt, f_lbl, f_lbs, f_inti, f_tupl, f_tupt, f_lstt, f_lstl, f_stri, y_non, y_bl, y_int, y_str, y_tup, y_lst, y_ins, rg_1, rg_2, sq_tup, sq_lst, zp_tup, en_lst, en_tup, aL_lst, sl_t, sl_s, Ty.below, List.any_cons, List.any_nil, subT, Bool.or_false, Bool.not_true, Bool.not_false, true_and, and_true, reduceCtorEq, decide_false, decide_true, Bool.false_eq_true, if_false, if_true, Bool.not_eq_true', Bool.not_not]
    have q1 : (2 : Int) ^ r.toNat ≤ 2 ^ (m.toNat - 1) := by
      have : r.toNat ≤ m.toNat - 1 := by omega
      have := Nat.pow_le_pow_right (n := 2) (by decide) this
      exact_mod_cast this
    have q2 : (2 : Int) ^ m.toNat = 2 * 2 ^ (m.toNat - 1) := by
      obtain ⟨j, hj⟩ : ∃ j, m.toNat = j + 1 := ⟨m.toNat - 1, by omega⟩
      rw [hj]
      simp [Int.pow_succ]
      omega
    have q3 := (pow_small (k := r.toNat) (by omega)).1
    exact ok_vtail rfl m2 m8 (by omega) (by omega) (s1.trans s2) hq
  rw [if_neg (by simpa using e3)]
  exact ok_vtail rfl m2 m8 (by omega) (by omega) s1 hq
end PL
namespace PL
open PySem PySem.Spec PyProof.Rows L2
theorem fm_map {α : Type} {f : α → D} {g : D → Option D} {h : α → D} {l : List α} (e : ∀ a, g (f a) = some (h a)) : (l.map f).filterMap g = l.map h := by
  induction l with
  | nil => rfl
  | cons a l ih => rw [List.map_cons, List.filterMap_cons, e a, ih]; rfl
theorem pure_ints (l : List Int) : pureL (l.map D.int) = true := pureL_of fun x hx => by
  obtain ⟨f, _, rfl⟩ := List.mem_map.mp hx
  rfl
theorem pure_app {xs ys : List D} (h1 : pureL xs = true) (h2 : pureL ys = true) : pureL (xs ++ ys) = true := pureL_of fun x hx => by
  rcases List.mem_append.mp hx with h | h
  · exact pureL_mem h1 x h
  · exact pureL_mem h2 x h
theorem pure_cut {xs : List D} {lo hi : Option Int} (h : pureL xs = true) : pureL (cutD xs lo hi) = true := pureL_of fun x hx => by
  unfold cutD at hx
  exact pureL_mem h x (List.mem_of_mem_drop (List.mem_of_mem_take hx))
theorem pure_rev {xs : List D} (h : pureL xs = true) : pureL xs.reverse = true := pureL_of fun x hx => pureL_mem h x (List.mem_reverse.mp hx)
theorem pure_rg {a b : Int} : pureL (rangeD a b) = true := pureL_of fun x hx => by
  unfold rangeD at hx
  obtain ⟨f, _, rfl⟩ := List.mem_map.mp hx
  rfl
theorem cutD_le {xs : List D} {lo hi : Option Int} : (cutD xs lo hi).length ≤ xs.length := cutD_len xs lo hi
theorem at_pure {xs : List D} {r : Int} (h0 : 0 ≤ r) (h1 : r < xs.length) (h : pureL xs = true) : ∃ d, atI xs r = some d ∧ pureD d = true := by
  have hi : r.toNat < xs.length := by omega
  exact ⟨xs[r.toNat], at_int h0 (List.getElem?_eq_getElem hi), pureL_get (i := r.toNat) h (List.getElem?_eq_getElem hi)⟩
theorem row_len {row : List Int} {m : Int} (h : RowOk row m) : row.length ≤ m.toNat := by
  obtain ⟨P, rfl, _⟩ := h
  rw [List.length_map]
  have := List.length_filter_le P (List.range m.toNat)
  rw [List.length_range] at this
  exact this
theorem row_mem {row : List Int} {m : Int} (h : RowOk row m) : ∀ x ∈ row, 0 ≤ x ∧ x < m := by
  obtain ⟨P, rfl, _⟩ := h
  intro x hx
  obtain ⟨k, hk, rfl⟩ := List.mem_map.mp hx
  have := List.mem_range.mp (List.mem_filter.mp hk).1
  omega
theorem ix_draw {T : Tb} (h8 : T.fn 8 = sp_draw) {j : Nat} {xs : List D} {p : Addr} {ρ : Sd} {D0 : DEnds} {M : Mem} (e0 : ρ[0]? = some (some (.ref p))) (ej : ρ[j]? = some (some (.tup xs))) (hx : pureL xs = true) (h0 : 0 < xs.length) (h1 : xs.length < 1000) (hp : PoolAt M p)
    (hq : ∀ d M', pureD d = true → Step p M M' → D0.rt (.val d) M') : wpSs T (.cons (.ret (.ix (.var j) (.call 8 (.cons (.var 0) (.cons (.fn .len (.cons (.var j) .nil)) .nil)) [] .nil))) .nil) D0 ρ M := by
  (rw [wpSs_cons]; simp only [wpSs_nil, wpS, wpE, wpEs, wpEo, wpC, wpT, wpSrc, Rd_val, Rd_new, frz_lst, frz_ins, List.getElem?_cons_zero, List.getElem?_cons_succ, List.set_cons_zero, List.set_cons_succ, kw_nil, bindT, wipeD, List.map_cons, List.map_nil, List.zip_cons_cons, List.zip_nil_right, List.zip_nil_left, List.foldl_cons, List.foldl_nil, o_add, o_adds, o_addt, o_addl, o_sub, o_mul, o_div, o_mod, o_pow, c_lt, c_le, c_gt, c_ge, c_eq, c_ne, c_in, c_ni, c_is, c_isn, e_int, e_str, e_bool, t_bl, t_int, t_lst, t_tup, t_non, f_lent, f_lenl, f_lens, f_lbt, f_lbl, f_lbs, f_inti, f_tupl, f_tupt, f_lstt, f_lstl, f_stri, y_non, y_bl, y_int, y_str, y_tup, y_lst, y_ins, rg_1, rg_2, sq_tup, sq_lst, zp_tup, en_lst, en_tup, aL_lst, sl_t, sl_s, Ty.below, List.any_cons, List.any_nil, subT, Bool.or_false, Bool.not_true, Bool.not_false, true_and, and_true, reduceCtorEq, decide_false, decide_true, Bool.false_eq_true, if_false, if_true, Bool.not_eq_true', Bool.not_not])
  rw [ej]
  simp only [wpSs_nil, wpS, wpE, wpEs, wpEo, wpC, wpT, wpSrc, Rd_val, Rd_new, frz_lst, frz_ins, List.getElem?_cons_zero, List.getElem?_cons_succ, List.set_cons_zero, List.set_cons_succ, kw_nil, bindT, wipeD, List.map_cons, List.map_nil, List.zip_cons_cons, List.zip_nil_right, List.zip_nil_left, List.foldl_cons, List.foldl_nil, o_add, o_adds, o_addt, o_addl, o_sub, o_mul, o_div, o_mod, o_pow, c_lt, c_le, c_gt, c_ge, c_eq, c_ne, c_in, c_ni, c_is, c_isn, e_int, e_str, e_bool, t_bl, t_int, t_lst, t_tup, t_non, f_lent, f_lenl, f_lens, f_lbt, f_lbl, f_lbs, f_inti, f_tupl, f_tupt, f_lstt, f_lstl, f_stri, y_non, y_bl, y_int, y_str, y_tup, y_lst, y_ins, rg_1, rg_2, sq_tup, sq_lst, zp_tup, en_lst, en_tup, aL_lst, sl_t, sl_s, Ty.below, List.any_cons, List.any_nil, subT, Bool.or_false, Bool.not_true, Bool.not_false, true_and, and_true, reduceCtorEq, decide_false, decide_true, Bool.false_eq_true, if_false, if_true, Bool.not_eq_true', Bool.not_not]
  rw [e0]
  simp only [wpSs_nil, wpS, wpE, wpEs, wpEo, wpC, wpT, wpSrc, Rd_val, Rd_new, frz_lst, frz_ins, List.getElem?_cons_zero, List.getElem?_cons_succ, List.set_cons_zero, List.set_cons_succ, kw_nil, bindT, wipeD, List.map_cons, List.map_nil, List.zip_cons_cons, List.zip_nil_right, List.zip_nil_left, List.foldl_cons, List.foldl_nil, o_add, o_adds, o_addt, o_addl, o_sub, o_mul, o_div, o_mod, o_pow, c_lt, c_le, c_gt, c_ge, c_eq, c_ne, c_in, c_ni, c_is, c_isn, e_int, e_str, e_bool, t_bl, t_int, t_lst, t_tup, t_non, f_lent, f_lenl, f_lens, f_lbt, f_lbl, f_lbs, f_inti, f_tupl, f_tupt, f_lstt, f_lstl, f_stri, y_non, y_bl, y_int, y_str, y_tup, y_lst, y_ins, rg_1, rg_2, sq_tup, sq_lst, zp_tup, en_lst, en_tup, aL_lst, sl_t, sl_s, Ty.below, List.any_cons, List.any_nil, subT, Bool.or_false, Bool.not_true, Bool.not_false, true_and, and_true, reduceCtorEq, decide_false, decide_true, Bool.false_eq_true, if_false, if_true, Bool.not_eq_true', Bool.not_not]
  rw [h8]
  refine ⟨p, _, rfl, by omega, by omega, hp, fun r M2 r0 r1 s2 => ?_⟩
  obtain ⟨d, hd, pd⟩ := at_pure r0 r1 hx
  simp only [wpSs_nil, wpS, wpE, wpEs, wpEo, wpC, wpT, wpSrc, Rd_val, Rd_new, frz_lst, frz_ins, List.getElem?_cons_zero, List.getElem?_cons_succ, List.set_cons_zero, List.set_cons_succ, kw_nil, bindT, wipeD, List.map_cons, List.map_nil, List.zip_cons_cons, List.zip_nil_right, List.zip_nil_left, List.foldl_cons, List.foldl_nil, o_add, o_adds, o_addt, o_addl, o_sub, o_mul, o_div, o_mod, o_pow, c_lt, c_le, c_gt, c_ge, c_eq, c_ne, c_in, c_ni, c_is, c_isn, e_int, e_str, e_bool, t_bl, t_int, t_lst, t_tup, t_non, f_lent, f_lenl, f_lens, f_lbt, f_lbl, f_lbs, f_inti, f_tupl, f_tupt, f_lstt, f_lstl, f_stri, y_non, y_bl, y_int, y_str, y_tup, y_lst, y_ins, rg_1, rg_2, sq_tup, sq_lst, zp_tup, en_lst, en_tup, aL_lst, sl_t, sl_s, Ty.below, List.any_cons, List.any_nil, subT, Bool.or_false, Bool.not_true, Bool.not_false, true_and, and_true, reduceCtorEq, decide_false, decide_true, Bool.false_eq_true, if_false, if_true, Bool.not_eq_true', Bool.not_not]
  rw [ix_t hd]
  exact hq d M2 pd s2
def sp_law_row_changed : DSp := fun ds M Q _ => ∃ (p : Addr) (row : List Int) (m : Int), ds = [.ref p, .tup (row.map .int), .int m] ∧ 2 ≤ m ∧ m ≤ 8 ∧ RowOk row m ∧ PoolAt M p ∧ ∀ d M', pureD d = true → Step p M M' → Q (.val d) M'
theorem ok_law_row_changed {T : Tb} (h8 : T.fn 8 = sp_draw) : SpOk T N_law_row_changed ir_law_row_changed 3 sp_law_row_changed := by
  rintro ds M Q E hl ⟨p, row, m, rfl, m2, m8, hr, hp, hq⟩
  show wpSs T ir_law_row_changed _ [some (.ref p), some (.tup (row.map .int)), some (.int m), none, none, none] M
  unfold ir_law_row_changed
  have hs : sizeLine = 16777216 := sizeLine_eq
  have hlen := row_len hr
  have hmem := row_mem hr
  have hne := row_ne hr
  have pr := pure_ints row
  have lr : (row.map D.int).length = row.length := List.length_map ..
  have hpos : 0 < row.length := List.length_pos_iff.mpr hne
  have f0 : row[0]? = some row[0] := List.getElem?_eq_getElem hpos
  have fz : row[row.length - 1]? = some (row[row.length - 1]'(by omega)) := List.getElem?_eq_getElem (by omega)
  generalize row[0] = a at f0
  generalize row[row.length - 1]'(by omega) = z at fz
  have za := hmem z (List.mem_of_getElem? fz)
  (rw [wpSs_cons]; simp only [wpSs_nil, wpS, wpE, wpEs, wpEo, wpC, wpT, wpSrc, Rd_val, Rd_new, frz_lst, frz_ins, List.getElem?_cons_zero, List.getElem?_cons_succ, List.set_cons_zero, List.set_cons_succ, kw_nil, bindT, wipeD, List.map_cons, List.map_nil, List.zip_cons_cons, List.zip_nil_right, List.zip_nil_left, List.foldl_cons, List.foldl_nil, o_add, o_adds, o_addt, o_addl, o_sub, o_mul, o_div, o_mod, o_pow, c_lt, c_le, c_gt, c_ge, c_eq, c_ne, c_in, c_ni, c_is, c_isn, e_int, e_str, e_bool, t_bl, t_int, t_lst, t_tup, t_non, f_lent, f_lenl, f_lens, f_lbt, f_lbl, f_lbs, f_inti, f_tupl, f_tupt, f_lstt, f_lstl, f_stri, y_non, y_bl, y_int, y_str, y_tup, y_lst, y_ins, rg_1, rg_2, sq_tup, sq_lst, zp_tup, en_lst, en_tup, aL_lst, sl_t, sl_s, Ty.below, List.any_cons, List.any_nil, subT, Bool.or_false, Bool.not_true, Bool.not_false, true_and, and_true, reduceCtorEq, decide_false, decide_true, Bool.false_eq_true, if_false, if_true, Bool.not_eq_true', Bool.not_not])
  rw [ix_t (d := .int a) (at_int (by decide) (by rw [List.getElem?_map]; show Option.map _ row[0]? = _; rw [f0]; rfl))]
  rw [lr, ix_t (d := .int z) (at_int (by omega) (by rw [List.getElem?_map, show ((row.length : Int) - 1).toNat = row.length - 1 by omega, fz]; rfl))]
  refine ⟨rfl, ?_⟩
  (rw [wpSs_cons]; simp only [wpSs_nil, wpS, wpE, wpEs, wpEo, wpC, wpT, wpSrc, Rd_val, Rd_new, frz_lst, frz_ins, List.getElem?_cons_zero, List.getElem?_cons_succ, List.set_cons_zero, List.set_cons_succ, kw_nil, bindT, wipeD, List.map_cons, List.map_nil, List.zip_cons_cons, List.zip_nil_right, List.zip_nil_left, List.foldl_cons, List.foldl_nil, o_add, o_adds, o_addt, o_addl, o_sub, o_mul, o_div, o_mod, o_pow, c_lt, c_le, c_gt, c_ge, c_eq, c_ne, c_in, c_ni, c_is, c_isn, e_int, e_str, e_bool, t_bl, t_int, t_lst, t_tup, t_non, f_lent, f_lenl, f_lens, f_lbt, f_lbl, f_lbs, f_inti, f_tupl, f_tupt, f_lstt, f_lstl, f_stri, y_non, y_bl, y_int, y_str, y_tup, y_lst, y_ins, rg_1, rg_2, sq_tup, sq_lst, zp_tup, en_lst, en_tup, aL_lst, sl_t, sl_s, Ty.below, List.any_cons, List.any_nil, subT, Bool.or_false, Bool.not_true, Bool.not_false, true_and, and_true, reduceCtorEq, decide_false, decide_true, Bool.false_eq_true, if_false, if_true, Bool.not_eq_true', Bool.not_not])
  have k1 := cutD_le (xs := row.map D.int) (lo := some 1) (hi := none)
  have k2 := cutD_le (xs := row.map D.int) (lo := none) (hi := some (-1))
  have k3 := cutD_le (xs := row.map D.int) (lo := none) (hi := some 1)
  rw [lr] at k1 k2 k3
  have zl : z.natAbs.log2 < 1920 := by have := log_small za.1 (by omega); omega
  simp only [List.length_cons, List.length_nil, lr]
  refine ⟨by omega, by omega, by omega, by omega, by omega, by omega, zl, by omega, by omega, by omega, ⟨by omega, by omega⟩, ⟨by decide, by decide, by decide⟩, by omega, by omega, ?_⟩
  refine ix_draw h8 rfl rfl ?_ (by simp) (by simp) hp fun d M' pd s => hq d M' pd s
  simp [pureL, pureD, pure_app, pr, pure_cut, pure_rev, pure_rg]

def sp_law_changed : DSp := fun ds M Q _ => ∃ (p : Addr) (rows : List (List Int)) (sizes : List Int), ds = [.ref p, .tup (rows.map fun r => .tup (r.map .int)), .lst (sizes.map .int)] ∧ 1 ≤ rows.length ∧ rows.length ≤ 6 ∧ sizes.length = rows.length ∧
  (∀ (i : Nat) r m, rows[i]? = some r → sizes[i]? = some m → RowOk r m ∧ 2 ≤ m ∧ m ≤ 8) ∧ PoolAt M p ∧ ∀ d M', pureD d = true → Step p M M' → Q (.val d) M'
theorem ok_law_changed {T : Tb} (h8 : T.fn 8 = sp_draw) (h11 : T.fn 11 = sp_law_row_changed) : SpOk T N_law_changed ir_law_changed 3 sp_law_changed := by
  rintro ds M Q E hl ⟨p, rows, sizes, rfl, r1, r2, hsl, hrs, hp, hq⟩
  show wpSs T ir_law_changed _ [some (.ref p), some (.tup (rows.map fun r => .tup (r.map .int))), some (.lst (sizes.map .int)), none, none, none, none] M
  unfold ir_law_changed
  have hs : sizeLine = 16777216 := sizeLine_eq
  have lr : (rows.map fun r => D.tup (r.map .int)).length = rows.length := List.length_map ..
  have pr : pureL (rows.map fun r => D.tup (r.map .int)) = true := pureL_of fun x hx => by
    obtain ⟨r, _, rfl⟩ := List.mem_map.mp hx
    exact pure_ints r
  generalize hR : (rows.map fun r => D.tup (r.map .int)) = R at *
  (rw [wpSs_cons]; simp only [wpSs_nil, wpS, wpE, wpEs, wpEo, wpC, wpT, wpSrc, Rd_val, Rd_new, frz_lst, frz_ins, List.getElem?_cons_zero, List.getElem?_cons_succ, List.set_cons_zero, List.set_cons_succ, kw_nil, bindT, wipeD, List.map_cons, List.map_nil, List.zip_cons_cons, List.zip_nil_right, List.zip_nil_left, List.foldl_cons, List.foldl_nil, o_add, o_adds, o_addt, o_addl, o_sub, o_mul, o_div, o_mod, o_pow, c_lt, c_le, c_gt, c_ge, c_eq, c_ne, c_in, c_ni, c_is, c_isn, e_int, e_str, e_bool, t_bl, t_int, t_lst, t_tup, t_non, f_lent, f_lenl, f_lens, f_lbt, f_lbl, f_lbs, f_inti, f_tupl, f_tupt, f_lstt, f_lstl, f_stri, y_non, y_bl, y_int, y_str, y_tup, y_lst, y_ins, rg_1, rg_2, sq_tup, sq_lst, zp_tup, en_lst, en_tup, aL_lst, sl_t, sl_s, Ty.below, List.any_cons, List.any_nil, subT, Bool.or_false, Bool.not_true, Bool.not_false, true_and, and_true, reduceCtorEq, decide_false, decide_true, Bool.false_eq_true, if_false, if_true, Bool.not_eq_true', Bool.not_not])
  rw [h8]
  refine ⟨p, _, rfl, by omega, by omega, hp, fun at_ M1 a0 a1 s1 => ?_⟩
  rw [lr] at a1
  have ha : at_.toNat < rows.length := by omega
  have g1 : rows[at_.toNat]? = some (rows[at_.toNat]) := List.getElem?_eq_getElem ha
  have g2 : sizes[at_.toNat]? = some (sizes[at_.toNat]'(by omega)) := List.getElem?_eq_getElem (by omega)
  generalize rows[at_.toNat] = row at g1
  generalize sizes[at_.toNat]'(by omega) = m at g2
  obtain ⟨rok, m2, m8⟩ := hrs _ _ _ g1 g2
  have i1 : atI R at_ = some (.tup (row.map .int)) := at_int a0 (by rw [← hR, List.getElem?_map, g1]; rfl)
  have i2 : atI (sizes.map D.int) at_ = some (.int m) := at_int a0 (by rw [List.getElem?_map, g2]; rfl)
  simp only [wpSs_nil, wpS, wpE, wpEs, wpEo, wpC, wpT, wpSrc, Rd_val, Rd_new, frz_lst, frz_ins, List.getElem?_cons_zero, List.getElem?_cons_succ, List.set_cons_zero, List.set_cons_succ, kw_nil, bindT, wipeD, List.map_cons, List.map_nil, List.zip_cons_cons, List.zip_nil_right, List.zip_nil_left, List.foldl_cons, List.foldl_nil, o_add, o_adds, o_addt, o_addl, o_sub, o_mul, o_div, o_mod, o_pow, c_lt, c_le, c_gt, c_ge, c_eq, c_ne, c_in, c_ni, c_is, c_isn, e_int, e_str, e_bool, t_bl, t_int, t_lst, t_tup, t_non, f_lent, f_lenl, f_lens, f_lbt, f_lbl, f_lbs, f_inti, f_tupl, f_tupt, f_lstt, f_lstl, f_stri, y_non, y_bl, y_int, y_str, y_tup, y_lst, y_ins, rg_1, rg_2, sq_tup, sq_lst, zp_tup, en_lst, en_tup, aL_lst, sl_t, sl_s, Ty.below, List.any_cons, List.any_nil, subT, Bool.or_false, Bool.not_true, Bool.not_false, true_and, and_true, reduceCtorEq, decide_false, decide_true, Bool.false_eq_true, if_false, if_true, Bool.not_eq_true', Bool.not_not]
  (rw [wpSs_cons]; simp only [wpSs_nil, wpS, wpE, wpEs, wpEo, wpC, wpT, wpSrc, Rd_val, Rd_new, frz_lst, frz_ins, List.getElem?_cons_zero, List.getElem?_cons_succ, List.set_cons_zero, List.set_cons_succ, kw_nil, bindT, wipeD, List.map_cons, List.map_nil, List.zip_cons_cons, List.zip_nil_right, List.zip_nil_left, List.foldl_cons, List.foldl_nil, o_add, o_adds, o_addt, o_addl, o_sub, o_mul, o_div, o_mod, o_pow, c_lt, c_le, c_gt, c_ge, c_eq, c_ne, c_in, c_ni, c_is, c_isn, e_int, e_str, e_bool, t_bl, t_int, t_lst, t_tup, t_non, f_lent, f_lenl, f_lens, f_lbt, f_lbl, f_lbs, f_inti, f_tupl, f_tupt, f_lstt, f_lstl, f_stri, y_non, y_bl, y_int, y_str, y_tup, y_lst, y_ins, rg_1, rg_2, sq_tup, sq_lst, zp_tup, en_lst, en_tup, aL_lst, sl_t, sl_s, Ty.below, List.any_cons, List.any_nil, subT, Bool.or_false, Bool.not_true, Bool.not_false, true_and, and_true, reduceCtorEq, decide_false, decide_true, Bool.false_eq_true, if_false, if_true, Bool.not_eq_true', Bool.not_not])
  rw [h8]
  refine ⟨p, _, rfl, by decide, by decide, s1.pool, fun way M2 w0 w1 s2 => ?_⟩
  simp only [wpSs_nil, wpS, wpE, wpEs, wpEo, wpC, wpT, wpSrc, Rd_val, Rd_new, frz_lst, frz_ins, List.getElem?_cons_zero, List.getElem?_cons_succ, List.set_cons_zero, List.set_cons_succ, kw_nil, bindT, wipeD, List.map_cons, List.map_nil, List.zip_cons_cons, List.zip_nil_right, List.zip_nil_left, List.foldl_cons, List.foldl_nil, o_add, o_adds, o_addt, o_addl, o_sub, o_mul, o_div, o_mod, o_pow, c_lt, c_le, c_gt, c_ge, c_eq, c_ne, c_in, c_ni, c_is, c_isn, e_int, e_str, e_bool, t_bl, t_int, t_lst, t_tup, t_non, f_lent, f_lenl, f_lens, f_lbt, f_lbl, f_lbs, f_inti, f_tupl, f_tupt, f_lstt, f_lstl, f_stri, y_non, y_bl, y_int, y_str, y_tup, y_lst, y_ins, rg_1, rg_2, sq_tup, sq_lst, zp_tup, en_lst, en_tup, aL_lst, sl_t, sl_s, Ty.below, List.any_cons, List.any_nil, subT, Bool.or_false, Bool.not_true, Bool.not_false, true_and, and_true, reduceCtorEq, decide_false, decide_true, Bool.false_eq_true, if_false, if_true, Bool.not_eq_true', Bool.not_not]
  (rw [wpSs_cons]; simp only [wpSs_nil, wpS, wpE, wpEs, wpEo, wpC, wpT, wpSrc, Rd_val, Rd_new, frz_lst, frz_ins, List.getElem?_cons_zero, List.getElem?_cons_succ, List.set_cons_zero, List.set_cons_succ, kw_nil, bindT, wipeD, List.map_cons, List.map_nil, List.zip_cons_cons, List.zip_nil_right, List.zip_nil_left, List.foldl_cons, List.foldl_nil, o_add, o_adds, o_addt, o_addl, o_sub, o_mul, o_div, o_mod, o_pow, c_lt, c_le, c_gt, c_ge, c_eq, c_ne, c_in, c_ni, c_is, c_isn, e_int, e_str, e_bool, t_bl, t_int, t_lst, t_tup, t_non, f_lent, f_lenl, f_lens, f_lbt, f_lbl, f_lbs, f_inti, f_tupl, f_tupt, f_lstt, f_lstl, f_stri, y_non, y_bl, y_int, y_str, y_tup, y_lst, y_ins, rg_1, rg_2, sq_tup, sq_lst, zp_tup, en_lst, en_tup, aL_lst, sl_t, sl_s, Ty.below, List.any_cons, List.any_nil, subT, Bool.or_false, Bool.not_true, Bool.not_false, true_and, and_true, reduceCtorEq, decide_false, decide_true, Bool.false_eq_true, if_false, if_true, Bool.not_eq_true', Bool.not_not])
  have k1 := cutD_le (xs := R) (lo := none) (hi := some at_)
  have k2 := cutD_le (xs := R) (lo := some (at_ + 1)) (hi := none)
  rw [lr] at k1 k2
  by_cases e : 2 < way
  · rw [if_pos (by simpa using e)]
    (rw [wpSs_cons]; simp only [wpSs_nil, wpS, wpE, wpEs, wpEo, wpC, wpT, wpSrc, Rd_val, Rd_new, frz_lst, frz_ins, List.getElem?_cons_zero, List.getElem?_cons_succ, List.set_cons_zero, List.set_cons_succ, kw_nil, bindT, wipeD, List.map_cons, List.map_nil, List.zip_cons_cons, List.zip_nil_right, List.zip_nil_left, List.foldl_cons, List.foldl_nil, o_add, o_adds, o_addt, o_addl, o_sub, o_mul, o_div, o_mod, o_pow, c_lt, c_le, c_gt, c_ge, c_eq, c_ne, c_in, c_ni, c_is, c_isn, e_int, e_str, e_bool, t_bl, t_int, t_lst, t_tup, t_non, f_lent, f_lenl, f_lens, f_lbt, f_lbl, f_lbs, f_inti, f_tupl, f_tupt, f_lstt, f_lstl, f_stri, y_non, y_bl, y_int, y_str, y_tup, y_lst, y_ins, rg_1, rg_2, sq_tup, sq_lst, zp_tup, en_lst, en_tup, aL_lst, sl_t, sl_s, Ty.below, List.any_cons, List.any_nil, subT, Bool.or_false, Bool.not_true, Bool.not_false, true_and, and_true, reduceCtorEq, decide_false, decide_true, Bool.false_eq_true, if_false, if_true, Bool.not_eq_true', Bool.not_not])
    rw [ix_t i1]
    rw [ix_l i2, h11]
    refine ⟨p, row, m, rfl, m2, m8, rok, (s1.trans s2).pool, fun d M3 pd s3 => ?_⟩
    simp only [wpSs_nil, wpS, wpE, wpEs, wpEo, wpC, wpT, wpSrc, Rd_val, Rd_new, frz_lst, frz_ins, List.getElem?_cons_zero, List.getElem?_cons_succ, List.set_cons_zero, List.set_cons_succ, kw_nil, bindT, wipeD, List.map_cons, List.map_nil, List.zip_cons_cons, List.zip_nil_right, List.zip_nil_left, List.foldl_cons, List.foldl_nil, o_add, o_adds, o_addt, o_addl, o_sub, o_mul, o_div, o_mod, o_pow, c_lt, c_le, c_gt, c_ge, c_eq, c_ne, c_in, c_ni, c_is, c_isn, e_int, e_str, e_bool, t_bl, t_int, t_lst, t_tup, t_non, f_lent, f_lenl, f_lens, f_lbt, f_lbl, f_lbs, f_inti, f_tupl, f_tupt, f_lstt, f_lstl, f_stri, y_non, y_bl, y_int, y_str, y_tup, y_lst, y_ins, rg_1, rg_2, sq_tup, sq_lst, zp_tup, en_lst, en_tup, aL_lst, sl_t, sl_s, Ty.below, List.any_cons, List.any_nil, subT, Bool.or_false, Bool.not_true, Bool.not_false, true_and, and_true, reduceCtorEq, decide_false, decide_true, Bool.false_eq_true, if_false, if_true, Bool.not_eq_true', Bool.not_not]
    simp only [List.length_append, List.length_cons, List.length_nil]
    refine ⟨by omega, by omega, hq _ _ ?_ ((s1.trans s2).trans s3)⟩
    simp [pureD, pureL, pure_app, pure_cut, pr, pd]
  rw [if_neg (by simpa using e)]
  (rw [wpSs_cons]; simp only [wpSs_nil, wpS, wpE, wpEs, wpEo, wpC, wpT, wpSrc, Rd_val, Rd_new, frz_lst, frz_ins, List.getElem?_cons_zero, List.getElem?_cons_succ, List.set_cons_zero, List.set_cons_succ, kw_nil, bindT, wipeD, List.map_cons, List.map_nil, List.zip_cons_cons, List.zip_nil_right, List.zip_nil_left, List.foldl_cons, List.foldl_nil, o_add, o_adds, o_addt, o_addl, o_sub, o_mul, o_div, o_mod, o_pow, c_lt, c_le, c_gt, c_ge, c_eq, c_ne, c_in, c_ni, c_is, c_isn, e_int, e_str, e_bool, t_bl, t_int, t_lst, t_tup, t_non, f_lent, f_lenl, f_lens, f_lbt, f_lbl, f_lbs, f_inti, f_tupl, f_tupt, f_lstt, f_lstl, f_stri, y_non, y_bl, y_int, y_str, y_tup, y_lst, y_ins, rg_1, rg_2, sq_tup, sq_lst, zp_tup, en_lst, en_tup, aL_lst, sl_t, sl_s, Ty.below, List.any_cons, List.any_nil, subT, Bool.or_false, Bool.not_true, Bool.not_false, true_and, and_true, reduceCtorEq, decide_false, decide_true, Bool.false_eq_true, if_false, if_true, Bool.not_eq_true', Bool.not_not])
  simp only [List.length_append, List.length_cons, List.length_nil, lr]
  refine ⟨by omega, by omega, ?_⟩
  rw [ix_t i1]
  refine ⟨by omega, ?_⟩
  refine comp_fm (fun d => match d with | .tup xs => some (.lst xs) | _ => none) trivial ?_ ?_
  · intro i x acc K hx hK
    rw [← hR] at hx
    obtain ⟨r, _, rfl⟩ := map_get hx
    simp only [wpSs_nil, wpS, wpE, wpEs, wpEo, wpC, wpT, wpSrc, Rd_val, Rd_new, frz_lst, frz_ins, List.getElem?_cons_zero, List.getElem?_cons_succ, List.set_cons_zero, List.set_cons_succ, kw_nil, bindT, wipeD, List.map_cons, List.map_nil, List.zip_cons_cons, List.zip_nil_right, List.zip_nil_left, List.foldl_cons, List.foldl_nil, o_add, o_adds, o_addt, o_addl, o_sub, o_mul, o_div, o_mod, o_pow, c_lt, c_le, c_gt, c_ge, c_eq, c_ne, c_in, c_ni, c_is, c_isn, e_int, e_str, e_bool, t_bl, t_int, t_lst, t_tup, t_non, f_lent, f_lenl, f_lens, f_lbt, f_lbl, f_lbs, f_inti, f_tupl, f_tupt, f_lstt, f_lstl, f_stri, y_non, y_bl, y_int, y_str, y_tup, y_lst, y_ins, rg_1, rg_2, sq_tup, sq_lst, zp_tup, en_lst, en_tup, aL_lst, sl_t, sl_s, Ty.below, List.any_cons, List.any_nil, subT, Bool.or_false, Bool.not_true, Bool.not_false, true_and, and_true, reduceCtorEq, decide_false, decide_true, Bool.false_eq_true, if_false, if_true, Bool.not_eq_true', Bool.not_not]
    simpa [Rd_new, frz_lst] using hK
  · have e : R.filterMap (fun d => match d with | .tup xs => some (D.lst xs) | _ => none) = rows.map fun r => .lst (r.map .int) := by
      rw [← hR]
      exact fm_map fun _ => rfl
    rw [e]
    simp only [wpSs_nil, wpS, wpE, wpEs, wpEo, wpC, wpT, wpSrc, Rd_val, Rd_new, frz_lst, frz_ins, List.getElem?_cons_zero, List.getElem?_cons_succ, List.set_cons_zero, List.set_cons_succ, kw_nil, bindT, wipeD, List.map_cons, List.map_nil, List.zip_cons_cons, List.zip_nil_right, List.zip_nil_left, List.foldl_cons, List.foldl_nil, o_add, o_adds, o_addt, o_addl, o_sub, o_mul, o_div, o_mod, o_pow, c_lt, c_le, c_gt, c_ge, c_eq, c_ne, c_in, c_ni, c_is, c_isn, e_int, e_str, e_bool, t_bl, t_int, t_lst, t_tup, t_non, f_lent, f_lenl, f_lens, f_lbt, f_lbl, f_lbs, f_inti, f_tupl, f_tupt, f_lstt, f_lstl, f_stri, y_non, y_bl, y_int, y_str, y_tup, y_lst, y_ins, rg_1, rg_2, sq_tup, sq_lst, zp_tup, en_lst, en_tup, aL_lst, sl_t, sl_s, Ty.below, List.any_cons, List.any_nil, subT, Bool.or_false, Bool.not_true, Bool.not_false, true_and, and_true, reduceCtorEq, decide_false, decide_true, Bool.false_eq_true, if_false, if_true, Bool.not_eq_true', Bool.not_not]
    have pl : pureL (rows.map fun r => D.lst (r.map .int)) = true := pureL_of fun x hx => by
      obtain ⟨r, _, rfl⟩ := List.mem_map.mp hx
      exact pure_ints r
    refine ix_draw h8 rfl rfl ?_ (by simp) (by simp) (s1.trans s2).pool fun d M' pd s => hq d M' pd ((s1.trans s2).trans s)
    simp [pureL, pureD, pure_app, pr, pl, pure_cut, pure_ints]
end PL
namespace PL
open PySem PySem.Spec PyProof.Rows L2
abbrev sp_law_whole : DSp := sp_is_integer
theorem ok_law_whole {T : Tb} : SpOk T N_law_whole ir_law_whole 1 sp_law_whole := by
  rintro ds M Q E hl ⟨d, rfl, hp, hq⟩
  show wpSs T ir_law_whole _ [some d] M
  unfold ir_law_whole
  cases d <;> first | (simp [pureD] at hp; done) | (simp only [wpSs, wpS, wpE, wpEs, wpEo, wpC, wpT, wpSrc, Rd_val, Rd_new, frz_lst, frz_ins, List.getElem?_cons_zero, List.getElem?_cons_succ, List.set_cons_zero, List.set_cons_succ, kw_nil, bindT, wipeD, List.map_cons, List.map_nil, List.zip_cons_cons, List.zip_nil_right, List.zip_nil_left, List.foldl_cons, List.foldl_nil, o_add, o_adds, o_addt, o_addl, o_sub, o_mul, o_div, o_mod, o_pow, c_lt, c_le, c_gt, c_ge, c_eq, c_ne, c_in, c_ni, c_is, c_isn, e_int, e_str, e_bool, t_bl, t_int, t_lst, t_tup, t_non, f_lent, f_lenl, f_lens, f_lbt, f_lbl, f_lbs, f_inti, f_tupl, f_tupt, f_lstt, f_lstl, f_stri, y_non, y_bl, y_int, y_str, y_tup, y_lst, y_ins, rg_1, rg_2, sq_tup, sq_lst, zp_tup, en_lst, en_tup, aL_lst, sl_t, sl_s, Ty.below, List.any_cons, List.any_nil, subT, Bool.or_false, Bool.not_true, Bool.not_false, true_and, and_true, reduceCtorEq, decide_false, decide_true, Bool.false_eq_true, if_false, if_true, Bool.not_eq_true', Bool.not_not]; exact hq)
theorem fm_empty {f : D → Option D} {l : List D} (h : (l.filterMap f).isEmpty = true) : ∀ x ∈ l, f x = none := by
  intro x hx
  cases e : f x with
  | none => rfl
  | some y =>
    have : y ∈ l.filterMap f := List.mem_filterMap.mpr ⟨x, hx, e⟩
    rw [List.isEmpty_iff] at h
    rw [h] at this
    cases this
theorem fm_some {f : D → Option D} {l : List D} (h : (l.filterMap f).isEmpty = false) : ∃ x ∈ l, f x ≠ none := by
  cases e : l.filterMap f with
  | nil => rw [e] at h; cases h
  | cons y ys =>
    have : y ∈ l.filterMap f := by rw [e]; exact List.mem_cons_self
    obtain ⟨x, hx, hy⟩ := List.mem_filterMap.mp this
    exact ⟨x, hx, by rw [hy]; simp⟩
theorem rises_ints : ∀ {xs : List D} {a b : Int}, risesD xs a b = true → ∀ x ∈ xs, isInt x = true
  | [], _, _, _, x, hx => by cases hx
  | y :: ys, a, b, h, x, hx => by
    unfold risesD at h
    rw [Bool.and_eq_true] at h
    obtain ⟨h1, h2⟩ := h
    cases y <;> try (simp [inFT] at h1; done)
    rcases List.mem_cons.mp hx with rfl | hx
    · rfl
    · exact rises_ints h2 x hx
theorem rises_iff : ∀ (l : List Int) (a b : Int), risesD (l.map D.int) a b = true ↔ (∀ x ∈ l, a ≤ x ∧ x < b) ∧ l.Pairwise (· < ·)
  | [], _, _ => by simp [risesD]
  | y :: l, a, b => by
    rw [List.map_cons]
    unfold risesD
    simp only [inFT, Bool.and_eq_true, decide_eq_true_eq, rises_iff l (y + 1) b, List.pairwise_cons, List.mem_cons, forall_eq_or_imp]
    constructor
    · rintro ⟨⟨h1, h2⟩, h3, h4⟩
      exact ⟨⟨⟨h1, by omega⟩, fun x hx => ⟨by have := (h3 x hx).1; omega, (h3 x hx).2⟩⟩, fun x hx => by have := (h3 x hx).1; omega, h4⟩
    · rintro ⟨⟨⟨h1, h2⟩, h3⟩, h4, h5⟩
      exact ⟨⟨h1, by omega⟩, fun x hx => ⟨by have := h4 x hx; omega, (h3 x hx).2⟩, h5⟩
theorem pw_adj : ∀ l : List Int, (∀ (j : Nat) x y, l[j]? = some x → l[j + 1]? = some y → x < y) → l.Pairwise (· < ·)
  | [], _ => List.Pairwise.nil
  | [x], _ => by simp
  | x :: y :: l, h => by
    have ih := pw_adj (y :: l) fun j u v hu hv => h (j + 1) u v (by simpa using hu) (by simpa using hv)
    have hxy := h 0 x y rfl rfl
    refine List.pairwise_cons.mpr ⟨fun z hz => ?_, ih⟩
    rcases List.mem_cons.mp hz with rfl | hz
    · exact hxy
    · have := (List.pairwise_cons.mp ih).1 z hz
      omega
theorem ints_of : ∀ {xs : List D}, (∀ x ∈ xs, isInt x = true) → ∃ l : List Int, xs = l.map D.int
  | [], _ => ⟨[], rfl⟩
  | x :: xs, h => by
    obtain ⟨l, rfl⟩ := ints_of fun y hy => h y (List.mem_cons_of_mem _ hy)
    have := h x List.mem_cons_self
    cases x <;> try (simp [isInt] at this; done)
    exact ⟨_ :: l, rfl⟩
def sp_law_are_marks : DSp := fun ds M Q _ => ∃ (sizes : List Int) (d : D), ds = [.lst (sizes.map .int), d] ∧ pureD d = true ∧ Q (.val (.bl (marksD sizes d))) M
theorem ok_law_are_marks {T : Tb} (h10 : T.fn 10 = sp_is_integer) : SpOk T N_law_are_marks ir_law_are_marks 2 sp_law_are_marks := by
  rintro ds M Q E hl ⟨sizes, d, rfl, hp, hq⟩
  show wpSs T ir_law_are_marks _ [some (.lst (sizes.map .int)), some d, none, none, none, none] M
  unfold ir_law_are_marks
  have hsz : sizeLine = 16777216 := sizeLine_eq
  cases d <;> first | (simp [pureD] at hp; done) | (simp only [wpSs, wpS, wpE, wpEs, wpEo, wpC, wpT, wpSrc, Rd_val, Rd_new, frz_lst, frz_ins, List.getElem?_cons_zero, List.getElem?_cons_succ, List.set_cons_zero, List.set_cons_succ, kw_nil, bindT, wipeD, List.map_cons, List.map_nil, List.zip_cons_cons, List.zip_nil_right, List.zip_nil_left, List.foldl_cons, List.foldl_nil, o_add, o_adds, o_addt, o_addl, o_sub, o_mul, o_div, o_mod, o_pow, c_lt, c_le, c_gt, c_ge, c_eq, c_ne, c_in, c_ni, c_is, c_isn, e_int, e_str, e_bool, t_bl, t_int, t_lst, t_tup, t_non, f_lent, f_lenl, f_lens, f_lbt, f_lbl, f_lbs, f_inti, f_tupl, f_tupt, f_lstt, f_lstl, f_stri, y_non, y_bl, y_int, y_str, y_tup, y_lst, y_ins, rg_1, rg_2, sq_tup, sq_lst, zp_tup, en_lst, en_tup, aL_lst, sl_t, sl_s, Ty.below, List.any_cons, List.any_nil, subT, Bool.or_false, Bool.not_true, Bool.not_false, true_and, and_true, reduceCtorEq, decide_false, decide_true, Bool.false_eq_true, if_false, if_true, Bool.not_eq_true', Bool.not_not]; exact hq) | skip
  rename_i xs
  simp only [pureD] at hp
  simp only [marksD] at hq
  (rw [wpSs_cons]; simp only [wpSs_nil, wpS, wpE, wpEs, wpEo, wpC, wpT, wpSrc, Rd_val, Rd_new, frz_lst, frz_ins, List.getElem?_cons_zero, List.getElem?_cons_succ, List.set_cons_zero, List.set_cons_succ, kw_nil, bindT, wipeD, List.map_cons, List.map_nil, List.zip_cons_cons, List.zip_nil_right, List.zip_nil_left, List.foldl_cons, List.foldl_nil, o_add, o_adds, o_addt, o_addl, o_sub, o_mul, o_div, o_mod, o_pow, c_lt, c_le, c_gt, c_ge, c_eq, c_ne, c_in, c_ni, c_is, c_isn, e_int, e_str, e_bool, t_bl, t_int, t_lst, t_tup, t_non, f_lent, f_lenl, f_lens, f_lbt, f_lbl, f_lbs, f_inti, f_tupl, f_tupt, f_lstt, f_lstl, f_stri, y_non, y_bl, y_int, y_str, y_tup, y_lst, y_ins, rg_1, rg_2, sq_tup, sq_lst, zp_tup, en_lst, en_tup, aL_lst, sl_t, sl_s, Ty.below, List.any_cons, List.any_nil, subT, Bool.or_false, Bool.not_true, Bool.not_false, true_and, and_true, reduceCtorEq, decide_false, decide_true, Bool.false_eq_true, if_false, if_true, Bool.not_eq_true', Bool.not_not])
  by_cases hlen0 : ¬ xs.length = sizes.length
  · have hlen := hlen0
    rw [if_pos (by simp; omega)]
    rw [marksL_len hlen] at hq
    (rw [wpSs_cons]; simp only [wpSs_nil, wpS, wpE, wpEs, wpEo, wpC, wpT, wpSrc, Rd_val, Rd_new, frz_lst, frz_ins, List.getElem?_cons_zero, List.getElem?_cons_succ, List.set_cons_zero, List.set_cons_succ, kw_nil, bindT, wipeD, List.map_cons, List.map_nil, List.zip_cons_cons, List.zip_nil_right, List.zip_nil_left, List.foldl_cons, List.foldl_nil, o_add, o_adds, o_addt, o_addl, o_sub, o_mul, o_div, o_mod, o_pow, c_lt, c_le, c_gt, c_ge, c_eq, c_ne, c_in, c_ni, c_is, c_isn, e_int, e_str, e_bool, t_bl, t_int, t_lst, t_tup, t_non, f_lent, f_lenl, f_lens, f_lbt, f_lbl, f_lbs, f_inti, f_tupl, f_tupt, f_lstt, f_lstl, f_stri, y_non, y_bl, y_int, y_str, y_tup, y_lst, y_ins, rg_1, rg_2, sq_tup, sq_lst, zp_tup, en_lst, en_tup, aL_lst, sl_t, sl_s, Ty.below, List.any_cons, List.any_nil, subT, Bool.or_false, Bool.not_true, Bool.not_false, true_and, and_true, reduceCtorEq, decide_false, decide_true, Bool.false_eq_true, if_false, if_true, Bool.not_eq_true', Bool.not_not])
    exact hq
  have hlen : xs.length = sizes.length := Classical.not_not.mp hlen0
  rw [if_neg (by simp; omega)]
  (rw [wpSs_cons]; simp only [wpSs_nil, wpS, wpE, wpEs, wpEo, wpC, wpT, wpSrc, Rd_val, Rd_new, frz_lst, frz_ins, List.getElem?_cons_zero, List.getElem?_cons_succ, List.set_cons_zero, List.set_cons_succ, kw_nil, bindT, wipeD, List.map_cons, List.map_nil, List.zip_cons_cons, List.zip_nil_right, List.zip_nil_left, List.foldl_cons, List.foldl_nil, o_add, o_adds, o_addt, o_addl, o_sub, o_mul, o_div, o_mod, o_pow, c_lt, c_le, c_gt, c_ge, c_eq, c_ne, c_in, c_ni, c_is, c_isn, e_int, e_str, e_bool, t_bl, t_int, t_lst, t_tup, t_non, f_lent, f_lenl, f_lens, f_lbt, f_lbl, f_lbs, f_inti, f_tupl, f_tupt, f_lstt, f_lstl, f_stri, y_non, y_bl, y_int, y_str, y_tup, y_lst, y_ins, rg_1, rg_2, sq_tup, sq_lst, zp_tup, en_lst, en_tup, aL_lst, sl_t, sl_s, Ty.below, List.any_cons, List.any_nil, subT, Bool.or_false, Bool.not_true, Bool.not_false, true_and, and_true, reduceCtorEq, decide_false, decide_true, Bool.false_eq_true, if_false, if_true, Bool.not_eq_true', Bool.not_not])
  rw [List.length_map]
  intro hz
  refine ⟨⟨by omega, by omega⟩, ?_⟩
  refine ⟨fun i ρ M' => M' = M ∧ ∃ a b c e, ρ = [some (.lst (sizes.map .int)), some (.tup xs), a, b, c, e] ∧ marksL xs sizes = marksL (xs.drop i) (sizes.drop i), ⟨rfl, none, none, none, none, rfl, rfl⟩, fun _ _ _ _ _ => trivial, ?_, ?_⟩
  rotate_left
  · rintro ρ M' ⟨rfl, a, b, c, e, rfl, hm⟩
    rw [rg_len, List.drop_eq_nil_of_le (by omega), List.drop_eq_nil_of_le (by omega)] at hm
    rw [hm] at hq
    (rw [wpSs_cons]; simp only [wpSs_nil, wpS, wpE, wpEs, wpEo, wpC, wpT, wpSrc, Rd_val, Rd_new, frz_lst, frz_ins, List.getElem?_cons_zero, List.getElem?_cons_succ, List.set_cons_zero, List.set_cons_succ, kw_nil, bindT, wipeD, List.map_cons, List.map_nil, List.zip_cons_cons, List.zip_nil_right, List.zip_nil_left, List.foldl_cons, List.foldl_nil, o_add, o_adds, o_addt, o_addl, o_sub, o_mul, o_div, o_mod, o_pow, c_lt, c_le, c_gt, c_ge, c_eq, c_ne, c_in, c_ni, c_is, c_isn, e_int, e_str, e_bool, t_bl, t_int, t_lst, t_tup, t_non, f_lent, f_lenl, f_lens, f_lbt, f_lbl, f_lbs, f_inti, f_tupl, f_tupt, f_lstt, f_lstl, f_stri, y_non, y_bl, y_int, y_str, y_tup, y_lst, y_ins, rg_1, rg_2, sq_tup, sq_lst, zp_tup, en_lst, en_tup, aL_lst, sl_t, sl_s, Ty.below, List.any_cons, List.any_nil, subT, Bool.or_false, Bool.not_true, Bool.not_false, true_and, and_true, reduceCtorEq, decide_false, decide_true, Bool.false_eq_true, if_false, if_true, Bool.not_eq_true', Bool.not_not])
    exact hq
  rintro i x ρ M' hx ⟨rfl, a, b, c, e, rfl, hm⟩
  obtain ⟨hi, rfl⟩ := rg_get hx
  have hi1 : i < xs.length := by omega
  have hi2 : i < sizes.length := by omega
  have g1 : xs[i]? = some xs[i] := List.getElem?_eq_getElem hi1
  have g2 : sizes[i]? = some sizes[i] := List.getElem?_eq_getElem hi2
  generalize xs[i] = u at g1
  generalize sizes[i] = s at g2
  have pu := pureL_get hp g1
  rw [drop_get g1, drop_get g2, marksL_cons] at hm
  have ei : (0 + (i : Int)) = ((i : Nat) : Int) := by omega
  rw [ei]
  simp only [wpSs_nil, wpS, wpE, wpEs, wpEo, wpC, wpT, wpSrc, Rd_val, Rd_new, frz_lst, frz_ins, List.getElem?_cons_zero, List.getElem?_cons_succ, List.set_cons_zero, List.set_cons_succ, kw_nil, bindT, wipeD, List.map_cons, List.map_nil, List.zip_cons_cons, List.zip_nil_right, List.zip_nil_left, List.foldl_cons, List.foldl_nil, o_add, o_adds, o_addt, o_addl, o_sub, o_mul, o_div, o_mod, o_pow, c_lt, c_le, c_gt, c_ge, c_eq, c_ne, c_in, c_ni, c_is, c_isn, e_int, e_str, e_bool, t_bl, t_int, t_lst, t_tup, t_non, f_lent, f_lenl, f_lens, f_lbt, f_lbl, f_lbs, f_inti, f_tupl, f_tupt, f_lstt, f_lstl, f_stri, y_non, y_bl, y_int, y_str, y_tup, y_lst, y_ins, rg_1, rg_2, sq_tup, sq_lst, zp_tup, en_lst, en_tup, aL_lst, sl_t, sl_s, Ty.below, List.any_cons, List.any_nil, subT, Bool.or_false, Bool.not_true, Bool.not_false, true_and, and_true, reduceCtorEq, decide_false, decide_true, Bool.false_eq_true, if_false, if_true, Bool.not_eq_true', Bool.not_not]
  (rw [wpSs_cons]; simp only [wpSs_nil, wpS, wpE, wpEs, wpEo, wpC, wpT, wpSrc, Rd_val, Rd_new, frz_lst, frz_ins, List.getElem?_cons_zero, List.getElem?_cons_succ, List.set_cons_zero, List.set_cons_succ, kw_nil, bindT, wipeD, List.map_cons, List.map_nil, List.zip_cons_cons, List.zip_nil_right, List.zip_nil_left, List.foldl_cons, List.foldl_nil, o_add, o_adds, o_addt, o_addl, o_sub, o_mul, o_div, o_mod, o_pow, c_lt, c_le, c_gt, c_ge, c_eq, c_ne, c_in, c_ni, c_is, c_isn, e_int, e_str, e_bool, t_bl, t_int, t_lst, t_tup, t_non, f_lent, f_lenl, f_lens, f_lbt, f_lbl, f_lbs, f_inti, f_tupl, f_tupt, f_lstt, f_lstl, f_stri, y_non, y_bl, y_int, y_str, y_tup, y_lst, y_ins, rg_1, rg_2, sq_tup, sq_lst, zp_tup, en_lst, en_tup, aL_lst, sl_t, sl_s, Ty.below, List.any_cons, List.any_nil, subT, Bool.or_false, Bool.not_true, Bool.not_false, true_and, and_true, reduceCtorEq, decide_false, decide_true, Bool.false_eq_true, if_false, if_true, Bool.not_eq_true', Bool.not_not])
  rw [ix_t (at_nat g1)]
  (rw [wpSs_cons]; simp only [wpSs_nil, wpS, wpE, wpEs, wpEo, wpC, wpT, wpSrc, Rd_val, Rd_new, frz_lst, frz_ins, List.getElem?_cons_zero, List.getElem?_cons_succ, List.set_cons_zero, List.set_cons_succ, kw_nil, bindT, wipeD, List.map_cons, List.map_nil, List.zip_cons_cons, List.zip_nil_right, List.zip_nil_left, List.foldl_cons, List.foldl_nil, o_add, o_adds, o_addt, o_addl, o_sub, o_mul, o_div, o_mod, o_pow, c_lt, c_le, c_gt, c_ge, c_eq, c_ne, c_in, c_ni, c_is, c_isn, e_int, e_str, e_bool, t_bl, t_int, t_lst, t_tup, t_non, f_lent, f_lenl, f_lens, f_lbt, f_lbl, f_lbs, f_inti, f_tupl, f_tupt, f_lstt, f_lstl, f_stri, y_non, y_bl, y_int, y_str, y_tup, y_lst, y_ins, rg_1, rg_2, sq_tup, sq_lst, zp_tup, en_lst, en_tup, aL_lst, sl_t, sl_s, Ty.below, List.any_cons, List.any_nil, subT, Bool.or_false, Bool.not_true, Bool.not_false, true_and, and_true, reduceCtorEq, decide_false, decide_true, Bool.false_eq_true, if_false, if_true, Bool.not_eq_true', Bool.not_not])
  have ff : (risingD u s && lenPos u) = false → Q (.val (.bl false)) M' := fun h => by rw [hm, h] at hq; exact hq
  cases u <;> first | (simp [pureD] at pu; done) | (simp only [wpSs_nil, wpS, wpE, wpEs, wpEo, wpC, wpT, wpSrc, Rd_val, Rd_new, frz_lst, frz_ins, List.getElem?_cons_zero, List.getElem?_cons_succ, List.set_cons_zero, List.set_cons_succ, kw_nil, bindT, wipeD, List.map_cons, List.map_nil, List.zip_cons_cons, List.zip_nil_right, List.zip_nil_left, List.foldl_cons, List.foldl_nil, o_add, o_adds, o_addt, o_addl, o_sub, o_mul, o_div, o_mod, o_pow, c_lt, c_le, c_gt, c_ge, c_eq, c_ne, c_in, c_ni, c_is, c_isn, e_int, e_str, e_bool, t_bl, t_int, t_lst, t_tup, t_non, f_lent, f_lenl, f_lens, f_lbt, f_lbl, f_lbs, f_inti, f_tupl, f_tupt, f_lstt, f_lstl, f_stri, y_non, y_bl, y_int, y_str, y_tup, y_lst, y_ins, rg_1, rg_2, sq_tup, sq_lst, zp_tup, en_lst, en_tup, aL_lst, sl_t, sl_s, Ty.below, List.any_cons, List.any_nil, subT, Bool.or_false, Bool.not_true, Bool.not_false, true_and, and_true, reduceCtorEq, decide_false, decide_true, Bool.false_eq_true, if_false, if_true, Bool.not_eq_true', Bool.not_not]; (rw [wpSs_cons]; simp only [wpSs_nil, wpS, wpE, wpEs, wpEo, wpC, wpT, wpSrc, Rd_val, Rd_new, frz_lst, frz_ins, List.getElem?_cons_zero, List.getElem?_cons_succ, List.set_cons_zero, List.set_cons_succ, kw_nil, bindT, wipeD, List.map_cons, List.map_nil, List.zip_cons_cons, List.zip_nil_right, List.zip_nil_left, List.foldl_cons, List.foldl_nil, o_add, o_adds, o_addt, o_addl, o_sub, o_mul, o_div, o_mod, o_pow, c_lt, c_le, c_gt, c_ge, c_eq, c_ne, c_in, c_ni, c_is, c_isn, e_int, e_str, e_bool, t_bl, t_int, t_lst, t_tup, t_non, f_lent, f_lenl, f_lens, f_lbt, f_lbl, f_lbs, f_inti, f_tupl, f_tupt, f_lstt, f_lstl, f_stri, y_non, y_bl, y_int, y_str, y_tup, y_lst, y_ins, rg_1, rg_2, sq_tup, sq_lst, zp_tup, en_lst, en_tup, aL_lst, sl_t, sl_s, Ty.below, List.any_cons, List.any_nil, subT, Bool.or_false, Bool.not_true, Bool.not_false, true_and, and_true, reduceCtorEq, decide_false, decide_true, Bool.false_eq_true, if_false, if_true, Bool.not_eq_true', Bool.not_not]); exact ff rfl) | skip
  rename_i ys
  simp only [pureD] at pu
  simp only [wpSs_nil, wpS, wpE, wpEs, wpEo, wpC, wpT, wpSrc, Rd_val, Rd_new, frz_lst, frz_ins, List.getElem?_cons_zero, List.getElem?_cons_succ, List.set_cons_zero, List.set_cons_succ, kw_nil, bindT, wipeD, List.map_cons, List.map_nil, List.zip_cons_cons, List.zip_nil_right, List.zip_nil_left, List.foldl_cons, List.foldl_nil, o_add, o_adds, o_addt, o_addl, o_sub, o_mul, o_div, o_mod, o_pow, c_lt, c_le, c_gt, c_ge, c_eq, c_ne, c_in, c_ni, c_is, c_isn, e_int, e_str, e_bool, t_bl, t_int, t_lst, t_tup, t_non, f_lent, f_lenl, f_lens, f_lbt, f_lbl, f_lbs, f_inti, f_tupl, f_tupt, f_lstt, f_lstl, f_stri, y_non, y_bl, y_int, y_str, y_tup, y_lst, y_ins, rg_1, rg_2, sq_tup, sq_lst, zp_tup, en_lst, en_tup, aL_lst, sl_t, sl_s, Ty.below, List.any_cons, List.any_nil, subT, Bool.or_false, Bool.not_true, Bool.not_false, true_and, and_true, reduceCtorEq, decide_false, decide_true, Bool.false_eq_true, if_false, if_true, Bool.not_eq_true', Bool.not_not]
  simp only [risingD, lenPos] at ff hm
  by_cases e0 : ys = []
  · subst e0
    rw [if_pos (by simp)]
    (rw [wpSs_cons]; simp only [wpSs_nil, wpS, wpE, wpEs, wpEo, wpC, wpT, wpSrc, Rd_val, Rd_new, frz_lst, frz_ins, List.getElem?_cons_zero, List.getElem?_cons_succ, List.set_cons_zero, List.set_cons_succ, kw_nil, bindT, wipeD, List.map_cons, List.map_nil, List.zip_cons_cons, List.zip_nil_right, List.zip_nil_left, List.foldl_cons, List.foldl_nil, o_add, o_adds, o_addt, o_addl, o_sub, o_mul, o_div, o_mod, o_pow, c_lt, c_le, c_gt, c_ge, c_eq, c_ne, c_in, c_ni, c_is, c_isn, e_int, e_str, e_bool, t_bl, t_int, t_lst, t_tup, t_non, f_lent, f_lenl, f_lens, f_lbt, f_lbl, f_lbs, f_inti, f_tupl, f_tupt, f_lstt, f_lstl, f_stri, y_non, y_bl, y_int, y_str, y_tup, y_lst, y_ins, rg_1, rg_2, sq_tup, sq_lst, zp_tup, en_lst, en_tup, aL_lst, sl_t, sl_s, Ty.below, List.any_cons, List.any_nil, subT, Bool.or_false, Bool.not_true, Bool.not_false, true_and, and_true, reduceCtorEq, decide_false, decide_true, Bool.false_eq_true, if_false, if_true, Bool.not_eq_true', Bool.not_not])
    exact ff rfl
  have hpos : 0 < ys.length := List.length_pos_iff.mpr e0
  have em : (!ys.isEmpty) = true := by cases ys with | nil => exact absurd rfl e0 | cons _ _ => rfl
  rw [em, Bool.and_true] at ff hm
  rw [if_neg (by simp; omega)]
  refine comp_fm (fun x => match isInt x with | true => none | false => some x) trivial ?_ ?_
  · intro j x acc K hx hK
    simp only [wpSs_nil, wpS, wpE, wpEs, wpEo, wpC, wpT, wpSrc, Rd_val, Rd_new, frz_lst, frz_ins, List.getElem?_cons_zero, List.getElem?_cons_succ, List.set_cons_zero, List.set_cons_succ, kw_nil, bindT, wipeD, List.map_cons, List.map_nil, List.zip_cons_cons, List.zip_nil_right, List.zip_nil_left, List.foldl_cons, List.foldl_nil, o_add, o_adds, o_addt, o_addl, o_sub, o_mul, o_div, o_mod, o_pow, c_lt, c_le, c_gt, c_ge, c_eq, c_ne, c_in, c_ni, c_is, c_isn, e_int, e_str, e_bool, t_bl, t_int, t_lst, t_tup, t_non, f_lent, f_lenl, f_lens, f_lbt, f_lbl, f_lbs, f_inti, f_tupl, f_tupt, f_lstt, f_lstl, f_stri, y_non, y_bl, y_int, y_str, y_tup, y_lst, y_ins, rg_1, rg_2, sq_tup, sq_lst, zp_tup, en_lst, en_tup, aL_lst, sl_t, sl_s, Ty.below, List.any_cons, List.any_nil, subT, Bool.or_false, Bool.not_true, Bool.not_false, true_and, and_true, reduceCtorEq, decide_false, decide_true, Bool.false_eq_true, if_false, if_true, Bool.not_eq_true', Bool.not_not]
    rw [h10]
    refine ⟨x, rfl, pureL_get pu hx, ?_⟩
    simp only [wpSs_nil, wpS, wpE, wpEs, wpEo, wpC, wpT, wpSrc, Rd_val, Rd_new, frz_lst, frz_ins, List.getElem?_cons_zero, List.getElem?_cons_succ, List.set_cons_zero, List.set_cons_succ, kw_nil, bindT, wipeD, List.map_cons, List.map_nil, List.zip_cons_cons, List.zip_nil_right, List.zip_nil_left, List.foldl_cons, List.foldl_nil, o_add, o_adds, o_addt, o_addl, o_sub, o_mul, o_div, o_mod, o_pow, c_lt, c_le, c_gt, c_ge, c_eq, c_ne, c_in, c_ni, c_is, c_isn, e_int, e_str, e_bool, t_bl, t_int, t_lst, t_tup, t_non, f_lent, f_lenl, f_lens, f_lbt, f_lbl, f_lbs, f_inti, f_tupl, f_tupt, f_lstt, f_lstl, f_stri, y_non, y_bl, y_int, y_str, y_tup, y_lst, y_ins, rg_1, rg_2, sq_tup, sq_lst, zp_tup, en_lst, en_tup, aL_lst, sl_t, sl_s, Ty.below, List.any_cons, List.any_nil, subT, Bool.or_false, Bool.not_true, Bool.not_false, true_and, and_true, reduceCtorEq, decide_false, decide_true, Bool.false_eq_true, if_false, if_true, Bool.not_eq_true', Bool.not_not]
    cases h : isInt x with
    | true => simp only [h] at hK; simpa using hK
    | false => simp only [h] at hK; simpa using hK
  simp only [Rd_new, frz_lst, t_lst]
  cases he : (ys.filterMap fun x => match isInt x with | true => none | false => some x).isEmpty with
  | false =>
    simp only [wpSs_nil, wpS, wpE, wpEs, wpEo, wpC, wpT, wpSrc, Rd_val, Rd_new, frz_lst, frz_ins, List.getElem?_cons_zero, List.getElem?_cons_succ, List.set_cons_zero, List.set_cons_succ, kw_nil, bindT, wipeD, List.map_cons, List.map_nil, List.zip_cons_cons, List.zip_nil_right, List.zip_nil_left, List.foldl_cons, List.foldl_nil, o_add, o_adds, o_addt, o_addl, o_sub, o_mul, o_div, o_mod, o_pow, c_lt, c_le, c_gt, c_ge, c_eq, c_ne, c_in, c_ni, c_is, c_isn, e_int, e_str, e_bool, t_bl, t_int, t_lst, t_tup, t_non, f_lent, f_lenl, f_lens, f_lbt, f_lbl, f_lbs, f_inti, f_tupl, f_tupt, f_lstt, f_lstl, f_stri, y_non, y_bl, y_int, y_str, y_tup, y_lst, y_ins, rg_1, rg_2, sq_tup, sq_lst, zp_tup, en_lst, en_tup, aL_lst, sl_t, sl_s, Ty.below, List.any_cons, List.any_nil, subT, Bool.or_false, Bool.not_true, Bool.not_false, true_and, and_true, reduceCtorEq, decide_false, decide_true, Bool.false_eq_true, if_false, if_true, Bool.not_eq_true', Bool.not_not]
    (rw [wpSs_cons]; simp only [wpSs_nil, wpS, wpE, wpEs, wpEo, wpC, wpT, wpSrc, Rd_val, Rd_new, frz_lst, frz_ins, List.getElem?_cons_zero, List.getElem?_cons_succ, List.set_cons_zero, List.set_cons_succ, kw_nil, bindT, wipeD, List.map_cons, List.map_nil, List.zip_cons_cons, List.zip_nil_right, List.zip_nil_left, List.foldl_cons, List.foldl_nil, o_add, o_adds, o_addt, o_addl, o_sub, o_mul, o_div, o_mod, o_pow, c_lt, c_le, c_gt, c_ge, c_eq, c_ne, c_in, c_ni, c_is, c_isn, e_int, e_str, e_bool, t_bl, t_int, t_lst, t_tup, t_non, f_lent, f_lenl, f_lens, f_lbt, f_lbl, f_lbs, f_inti, f_tupl, f_tupt, f_lstt, f_lstl, f_stri, y_non, y_bl, y_int, y_str, y_tup, y_lst, y_ins, rg_1, rg_2, sq_tup, sq_lst, zp_tup, en_lst, en_tup, aL_lst, sl_t, sl_s, Ty.below, List.any_cons, List.any_nil, subT, Bool.or_false, Bool.not_true, Bool.not_false, true_and, and_true, reduceCtorEq, decide_false, decide_true, Bool.false_eq_true, if_false, if_true, Bool.not_eq_true', Bool.not_not])
    apply ff
    obtain ⟨x, hx, hn⟩ := fm_some he
    rw [Bool.eq_false_iff]
    intro hr
    have := rises_ints hr x hx
    rw [this] at hn
    exact hn rfl
  | true =>
    obtain ⟨is, rfl⟩ := ints_of (xs := ys) fun x hx => by
      have := fm_empty he x hx
      cases h : isInt x with
      | true => rfl
      | false => rw [h] at this; cases this
    simp only [wpSs_nil, wpS, wpE, wpEs, wpEo, wpC, wpT, wpSrc, Rd_val, Rd_new, frz_lst, frz_ins, List.getElem?_cons_zero, List.getElem?_cons_succ, List.set_cons_zero, List.set_cons_succ, kw_nil, bindT, wipeD, List.map_cons, List.map_nil, List.zip_cons_cons, List.zip_nil_right, List.zip_nil_left, List.foldl_cons, List.foldl_nil, o_add, o_adds, o_addt, o_addl, o_sub, o_mul, o_div, o_mod, o_pow, c_lt, c_le, c_gt, c_ge, c_eq, c_ne, c_in, c_ni, c_is, c_isn, e_int, e_str, e_bool, t_bl, t_int, t_lst, t_tup, t_non, f_lent, f_lenl, f_lens, f_lbt, f_lbl, f_lbs, f_inti, f_tupl, f_tupt, f_lstt, f_lstl, f_stri, y_non, y_bl, y_int, y_str, y_tup, y_lst, y_ins, rg_1, rg_2, sq_tup, sq_lst, zp_tup, en_lst, en_tup, aL_lst, sl_t, sl_s, Ty.below, List.any_cons, List.any_nil, subT, Bool.or_false, Bool.not_true, Bool.not_false, true_and, and_true, reduceCtorEq, decide_false, decide_true, Bool.false_eq_true, if_false, if_true, Bool.not_eq_true', Bool.not_not]
    (rw [wpSs_cons]; simp only [wpSs_nil, wpS, wpE, wpEs, wpEo, wpC, wpT, wpSrc, Rd_val, Rd_new, frz_lst, frz_ins, List.getElem?_cons_zero, List.getElem?_cons_succ, List.set_cons_zero, List.set_cons_succ, kw_nil, bindT, wipeD, List.map_cons, List.map_nil, List.zip_cons_cons, List.zip_nil_right, List.zip_nil_left, List.foldl_cons, List.foldl_nil, o_add, o_adds, o_addt, o_addl, o_sub, o_mul, o_div, o_mod, o_pow, c_lt, c_le, c_gt, c_ge, c_eq, c_ne, c_in, c_ni, c_is, c_isn, e_int, e_str, e_bool, t_bl, t_int, t_lst, t_tup, t_non, f_lent, f_lenl, f_lens, f_lbt, f_lbl, f_lbs, f_inti, f_tupl, f_tupt, f_lstt, f_lstl, f_stri, y_non, y_bl, y_int, y_str, y_tup, y_lst, y_ins, rg_1, rg_2, sq_tup, sq_lst, zp_tup, en_lst, en_tup, aL_lst, sl_t, sl_s, Ty.below, List.any_cons, List.any_nil, subT, Bool.or_false, Bool.not_true, Bool.not_false, true_and, and_true, reduceCtorEq, decide_false, decide_true, Bool.false_eq_true, if_false, if_true, Bool.not_eq_true', Bool.not_not])
    have rr := rises_iff is 0 s
    refine comp_fm (fun x => match x with | .int k => (match decide (k < 0) || decide (s ≤ k) with | true => some (.int k) | false => none) | _ => none) trivial ?_ ?_
    · intro j x acc K hx hK
      obtain ⟨k, _, rfl⟩ := map_get hx
      simp only [wpSs_nil, wpS, wpE, wpEs, wpEo, wpC, wpT, wpSrc, Rd_val, Rd_new, frz_lst, frz_ins, List.getElem?_cons_zero, List.getElem?_cons_succ, List.set_cons_zero, List.set_cons_succ, kw_nil, bindT, wipeD, List.map_cons, List.map_nil, List.zip_cons_cons, List.zip_nil_right, List.zip_nil_left, List.foldl_cons, List.foldl_nil, o_add, o_adds, o_addt, o_addl, o_sub, o_mul, o_div, o_mod, o_pow, c_lt, c_le, c_gt, c_ge, c_eq, c_ne, c_in, c_ni, c_is, c_isn, e_int, e_str, e_bool, t_bl, t_int, t_lst, t_tup, t_non, f_lent, f_lenl, f_lens, f_lbt, f_lbl, f_lbs, f_inti, f_tupl, f_tupt, f_lstt, f_lstl, f_stri, y_non, y_bl, y_int, y_str, y_tup, y_lst, y_ins, rg_1, rg_2, sq_tup, sq_lst, zp_tup, en_lst, en_tup, aL_lst, sl_t, sl_s, Ty.below, List.any_cons, List.any_nil, subT, Bool.or_false, Bool.not_true, Bool.not_false, true_and, and_true, reduceCtorEq, decide_false, decide_true, Bool.false_eq_true, if_false, if_true, Bool.not_eq_true', Bool.not_not]
      by_cases h1 : k < 0
      · simp only [h1, decide_true, Bool.true_or] at hK
        rw [if_pos (by simpa using h1)]
        exact hK
      · rw [if_neg (by simpa using h1), ix_l (d := .int s) (at_nat (by rw [List.getElem?_map, g2]; rfl))]
        simp only [wpSs_nil, wpS, wpE, wpEs, wpEo, wpC, wpT, wpSrc, Rd_val, Rd_new, frz_lst, frz_ins, List.getElem?_cons_zero, List.getElem?_cons_succ, List.set_cons_zero, List.set_cons_succ, kw_nil, bindT, wipeD, List.map_cons, List.map_nil, List.zip_cons_cons, List.zip_nil_right, List.zip_nil_left, List.foldl_cons, List.foldl_nil, o_add, o_adds, o_addt, o_addl, o_sub, o_mul, o_div, o_mod, o_pow, c_lt, c_le, c_gt, c_ge, c_eq, c_ne, c_in, c_ni, c_is, c_isn, e_int, e_str, e_bool, t_bl, t_int, t_lst, t_tup, t_non, f_lent, f_lenl, f_lens, f_lbt, f_lbl, f_lbs, f_inti, f_tupl, f_tupt, f_lstt, f_lstl, f_stri, y_non, y_bl, y_int, y_str, y_tup, y_lst, y_ins, rg_1, rg_2, sq_tup, sq_lst, zp_tup, en_lst, en_tup, aL_lst, sl_t, sl_s, Ty.below, List.any_cons, List.any_nil, subT, Bool.or_false, Bool.not_true, Bool.not_false, true_and, and_true, reduceCtorEq, decide_false, decide_true, Bool.false_eq_true, if_false, if_true, Bool.not_eq_true', Bool.not_not]
        simp only [h1, decide_false, Bool.false_or] at hK
        cases h2 : decide (s ≤ k) with
        | true => rw [h2] at hK; simpa using hK
        | false => rw [h2] at hK; simpa using hK
    simp only [Rd_new, frz_lst, t_lst]
    cases he2 : ((is.map D.int).filterMap fun x => match x with | .int k => (match decide (k < 0) || decide (s ≤ k) with | true => some (D.int k) | false => none) | _ => none).isEmpty with
    | false =>
      simp only [wpSs_nil, wpS, wpE, wpEs, wpEo, wpC, wpT, wpSrc, Rd_val, Rd_new, frz_lst, frz_ins, List.getElem?_cons_zero, List.getElem?_cons_succ, List.set_cons_zero, List.set_cons_succ, kw_nil, bindT, wipeD, List.map_cons, List.map_nil, List.zip_cons_cons, List.zip_nil_right, List.zip_nil_left, List.foldl_cons, List.foldl_nil, o_add, o_adds, o_addt, o_addl, o_sub, o_mul, o_div, o_mod, o_pow, c_lt, c_le, c_gt, c_ge, c_eq, c_ne, c_in, c_ni, c_is, c_isn, e_int, e_str, e_bool, t_bl, t_int, t_lst, t_tup, t_non, f_lent, f_lenl, f_lens, f_lbt, f_lbl, f_lbs, f_inti, f_tupl, f_tupt, f_lstt, f_lstl, f_stri, y_non, y_bl, y_int, y_str, y_tup, y_lst, y_ins, rg_1, rg_2, sq_tup, sq_lst, zp_tup, en_lst, en_tup, aL_lst, sl_t, sl_s, Ty.below, List.any_cons, List.any_nil, subT, Bool.or_false, Bool.not_true, Bool.not_false, true_and, and_true, reduceCtorEq, decide_false, decide_true, Bool.false_eq_true, if_false, if_true, Bool.not_eq_true', Bool.not_not]
      (rw [wpSs_cons]; simp only [wpSs_nil, wpS, wpE, wpEs, wpEo, wpC, wpT, wpSrc, Rd_val, Rd_new, frz_lst, frz_ins, List.getElem?_cons_zero, List.getElem?_cons_succ, List.set_cons_zero, List.set_cons_succ, kw_nil, bindT, wipeD, List.map_cons, List.map_nil, List.zip_cons_cons, List.zip_nil_right, List.zip_nil_left, List.foldl_cons, List.foldl_nil, o_add, o_adds, o_addt, o_addl, o_sub, o_mul, o_div, o_mod, o_pow, c_lt, c_le, c_gt, c_ge, c_eq, c_ne, c_in, c_ni, c_is, c_isn, e_int, e_str, e_bool, t_bl, t_int, t_lst, t_tup, t_non, f_lent, f_lenl, f_lens, f_lbt, f_lbl, f_lbs, f_inti, f_tupl, f_tupt, f_lstt, f_lstl, f_stri, y_non, y_bl, y_int, y_str, y_tup, y_lst, y_ins, rg_1, rg_2, sq_tup, sq_lst, zp_tup, en_lst, en_tup, aL_lst, sl_t, sl_s, Ty.below, List.any_cons, List.any_nil, subT, Bool.or_false, Bool.not_true, Bool.not_false, true_and, and_true, reduceCtorEq, decide_false, decide_true, Bool.false_eq_true, if_false, if_true, Bool.not_eq_true', Bool.not_not])
      apply ff
      obtain ⟨x, hx, hn⟩ := fm_some he2
      obtain ⟨k, hk, rfl⟩ := List.mem_map.mp hx
      rw [Bool.eq_false_iff]
      intro hr
      have := (rr.mp hr).1 k hk
      apply hn
      have q1 : decide (k < 0) = false := by simp; omega
      have q2 : decide (s ≤ k) = false := by simp; omega
      simp only [q1, q2, Bool.or_self]
    | true =>
      have hb : ∀ k ∈ is, 0 ≤ k ∧ k < s := fun k hk => by
        have := fm_empty he2 (.int k) (List.mem_map.mpr ⟨k, hk, rfl⟩)
        cases q : (decide (k < 0) || decide (s ≤ k)) with
        | true => simp only [q] at this; cases this
        | false =>
          rw [Bool.or_eq_false_iff, decide_eq_false_iff_not, decide_eq_false_iff_not] at q
          omega
      simp only [wpSs_nil, wpS, wpE, wpEs, wpEo, wpC, wpT, wpSrc, Rd_val, Rd_new, frz_lst, frz_ins, List.getElem?_cons_zero, List.getElem?_cons_succ, List.set_cons_zero, List.set_cons_succ, kw_nil, bindT, wipeD, List.map_cons, List.map_nil, List.zip_cons_cons, List.zip_nil_right, List.zip_nil_left, List.foldl_cons, List.foldl_nil, o_add, o_adds, o_addt, o_addl, o_sub, o_mul, o_div, o_mod, o_pow, c_lt, c_le, c_gt, c_ge, c_eq, c_ne, c_in, c_ni, c_is, c_isn, e_int, e_str, e_bool, t_bl, t_int, t_lst, t_tup, t_non, f_lent, f_lenl, f_lens, f_lbt, f_lbl, f_lbs, f_inti, f_tupl, f_tupt, f_lstt, f_lstl, f_stri, y_non, y_bl, y_int, y_str, y_tup, y_lst, y_ins, rg_1, rg_2, sq_tup, sq_lst, zp_tup, en_lst, en_tup, aL_lst, sl_t, sl_s, Ty.below, List.any_cons, List.any_nil, subT, Bool.or_false, Bool.not_true, Bool.not_false, true_and, and_true, reduceCtorEq, decide_false, decide_true, Bool.false_eq_true, if_false, if_true, Bool.not_eq_true', Bool.not_not]
      intro hz2
      rw [List.length_map] at hz2 ⊢
      refine ⟨⟨by decide, by decide, by omega, by omega, by omega⟩, ?_⟩
      refine comp_fm (fun x => match x with | .int j => (match is[j.toNat]?, is[j.toNat - 1]? with | some a, some b => (match decide (a ≤ b) with | true => some (.int j) | false => none) | _, _ => none) | _ => none) trivial ?_ ?_
      · intro j x acc K hx hK
        obtain ⟨hj, rfl⟩ := rg_get hx
        have e1 : (1 + (j : Int)) = ((j + 1 : Nat) : Int) := by omega
        rw [e1] at hK ⊢
        have hj1 : j + 1 < is.length := by omega
        have q1 : is[j + 1]? = some is[j + 1] := List.getElem?_eq_getElem hj1
        have q2 : is[j]? = some is[j] := List.getElem?_eq_getElem (by omega)
        generalize is[j + 1] = y1 at q1
        generalize is[j] = y2 at q2
        simp only [wpSs_nil, wpS, wpE, wpEs, wpEo, wpC, wpT, wpSrc, Rd_val, Rd_new, frz_lst, frz_ins, List.getElem?_cons_zero, List.getElem?_cons_succ, List.set_cons_zero, List.set_cons_succ, kw_nil, bindT, wipeD, List.map_cons, List.map_nil, List.zip_cons_cons, List.zip_nil_right, List.zip_nil_left, List.foldl_cons, List.foldl_nil, o_add, o_adds, o_addt, o_addl, o_sub, o_mul, o_div, o_mod, o_pow, c_lt, c_le, c_gt, c_ge, c_eq, c_ne, c_in, c_ni, c_is, c_isn, e_int, e_str, e_bool, t_bl, t_int, t_lst, t_tup, t_non, f_lent, f_lenl, f_lens, f_lbt, f_lbl, f_lbs, f_inti, f_tupl, f_tupt, f_lstt, f_lstl, f_stri, y_non, y_bl, y_int, y_str, y_tup, y_lst, y_ins, rg_1, rg_2, sq_tup, sq_lst, zp_tup, en_lst, en_tup, aL_lst, sl_t, sl_s, Ty.below, List.any_cons, List.any_nil, subT, Bool.or_false, Bool.not_true, Bool.not_false, true_and, and_true, reduceCtorEq, decide_false, decide_true, Bool.false_eq_true, if_false, if_true, Bool.not_eq_true', Bool.not_not]
        have e2 : (((j + 1 : Nat) : Int) - 1) = ((j : Nat) : Int) := by omega
        rw [ix_t (d := .int y1) (at_nat (by rw [List.getElem?_map, q1]; rfl)), e2, ix_t (d := .int y2) (at_nat (by rw [List.getElem?_map, q2]; rfl))]
        simp only [wpSs_nil, wpS, wpE, wpEs, wpEo, wpC, wpT, wpSrc, Rd_val, Rd_new, frz_lst, frz_ins, List.getElem?_cons_zero, List.getElem?_cons_succ, List.set_cons_zero, List.set_cons_succ, kw_nil, bindT, wipeD, List.map_cons, List.map_nil, List.zip_cons_cons, List.zip_nil_right, List.zip_nil_left, List.foldl_cons, List.foldl_nil, o_add, o_adds, o_addt, o_addl, o_sub, o_mul, o_div, o_mod, o_pow, c_lt, c_le, c_gt, c_ge, c_eq, c_ne, c_in, c_ni, c_is, c_isn, e_int, e_str, e_bool, t_bl, t_int, t_lst, t_tup, t_non, f_lent, f_lenl, f_lens, f_lbt, f_lbl, f_lbs, f_inti, f_tupl, f_tupt, f_lstt, f_lstl, f_stri, y_non, y_bl, y_int, y_str, y_tup, y_lst, y_ins, rg_1, rg_2, sq_tup, sq_lst, zp_tup, en_lst, en_tup, aL_lst, sl_t, sl_s, Ty.below, List.any_cons, List.any_nil, subT, Bool.or_false, Bool.not_true, Bool.not_false, true_and, and_true, reduceCtorEq, decide_false, decide_true, Bool.false_eq_true, if_false, if_true, Bool.not_eq_true', Bool.not_not]
        simp only [Int.toNat_natCast, Nat.add_sub_cancel, q1, q2] at hK
        cases h2 : decide (y1 ≤ y2) with
        | true => rw [h2] at hK; simpa using hK
        | false => rw [h2] at hK; simpa using hK
      simp only [Rd_new, frz_lst, t_lst]
      generalize hL : (rangeD 1 (is.length : Nat)).filterMap _ = L
      cases he3 : L.isEmpty with
      | false =>
        simp only [wpSs_nil, wpS, wpE, wpEs, wpEo, wpC, wpT, wpSrc, Rd_val, Rd_new, frz_lst, frz_ins, List.getElem?_cons_zero, List.getElem?_cons_succ, List.set_cons_zero, List.set_cons_succ, kw_nil, bindT, wipeD, List.map_cons, List.map_nil, List.zip_cons_cons, List.zip_nil_right, List.zip_nil_left, List.foldl_cons, List.foldl_nil, o_add, o_adds, o_addt, o_addl, o_sub, o_mul, o_div, o_mod, o_pow, c_lt, c_le, c_gt, c_ge, c_eq, c_ne, c_in, c_ni, c_is, c_isn, e_int, e_str, e_bool, t_bl, t_int, t_lst, t_tup, t_non, f_lent, f_lenl, f_lens, f_lbt, f_lbl, f_lbs, f_inti, f_tupl, f_tupt, f_lstt, f_lstl, f_stri, y_non, y_bl, y_int, y_str, y_tup, y_lst, y_ins, rg_1, rg_2, sq_tup, sq_lst, zp_tup, en_lst, en_tup, aL_lst, sl_t, sl_s, Ty.below, List.any_cons, List.any_nil, subT, Bool.or_false, Bool.not_true, Bool.not_false, true_and, and_true, reduceCtorEq, decide_false, decide_true, Bool.false_eq_true, if_false, if_true, Bool.not_eq_true', Bool.not_not]
        (rw [wpSs_cons]; simp only [wpSs_nil, wpS, wpE, wpEs, wpEo, wpC, wpT, wpSrc, Rd_val, Rd_new, frz_lst, frz_ins, List.getElem?_cons_zero, List.getElem?_cons_succ, List.set_cons_zero, List.set_cons_succ, kw_nil, bindT, wipeD, List.map_cons, List.map_nil, List.zip_cons_cons, List.zip_nil_right, List.zip_nil_left, List.foldl_cons, List.foldl_nil, o_add, o_adds, o_addt, o_addl, o_sub, o_mul, o_div, o_mod, o_pow, c_lt, c_le, c_gt, c_ge, c_eq, c_ne, c_in, c_ni, c_is, c_isn, e_int, e_str, e_bool, t_bl, t_int, t_lst, t_tup, t_non, f_lent, f_lenl, f_lens, f_lbt, f_lbl, f_lbs, f_inti, f_tupl, f_tupt, f_lstt, f_lstl, f_stri, y_non, y_bl, y_int, y_str, y_tup, y_lst, y_ins, rg_1, rg_2, sq_tup, sq_lst, zp_tup, en_lst, en_tup, aL_lst, sl_t, sl_s, Ty.below, List.any_cons, List.any_nil, subT, Bool.or_false, Bool.not_true, Bool.not_false, true_and, and_true, reduceCtorEq, decide_false, decide_true, Bool.false_eq_true, if_false, if_true, Bool.not_eq_true', Bool.not_not])
        apply ff
        rw [← hL] at he3
        obtain ⟨x, hx, hn⟩ := fm_some he3
        obtain ⟨i3, hi3⟩ := List.mem_iff_getElem?.mp hx
        obtain ⟨hj, rfl⟩ := rg_get hi3
        rw [Bool.eq_false_iff]
        intro hr
        apply hn
        have e1 : (1 + (i3 : Int)).toNat = i3 + 1 := by omega
        have hj1 : i3 + 1 < is.length := by omega
        have q1 : is[i3 + 1]? = some is[i3 + 1] := List.getElem?_eq_getElem hj1
        have q2 : is[i3]? = some is[i3] := List.getElem?_eq_getElem (by omega)
        have pw := List.pairwise_iff_getElem.mp (rr.mp hr).2 i3 (i3 + 1) (by omega) hj1 (by omega)
        simp only [e1, Nat.add_sub_cancel, q1, q2]
        have : decide (is[i3 + 1] ≤ is[i3]) = false := by simp; omega
        rw [this]
      | true =>
        have hr : risesD (is.map D.int) 0 s = true := rr.mpr ⟨hb, pw_adj is fun j x y hx hy => by
          rw [← hL] at he3
          have hj1 : j + 1 < is.length := (List.getElem?_eq_some_iff.mp hy).1
          have hm2 : D.int (1 + (j : Nat)) ∈ rangeD 1 (is.length : Nat) := by
            unfold rangeD
            exact List.mem_map.mpr ⟨j, List.mem_range.mpr (by omega), rfl⟩
          have := fm_empty he3 _ hm2
          have e1 : (1 + (j : Int)).toNat = j + 1 := by omega
          simp only [e1, Nat.add_sub_cancel, hx, hy] at this
          cases q : decide (y ≤ x) with
          | true => simp only [q] at this; cases this
          | false => rw [decide_eq_false_iff_not] at q; omega⟩
        simp only [wpSs_nil, wpS, wpE, wpEs, wpEo, wpC, wpT, wpSrc, Rd_val, Rd_new, frz_lst, frz_ins, List.getElem?_cons_zero, List.getElem?_cons_succ, List.set_cons_zero, List.set_cons_succ, kw_nil, bindT, wipeD, List.map_cons, List.map_nil, List.zip_cons_cons, List.zip_nil_right, List.zip_nil_left, List.foldl_cons, List.foldl_nil, o_add, o_adds, o_addt, o_addl, o_sub, o_mul, o_div, o_mod, o_pow, c_lt, c_le, c_gt, c_ge, c_eq, c_ne, c_in, c_ni, c_is, c_isn, e_int, e_str, e_bool, t_bl, t_int, t_lst, t_tup, t_non, f_lent, f_lenl, f_lens, f_lbt, f_lbl, f_lbs, f_inti, f_tupl, f_tupt, f_lstt, f_lstl, f_stri, y_non, y_bl, y_int, y_str, y_tup, y_lst, y_ins, rg_1, rg_2, sq_tup, sq_lst, zp_tup, en_lst, en_tup, aL_lst, sl_t, sl_s, Ty.below, List.any_cons, List.any_nil, subT, Bool.or_false, Bool.not_true, Bool.not_false, true_and, and_true, reduceCtorEq, decide_false, decide_true, Bool.false_eq_true, if_false, if_true, Bool.not_eq_true', Bool.not_not]
        refine ⟨_, _, _, _, rfl, ?_⟩
        rw [hm, hr, Bool.true_and]
end PL
namespace PL
open PySem PySem.Spec PyProof.Rows L2
def one1 (c : Nat) : Str := ⟨#[c]⟩
theorem str_ext {a b : Str} (h : a.cps.toList = b.cps.toList) : a = b := by
  cases a; cases b
  simp only [Str.mk.injEq]
  exact Array.toList_inj.mp h
theorem app_cps (a b : Str) : (a ++ b).cps.toList = a.cps.toList ++ b.cps.toList := by
  show (a.cps ++ b.cps).toList = _
  simp
theorem join_one : ∀ cs : List Nat, (Str.join "" (cs.map one1)).cps.toList = cs
  | [] => rfl
  | [c] => rfl
  | c :: d :: cs => by
    have ih := join_one (d :: cs)
    show ((one1 c ++ ("" : Str) ++ Str.join "" ((d :: cs).map one1)).cps.toList) = _
    rw [app_cps, app_cps, ih]
    rfl
theorem joinT_one (cs : List Nat) : (Txt.join "" (cs.map one1)).cps.toList = cs := by
  have : Txt.join "" (cs.map one1) = Str.join "" (cs.map one1) := StrLaws.glued_eq_join _ _
  rw [this, join_one]
theorem asSs_str : ∀ ss : List Str, asSs (ss.map D.str) = some ss
  | [] => rfl
  | s :: ss => by simp only [List.map_cons, asSs, asSs_str ss]
theorem join_c {cs : List Nat} {M : Mem} {Q : QR} : mtS .join (.str "") [.lst ((cs.map one1).map D.str)] M Q = (((cs.map one1).map Str.length).sum + (cs.map one1).length * ("" : Str).length ≤ 16777216 ∧ Q (.val (.str (Txt.join "" (cs.map one1)))) M) := by
  simp only [mtS, one, strS, optS, asS, asL, asSs_str]
theorem sum_one : ∀ cs : List Nat, ((cs.map one1).map Str.length).sum = cs.length
  | [] => rfl
  | c :: cs => by
    have := sum_one cs
    simp only [List.map_cons, List.sum_cons, List.length_cons] at this ⊢
    rw [this]
    show 1 + _ = _
    omega
theorem in_strs_c {w : Str} {ws : List Str} {M : Mem} {q : Addr} {B : Bool → Prop} (hM : M q = some (.lst (ws.map D.str))) : inS (.str w) (.ref q) M B = B (ws.contains w) := by
  rw [← in_strs (w := w) (ws := ws) (M := M) (B := B)]
  simp only [inS, asS, asL, hM]
abbrev letS : Str := "abcdefghijklmnopqrstuvwxyz"
theorem let_at : ∀ r : Fin 26, atI letS.cps.toList (r.val : Int) = some (97 + r.val) := by decide +kernel
theorem let_ix {r : Int} {M : Mem} {K : D → Prop} (h0 : 0 ≤ r) (h1 : r < 26) : ixS (.str letS) (.int r) M K = (letS.length ≤ sizeLine ∧ K (.str (one1 (97 + r.toNat)))) := by
  have h := let_at ⟨r.toNat, by omega⟩
  simp only [Int.toNat_of_nonneg h0] at h
  simp only [ixS, h]
  rfl
theorem let_len : letS.length ≤ sizeLine := by rw [sizeLine_eq]; decide
theorem cut_pre {w : Str} {a : Int} (h0 : 0 ≤ a) (h1 : a ≤ w.length) : (cutS w none (some a)).cps.toList = w.cps.toList.take a.toNat := by
  unfold cutS
  have e : HT.sIx w.length w.length (some a) = a.toNat := by
    have := HT.sIx_nat w.length w.length a.toNat
    rw [Int.toNat_of_nonneg h0] at this
    rw [this]; omega
  rw [e, HT.sIx_none]
  simp
theorem cut_post {w : Str} {a : Int} (h0 : 0 ≤ a) (h1 : a ≤ w.length) : (cutS w (some a) none).cps.toList = w.cps.toList.drop a.toNat := by
  unfold cutS
  have e : HT.sIx w.length 0 (some a) = a.toNat := by
    have := HT.sIx_nat w.length 0 a.toNat
    rw [Int.toNat_of_nonneg h0] at this
    rw [this]; omega
  rw [e, HT.sIx_none]
  have hl : w.cps.toList.length = w.length := Array.length_toList
  rw [List.take_of_length_le (by rw [List.length_drop, hl]; exact Nat.le_refl _)]
theorem len_cps (w : Str) : w.length = w.cps.toList.length := Array.length_toList.symm
theorem nodup_sub {α : Type} [DecidableEq α] : ∀ (l m : List α), l.Nodup → (∀ x ∈ l, x ∈ m) → l.length ≤ m.length
  | [], _, _, _ => Nat.zero_le _
  | x :: l, m, h, hs => by
    have hx := hs x List.mem_cons_self
    have ih := nodup_sub l (m.erase x) (List.nodup_cons.mp h).2 fun y hy => by
      have ne : y ≠ x := fun e => (List.nodup_cons.mp h).1 (e ▸ hy)
      exact (List.mem_erase_of_ne ne).mpr (hs y (List.mem_cons_of_mem _ hy))
    rw [List.length_erase_of_mem hx] at ih
    have := List.length_pos_of_mem hx
    rw [List.length_cons]
    omega
/-- the word with another letter at a place -/
def cand (w : Str) (a s : Int) : Str := cutS w none (some a) ++ one1 (97 + (s % 26).toNat) ++ cutS w (some (a + 1)) none
theorem cand_cps {w : Str} {a s : Int} (h0 : 0 ≤ a) (h1 : a < w.length) : (cand w a s).cps.toList = w.cps.toList.take a.toNat ++ (97 + (s % 26).toNat) :: w.cps.toList.drop (a.toNat + 1) := by
  unfold cand
  rw [app_cps, app_cps, cut_pre h0 (by omega), cut_post (by omega) (by omega), show (a + 1).toNat = a.toNat + 1 by omega]
  simp [one1]
theorem cand_ok {w : Str} {a s : Int} (h0 : 0 ≤ a) (h1 : a < w.length) (hw : wordOk w = true) : wordOk (cand w a s) = true := by
  have hc := cand_cps (s := s) h0 h1
  have hl := len_cps w
  simp only [wordOk, Bool.and_eq_true, decide_eq_true_eq, List.all_eq_true] at hw ⊢
  obtain ⟨⟨w1, w2⟩, w3⟩ := hw
  have hlen : (cand w a s).length = w.length := by
    rw [len_cps, hc, List.length_append, List.length_take, List.length_cons, List.length_drop]
    omega
  refine ⟨⟨by omega, by omega⟩, fun c hcm => ?_⟩
  rw [hc] at hcm
  rcases List.mem_append.mp hcm with h | h
  · exact w3 c (List.mem_of_mem_take h)
  · rcases List.mem_cons.mp h with rfl | h
    · have : 0 ≤ s % 26 := Int.emod_nonneg _ (by decide)
      have : s % 26 < 26 := Int.emod_lt_of_pos _ (by decide)
      omega
    · exact w3 c (List.mem_of_mem_drop h)
theorem cand_inj {w : Str} {a s t : Int} (h0 : 0 ≤ a) (h1 : a < w.length) (e : cand w a s = cand w a t) : s % 26 = t % 26 := by
  have e1 := cand_cps (s := s) h0 h1
  have e2 := cand_cps (s := t) h0 h1
  rw [e] at e1
  rw [e1] at e2
  have := List.append_cancel_left e2
  have := (List.cons.inj this).1
  have : 0 ≤ s % 26 := Int.emod_nonneg _ (by decide)
  have : 0 ≤ t % 26 := Int.emod_nonneg _ (by decide)
  omega
theorem cand_all {w : Str} {a s : Int} {ws : List Str} (h0 : 0 ≤ a) (h1 : a < w.length) (h : ∀ t : Nat, t < 26 → cand w a (s + t) ∈ ws) : 26 ≤ ws.length := by
  have := nodup_sub ((List.range 26).map fun t : Nat => cand w a (s + t)) ws ?_ ?_
  · simpa using this
  · rw [List.nodup_iff_pairwise_ne, List.pairwise_map]
    refine List.Pairwise.imp_of_mem ?_ List.pairwise_lt_range
    intro x y hx hy hlt e
    have := cand_inj h0 h1 e
    have := List.mem_range.mp hx
    have := List.mem_range.mp hy
    omega
  · intro x hx
    obtain ⟨t, ht, rfl⟩ := List.mem_map.mp hx
    exact h t (List.mem_range.mp ht)

/-- a list of n drawn letters -/
theorem comp_letters {T : Tb} (h8 : T.fn 8 = sp_draw) {p : Addr} {j : Nat} {nm : Str} {n : Int} {ρ : Sd} {M : Mem} {Q : QR} {X : EX} (hp : PoolAt M p) (e0 : ρ[0]? = some (some (.ref p))) (e2 : ρ[2]? = some (some (.str letS))) (e4 : ρ[4]? = some (some (.int n))) (hj : 2 < j) (hn : 0 ≤ n) (hn2 : n ≤ 1000)
    (hq : ∀ (cs : List Nat) M', cs.length = n.toNat → (∀ c ∈ cs, 97 ≤ c ∧ c ≤ 122) → Step p M M' → Q (.new (.lst ((cs.map one1).map D.str))) M') :
    wpE T (.comp (.ix (.var 2) (.call 8 (.cons (.var 0) (.cons (.con (.int 26)) .nil)) [] .nil)) (.name j) (.range (.cons (.var 4) .nil)) .none [(nm, j)]) ρ M Q X := by
  simp only [wpSs_nil, wpS, wpE, wpEs, wpEo, wpC, wpT, wpSrc, Rd_val, Rd_new, frz_lst, frz_ins, List.getElem?_cons_zero, List.getElem?_cons_succ, List.set_cons_zero, List.set_cons_succ, kw_nil, bindT, wipeD, List.map_cons, List.map_nil, List.zip_cons_cons, List.zip_nil_right, List.zip_nil_left, List.foldl_cons, List.foldl_nil, o_add, o_adds, o_addt, o_addl, o_sub, o_mul, o_div, o_mod, o_pow, c_lt, c_le, c_gt, c_ge, c_eq, c_ne, c_in, c_ni, c_is, c_isn, e_int, e_str, e_bool, t_bl, t_int, t_lst, t_tup, t_non, f_lent, f_lenl, f_lens, f_lbt, f_lbl, f_lbs, f_inti, f_tupl, f_tupt, f_lstt, f_lstl, f_stri, y_non, y_bl, y_int, y_str, y_tup, y_lst, y_ins, rg_1, rg_2, sq_tup, sq_lst, zp_tup, en_lst, en_tup, aL_lst, sl_t, sl_s, Ty.below, List.any_cons, List.any_nil, subT, Bool.or_false, Bool.not_true, Bool.not_false, true_and, and_true, reduceCtorEq, decide_false, decide_true, Bool.false_eq_true, if_false, if_true, Bool.not_eq_true', Bool.not_not]
  rw [e4]
  simp only [wpSs_nil, wpS, wpE, wpEs, wpEo, wpC, wpT, wpSrc, Rd_val, Rd_new, frz_lst, frz_ins, List.getElem?_cons_zero, List.getElem?_cons_succ, List.set_cons_zero, List.set_cons_succ, kw_nil, bindT, wipeD, List.map_cons, List.map_nil, List.zip_cons_cons, List.zip_nil_right, List.zip_nil_left, List.foldl_cons, List.foldl_nil, o_add, o_adds, o_addt, o_addl, o_sub, o_mul, o_div, o_mod, o_pow, c_lt, c_le, c_gt, c_ge, c_eq, c_ne, c_in, c_ni, c_is, c_isn, e_int, e_str, e_bool, t_bl, t_int, t_lst, t_tup, t_non, f_lent, f_lenl, f_lens, f_lbt, f_lbl, f_lbs, f_inti, f_tupl, f_tupt, f_lstt, f_lstl, f_stri, y_non, y_bl, y_int, y_str, y_tup, y_lst, y_ins, rg_1, rg_2, sq_tup, sq_lst, zp_tup, en_lst, en_tup, aL_lst, sl_t, sl_s, Ty.below, List.any_cons, List.any_nil, subT, Bool.or_false, Bool.not_true, Bool.not_false, true_and, and_true, reduceCtorEq, decide_false, decide_true, Bool.false_eq_true, if_false, if_true, Bool.not_eq_true', Bool.not_not]
  refine ⟨⟨by omega, by omega⟩, ?_⟩
  refine ⟨fun i acc M' => ∃ cs : List Nat, acc = (cs.map one1).map D.str ∧ cs.length = i ∧ (∀ c ∈ cs, 97 ≤ c ∧ c ≤ 122) ∧ Step p M M', ⟨[], rfl, rfl, by simp, Step.refl hp⟩, fun _ _ _ _ _ => trivial, ?_, ?_⟩
  · rintro i x acc M' hx ⟨cs, rfl, rfl, hc, s1⟩
    have f0 : ((ρ.set j none).set j (some x))[0]? = some (some (.ref p)) := by rw [List.getElem?_set_ne (by omega), List.getElem?_set_ne (by omega)]; exact e0
    have f2 : ((ρ.set j none).set j (some x))[2]? = some (some (.str letS)) := by rw [List.getElem?_set_ne (by omega), List.getElem?_set_ne (by omega)]; exact e2
    simp only [wpSs_nil, wpS, wpE, wpEs, wpEo, wpC, wpT, wpSrc, Rd_val, Rd_new, frz_lst, frz_ins, List.getElem?_cons_zero, List.getElem?_cons_succ, List.set_cons_zero, List.set_cons_succ, kw_nil, bindT, wipeD, List.map_cons, List.map_nil, List.zip_cons_cons, List.zip_nil_right, List.zip_nil_left, List.foldl_cons, List.foldl_nil, o_add, o_adds, o_addt, o_addl, o_sub, o_mul, o_div, o_mod, o_pow, c_lt, c_le, c_gt, c_ge, c_eq, c_ne, c_in, c_ni, c_is, c_isn, e_int, e_str, e_bool, t_bl, t_int, t_lst, t_tup, t_non, f_lent, f_lenl, f_lens, f_lbt, f_lbl, f_lbs, f_inti, f_tupl, f_tupt, f_lstt, f_lstl, f_stri, y_non, y_bl, y_int, y_str, y_tup, y_lst, y_ins, rg_1, rg_2, sq_tup, sq_lst, zp_tup, en_lst, en_tup, aL_lst, sl_t, sl_s, Ty.below, List.any_cons, List.any_nil, subT, Bool.or_false, Bool.not_true, Bool.not_false, true_and, and_true, reduceCtorEq, decide_false, decide_true, Bool.false_eq_true, if_false, if_true, Bool.not_eq_true', Bool.not_not]
    rw [f2]
    simp only [wpSs_nil, wpS, wpE, wpEs, wpEo, wpC, wpT, wpSrc, Rd_val, Rd_new, frz_lst, frz_ins, List.getElem?_cons_zero, List.getElem?_cons_succ, List.set_cons_zero, List.set_cons_succ, kw_nil, bindT, wipeD, List.map_cons, List.map_nil, List.zip_cons_cons, List.zip_nil_right, List.zip_nil_left, List.foldl_cons, List.foldl_nil, o_add, o_adds, o_addt, o_addl, o_sub, o_mul, o_div, o_mod, o_pow, c_lt, c_le, c_gt, c_ge, c_eq, c_ne, c_in, c_ni, c_is, c_isn, e_int, e_str, e_bool, t_bl, t_int, t_lst, t_tup, t_non, f_lent, f_lenl, f_lens, f_lbt, f_lbl, f_lbs, f_inti, f_tupl, f_tupt, f_lstt, f_lstl, f_stri, y_non, y_bl, y_int, y_str, y_tup, y_lst, y_ins, rg_1, rg_2, sq_tup, sq_lst, zp_tup, en_lst, en_tup, aL_lst, sl_t, sl_s, Ty.below, List.any_cons, List.any_nil, subT, Bool.or_false, Bool.not_true, Bool.not_false, true_and, and_true, reduceCtorEq, decide_false, decide_true, Bool.false_eq_true, if_false, if_true, Bool.not_eq_true', Bool.not_not]
    rw [f0]
    simp only [wpSs_nil, wpS, wpE, wpEs, wpEo, wpC, wpT, wpSrc, Rd_val, Rd_new, frz_lst, frz_ins, List.getElem?_cons_zero, List.getElem?_cons_succ, List.set_cons_zero, List.set_cons_succ, kw_nil, bindT, wipeD, List.map_cons, List.map_nil, List.zip_cons_cons, List.zip_nil_right, List.zip_nil_left, List.foldl_cons, List.foldl_nil, o_add, o_adds, o_addt, o_addl, o_sub, o_mul, o_div, o_mod, o_pow, c_lt, c_le, c_gt, c_ge, c_eq, c_ne, c_in, c_ni, c_is, c_isn, e_int, e_str, e_bool, t_bl, t_int, t_lst, t_tup, t_non, f_lent, f_lenl, f_lens, f_lbt, f_lbl, f_lbs, f_inti, f_tupl, f_tupt, f_lstt, f_lstl, f_stri, y_non, y_bl, y_int, y_str, y_tup, y_lst, y_ins, rg_1, rg_2, sq_tup, sq_lst, zp_tup, en_lst, en_tup, aL_lst, sl_t, sl_s, Ty.below, List.any_cons, List.any_nil, subT, Bool.or_false, Bool.not_true, Bool.not_false, true_and, and_true, reduceCtorEq, decide_false, decide_true, Bool.false_eq_true, if_false, if_true, Bool.not_eq_true', Bool.not_not]
    rw [h8]
    refine ⟨p, 26, rfl, by decide, by decide, s1.pool, fun r M'' r0 r1 s2 => ?_⟩
    simp only [wpSs_nil, wpS, wpE, wpEs, wpEo, wpC, wpT, wpSrc, Rd_val, Rd_new, frz_lst, frz_ins, List.getElem?_cons_zero, List.getElem?_cons_succ, List.set_cons_zero, List.set_cons_succ, kw_nil, bindT, wipeD, List.map_cons, List.map_nil, List.zip_cons_cons, List.zip_nil_right, List.zip_nil_left, List.foldl_cons, List.foldl_nil, o_add, o_adds, o_addt, o_addl, o_sub, o_mul, o_div, o_mod, o_pow, c_lt, c_le, c_gt, c_ge, c_eq, c_ne, c_in, c_ni, c_is, c_isn, e_int, e_str, e_bool, t_bl, t_int, t_lst, t_tup, t_non, f_lent, f_lenl, f_lens, f_lbt, f_lbl, f_lbs, f_inti, f_tupl, f_tupt, f_lstt, f_lstl, f_stri, y_non, y_bl, y_int, y_str, y_tup, y_lst, y_ins, rg_1, rg_2, sq_tup, sq_lst, zp_tup, en_lst, en_tup, aL_lst, sl_t, sl_s, Ty.below, List.any_cons, List.any_nil, subT, Bool.or_false, Bool.not_true, Bool.not_false, true_and, and_true, reduceCtorEq, decide_false, decide_true, Bool.false_eq_true, if_false, if_true, Bool.not_eq_true', Bool.not_not]
    rw [let_ix r0 r1]
    refine ⟨let_len, cs ++ [97 + r.toNat], by simp, by simp, fun c hcm => ?_, s1.trans s2⟩
    rcases List.mem_append.mp hcm with h | h
    · exact hc c h
    · rw [List.mem_singleton] at h; subst h; omega
  · rintro acc M' ⟨cs, rfl, hl, hc, s1⟩
    exact hq cs M' (by rw [hl, rg_len]; omega) hc s1
theorem word_ok {cs : List Nat} (h1 : 1 ≤ cs.length) (h2 : cs.length ≤ 12) (hc : ∀ c ∈ cs, 97 ≤ c ∧ c ≤ 122) : wordOk (Txt.join "" (cs.map one1)) = true ∧ (Txt.join "" (cs.map one1)).length = cs.length := by
  have e := joinT_one cs
  have l : (Txt.join "" (cs.map one1)).length = cs.length := by rw [len_cps, e]
  refine ⟨?_, l⟩
  simp only [wordOk, Bool.and_eq_true, decide_eq_true_eq, List.all_eq_true, l, e]
  exact ⟨⟨h1, h2⟩, hc⟩
def sp_law_words : DSp := fun ds M Q _ => ∃ (p : Addr) (n : Int), ds = [.ref p, .int n] ∧ 0 ≤ n ∧ n ≤ 6 ∧ PoolAt M p ∧
  ∀ (ws : List Str) M', (ws.length : Int) = n → ws.Nodup → (∀ w ∈ ws, wordOk w = true) → Step p M M' → Q (.val (.lst (ws.map .str))) M'
def wtail : Ss := (.cons (.set 10 (.var 5))
   (.cons (.for_ (.name 11) (.range (.cons (.con (.int 26)) .nil))
    (.cons (.set 10 (.op .Add (.op .Add (.slice (.var 5) .none (.some (.var 6))) (.ix (.var 2) (.op .Mod (.fn .int (.cons (.op .Add (.op .Add (.var 7) (.op .Mult (.con (.int 7)) (.var 9))) (.var 11)) .nil)) (.con (.int 26))))) (.slice (.var 5) (.some (.op .Add (.var 6) (.con (.int 1)))) .none)))
    (.cons (.ite (.val (.cmp .NotIn (.var 10) (.var 8)))
     (.cons (.brk)
     .nil)
     .nil)
    .nil)))
   (.cons (.expr (.mt .append (.var 8) (.cons (.var 10) .nil)))
   .nil)))
theorem ok_wtail {T : Tb} {D0 : DEnds} {p q : Addr} {n alike a shift : Int} {w : Str} {i : Nat} {ws : List Str} {M : Mem} {sz nw tn j : Option D} (wk : wordOk w = true) (a0 : 0 ≤ a) (a1 : a < w.length) (hl : ws.length < 26) (f0 : 0 ≤ shift) (f1 : shift < 26) (hi : i < 6) (hM : M q = some (.lst (ws.map D.str)))
    (hnx : ∀ (w' : Str) tn', wordOk w' = true → w' ∉ ws → D0.nx [some (.ref p), some (.int n), some (.str letS), some (.int alike), sz, some (.str w), some (.int a), some (.int shift), some (.ref q), some (.int (i : Nat)), some (.str w'), tn', j] (mput M q (.lst ((ws ++ [w']).map D.str)))) :
    wpSs T wtail D0 [some (.ref p), some (.int n), some (.str letS), some (.int alike), sz, some (.str w), some (.int a), some (.int shift), some (.ref q), some (.int (i : Nat)), nw, tn, j] M := by
  have hs : sizeLine = 16777216 := sizeLine_eq
  have lw : w.length ≤ 12 := by
    simp only [wordOk, Bool.and_eq_true, decide_eq_true_eq] at wk
    exact wk.1.2
  have lc := len_cps w
  have cl : ∀ {lo hi : Option Int}, (cutS w lo hi).length ≤ w.length := fun {lo hi} => by
    rw [len_cps (cutS w lo hi), lc]
    unfold cutS
    simp only [List.length_take, List.length_drop]
    omega
  unfold wtail
  (rw [wpSs_cons]; simp only [wpSs_nil, wpS, wpE, wpEs, wpEo, wpC, wpT, wpSrc, Rd_val, Rd_new, frz_lst, frz_ins, List.getElem?_cons_zero, List.getElem?_cons_succ, List.set_cons_zero, List.set_cons_succ, kw_nil, bindT, wipeD, List.map_cons, List.map_nil, List.zip_cons_cons, List.zip_nil_right, List.zip_nil_left, List.foldl_cons, List.foldl_nil, o_add, o_adds, o_addt, o_addl, o_sub, o_mul, o_div, o_mod, o_pow, c_lt, c_le, c_gt, c_ge, c_eq, c_ne, c_in, c_ni, c_is, c_isn, e_int, e_str, e_bool, t_bl, t_int, t_lst, t_tup, t_non, f_lent, f_lenl, f_lens, f_lbt, f_lbl, f_lbs, f_inti, f_tupl, f_tupt, f_lstt, f_lstl, f_stri, y_non, y_bl, y_int, y_str, y_tup, y_lst, y_ins, rg_1, rg_2, sq_tup, sq_lst, zp_tup, en_lst, en_tup, aL_lst, sl_t, sl_s, Ty.below, List.any_cons, List.any_nil, subT, Bool.or_false, Bool.not_true, Bool.not_false, true_and, and_true, reduceCtorEq, decide_false, decide_true, Bool.false_eq_true, if_false, if_true, Bool.not_eq_true', Bool.not_not])
  (rw [wpSs_cons]; simp only [wpSs_nil, wpS, wpE, wpEs, wpEo, wpC, wpT, wpSrc, Rd_val, Rd_new, frz_lst, frz_ins, List.getElem?_cons_zero, List.getElem?_cons_succ, List.set_cons_zero, List.set_cons_succ, kw_nil, bindT, wipeD, List.map_cons, List.map_nil, List.zip_cons_cons, List.zip_nil_right, List.zip_nil_left, List.foldl_cons, List.foldl_nil, o_add, o_adds, o_addt, o_addl, o_sub, o_mul, o_div, o_mod, o_pow, c_lt, c_le, c_gt, c_ge, c_eq, c_ne, c_in, c_ni, c_is, c_isn, e_int, e_str, e_bool, t_bl, t_int, t_lst, t_tup, t_non, f_lent, f_lenl, f_lens, f_lbt, f_lbl, f_lbs, f_inti, f_tupl, f_tupt, f_lstt, f_lstl, f_stri, y_non, y_bl, y_int, y_str, y_tup, y_lst, y_ins, rg_1, rg_2, sq_tup, sq_lst, zp_tup, en_lst, en_tup, aL_lst, sl_t, sl_s, Ty.below, List.any_cons, List.any_nil, subT, Bool.or_false, Bool.not_true, Bool.not_false, true_and, and_true, reduceCtorEq, decide_false, decide_true, Bool.false_eq_true, if_false, if_true, Bool.not_eq_true', Bool.not_not])
  refine ⟨⟨by decide, by decide⟩, ?_⟩
  refine ⟨fun t ρ M2 => M2 = M ∧ ∃ (nw tn : Option D), ρ = [some (.ref p), some (.int n), some (.str letS), some (.int alike), sz, some (.str w), some (.int a), some (.int shift), some (.ref q), some (.int (i : Nat)), nw, tn, j] ∧ ∀ s : Nat, s < t → cand w a (shift + 7 * i + s) ∈ ws, ⟨rfl, _, _, rfl, by omega⟩, fun _ _ _ _ _ => trivial, ?_, ?_⟩
  · rintro t x ρ M2 hx ⟨rfl, nw, tn, rfl, hc⟩
    obtain ⟨ht, rfl⟩ := rg_get hx
    simp only [wpSs_nil, wpS, wpE, wpEs, wpEo, wpC, wpT, wpSrc, Rd_val, Rd_new, frz_lst, frz_ins, List.getElem?_cons_zero, List.getElem?_cons_succ, List.set_cons_zero, List.set_cons_succ, kw_nil, bindT, wipeD, List.map_cons, List.map_nil, List.zip_cons_cons, List.zip_nil_right, List.zip_nil_left, List.foldl_cons, List.foldl_nil, o_add, o_adds, o_addt, o_addl, o_sub, o_mul, o_div, o_mod, o_pow, c_lt, c_le, c_gt, c_ge, c_eq, c_ne, c_in, c_ni, c_is, c_isn, e_int, e_str, e_bool, t_bl, t_int, t_lst, t_tup, t_non, f_lent, f_lenl, f_lens, f_lbt, f_lbl, f_lbs, f_inti, f_tupl, f_tupt, f_lstt, f_lstl, f_stri, y_non, y_bl, y_int, y_str, y_tup, y_lst, y_ins, rg_1, rg_2, sq_tup, sq_lst, zp_tup, en_lst, en_tup, aL_lst, sl_t, sl_s, Ty.below, List.any_cons, List.any_nil, subT, Bool.or_false, Bool.not_true, Bool.not_false, true_and, and_true, reduceCtorEq, decide_false, decide_true, Bool.false_eq_true, if_false, if_true, Bool.not_eq_true', Bool.not_not]
    (rw [wpSs_cons]; simp only [wpSs_nil, wpS, wpE, wpEs, wpEo, wpC, wpT, wpSrc, Rd_val, Rd_new, frz_lst, frz_ins, List.getElem?_cons_zero, List.getElem?_cons_succ, List.set_cons_zero, List.set_cons_succ, kw_nil, bindT, wipeD, List.map_cons, List.map_nil, List.zip_cons_cons, List.zip_nil_right, List.zip_nil_left, List.foldl_cons, List.foldl_nil, o_add, o_adds, o_addt, o_addl, o_sub, o_mul, o_div, o_mod, o_pow, c_lt, c_le, c_gt, c_ge, c_eq, c_ne, c_in, c_ni, c_is, c_isn, e_int, e_str, e_bool, t_bl, t_int, t_lst, t_tup, t_non, f_lent, f_lenl, f_lens, f_lbt, f_lbl, f_lbs, f_inti, f_tupl, f_tupt, f_lstt, f_lstl, f_stri, y_non, y_bl, y_int, y_str, y_tup, y_lst, y_ins, rg_1, rg_2, sq_tup, sq_lst, zp_tup, en_lst, en_tup, aL_lst, sl_t, sl_s, Ty.below, List.any_cons, List.any_nil, subT, Bool.or_false, Bool.not_true, Bool.not_false, true_and, and_true, reduceCtorEq, decide_false, decide_true, Bool.false_eq_true, if_false, if_true, Bool.not_eq_true', Bool.not_not])
    have m0 : 0 ≤ (shift + 7 * i + (0 + t)) % 26 := Int.emod_nonneg _ (by decide)
    have m1 : (shift + 7 * i + (0 + t)) % 26 < 26 := Int.emod_lt_of_pos _ (by decide)
    refine ⟨by omega, ?_⟩
    have lg : (7 : Int).natAbs.log2 + ((i : Nat) : Int).natAbs.log2 < 1000000 := by
      have := log_small (s := (i : Nat)) (by omega) (by omega)
      have : (7 : Int).natAbs.log2 = 2 := by decide
      omega
    refine ⟨lg, by decide, ?_⟩
    rw [let_ix m0 m1]
    refine ⟨let_len, ?_⟩
    simp only [wpSs_nil, wpS, wpE, wpEs, wpEo, wpC, wpT, wpSrc, Rd_val, Rd_new, frz_lst, frz_ins, List.getElem?_cons_zero, List.getElem?_cons_succ, List.set_cons_zero, List.set_cons_succ, kw_nil, bindT, wipeD, List.map_cons, List.map_nil, List.zip_cons_cons, List.zip_nil_right, List.zip_nil_left, List.foldl_cons, List.foldl_nil, o_add, o_adds, o_addt, o_addl, o_sub, o_mul, o_div, o_mod, o_pow, c_lt, c_le, c_gt, c_ge, c_eq, c_ne, c_in, c_ni, c_is, c_isn, e_int, e_str, e_bool, t_bl, t_int, t_lst, t_tup, t_non, f_lent, f_lenl, f_lens, f_lbt, f_lbl, f_lbs, f_inti, f_tupl, f_tupt, f_lstt, f_lstl, f_stri, y_non, y_bl, y_int, y_str, y_tup, y_lst, y_ins, rg_1, rg_2, sq_tup, sq_lst, zp_tup, en_lst, en_tup, aL_lst, sl_t, sl_s, Ty.below, List.any_cons, List.any_nil, subT, Bool.or_false, Bool.not_true, Bool.not_false, true_and, and_true, reduceCtorEq, decide_false, decide_true, Bool.false_eq_true, if_false, if_true, Bool.not_eq_true', Bool.not_not]
    have l1 : (one1 (97 + ((shift + 7 * i + (0 + t)) % 26).toNat)).length = 1 := rfl
    have c1 := cl (lo := none) (hi := some a)
    have c2 := cl (lo := some (a + 1)) (hi := none)
    refine ⟨by omega, by omega, ?_⟩
    have la : ∀ x y : Str, (x ++ y).length = x.length + y.length := fun x y => by rw [len_cps, app_cps, List.length_append, ← len_cps, ← len_cps]
    refine ⟨by rw [la]; omega, ?_⟩
    have ec : cutS w none (some a) ++ one1 (97 + ((shift + 7 * i + (0 + t)) % 26).toNat) ++ cutS w (some (a + 1)) none = cand w a (shift + 7 * i + t) := by
      unfold cand
      rw [show (0 + (t : Int)) = t by omega]
    rw [ec]
    (rw [wpSs_cons]; simp only [wpSs_nil, wpS, wpE, wpEs, wpEo, wpC, wpT, wpSrc, Rd_val, Rd_new, frz_lst, frz_ins, List.getElem?_cons_zero, List.getElem?_cons_succ, List.set_cons_zero, List.set_cons_succ, kw_nil, bindT, wipeD, List.map_cons, List.map_nil, List.zip_cons_cons, List.zip_nil_right, List.zip_nil_left, List.foldl_cons, List.foldl_nil, o_add, o_adds, o_addt, o_addl, o_sub, o_mul, o_div, o_mod, o_pow, c_lt, c_le, c_gt, c_ge, c_eq, c_ne, c_in, c_ni, c_is, c_isn, e_int, e_str, e_bool, t_bl, t_int, t_lst, t_tup, t_non, f_lent, f_lenl, f_lens, f_lbt, f_lbl, f_lbs, f_inti, f_tupl, f_tupt, f_lstt, f_lstl, f_stri, y_non, y_bl, y_int, y_str, y_tup, y_lst, y_ins, rg_1, rg_2, sq_tup, sq_lst, zp_tup, en_lst, en_tup, aL_lst, sl_t, sl_s, Ty.below, List.any_cons, List.any_nil, subT, Bool.or_false, Bool.not_true, Bool.not_false, true_and, and_true, reduceCtorEq, decide_false, decide_true, Bool.false_eq_true, if_false, if_true, Bool.not_eq_true', Bool.not_not])
    rw [in_strs_c hM]
    cases h : ws.contains (cand w a (shift + 7 * i + t)) with
    | true =>
      simp only [wpSs_nil, wpS, wpE, wpEs, wpEo, wpC, wpT, wpSrc, Rd_val, Rd_new, frz_lst, frz_ins, List.getElem?_cons_zero, List.getElem?_cons_succ, List.set_cons_zero, List.set_cons_succ, kw_nil, bindT, wipeD, List.map_cons, List.map_nil, List.zip_cons_cons, List.zip_nil_right, List.zip_nil_left, List.foldl_cons, List.foldl_nil, o_add, o_adds, o_addt, o_addl, o_sub, o_mul, o_div, o_mod, o_pow, c_lt, c_le, c_gt, c_ge, c_eq, c_ne, c_in, c_ni, c_is, c_isn, e_int, e_str, e_bool, t_bl, t_int, t_lst, t_tup, t_non, f_lent, f_lenl, f_lens, f_lbt, f_lbl, f_lbs, f_inti, f_tupl, f_tupt, f_lstt, f_lstl, f_stri, y_non, y_bl, y_int, y_str, y_tup, y_lst, y_ins, rg_1, rg_2, sq_tup, sq_lst, zp_tup, en_lst, en_tup, aL_lst, sl_t, sl_s, Ty.below, List.any_cons, List.any_nil, subT, Bool.or_false, Bool.not_true, Bool.not_false, true_and, and_true, reduceCtorEq, decide_false, decide_true, Bool.false_eq_true, if_false, if_true, Bool.not_eq_true', Bool.not_not]
      refine ⟨_, _, rfl, fun s hs' => ?_⟩
      by_cases e : s = t
      · subst e; simpa using h
      · exact hc s (by omega)
    | false =>
      simp only [wpSs_nil, wpS, wpE, wpEs, wpEo, wpC, wpT, wpSrc, Rd_val, Rd_new, frz_lst, frz_ins, List.getElem?_cons_zero, List.getElem?_cons_succ, List.set_cons_zero, List.set_cons_succ, kw_nil, bindT, wipeD, List.map_cons, List.map_nil, List.zip_cons_cons, List.zip_nil_right, List.zip_nil_left, List.foldl_cons, List.foldl_nil, o_add, o_adds, o_addt, o_addl, o_sub, o_mul, o_div, o_mod, o_pow, c_lt, c_le, c_gt, c_ge, c_eq, c_ne, c_in, c_ni, c_is, c_isn, e_int, e_str, e_bool, t_bl, t_int, t_lst, t_tup, t_non, f_lent, f_lenl, f_lens, f_lbt, f_lbl, f_lbs, f_inti, f_tupl, f_tupt, f_lstt, f_lstl, f_stri, y_non, y_bl, y_int, y_str, y_tup, y_lst, y_ins, rg_1, rg_2, sq_tup, sq_lst, zp_tup, en_lst, en_tup, aL_lst, sl_t, sl_s, Ty.below, List.any_cons, List.any_nil, subT, Bool.or_false, Bool.not_true, Bool.not_false, true_and, and_true, reduceCtorEq, decide_false, decide_true, Bool.false_eq_true, if_false, if_true, Bool.not_eq_true', Bool.not_not]
      (rw [wpSs_cons]; simp only [wpSs_nil, wpS, wpE, wpEs, wpEo, wpC, wpT, wpSrc, Rd_val, Rd_new, frz_lst, frz_ins, List.getElem?_cons_zero, List.getElem?_cons_succ, List.set_cons_zero, List.set_cons_succ, kw_nil, bindT, wipeD, List.map_cons, List.map_nil, List.zip_cons_cons, List.zip_nil_right, List.zip_nil_left, List.foldl_cons, List.foldl_nil, o_add, o_adds, o_addt, o_addl, o_sub, o_mul, o_div, o_mod, o_pow, c_lt, c_le, c_gt, c_ge, c_eq, c_ne, c_in, c_ni, c_is, c_isn, e_int, e_str, e_bool, t_bl, t_int, t_lst, t_tup, t_non, f_lent, f_lenl, f_lens, f_lbt, f_lbl, f_lbs, f_inti, f_tupl, f_tupt, f_lstt, f_lstl, f_stri, y_non, y_bl, y_int, y_str, y_tup, y_lst, y_ins, rg_1, rg_2, sq_tup, sq_lst, zp_tup, en_lst, en_tup, aL_lst, sl_t, sl_s, Ty.below, List.any_cons, List.any_nil, subT, Bool.or_false, Bool.not_true, Bool.not_false, true_and, and_true, reduceCtorEq, decide_false, decide_true, Bool.false_eq_true, if_false, if_true, Bool.not_eq_true', Bool.not_not])
      (rw [wpSs_cons]; simp only [wpSs_nil, wpS, wpE, wpEs, wpEo, wpC, wpT, wpSrc, Rd_val, Rd_new, frz_lst, frz_ins, List.getElem?_cons_zero, List.getElem?_cons_succ, List.set_cons_zero, List.set_cons_succ, kw_nil, bindT, wipeD, List.map_cons, List.map_nil, List.zip_cons_cons, List.zip_nil_right, List.zip_nil_left, List.foldl_cons, List.foldl_nil, o_add, o_adds, o_addt, o_addl, o_sub, o_mul, o_div, o_mod, o_pow, c_lt, c_le, c_gt, c_ge, c_eq, c_ne, c_in, c_ni, c_is, c_isn, e_int, e_str, e_bool, t_bl, t_int, t_lst, t_tup, t_non, f_lent, f_lenl, f_lens, f_lbt, f_lbl, f_lbs, f_inti, f_tupl, f_tupt, f_lstt, f_lstl, f_stri, y_non, y_bl, y_int, y_str, y_tup, y_lst, y_ins, rg_1, rg_2, sq_tup, sq_lst, zp_tup, en_lst, en_tup, aL_lst, sl_t, sl_s, Ty.below, List.any_cons, List.any_nil, subT, Bool.or_false, Bool.not_true, Bool.not_false, true_and, and_true, reduceCtorEq, decide_false, decide_true, Bool.false_eq_true, if_false, if_true, Bool.not_eq_true', Bool.not_not])
      refine ⟨ty_c hM (by simp), ?_⟩
      rw [app_c hM]
      refine ⟨by rw [List.length_map]; omega, ?_⟩
      have hni : cand w a (shift + 7 * i + t) ∉ ws := by
        intro hm
        have : ws.contains (cand w a (shift + 7 * i + t)) = true := by simpa using hm
        rw [h] at this; cases this
      have := hnx (cand w a (shift + 7 * i + t)) (some (.int (0 + (t : Nat)))) (cand_ok a0 a1 wk) hni
      rw [List.map_append] at this
      exact this
  · rintro ρ M2 ⟨rfl, nw, tn, rfl, hc⟩
    have := cand_all (s := shift + 7 * i) a0 a1 (ws := ws) fun t ht => hc t (by rw [rg_len]; omega)
    omega
/-- the drawing of a word, in the loop or ahead of it -/
theorem ok_law_words {T : Tb} (h8 : T.fn 8 = sp_draw) : SpOk T N_law_words ir_law_words 2 sp_law_words := by
  rintro ds M Q E hl ⟨p, n, rfl, n0, n6, hp, hq⟩
  show wpSs T ir_law_words _ [some (.ref p), some (.int n), none, none, none, none, none, none, none, none, none, none, none] M
  unfold ir_law_words
  have hs : sizeLine = 16777216 := sizeLine_eq
  (rw [wpSs_cons]; simp only [wpSs_nil, wpS, wpE, wpEs, wpEo, wpC, wpT, wpSrc, Rd_val, Rd_new, frz_lst, frz_ins, List.getElem?_cons_zero, List.getElem?_cons_succ, List.set_cons_zero, List.set_cons_succ, kw_nil, bindT, wipeD, List.map_cons, List.map_nil, List.zip_cons_cons, List.zip_nil_right, List.zip_nil_left, List.foldl_cons, List.foldl_nil, o_add, o_adds, o_addt, o_addl, o_sub, o_mul, o_div, o_mod, o_pow, c_lt, c_le, c_gt, c_ge, c_eq, c_ne, c_in, c_ni, c_is, c_isn, e_int, e_str, e_bool, t_bl, t_int, t_lst, t_tup, t_non, f_lent, f_lenl, f_lens, f_lbt, f_lbl, f_lbs, f_inti, f_tupl, f_tupt, f_lstt, f_lstl, f_stri, y_non, y_bl, y_int, y_str, y_tup, y_lst, y_ins, rg_1, rg_2, sq_tup, sq_lst, zp_tup, en_lst, en_tup, aL_lst, sl_t, sl_s, Ty.below, List.any_cons, List.any_nil, subT, Bool.or_false, Bool.not_true, Bool.not_false, true_and, and_true, reduceCtorEq, decide_false, decide_true, Bool.false_eq_true, if_false, if_true, Bool.not_eq_true', Bool.not_not])
  (rw [wpSs_cons]; simp only [wpSs_nil, wpS, wpE, wpEs, wpEo, wpC, wpT, wpSrc, Rd_val, Rd_new, frz_lst, frz_ins, List.getElem?_cons_zero, List.getElem?_cons_succ, List.set_cons_zero, List.set_cons_succ, kw_nil, bindT, wipeD, List.map_cons, List.map_nil, List.zip_cons_cons, List.zip_nil_right, List.zip_nil_left, List.foldl_cons, List.foldl_nil, o_add, o_adds, o_addt, o_addl, o_sub, o_mul, o_div, o_mod, o_pow, c_lt, c_le, c_gt, c_ge, c_eq, c_ne, c_in, c_ni, c_is, c_isn, e_int, e_str, e_bool, t_bl, t_int, t_lst, t_tup, t_non, f_lent, f_lenl, f_lens, f_lbt, f_lbl, f_lbs, f_inti, f_tupl, f_tupt, f_lstt, f_lstl, f_stri, y_non, y_bl, y_int, y_str, y_tup, y_lst, y_ins, rg_1, rg_2, sq_tup, sq_lst, zp_tup, en_lst, en_tup, aL_lst, sl_t, sl_s, Ty.below, List.any_cons, List.any_nil, subT, Bool.or_false, Bool.not_true, Bool.not_false, true_and, and_true, reduceCtorEq, decide_false, decide_true, Bool.false_eq_true, if_false, if_true, Bool.not_eq_true', Bool.not_not])
  rw [h8]
  refine ⟨p, 2, rfl, by decide, by decide, hp, fun alike M1 a0 a1 s1 => ?_⟩
  simp only [wpSs_nil, wpS, wpE, wpEs, wpEo, wpC, wpT, wpSrc, Rd_val, Rd_new, frz_lst, frz_ins, List.getElem?_cons_zero, List.getElem?_cons_succ, List.set_cons_zero, List.set_cons_succ, kw_nil, bindT, wipeD, List.map_cons, List.map_nil, List.zip_cons_cons, List.zip_nil_right, List.zip_nil_left, List.foldl_cons, List.foldl_nil, o_add, o_adds, o_addt, o_addl, o_sub, o_mul, o_div, o_mod, o_pow, c_lt, c_le, c_gt, c_ge, c_eq, c_ne, c_in, c_ni, c_is, c_isn, e_int, e_str, e_bool, t_bl, t_int, t_lst, t_tup, t_non, f_lent, f_lenl, f_lens, f_lbt, f_lbl, f_lbs, f_inti, f_tupl, f_tupt, f_lstt, f_lstl, f_stri, y_non, y_bl, y_int, y_str, y_tup, y_lst, y_ins, rg_1, rg_2, sq_tup, sq_lst, zp_tup, en_lst, en_tup, aL_lst, sl_t, sl_s, Ty.below, List.any_cons, List.any_nil, subT, Bool.or_false, Bool.not_true, Bool.not_false, true_and, and_true, reduceCtorEq, decide_false, decide_true, Bool.false_eq_true, if_false, if_true, Bool.not_eq_true', Bool.not_not]
  (rw [wpSs_cons]; simp only [wpSs_nil, wpS, wpE, wpEs, wpEo, wpC, wpT, wpSrc, Rd_val, Rd_new, frz_lst, frz_ins, List.getElem?_cons_zero, List.getElem?_cons_succ, List.set_cons_zero, List.set_cons_succ, kw_nil, bindT, wipeD, List.map_cons, List.map_nil, List.zip_cons_cons, List.zip_nil_right, List.zip_nil_left, List.foldl_cons, List.foldl_nil, o_add, o_adds, o_addt, o_addl, o_sub, o_mul, o_div, o_mod, o_pow, c_lt, c_le, c_gt, c_ge, c_eq, c_ne, c_in, c_ni, c_is, c_isn, e_int, e_str, e_bool, t_bl, t_int, t_lst, t_tup, t_non, f_lent, f_lenl, f_lens, f_lbt, f_lbl, f_lbs, f_inti, f_tupl, f_tupt, f_lstt, f_lstl, f_stri, y_non, y_bl, y_int, y_str, y_tup, y_lst, y_ins, rg_1, rg_2, sq_tup, sq_lst, zp_tup, en_lst, en_tup, aL_lst, sl_t, sl_s, Ty.below, List.any_cons, List.any_nil, subT, Bool.or_false, Bool.not_true, Bool.not_false, true_and, and_true, reduceCtorEq, decide_false, decide_true, Bool.false_eq_true, if_false, if_true, Bool.not_eq_true', Bool.not_not])
  rw [h8]
  refine ⟨p, 12, rfl, by decide, by decide, s1.pool, fun size M2 z0 z1 s2 => ?_⟩
  simp only [wpSs_nil, wpS, wpE, wpEs, wpEo, wpC, wpT, wpSrc, Rd_val, Rd_new, frz_lst, frz_ins, List.getElem?_cons_zero, List.getElem?_cons_succ, List.set_cons_zero, List.set_cons_succ, kw_nil, bindT, wipeD, List.map_cons, List.map_nil, List.zip_cons_cons, List.zip_nil_right, List.zip_nil_left, List.foldl_cons, List.foldl_nil, o_add, o_adds, o_addt, o_addl, o_sub, o_mul, o_div, o_mod, o_pow, c_lt, c_le, c_gt, c_ge, c_eq, c_ne, c_in, c_ni, c_is, c_isn, e_int, e_str, e_bool, t_bl, t_int, t_lst, t_tup, t_non, f_lent, f_lenl, f_lens, f_lbt, f_lbl, f_lbs, f_inti, f_tupl, f_tupt, f_lstt, f_lstl, f_stri, y_non, y_bl, y_int, y_str, y_tup, y_lst, y_ins, rg_1, rg_2, sq_tup, sq_lst, zp_tup, en_lst, en_tup, aL_lst, sl_t, sl_s, Ty.below, List.any_cons, List.any_nil, subT, Bool.or_false, Bool.not_true, Bool.not_false, true_and, and_true, reduceCtorEq, decide_false, decide_true, Bool.false_eq_true, if_false, if_true, Bool.not_eq_true', Bool.not_not]
  rw [wpSs_cons]
  show mtTy .join (.str "") M2 = true ∧ wpE T (.comp (.ix (.var 2) (.call 8 (.cons (.var 0) (.cons (.con (.int 26)) .nil)) [] .nil)) (.name 9) (.range (.cons (.var 4) .nil)) .none [("k", 9)]) _ M2 _ _
  refine ⟨rfl, comp_letters h8 s2.pool rfl rfl rfl (by decide) (by omega) (by omega) fun cs M3 hcl hc s3 => ?_⟩
  simp only [wpSs_nil, wpS, wpE, wpEs, wpEo, wpC, wpT, wpSrc, Rd_val, Rd_new, frz_lst, frz_ins, List.getElem?_cons_zero, List.getElem?_cons_succ, List.set_cons_zero, List.set_cons_succ, kw_nil, bindT, wipeD, List.map_cons, List.map_nil, List.zip_cons_cons, List.zip_nil_right, List.zip_nil_left, List.foldl_cons, List.foldl_nil, o_add, o_adds, o_addt, o_addl, o_sub, o_mul, o_div, o_mod, o_pow, c_lt, c_le, c_gt, c_ge, c_eq, c_ne, c_in, c_ni, c_is, c_isn, e_int, e_str, e_bool, t_bl, t_int, t_lst, t_tup, t_non, f_lent, f_lenl, f_lens, f_lbt, f_lbl, f_lbs, f_inti, f_tupl, f_tupt, f_lstt, f_lstl, f_stri, y_non, y_bl, y_int, y_str, y_tup, y_lst, y_ins, rg_1, rg_2, sq_tup, sq_lst, zp_tup, en_lst, en_tup, aL_lst, sl_t, sl_s, Ty.below, List.any_cons, List.any_nil, subT, Bool.or_false, Bool.not_true, Bool.not_false, true_and, and_true, reduceCtorEq, decide_false, decide_true, Bool.false_eq_true, if_false, if_true, Bool.not_eq_true', Bool.not_not]
  rw [join_c, sum_one]
  obtain ⟨wk, wl⟩ := word_ok (cs := cs) (by omega) (by omega) hc
  generalize Txt.join "" (cs.map one1) = w at wk wl
  refine ⟨by show _ + _ * 0 ≤ _; omega, ?_⟩
  simp only [wpSs_nil, wpS, wpE, wpEs, wpEo, wpC, wpT, wpSrc, Rd_val, Rd_new, frz_lst, frz_ins, List.getElem?_cons_zero, List.getElem?_cons_succ, List.set_cons_zero, List.set_cons_succ, kw_nil, bindT, wipeD, List.map_cons, List.map_nil, List.zip_cons_cons, List.zip_nil_right, List.zip_nil_left, List.foldl_cons, List.foldl_nil, o_add, o_adds, o_addt, o_addl, o_sub, o_mul, o_div, o_mod, o_pow, c_lt, c_le, c_gt, c_ge, c_eq, c_ne, c_in, c_ni, c_is, c_isn, e_int, e_str, e_bool, t_bl, t_int, t_lst, t_tup, t_non, f_lent, f_lenl, f_lens, f_lbt, f_lbl, f_lbs, f_inti, f_tupl, f_tupt, f_lstt, f_lstl, f_stri, y_non, y_bl, y_int, y_str, y_tup, y_lst, y_ins, rg_1, rg_2, sq_tup, sq_lst, zp_tup, en_lst, en_tup, aL_lst, sl_t, sl_s, Ty.below, List.any_cons, List.any_nil, subT, Bool.or_false, Bool.not_true, Bool.not_false, true_and, and_true, reduceCtorEq, decide_false, decide_true, Bool.false_eq_true, if_false, if_true, Bool.not_eq_true', Bool.not_not]
  (rw [wpSs_cons]; simp only [wpSs_nil, wpS, wpE, wpEs, wpEo, wpC, wpT, wpSrc, Rd_val, Rd_new, frz_lst, frz_ins, List.getElem?_cons_zero, List.getElem?_cons_succ, List.set_cons_zero, List.set_cons_succ, kw_nil, bindT, wipeD, List.map_cons, List.map_nil, List.zip_cons_cons, List.zip_nil_right, List.zip_nil_left, List.foldl_cons, List.foldl_nil, o_add, o_adds, o_addt, o_addl, o_sub, o_mul, o_div, o_mod, o_pow, c_lt, c_le, c_gt, c_ge, c_eq, c_ne, c_in, c_ni, c_is, c_isn, e_int, e_str, e_bool, t_bl, t_int, t_lst, t_tup, t_non, f_lent, f_lenl, f_lens, f_lbt, f_lbl, f_lbs, f_inti, f_tupl, f_tupt, f_lstt, f_lstl, f_stri, y_non, y_bl, y_int, y_str, y_tup, y_lst, y_ins, rg_1, rg_2, sq_tup, sq_lst, zp_tup, en_lst, en_tup, aL_lst, sl_t, sl_s, Ty.below, List.any_cons, List.any_nil, subT, Bool.or_false, Bool.not_true, Bool.not_false, true_and, and_true, reduceCtorEq, decide_false, decide_true, Bool.false_eq_true, if_false, if_true, Bool.not_eq_true', Bool.not_not])
  rw [h8]
  refine ⟨p, 1 + size, rfl, by omega, by omega, s3.pool, fun at_ M4 t0 t1 s4 => ?_⟩
  simp only [wpSs_nil, wpS, wpE, wpEs, wpEo, wpC, wpT, wpSrc, Rd_val, Rd_new, frz_lst, frz_ins, List.getElem?_cons_zero, List.getElem?_cons_succ, List.set_cons_zero, List.set_cons_succ, kw_nil, bindT, wipeD, List.map_cons, List.map_nil, List.zip_cons_cons, List.zip_nil_right, List.zip_nil_left, List.foldl_cons, List.foldl_nil, o_add, o_adds, o_addt, o_addl, o_sub, o_mul, o_div, o_mod, o_pow, c_lt, c_le, c_gt, c_ge, c_eq, c_ne, c_in, c_ni, c_is, c_isn, e_int, e_str, e_bool, t_bl, t_int, t_lst, t_tup, t_non, f_lent, f_lenl, f_lens, f_lbt, f_lbl, f_lbs, f_inti, f_tupl, f_tupt, f_lstt, f_lstl, f_stri, y_non, y_bl, y_int, y_str, y_tup, y_lst, y_ins, rg_1, rg_2, sq_tup, sq_lst, zp_tup, en_lst, en_tup, aL_lst, sl_t, sl_s, Ty.below, List.any_cons, List.any_nil, subT, Bool.or_false, Bool.not_true, Bool.not_false, true_and, and_true, reduceCtorEq, decide_false, decide_true, Bool.false_eq_true, if_false, if_true, Bool.not_eq_true', Bool.not_not]
  (rw [wpSs_cons]; simp only [wpSs_nil, wpS, wpE, wpEs, wpEo, wpC, wpT, wpSrc, Rd_val, Rd_new, frz_lst, frz_ins, List.getElem?_cons_zero, List.getElem?_cons_succ, List.set_cons_zero, List.set_cons_succ, kw_nil, bindT, wipeD, List.map_cons, List.map_nil, List.zip_cons_cons, List.zip_nil_right, List.zip_nil_left, List.foldl_cons, List.foldl_nil, o_add, o_adds, o_addt, o_addl, o_sub, o_mul, o_div, o_mod, o_pow, c_lt, c_le, c_gt, c_ge, c_eq, c_ne, c_in, c_ni, c_is, c_isn, e_int, e_str, e_bool, t_bl, t_int, t_lst, t_tup, t_non, f_lent, f_lenl, f_lens, f_lbt, f_lbl, f_lbs, f_inti, f_tupl, f_tupt, f_lstt, f_lstl, f_stri, y_non, y_bl, y_int, y_str, y_tup, y_lst, y_ins, rg_1, rg_2, sq_tup, sq_lst, zp_tup, en_lst, en_tup, aL_lst, sl_t, sl_s, Ty.below, List.any_cons, List.any_nil, subT, Bool.or_false, Bool.not_true, Bool.not_false, true_and, and_true, reduceCtorEq, decide_false, decide_true, Bool.false_eq_true, if_false, if_true, Bool.not_eq_true', Bool.not_not])
  rw [h8]
  refine ⟨p, 26, rfl, by decide, by decide, s4.pool, fun shift M5 f0 f1 s5 => ?_⟩
  simp only [wpSs_nil, wpS, wpE, wpEs, wpEo, wpC, wpT, wpSrc, Rd_val, Rd_new, frz_lst, frz_ins, List.getElem?_cons_zero, List.getElem?_cons_succ, List.set_cons_zero, List.set_cons_succ, kw_nil, bindT, wipeD, List.map_cons, List.map_nil, List.zip_cons_cons, List.zip_nil_right, List.zip_nil_left, List.foldl_cons, List.foldl_nil, o_add, o_adds, o_addt, o_addl, o_sub, o_mul, o_div, o_mod, o_pow, c_lt, c_le, c_gt, c_ge, c_eq, c_ne, c_in, c_ni, c_is, c_isn, e_int, e_str, e_bool, t_bl, t_int, t_lst, t_tup, t_non, f_lent, f_lenl, f_lens, f_lbt, f_lbl, f_lbs, f_inti, f_tupl, f_tupt, f_lstt, f_lstl, f_stri, y_non, y_bl, y_int, y_str, y_tup, y_lst, y_ins, rg_1, rg_2, sq_tup, sq_lst, zp_tup, en_lst, en_tup, aL_lst, sl_t, sl_s, Ty.below, List.any_cons, List.any_nil, subT, Bool.or_false, Bool.not_true, Bool.not_false, true_and, and_true, reduceCtorEq, decide_false, decide_true, Bool.false_eq_true, if_false, if_true, Bool.not_eq_true', Bool.not_not]
  (rw [wpSs_cons]; simp only [wpSs_nil, wpS, wpE, wpEs, wpEo, wpC, wpT, wpSrc, Rd_val, Rd_new, frz_lst, frz_ins, List.getElem?_cons_zero, List.getElem?_cons_succ, List.set_cons_zero, List.set_cons_succ, kw_nil, bindT, wipeD, List.map_cons, List.map_nil, List.zip_cons_cons, List.zip_nil_right, List.zip_nil_left, List.foldl_cons, List.foldl_nil, o_add, o_adds, o_addt, o_addl, o_sub, o_mul, o_div, o_mod, o_pow, c_lt, c_le, c_gt, c_ge, c_eq, c_ne, c_in, c_ni, c_is, c_isn, e_int, e_str, e_bool, t_bl, t_int, t_lst, t_tup, t_non, f_lent, f_lenl, f_lens, f_lbt, f_lbl, f_lbs, f_inti, f_tupl, f_tupt, f_lstt, f_lstl, f_stri, y_non, y_bl, y_int, y_str, y_tup, y_lst, y_ins, rg_1, rg_2, sq_tup, sq_lst, zp_tup, en_lst, en_tup, aL_lst, sl_t, sl_s, Ty.below, List.any_cons, List.any_nil, subT, Bool.or_false, Bool.not_true, Bool.not_false, true_and, and_true, reduceCtorEq, decide_false, decide_true, Bool.false_eq_true, if_false, if_true, Bool.not_eq_true', Bool.not_not])
  intro q hqn
  have npq : p ≠ q := fun e => (s5.pool.ne hqn) e.symm
  have sA := (((s1.trans s2).trans s3).trans s4).trans s5
  (rw [wpSs_cons]; simp only [wpSs_nil, wpS, wpE, wpEs, wpEo, wpC, wpT, wpSrc, Rd_val, Rd_new, frz_lst, frz_ins, List.getElem?_cons_zero, List.getElem?_cons_succ, List.set_cons_zero, List.set_cons_succ, kw_nil, bindT, wipeD, List.map_cons, List.map_nil, List.zip_cons_cons, List.zip_nil_right, List.zip_nil_left, List.foldl_cons, List.foldl_nil, o_add, o_adds, o_addt, o_addl, o_sub, o_mul, o_div, o_mod, o_pow, c_lt, c_le, c_gt, c_ge, c_eq, c_ne, c_in, c_ni, c_is, c_isn, e_int, e_str, e_bool, t_bl, t_int, t_lst, t_tup, t_non, f_lent, f_lenl, f_lens, f_lbt, f_lbl, f_lbs, f_inti, f_tupl, f_tupt, f_lstt, f_lstl, f_stri, y_non, y_bl, y_int, y_str, y_tup, y_lst, y_ins, rg_1, rg_2, sq_tup, sq_lst, zp_tup, en_lst, en_tup, aL_lst, sl_t, sl_s, Ty.below, List.any_cons, List.any_nil, subT, Bool.or_false, Bool.not_true, Bool.not_false, true_and, and_true, reduceCtorEq, decide_false, decide_true, Bool.false_eq_true, if_false, if_true, Bool.not_eq_true', Bool.not_not])
  refine ⟨⟨by omega, by omega⟩, ?_⟩
  refine ⟨fun i ρ M' => ∃ (ws : List Str) (w : Str) (at_ : Int) (sz k nw tn j : Option D), ρ = [some (.ref p), some (.int n), some (.str letS), some (.int alike), sz, some (.str w), some (.int at_), some (.int shift), some (.ref q), k, nw, tn, j] ∧
    wordOk w = true ∧ 0 ≤ at_ ∧ at_ < w.length ∧ ws.length = i ∧ ws.Nodup ∧ (∀ w ∈ ws, wordOk w = true) ∧ M' q = some (.lst (ws.map D.str)) ∧ PoolAt M' p ∧ (∀ a o, a ≠ p → M a = some o → M' a = some o), ?_, fun _ _ _ _ _ => trivial, ?_, ?_⟩
  · refine ⟨[], w, at_, _, _, _, _, _, rfl, wk, t0, by omega, rfl, List.nodup_nil, by simp, mput_same, s5.pool.put npq.symm, fun a o hne e => ?_⟩
    rw [mput_ne fun z => ?_]
    · exact sA.rest a o hne e
    · rw [z] at e
      have := sA.rest q o npq.symm e
      rw [hqn] at this
      cases this
  · rintro i x ρ M' hx ⟨ws, w, at_, sz, k, nw, tn, j, rfl, wk, t0, t1, rfl, hnd, hok, hM, hpool, hrest⟩
    obtain ⟨hi, rfl⟩ := rg_get hx
    rw [show (0 + ((ws.length : Nat) : Int)) = ((ws.length : Nat) : Int) by omega]
    simp only [wpSs_nil, wpS, wpE, wpEs, wpEo, wpC, wpT, wpSrc, Rd_val, Rd_new, frz_lst, frz_ins, List.getElem?_cons_zero, List.getElem?_cons_succ, List.set_cons_zero, List.set_cons_succ, kw_nil, bindT, wipeD, List.map_cons, List.map_nil, List.zip_cons_cons, List.zip_nil_right, List.zip_nil_left, List.foldl_cons, List.foldl_nil, o_add, o_adds, o_addt, o_addl, o_sub, o_mul, o_div, o_mod, o_pow, c_lt, c_le, c_gt, c_ge, c_eq, c_ne, c_in, c_ni, c_is, c_isn, e_int, e_str, e_bool, t_bl, t_int, t_lst, t_tup, t_non, f_lent, f_lenl, f_lens, f_lbt, f_lbl, f_lbs, f_inti, f_tupl, f_tupt, f_lstt, f_lstl, f_stri, y_non, y_bl, y_int, y_str, y_tup, y_lst, y_ins, rg_1, rg_2, sq_tup, sq_lst, zp_tup, en_lst, en_tup, aL_lst, sl_t, sl_s, Ty.below, List.any_cons, List.any_nil, subT, Bool.or_false, Bool.not_true, Bool.not_false, true_and, and_true, reduceCtorEq, decide_false, decide_true, Bool.false_eq_true, if_false, if_true, Bool.not_eq_true', Bool.not_not]
    (rw [wpSs_cons]; simp only [wpSs_nil, wpS, wpE, wpEs, wpEo, wpC, wpT, wpSrc, Rd_val, Rd_new, frz_lst, frz_ins, List.getElem?_cons_zero, List.getElem?_cons_succ, List.set_cons_zero, List.set_cons_succ, kw_nil, bindT, wipeD, List.map_cons, List.map_nil, List.zip_cons_cons, List.zip_nil_right, List.zip_nil_left, List.foldl_cons, List.foldl_nil, o_add, o_adds, o_addt, o_addl, o_sub, o_mul, o_div, o_mod, o_pow, c_lt, c_le, c_gt, c_ge, c_eq, c_ne, c_in, c_ni, c_is, c_isn, e_int, e_str, e_bool, t_bl, t_int, t_lst, t_tup, t_non, f_lent, f_lenl, f_lens, f_lbt, f_lbl, f_lbs, f_inti, f_tupl, f_tupt, f_lstt, f_lstl, f_stri, y_non, y_bl, y_int, y_str, y_tup, y_lst, y_ins, rg_1, rg_2, sq_tup, sq_lst, zp_tup, en_lst, en_tup, aL_lst, sl_t, sl_s, Ty.below, List.any_cons, List.any_nil, subT, Bool.or_false, Bool.not_true, Bool.not_false, true_and, and_true, reduceCtorEq, decide_false, decide_true, Bool.false_eq_true, if_false, if_true, Bool.not_eq_true', Bool.not_not])
    by_cases e : alike = 0
    · rw [if_pos (by simpa using e)]
      (rw [wpSs_cons]; simp only [wpSs_nil, wpS, wpE, wpEs, wpEo, wpC, wpT, wpSrc, Rd_val, Rd_new, frz_lst, frz_ins, List.getElem?_cons_zero, List.getElem?_cons_succ, List.set_cons_zero, List.set_cons_succ, kw_nil, bindT, wipeD, List.map_cons, List.map_nil, List.zip_cons_cons, List.zip_nil_right, List.zip_nil_left, List.foldl_cons, List.foldl_nil, o_add, o_adds, o_addt, o_addl, o_sub, o_mul, o_div, o_mod, o_pow, c_lt, c_le, c_gt, c_ge, c_eq, c_ne, c_in, c_ni, c_is, c_isn, e_int, e_str, e_bool, t_bl, t_int, t_lst, t_tup, t_non, f_lent, f_lenl, f_lens, f_lbt, f_lbl, f_lbs, f_inti, f_tupl, f_tupt, f_lstt, f_lstl, f_stri, y_non, y_bl, y_int, y_str, y_tup, y_lst, y_ins, rg_1, rg_2, sq_tup, sq_lst, zp_tup, en_lst, en_tup, aL_lst, sl_t, sl_s, Ty.below, List.any_cons, List.any_nil, subT, Bool.or_false, Bool.not_true, Bool.not_false, true_and, and_true, reduceCtorEq, decide_false, decide_true, Bool.false_eq_true, if_false, if_true, Bool.not_eq_true', Bool.not_not])
      rw [h8]
      refine ⟨p, 12, rfl, by decide, by decide, hpool, fun size M2 z0 z1 s2 => ?_⟩
      simp only [wpSs_nil, wpS, wpE, wpEs, wpEo, wpC, wpT, wpSrc, Rd_val, Rd_new, frz_lst, frz_ins, List.getElem?_cons_zero, List.getElem?_cons_succ, List.set_cons_zero, List.set_cons_succ, kw_nil, bindT, wipeD, List.map_cons, List.map_nil, List.zip_cons_cons, List.zip_nil_right, List.zip_nil_left, List.foldl_cons, List.foldl_nil, o_add, o_adds, o_addt, o_addl, o_sub, o_mul, o_div, o_mod, o_pow, c_lt, c_le, c_gt, c_ge, c_eq, c_ne, c_in, c_ni, c_is, c_isn, e_int, e_str, e_bool, t_bl, t_int, t_lst, t_tup, t_non, f_lent, f_lenl, f_lens, f_lbt, f_lbl, f_lbs, f_inti, f_tupl, f_tupt, f_lstt, f_lstl, f_stri, y_non, y_bl, y_int, y_str, y_tup, y_lst, y_ins, rg_1, rg_2, sq_tup, sq_lst, zp_tup, en_lst, en_tup, aL_lst, sl_t, sl_s, Ty.below, List.any_cons, List.any_nil, subT, Bool.or_false, Bool.not_true, Bool.not_false, true_and, and_true, reduceCtorEq, decide_false, decide_true, Bool.false_eq_true, if_false, if_true, Bool.not_eq_true', Bool.not_not]
      rw [wpSs_cons]
      show mtTy .join (.str "") M2 = true ∧ wpE T (.comp (.ix (.var 2) (.call 8 (.cons (.var 0) (.cons (.con (.int 26)) .nil)) [] .nil)) (.name 12) (.range (.cons (.var 4) .nil)) .none [("j", 12)]) _ M2 _ _
      refine ⟨rfl, comp_letters h8 s2.pool rfl rfl rfl (by decide) (by omega) (by omega) fun cs M3 hcl hc s3 => ?_⟩
      simp only [wpSs_nil, wpS, wpE, wpEs, wpEo, wpC, wpT, wpSrc, Rd_val, Rd_new, frz_lst, frz_ins, List.getElem?_cons_zero, List.getElem?_cons_succ, List.set_cons_zero, List.set_cons_succ, kw_nil, bindT, wipeD, List.map_cons, List.map_nil, List.zip_cons_cons, List.zip_nil_right, List.zip_nil_left, List.foldl_cons, List.foldl_nil, o_add, o_adds, o_addt, o_addl, o_sub, o_mul, o_div, o_mod, o_pow, c_lt, c_le, c_gt, c_ge, c_eq, c_ne, c_in, c_ni, c_is, c_isn, e_int, e_str, e_bool, t_bl, t_int, t_lst, t_tup, t_non, f_lent, f_lenl, f_lens, f_lbt, f_lbl, f_lbs, f_inti, f_tupl, f_tupt, f_lstt, f_lstl, f_stri, y_non, y_bl, y_int, y_str, y_tup, y_lst, y_ins, rg_1, rg_2, sq_tup, sq_lst, zp_tup, en_lst, en_tup, aL_lst, sl_t, sl_s, Ty.below, List.any_cons, List.any_nil, subT, Bool.or_false, Bool.not_true, Bool.not_false, true_and, and_true, reduceCtorEq, decide_false, decide_true, Bool.false_eq_true, if_false, if_true, Bool.not_eq_true', Bool.not_not]
      rw [join_c, sum_one]
      obtain ⟨wk, wl⟩ := word_ok (cs := cs) (by omega) (by omega) hc
      generalize Txt.join "" (cs.map one1) = w at wk wl
      refine ⟨by show _ + _ * 0 ≤ _; omega, ?_⟩
      simp only [wpSs_nil, wpS, wpE, wpEs, wpEo, wpC, wpT, wpSrc, Rd_val, Rd_new, frz_lst, frz_ins, List.getElem?_cons_zero, List.getElem?_cons_succ, List.set_cons_zero, List.set_cons_succ, kw_nil, bindT, wipeD, List.map_cons, List.map_nil, List.zip_cons_cons, List.zip_nil_right, List.zip_nil_left, List.foldl_cons, List.foldl_nil, o_add, o_adds, o_addt, o_addl, o_sub, o_mul, o_div, o_mod, o_pow, c_lt, c_le, c_gt, c_ge, c_eq, c_ne, c_in, c_ni, c_is, c_isn, e_int, e_str, e_bool, t_bl, t_int, t_lst, t_tup, t_non, f_lent, f_lenl, f_lens, f_lbt, f_lbl, f_lbs, f_inti, f_tupl, f_tupt, f_lstt, f_lstl, f_stri, y_non, y_bl, y_int, y_str, y_tup, y_lst, y_ins, rg_1, rg_2, sq_tup, sq_lst, zp_tup, en_lst, en_tup, aL_lst, sl_t, sl_s, Ty.below, List.any_cons, List.any_nil, subT, Bool.or_false, Bool.not_true, Bool.not_false, true_and, and_true, reduceCtorEq, decide_false, decide_true, Bool.false_eq_true, if_false, if_true, Bool.not_eq_true', Bool.not_not]
      (rw [wpSs_cons]; simp only [wpSs_nil, wpS, wpE, wpEs, wpEo, wpC, wpT, wpSrc, Rd_val, Rd_new, frz_lst, frz_ins, List.getElem?_cons_zero, List.getElem?_cons_succ, List.set_cons_zero, List.set_cons_succ, kw_nil, bindT, wipeD, List.map_cons, List.map_nil, List.zip_cons_cons, List.zip_nil_right, List.zip_nil_left, List.foldl_cons, List.foldl_nil, o_add, o_adds, o_addt, o_addl, o_sub, o_mul, o_div, o_mod, o_pow, c_lt, c_le, c_gt, c_ge, c_eq, c_ne, c_in, c_ni, c_is, c_isn, e_int, e_str, e_bool, t_bl, t_int, t_lst, t_tup, t_non, f_lent, f_lenl, f_lens, f_lbt, f_lbl, f_lbs, f_inti, f_tupl, f_tupt, f_lstt, f_lstl, f_stri, y_non, y_bl, y_int, y_str, y_tup, y_lst, y_ins, rg_1, rg_2, sq_tup, sq_lst, zp_tup, en_lst, en_tup, aL_lst, sl_t, sl_s, Ty.below, List.any_cons, List.any_nil, subT, Bool.or_false, Bool.not_true, Bool.not_false, true_and, and_true, reduceCtorEq, decide_false, decide_true, Bool.false_eq_true, if_false, if_true, Bool.not_eq_true', Bool.not_not])
      rw [h8]
      refine ⟨p, 1 + size, rfl, by omega, by omega, s3.pool, fun at_ M4 t0 t1 s4 => ?_⟩
      simp only [wpSs_nil, wpS, wpE, wpEs, wpEo, wpC, wpT, wpSrc, Rd_val, Rd_new, frz_lst, frz_ins, List.getElem?_cons_zero, List.getElem?_cons_succ, List.set_cons_zero, List.set_cons_succ, kw_nil, bindT, wipeD, List.map_cons, List.map_nil, List.zip_cons_cons, List.zip_nil_right, List.zip_nil_left, List.foldl_cons, List.foldl_nil, o_add, o_adds, o_addt, o_addl, o_sub, o_mul, o_div, o_mod, o_pow, c_lt, c_le, c_gt, c_ge, c_eq, c_ne, c_in, c_ni, c_is, c_isn, e_int, e_str, e_bool, t_bl, t_int, t_lst, t_tup, t_non, f_lent, f_lenl, f_lens, f_lbt, f_lbl, f_lbs, f_inti, f_tupl, f_tupt, f_lstt, f_lstl, f_stri, y_non, y_bl, y_int, y_str, y_tup, y_lst, y_ins, rg_1, rg_2, sq_tup, sq_lst, zp_tup, en_lst, en_tup, aL_lst, sl_t, sl_s, Ty.below, List.any_cons, List.any_nil, subT, Bool.or_false, Bool.not_true, Bool.not_false, true_and, and_true, reduceCtorEq, decide_false, decide_true, Bool.false_eq_true, if_false, if_true, Bool.not_eq_true', Bool.not_not]
      have sB := (s2.trans s3).trans s4
      refine ok_wtail wk t0 (by omega) (by omega) f0 f1 (by omega) (sB.rest q _ npq.symm hM) fun w' tn' wk' hni => ?_
      refine ⟨ws ++ [w'], w, at_, _, _, _, _, _, rfl, wk, t0, by omega, by simp, ?_, ?_, mput_same, s4.pool.put npq.symm, fun a o hne e => ?_⟩
      · rw [List.nodup_append]
        exact ⟨hnd, by simp, fun x hx y hy e => by simp at hy; subst hy; subst e; exact hni hx⟩
      · intro y hy
        rcases List.mem_append.mp hy with h | h
        · exact hok y h
        · simp at h; subst h; exact wk'
      · rw [mput_ne fun z => ?_]
        · exact sB.rest a o hne (hrest a o hne e)
        · rw [z] at e
          have := sA.rest q o npq.symm e
          rw [hqn] at this
          cases this
    · rw [if_neg (by simpa using e)]
      refine ok_wtail wk t0 (by omega) (by omega) f0 f1 (by omega) hM fun w' tn' wk' hni => ?_
      refine ⟨ws ++ [w'], w, at_, _, _, _, _, _, rfl, wk, t0, by omega, by simp, ?_, ?_, mput_same, hpool.put npq.symm, fun a o hne e => ?_⟩
      · rw [List.nodup_append]
        exact ⟨hnd, by simp, fun x hx y hy e => by simp at hy; subst hy; subst e; exact hni hx⟩
      · intro y hy
        rcases List.mem_append.mp hy with h | h
        · exact hok y h
        · simp at h; subst h; exact wk'
      · rw [mput_ne fun z => ?_]
        · exact hrest a o hne e
        · rw [z] at e
          have := sA.rest q o npq.symm e
          rw [hqn] at this
          cases this
  · rintro ρ M' ⟨ws, w, at_, sz, k, nw, tn, j, rfl, wk, t0, t1, hlen, hnd, hok, hM, hpool, hrest⟩
    (rw [wpSs_cons]; simp only [wpSs_nil, wpS, wpE, wpEs, wpEo, wpC, wpT, wpSrc, Rd_val, Rd_new, frz_lst, frz_ins, List.getElem?_cons_zero, List.getElem?_cons_succ, List.set_cons_zero, List.set_cons_succ, kw_nil, bindT, wipeD, List.map_cons, List.map_nil, List.zip_cons_cons, List.zip_nil_right, List.zip_nil_left, List.foldl_cons, List.foldl_nil, o_add, o_adds, o_addt, o_addl, o_sub, o_mul, o_div, o_mod, o_pow, c_lt, c_le, c_gt, c_ge, c_eq, c_ne, c_in, c_ni, c_is, c_isn, e_int, e_str, e_bool, t_bl, t_int, t_lst, t_tup, t_non, f_lent, f_lenl, f_lens, f_lbt, f_lbl, f_lbs, f_inti, f_tupl, f_tupt, f_lstt, f_lstl, f_stri, y_non, y_bl, y_int, y_str, y_tup, y_lst, y_ins, rg_1, rg_2, sq_tup, sq_lst, zp_tup, en_lst, en_tup, aL_lst, sl_t, sl_s, Ty.below, List.any_cons, List.any_nil, subT, Bool.or_false, Bool.not_true, Bool.not_false, true_and, and_true, reduceCtorEq, decide_false, decide_true, Bool.false_eq_true, if_false, if_true, Bool.not_eq_true', Bool.not_not])
    rw [hM]
    rw [rg_len] at hlen
    refine hq ws (mdel M' q) (by omega) hnd hok ⟨?_, fun a o hne e => ?_⟩
    · obtain ⟨l, h1, h2⟩ := hpool
      exact ⟨l, by unfold mdel; rw [if_neg npq]; exact h1, h2⟩
    · unfold mdel
      rw [if_neg fun z => ?_]
      · exact hrest a o hne e
      · rw [z] at e
        have := sA.rest q o npq.symm e
        rw [hqn] at this
        cases this
end PL
namespace PL
open PySem PySem.Spec PyProof.Rows L2
def sp_law_holds : DSp := fun ds M Q _ => ∃ (p : Addr) (sizes : List Int), ds = [.ref p, .lst (sizes.map .int)] ∧ 1 ≤ sizes.length ∧ sizes.length ≤ 6 ∧ (∀ s ∈ sizes, 2 ≤ s ∧ s ≤ 8) ∧ PoolAt M p ∧ ∀ M', Step p M M' → Q (.val (.bl true)) M'
abbrev sp_law : DSp := lawSp
def t_gl : Nat → D
  | 1 => (.str "abcdefghijklmnopqrstuvwxyz")
  | 4 => (.int 6)
  | 3 => (.int 8)
  | 2 => (.int 9)
  | 0 => (.int 12)
  | _ => .non
def t_fn : Nat → DSp
  | 8 => sp_law_draw
  | 10 => sp_law_whole
  | 15 => sp_law_are_marks
  | 11 => sp_law_row_changed
  | 14 => sp_law_changed
  | 9 => sp_law_same 6
  | 13 => sp_law_values
  | 12 => sp_law_words
  | 0 => sp_is_integer
  | 1 => sp_is_from_to
  | 2 => sp_rises
  | 6 => sp_is_rising
  | 4 => sp_is_sequence
  | 3 => sp_is_word
  | 5 => sp_is_feature
  | 17 => sp_law_holds
  | 16 => sp_law_pool
  | 18 => sp_law
  | _ => fun _ _ _ _ => False
def t_mt : Nat → DSp
  | 1 => sp_Kinds_all_marks
  | 0 => sp_Kinds_are_marks
  | _ => fun _ _ _ _ => False
def t_mak : Nat → DSp
  | 0 => sp_Kinds_init
  | _ => fun _ _ _ _ => False
def t_mc : Nat → Nat
  | 1 => 0
  | 0 => 0
  | _ => 0
def t_at : Nat → List Str
  | 0 => ["features"]
  | _ => []
def t_fp : Nat → List Str
  | 8 => ["pool", "many"]
  | 10 => ["value"]
  | 15 => ["sizes", "value"]
  | 11 => ["pool", "row", "size"]
  | 14 => ["pool", "marks", "sizes"]
  | 9 => ["told", "due"]
  | 13 => ["pool", "many", "way"]
  | 12 => ["pool", "many"]
  | 0 => ["value"]
  | 1 => ["value", "least", "most"]
  | 2 => ["value", "bound"]
  | 6 => ["value", "bound"]
  | 4 => ["value"]
  | 3 => ["value"]
  | 5 => ["value"]
  | 17 => ["pool", "sizes"]
  | 16 => ["script"]
  | 18 => ["script"]
  | _ => []
def t_mp : Nat → List Str
  | 1 => ["self"]
  | 0 => ["self", "value"]
  | _ => []
def t_kp : Nat → List Str
  | 0 => ["self", "features"]
  | _ => []
def t_xf : Nat → List Str
  | _ => []
def t_nc (k : Nat) : Bool := [0].contains k
def TT : Tb := { gl := t_gl, fn := t_fn, mt := t_mt, mak := t_mak, mc := t_mc, at_ := t_at, fp := t_fp, mp := t_mp, kp := t_kp, xf := t_xf, nc := t_nc }
theorem kw_one {x : Str} {d : D} : kwArgs [x] [] [x] [d] = [d] := by simp [kwArgs]
theorem h_draw : TT.fn 8 = sp_draw := rfl
theorem h_same : TT.fn 9 = sp_law_same 6 := rfl
theorem h_words : TT.fn 12 = sp_law_words := rfl
theorem h_vals : TT.fn 13 = sp_law_values := rfl
theorem h_chg : TT.fn 14 = sp_law_changed := rfl
theorem h_judge : TT.fn 15 = sp_law_are_marks := rfl
theorem h_init : TT.mak 0 = sp_Kinds_init := rfl
theorem h_all : TT.mt 1 = sp_Kinds_all_marks := rfl
theorem h_are : TT.mt 0 = sp_Kinds_are_marks := rfl
theorem meth_k {c : Nat} {ns : List Str} {fs : List (Str × Int × Int)} {M : Mem} {B : Prop} (hc : c = 0) (hn : ns = (["features"] : List Str)) : methS (kindsD fs) M c ns B = B := by
  subst hc hn
  simp [methS, kindsD, asI]
theorem meth_0 {fs : List (Str × Int × Int)} {M : Mem} {B : Prop} : methS (kindsD fs) M (TT.mc 0) (TT.at_ (TT.mc 0)) B = B := meth_k rfl rfl
theorem meth_1 {fs : List (Str × Int × Int)} {M : Mem} {B : Prop} : methS (kindsD fs) M (TT.mc 1) (TT.at_ (TT.mc 1)) B = B := meth_k rfl rfl
theorem marks_true : ∀ (rows : List (List Int)) (sizes : List Int), rows.length = sizes.length → (∀ (i : Nat) r m, rows[i]? = some r → sizes[i]? = some m → RowOk r m ∧ 0 ≤ m) → marksL (rows.map fun r => .tup (r.map .int)) sizes = true
  | [], [], _, _ => rfl
  | [], _ :: _, h, _ => by simp at h
  | _ :: _, [], h, _ => by simp at h
  | r :: rows, s :: sizes, h, g => by
    rw [List.map_cons, marksL_cons, marks_true rows sizes (by simpa using h) fun i r m h1 h2 => g (i + 1) r m (by simpa using h1) (by simpa using h2)]
    obtain ⟨ok, s0⟩ := g 0 r s rfl rfl
    have h1 := row_rises s0 ok
    have h2 := row_ne ok
    simp only [risingD, h1, lenPos, Bool.true_and, Bool.and_true, Bool.not_eq_true']
    cases r with
    | nil => exact absurd rfl h2
    | cons _ _ => rfl
theorem full_row {s : Int} (h : 1 ≤ s) : ∃ row : List Int, rangeD 0 s = row.map D.int ∧ RowOk row s := by
  refine ⟨((List.range s.toNat).filter fun _ => true).map fun k : Nat => (k : Int), ?_, fun _ => true, rfl, 0, by omega, rfl⟩
  unfold rangeD
  rw [Int.sub_zero, List.filter_eq_self.mpr (by simp), List.map_map]
  congr 1
  funext k
  simp
theorem full_rows : ∀ (sizes : List Int), (∀ s ∈ sizes, 1 ≤ s) → ∃ rows0 : List (List Int), (sizes.map fun s => D.tup (rangeD 0 s)) = rows0.map (fun r => .tup (r.map .int)) ∧ rows0.length = sizes.length ∧ ∀ (i : Nat) r m, rows0[i]? = some r → sizes[i]? = some m → RowOk r m
  | [], _ => ⟨[], rfl, rfl, fun _ _ _ h => by simp at h⟩
  | s :: ss, hsz => by
    obtain ⟨rows, e, el, h⟩ := full_rows ss fun x hx => hsz x (List.mem_cons_of_mem _ hx)
    obtain ⟨row, er, rok⟩ := full_row (s := s) (hsz s List.mem_cons_self)
    refine ⟨row :: rows, by rw [List.map_cons, List.map_cons, e, er], by simp [el], fun i r m h1 h2 => ?_⟩
    cases i with
    | zero => simp at h1 h2; subst h1 h2; exact rok
    | succ i => exact h i r m (by simpa using h1) (by simpa using h2)
theorem sok_row {row : List Int} : sokL (row.map D.int) = true := by
  induction row with
  | nil => rfl
  | cons _ _ ih => simp only [List.map_cons, sokL, sokD, ih, Bool.and_self]
theorem dep_row {row : List Int} : depL (row.map D.int) = 0 := by
  induction row with
  | nil => rfl
  | cons _ _ ih => simp only [List.map_cons, depL, depD, ih, Nat.max_self]
theorem sok_rows {rows : List (List Int)} (h : ∀ r ∈ rows, r.length ≤ 8) : sokL (rows.map fun r => .tup (r.map .int)) = true := by
  induction rows with
  | nil => rfl
  | cons r rows ih =>
    have := h r List.mem_cons_self
    simp only [List.map_cons, sokL, sokD, sok_row, ih fun x hx => h x (List.mem_cons_of_mem _ hx), Bool.and_true, decide_eq_true_eq, List.length_map]
    omega
theorem dep_rows {rows : List (List Int)} : depL (rows.map fun r => .tup (r.map .int)) ≤ 1 := by
  induction rows with
  | nil => decide
  | cons r rows ih =>
    simp only [List.map_cons, depL, depD, dep_row]
    omega
/-- the same twice -/
theorem same_ok {d : D} {M : Mem} {Q : QR} {E : EX} (h1 : sokD d = true) (h2 : depD d < 6) (hq : Q (.val (.bl true)) M) : TT.fn 9 [d, d] M Q E := ⟨d, rfl, h1, h2, hq⟩
theorem ok_law_holds : SpOk TT N_law_holds ir_law_holds 2 sp_law_holds := by
  rintro ds M Q E hl ⟨p, sizes, rfl, l1, l6, hsz, hp, hq⟩
  show wpSs TT ir_law_holds _ [some (.ref p), some (.lst (sizes.map .int)), none, none, none, none, none, none, none, none, none] M
  unfold ir_law_holds
  have hs : sizeLine = 16777216 := sizeLine_eq
  (rw [wpSs_cons]; simp only [wpSs_nil, wpS, wpE, wpEs, wpEo, wpC, wpT, wpSrc, Rd_val, Rd_new, frz_lst, frz_ins, List.getElem?_cons_zero, List.getElem?_cons_succ, List.set_cons_zero, List.set_cons_succ, kw_nil, bindT, wipeD, List.map_cons, List.map_nil, List.zip_cons_cons, List.zip_nil_right, List.zip_nil_left, List.foldl_cons, List.foldl_nil, o_add, o_adds, o_addt, o_addl, o_sub, o_mul, o_div, o_mod, o_pow, c_lt, c_le, c_gt, c_ge, c_eq, c_ne, c_in, c_ni, c_is, c_isn, e_int, e_str, e_bool, t_bl, t_int, t_lst, t_tup, t_non, f_lent, f_lenl, f_lens, f_lbt, f_lbl, f_lbs, f_inti, f_tupl, f_tupt, f_lstt, f_lstl, f_stri, y_non, y_bl, y_int, y_str, y_tup, y_lst, y_ins, rg_1, rg_2, sq_tup, sq_lst, zp_tup, en_lst, en_tup, aL_lst, sl_t, sl_s, Ty.below, List.any_cons, List.any_nil, subT, Bool.or_false, Bool.not_true, Bool.not_false, true_and, and_true, reduceCtorEq, decide_false, decide_true, Bool.false_eq_true, if_false, if_true, Bool.not_eq_true', Bool.not_not])
  rw [h_words]
  refine ⟨p, _, rfl, by simp, by simp; omega, hp, fun ws M1 wl wn wok s1 => ?_⟩
  rw [List.length_map] at wl
  have wl' : ws.length = sizes.length := by omega
  simp only [wpSs_nil, wpS, wpE, wpEs, wpEo, wpC, wpT, wpSrc, Rd_val, Rd_new, frz_lst, frz_ins, List.getElem?_cons_zero, List.getElem?_cons_succ, List.set_cons_zero, List.set_cons_succ, kw_nil, bindT, wipeD, List.map_cons, List.map_nil, List.zip_cons_cons, List.zip_nil_right, List.zip_nil_left, List.foldl_cons, List.foldl_nil, o_add, o_adds, o_addt, o_addl, o_sub, o_mul, o_div, o_mod, o_pow, c_lt, c_le, c_gt, c_ge, c_eq, c_ne, c_in, c_ni, c_is, c_isn, e_int, e_str, e_bool, t_bl, t_int, t_lst, t_tup, t_non, f_lent, f_lenl, f_lens, f_lbt, f_lbl, f_lbs, f_inti, f_tupl, f_tupt, f_lstt, f_lstl, f_stri, y_non, y_bl, y_int, y_str, y_tup, y_lst, y_ins, rg_1, rg_2, sq_tup, sq_lst, zp_tup, en_lst, en_tup, aL_lst, sl_t, sl_s, Ty.below, List.any_cons, List.any_nil, subT, Bool.or_false, Bool.not_true, Bool.not_false, true_and, and_true, reduceCtorEq, decide_false, decide_true, Bool.false_eq_true, if_false, if_true, Bool.not_eq_true', Bool.not_not]
  (rw [wpSs_cons]; simp only [wpSs_nil, wpS, wpE, wpEs, wpEo, wpC, wpT, wpSrc, Rd_val, Rd_new, frz_lst, frz_ins, List.getElem?_cons_zero, List.getElem?_cons_succ, List.set_cons_zero, List.set_cons_succ, kw_nil, bindT, wipeD, List.map_cons, List.map_nil, List.zip_cons_cons, List.zip_nil_right, List.zip_nil_left, List.foldl_cons, List.foldl_nil, o_add, o_adds, o_addt, o_addl, o_sub, o_mul, o_div, o_mod, o_pow, c_lt, c_le, c_gt, c_ge, c_eq, c_ne, c_in, c_ni, c_is, c_isn, e_int, e_str, e_bool, t_bl, t_int, t_lst, t_tup, t_non, f_lent, f_lenl, f_lens, f_lbt, f_lbl, f_lbs, f_inti, f_tupl, f_tupt, f_lstt, f_lstl, f_stri, y_non, y_bl, y_int, y_str, y_tup, y_lst, y_ins, rg_1, rg_2, sq_tup, sq_lst, zp_tup, en_lst, en_tup, aL_lst, sl_t, sl_s, Ty.below, List.any_cons, List.any_nil, subT, Bool.or_false, Bool.not_true, Bool.not_false, true_and, and_true, reduceCtorEq, decide_false, decide_true, Bool.false_eq_true, if_false, if_true, Bool.not_eq_true', Bool.not_not])
  rw [List.length_map]
  intro _
  refine ⟨⟨by omega, by omega⟩, ?_⟩
  refine ⟨fun i acc M' => ∃ fs : List (Str × Int × Int), acc = fs.map featD ∧ fs.map (·.1) = ws.take i ∧ fs.map (fun f => f.2.1) = sizes.take i ∧ (∀ f ∈ fs, 0 ≤ f.2.2 ∧ f.2.2 ≤ 9) ∧ Step p M1 M', ⟨[], rfl, rfl, rfl, by simp, Step.refl s1.pool⟩, fun _ _ _ _ _ => trivial, ?_, ?_⟩
  · rintro i x acc M' hx ⟨fs, rfl, e1, e2, hz, s2⟩
    obtain ⟨hi, rfl⟩ := rg_get hx
    rw [show (0 + (i : Int)) = ((i : Nat) : Int) by omega]
    have hi' : i < sizes.length := by omega
    have g1 : ws[i]? = some (ws[i]'(by omega)) := List.getElem?_eq_getElem (by omega)
    have g2 : sizes[i]? = some sizes[i] := List.getElem?_eq_getElem hi'
    generalize ws[i]'(by omega) = w at g1
    generalize sizes[i] = s at g2
    simp only [wpSs_nil, wpS, wpE, wpEs, wpEo, wpC, wpT, wpSrc, Rd_val, Rd_new, frz_lst, frz_ins, List.getElem?_cons_zero, List.getElem?_cons_succ, List.set_cons_zero, List.set_cons_succ, kw_nil, bindT, wipeD, List.map_cons, List.map_nil, List.zip_cons_cons, List.zip_nil_right, List.zip_nil_left, List.foldl_cons, List.foldl_nil, o_add, o_adds, o_addt, o_addl, o_sub, o_mul, o_div, o_mod, o_pow, c_lt, c_le, c_gt, c_ge, c_eq, c_ne, c_in, c_ni, c_is, c_isn, e_int, e_str, e_bool, t_bl, t_int, t_lst, t_tup, t_non, f_lent, f_lenl, f_lens, f_lbt, f_lbl, f_lbs, f_inti, f_tupl, f_tupt, f_lstt, f_lstl, f_stri, y_non, y_bl, y_int, y_str, y_tup, y_lst, y_ins, rg_1, rg_2, sq_tup, sq_lst, zp_tup, en_lst, en_tup, aL_lst, sl_t, sl_s, Ty.below, List.any_cons, List.any_nil, subT, Bool.or_false, Bool.not_true, Bool.not_false, true_and, and_true, reduceCtorEq, decide_false, decide_true, Bool.false_eq_true, if_false, if_true, Bool.not_eq_true', Bool.not_not]
    rw [ix_l (d := .str w) (at_nat (by rw [List.getElem?_map, g1]; rfl)), ix_l (d := .int s) (at_nat (by rw [List.getElem?_map, g2]; rfl)), h_draw]
    refine ⟨p, 10, rfl, by decide, by decide, s2.pool, fun r M2 r0 r1 s3 => ?_⟩
    simp only [wpSs_nil, wpS, wpE, wpEs, wpEo, wpC, wpT, wpSrc, Rd_val, Rd_new, frz_lst, frz_ins, List.getElem?_cons_zero, List.getElem?_cons_succ, List.set_cons_zero, List.set_cons_succ, kw_nil, bindT, wipeD, List.map_cons, List.map_nil, List.zip_cons_cons, List.zip_nil_right, List.zip_nil_left, List.foldl_cons, List.foldl_nil, o_add, o_adds, o_addt, o_addl, o_sub, o_mul, o_div, o_mod, o_pow, c_lt, c_le, c_gt, c_ge, c_eq, c_ne, c_in, c_ni, c_is, c_isn, e_int, e_str, e_bool, t_bl, t_int, t_lst, t_tup, t_non, f_lent, f_lenl, f_lens, f_lbt, f_lbl, f_lbs, f_inti, f_tupl, f_tupt, f_lstt, f_lstl, f_stri, y_non, y_bl, y_int, y_str, y_tup, y_lst, y_ins, rg_1, rg_2, sq_tup, sq_lst, zp_tup, en_lst, en_tup, aL_lst, sl_t, sl_s, Ty.below, List.any_cons, List.any_nil, subT, Bool.or_false, Bool.not_true, Bool.not_false, true_and, and_true, reduceCtorEq, decide_false, decide_true, Bool.false_eq_true, if_false, if_true, Bool.not_eq_true', Bool.not_not]
    refine ⟨fs ++ [(w, s, r)], by simp [featD], ?_, ?_, ?_, s2.trans s3⟩
    · rw [List.map_append, e1, take_get g1]; rfl
    · rw [List.map_append, e2, take_get g2]; rfl
    · intro f hf
      rcases List.mem_append.mp hf with h | h
      · exact hz f h
      · simp at h; subst h; exact ⟨r0, by simp only; omega⟩
  rintro acc M2 ⟨fs, rfl, e1, e2, hz, s2⟩
  rw [rg_len] at e1 e2
  rw [List.take_of_length_le (by omega)] at e1 e2
  have fl : fs.length = sizes.length := by rw [← e2, List.length_map]
  have fok : ∀ f ∈ fs, featOk f := fun f hf => by
    have w1 : f.1 ∈ ws := by rw [← e1]; exact List.mem_map.mpr ⟨f, hf, rfl⟩
    have w2 : f.2.1 ∈ sizes := by rw [← e2]; exact List.mem_map.mpr ⟨f, hf, rfl⟩
    exact ⟨wok _ w1, (hsz _ w2).1, (hsz _ w2).2, (hz f hf).1, (hz f hf).2⟩
  intro q hqn
  rw [h_init]
  refine ⟨q, fs, rfl, mput_same, by omega, by omega, fok, by rw [e1]; exact wn, fun M3 hM3 hr3 => ⟨rfl, _, hM3, ?_⟩⟩
  have npq : p ≠ q := fun e => (s2.pool.ne hqn) e.symm
  have s3 : Step p M2 (mdel M3 q) := ⟨by
    obtain ⟨l, h1, h2⟩ := s2.pool
    exact ⟨l, by unfold mdel; rw [if_neg npq]; exact hr3 p _ npq (by rw [mput_ne npq]; exact h1), h2⟩, fun a o hne e => by
    have na : a ≠ q := fun z => by rw [z, hqn] at e; cases e
    unfold mdel
    rw [if_neg na]
    exact hr3 a o na (by rw [mput_ne na]; exact e)⟩
  generalize mdel M3 q = M4 at s3
  have sA := (s1.trans s2).trans s3
  have ek : D.ins 0 ["features"] [.tup (fs.map featD)] = kindsD fs := rfl
  simp only [wpSs_nil, wpS, wpE, wpEs, wpEo, wpC, wpT, wpSrc, Rd_val, Rd_new, frz_lst, frz_ins, List.getElem?_cons_zero, List.getElem?_cons_succ, List.set_cons_zero, List.set_cons_succ, kw_nil, bindT, wipeD, List.map_cons, List.map_nil, List.zip_cons_cons, List.zip_nil_right, List.zip_nil_left, List.foldl_cons, List.foldl_nil, o_add, o_adds, o_addt, o_addl, o_sub, o_mul, o_div, o_mod, o_pow, c_lt, c_le, c_gt, c_ge, c_eq, c_ne, c_in, c_ni, c_is, c_isn, e_int, e_str, e_bool, t_bl, t_int, t_lst, t_tup, t_non, f_lent, f_lenl, f_lens, f_lbt, f_lbl, f_lbs, f_inti, f_tupl, f_tupt, f_lstt, f_lstl, f_stri, y_non, y_bl, y_int, y_str, y_tup, y_lst, y_ins, rg_1, rg_2, sq_tup, sq_lst, zp_tup, en_lst, en_tup, aL_lst, sl_t, sl_s, Ty.below, List.any_cons, List.any_nil, subT, Bool.or_false, Bool.not_true, Bool.not_false, true_and, and_true, reduceCtorEq, decide_false, decide_true, Bool.false_eq_true, if_false, if_true, Bool.not_eq_true', Bool.not_not]
  rw [ek]
  (rw [wpSs_cons]; simp only [wpSs_nil, wpS, wpE, wpEs, wpEo, wpC, wpT, wpSrc, Rd_val, Rd_new, frz_lst, frz_ins, List.getElem?_cons_zero, List.getElem?_cons_succ, List.set_cons_zero, List.set_cons_succ, kw_nil, bindT, wipeD, List.map_cons, List.map_nil, List.zip_cons_cons, List.zip_nil_right, List.zip_nil_left, List.foldl_cons, List.foldl_nil, o_add, o_adds, o_addt, o_addl, o_sub, o_mul, o_div, o_mod, o_pow, c_lt, c_le, c_gt, c_ge, c_eq, c_ne, c_in, c_ni, c_is, c_isn, e_int, e_str, e_bool, t_bl, t_int, t_lst, t_tup, t_non, f_lent, f_lenl, f_lens, f_lbt, f_lbl, f_lbs, f_inti, f_tupl, f_tupt, f_lstt, f_lstl, f_stri, y_non, y_bl, y_int, y_str, y_tup, y_lst, y_ins, rg_1, rg_2, sq_tup, sq_lst, zp_tup, en_lst, en_tup, aL_lst, sl_t, sl_s, Ty.below, List.any_cons, List.any_nil, subT, Bool.or_false, Bool.not_true, Bool.not_false, true_and, and_true, reduceCtorEq, decide_false, decide_true, Bool.false_eq_true, if_false, if_true, Bool.not_eq_true', Bool.not_not])
  -- every
  obtain ⟨rows0, er, ro⟩ := full_rows sizes fun s h => by have := hsz s h; omega
  obtain ⟨rol, rok0⟩ := ro
  have rle : ∀ {rows : List (List Int)}, rows.length = sizes.length → (∀ (i : Nat) r m, rows[i]? = some r → sizes[i]? = some m → RowOk r m) → ∀ r ∈ rows, r.length ≤ 8 := fun {rows} hl h r hr => by
    obtain ⟨i, hi⟩ := List.mem_iff_getElem?.mp hr
    have hi' : i < rows.length := (List.getElem?_eq_some_iff.mp hi).1
    have g2 : sizes[i]? = some (sizes[i]'(by omega)) := List.getElem?_eq_getElem (by omega)
    have := row_len (h i r _ hi g2)
    have := hsz _ (List.mem_of_getElem? g2)
    omega
  have mk : ∀ {rows : List (List Int)}, rows.length = sizes.length → (∀ (i : Nat) r m, rows[i]? = some r → sizes[i]? = some m → RowOk r m) → marksL (rows.map fun r => .tup (r.map .int)) sizes = true := fun {rows} hl h => marks_true rows sizes hl fun i r m h1 h2 => ⟨h i r m h1 h2, by have := hsz m (List.mem_of_getElem? h2); omega⟩
  have pu : ∀ {rows : List (List Int)}, pureL (rows.map fun r => D.tup (r.map .int)) = true := fun {rows} => pureL_of fun x hx => by
    obtain ⟨r, _, rfl⟩ := List.mem_map.mp hx
    exact pure_ints r
  refine comp_fm (fun d => match d with | .int s => some (.tup (rangeD 0 s)) | _ => none) trivial ?_ ?_
  · intro i x acc K hx hK
    obtain ⟨s, hs1, rfl⟩ := map_get hx
    have := hsz s (List.mem_of_getElem? hs1)
    simp only [wpSs_nil, wpS, wpE, wpEs, wpEo, wpC, wpT, wpSrc, Rd_val, Rd_new, frz_lst, frz_ins, List.getElem?_cons_zero, List.getElem?_cons_succ, List.set_cons_zero, List.set_cons_succ, kw_nil, bindT, wipeD, List.map_cons, List.map_nil, List.zip_cons_cons, List.zip_nil_right, List.zip_nil_left, List.foldl_cons, List.foldl_nil, o_add, o_adds, o_addt, o_addl, o_sub, o_mul, o_div, o_mod, o_pow, c_lt, c_le, c_gt, c_ge, c_eq, c_ne, c_in, c_ni, c_is, c_isn, e_int, e_str, e_bool, t_bl, t_int, t_lst, t_tup, t_non, f_lent, f_lenl, f_lens, f_lbt, f_lbl, f_lbs, f_inti, f_tupl, f_tupt, f_lstt, f_lstl, f_stri, y_non, y_bl, y_int, y_str, y_tup, y_lst, y_ins, rg_1, rg_2, sq_tup, sq_lst, zp_tup, en_lst, en_tup, aL_lst, sl_t, sl_s, Ty.below, List.any_cons, List.any_nil, subT, Bool.or_false, Bool.not_true, Bool.not_false, true_and, and_true, reduceCtorEq, decide_false, decide_true, Bool.false_eq_true, if_false, if_true, Bool.not_eq_true', Bool.not_not]
    refine ⟨⟨by omega, by omega⟩, ?_⟩
    simpa using hK
  rw [show (sizes.map D.int).filterMap (fun d => match d with | .int s => some (D.tup (rangeD 0 s)) | _ => none) = sizes.map fun s => D.tup (rangeD 0 s) from fm_map fun _ => rfl]
  simp only [wpSs_nil, wpS, wpE, wpEs, wpEo, wpC, wpT, wpSrc, Rd_val, Rd_new, frz_lst, frz_ins, List.getElem?_cons_zero, List.getElem?_cons_succ, List.set_cons_zero, List.set_cons_succ, kw_nil, bindT, wipeD, List.map_cons, List.map_nil, List.zip_cons_cons, List.zip_nil_right, List.zip_nil_left, List.foldl_cons, List.foldl_nil, o_add, o_adds, o_addt, o_addl, o_sub, o_mul, o_div, o_mod, o_pow, c_lt, c_le, c_gt, c_ge, c_eq, c_ne, c_in, c_ni, c_is, c_isn, e_int, e_str, e_bool, t_bl, t_int, t_lst, t_tup, t_non, f_lent, f_lenl, f_lens, f_lbt, f_lbl, f_lbs, f_inti, f_tupl, f_tupt, f_lstt, f_lstl, f_stri, y_non, y_bl, y_int, y_str, y_tup, y_lst, y_ins, rg_1, rg_2, sq_tup, sq_lst, zp_tup, en_lst, en_tup, aL_lst, sl_t, sl_s, Ty.below, List.any_cons, List.any_nil, subT, Bool.or_false, Bool.not_true, Bool.not_false, true_and, and_true, reduceCtorEq, decide_false, decide_true, Bool.false_eq_true, if_false, if_true, Bool.not_eq_true', Bool.not_not]
  (rw [wpSs_cons]; simp only [wpSs_nil, wpS, wpE, wpEs, wpEo, wpC, wpT, wpSrc, Rd_val, Rd_new, frz_lst, frz_ins, List.getElem?_cons_zero, List.getElem?_cons_succ, List.set_cons_zero, List.set_cons_succ, kw_nil, bindT, wipeD, List.map_cons, List.map_nil, List.zip_cons_cons, List.zip_nil_right, List.zip_nil_left, List.foldl_cons, List.foldl_nil, o_add, o_adds, o_addt, o_addl, o_sub, o_mul, o_div, o_mod, o_pow, c_lt, c_le, c_gt, c_ge, c_eq, c_ne, c_in, c_ni, c_is, c_isn, e_int, e_str, e_bool, t_bl, t_int, t_lst, t_tup, t_non, f_lent, f_lenl, f_lens, f_lbt, f_lbl, f_lbs, f_inti, f_tupl, f_tupt, f_lstt, f_lstl, f_stri, y_non, y_bl, y_int, y_str, y_tup, y_lst, y_ins, rg_1, rg_2, sq_tup, sq_lst, zp_tup, en_lst, en_tup, aL_lst, sl_t, sl_s, Ty.below, List.any_cons, List.any_nil, subT, Bool.or_false, Bool.not_true, Bool.not_false, true_and, and_true, reduceCtorEq, decide_false, decide_true, Bool.false_eq_true, if_false, if_true, Bool.not_eq_true', Bool.not_not])
  -- all_marks
  have e3 : (fs.map fun f => D.tup (rangeD 0 f.2.1)) = sizes.map fun s => .tup (rangeD 0 s) := by rw [← e2, List.map_map]; rfl
  have sokE : sokD (.tup (sizes.map fun s => D.tup (rangeD 0 s))) = true := by
    rw [er]
    simp only [sokD, sok_rows (rle rol rok0), Bool.and_true, decide_eq_true_eq, List.length_map]
    omega
  have depE : depD (.tup (sizes.map fun s => D.tup (rangeD 0 s))) < 6 := by
    rw [er]
    have := dep_rows (rows := rows0)
    simp only [depD]
    omega
  rw [meth_1, h_all]
  refine ⟨fs, rfl, fun f hf => by have := fok f hf; exact ⟨by have := this.2.1; omega, this.2.2.1⟩, ?_⟩
  simp only [wpSs_nil, wpS, wpE, wpEs, wpEo, wpC, wpT, wpSrc, Rd_val, Rd_new, frz_lst, frz_ins, List.getElem?_cons_zero, List.getElem?_cons_succ, List.set_cons_zero, List.set_cons_succ, kw_nil, bindT, wipeD, List.map_cons, List.map_nil, List.zip_cons_cons, List.zip_nil_right, List.zip_nil_left, List.foldl_cons, List.foldl_nil, o_add, o_adds, o_addt, o_addl, o_sub, o_mul, o_div, o_mod, o_pow, c_lt, c_le, c_gt, c_ge, c_eq, c_ne, c_in, c_ni, c_is, c_isn, e_int, e_str, e_bool, t_bl, t_int, t_lst, t_tup, t_non, f_lent, f_lenl, f_lens, f_lbt, f_lbl, f_lbs, f_inti, f_tupl, f_tupt, f_lstt, f_lstl, f_stri, y_non, y_bl, y_int, y_str, y_tup, y_lst, y_ins, rg_1, rg_2, sq_tup, sq_lst, zp_tup, en_lst, en_tup, aL_lst, sl_t, sl_s, Ty.below, List.any_cons, List.any_nil, subT, Bool.or_false, Bool.not_true, Bool.not_false, true_and, and_true, reduceCtorEq, decide_false, decide_true, Bool.false_eq_true, if_false, if_true, Bool.not_eq_true', Bool.not_not]
  rw [e3]
  refine same_ok sokE depE ?_
  simp only [wpSs_nil, wpS, wpE, wpEs, wpEo, wpC, wpT, wpSrc, Rd_val, Rd_new, frz_lst, frz_ins, List.getElem?_cons_zero, List.getElem?_cons_succ, List.set_cons_zero, List.set_cons_succ, kw_nil, bindT, wipeD, List.map_cons, List.map_nil, List.zip_cons_cons, List.zip_nil_right, List.zip_nil_left, List.foldl_cons, List.foldl_nil, o_add, o_adds, o_addt, o_addl, o_sub, o_mul, o_div, o_mod, o_pow, c_lt, c_le, c_gt, c_ge, c_eq, c_ne, c_in, c_ni, c_is, c_isn, e_int, e_str, e_bool, t_bl, t_int, t_lst, t_tup, t_non, f_lent, f_lenl, f_lens, f_lbt, f_lbl, f_lbs, f_inti, f_tupl, f_tupt, f_lstt, f_lstl, f_stri, y_non, y_bl, y_int, y_str, y_tup, y_lst, y_ins, rg_1, rg_2, sq_tup, sq_lst, zp_tup, en_lst, en_tup, aL_lst, sl_t, sl_s, Ty.below, List.any_cons, List.any_nil, subT, Bool.or_false, Bool.not_true, Bool.not_false, true_and, and_true, reduceCtorEq, decide_false, decide_true, Bool.false_eq_true, if_false, if_true, Bool.not_eq_true', Bool.not_not]
  rw [meth_0, h_are]
  refine ⟨fs, _, rfl, by rw [er]; exact pu, ?_⟩
  rw [e2]
  rw [show marksD sizes (.tup (sizes.map fun s => D.tup (rangeD 0 s))) = true by rw [er]; exact mk rol rok0]
  simp only [wpSs_nil, wpS, wpE, wpEs, wpEo, wpC, wpT, wpSrc, Rd_val, Rd_new, frz_lst, frz_ins, List.getElem?_cons_zero, List.getElem?_cons_succ, List.set_cons_zero, List.set_cons_succ, kw_nil, bindT, wipeD, List.map_cons, List.map_nil, List.zip_cons_cons, List.zip_nil_right, List.zip_nil_left, List.foldl_cons, List.foldl_nil, o_add, o_adds, o_addt, o_addl, o_sub, o_mul, o_div, o_mod, o_pow, c_lt, c_le, c_gt, c_ge, c_eq, c_ne, c_in, c_ni, c_is, c_isn, e_int, e_str, e_bool, t_bl, t_int, t_lst, t_tup, t_non, f_lent, f_lenl, f_lens, f_lbt, f_lbl, f_lbs, f_inti, f_tupl, f_tupt, f_lstt, f_lstl, f_stri, y_non, y_bl, y_int, y_str, y_tup, y_lst, y_ins, rg_1, rg_2, sq_tup, sq_lst, zp_tup, en_lst, en_tup, aL_lst, sl_t, sl_s, Ty.below, List.any_cons, List.any_nil, subT, Bool.or_false, Bool.not_true, Bool.not_false, true_and, and_true, reduceCtorEq, decide_false, decide_true, Bool.false_eq_true, if_false, if_true, Bool.not_eq_true', Bool.not_not]
  refine same_ok rfl (by decide) ?_
  simp only [wpSs_nil, wpS, wpE, wpEs, wpEo, wpC, wpT, wpSrc, Rd_val, Rd_new, frz_lst, frz_ins, List.getElem?_cons_zero, List.getElem?_cons_succ, List.set_cons_zero, List.set_cons_succ, kw_nil, bindT, wipeD, List.map_cons, List.map_nil, List.zip_cons_cons, List.zip_nil_right, List.zip_nil_left, List.foldl_cons, List.foldl_nil, o_add, o_adds, o_addt, o_addl, o_sub, o_mul, o_div, o_mod, o_pow, c_lt, c_le, c_gt, c_ge, c_eq, c_ne, c_in, c_ni, c_is, c_isn, e_int, e_str, e_bool, t_bl, t_int, t_lst, t_tup, t_non, f_lent, f_lenl, f_lens, f_lbt, f_lbl, f_lbs, f_inti, f_tupl, f_tupt, f_lstt, f_lstl, f_stri, y_non, y_bl, y_int, y_str, y_tup, y_lst, y_ins, rg_1, rg_2, sq_tup, sq_lst, zp_tup, en_lst, en_tup, aL_lst, sl_t, sl_s, Ty.below, List.any_cons, List.any_nil, subT, Bool.or_false, Bool.not_true, Bool.not_false, true_and, and_true, reduceCtorEq, decide_false, decide_true, Bool.false_eq_true, if_false, if_true, Bool.not_eq_true', Bool.not_not]
  (rw [wpSs_cons]; simp only [wpSs_nil, wpS, wpE, wpEs, wpEo, wpC, wpT, wpSrc, Rd_val, Rd_new, frz_lst, frz_ins, List.getElem?_cons_zero, List.getElem?_cons_succ, List.set_cons_zero, List.set_cons_succ, kw_nil, bindT, wipeD, List.map_cons, List.map_nil, List.zip_cons_cons, List.zip_nil_right, List.zip_nil_left, List.foldl_cons, List.foldl_nil, o_add, o_adds, o_addt, o_addl, o_sub, o_mul, o_div, o_mod, o_pow, c_lt, c_le, c_gt, c_ge, c_eq, c_ne, c_in, c_ni, c_is, c_isn, e_int, e_str, e_bool, t_bl, t_int, t_lst, t_tup, t_non, f_lent, f_lenl, f_lens, f_lbt, f_lbl, f_lbs, f_inti, f_tupl, f_tupt, f_lstt, f_lstl, f_stri, y_non, y_bl, y_int, y_str, y_tup, y_lst, y_ins, rg_1, rg_2, sq_tup, sq_lst, zp_tup, en_lst, en_tup, aL_lst, sl_t, sl_s, Ty.below, List.any_cons, List.any_nil, subT, Bool.or_false, Bool.not_true, Bool.not_false, true_and, and_true, reduceCtorEq, decide_false, decide_true, Bool.false_eq_true, if_false, if_true, Bool.not_eq_true', Bool.not_not])
  refine ⟨⟨by decide, by decide⟩, ?_⟩
  refine ⟨fun i ρ M' => ∃ (t m t2 v k sz : Option D), ρ = [some (.ref p), some (.lst (sizes.map .int)), some (.lst (ws.map .str)), some (kindsD fs), some (.tup (sizes.map fun s => D.tup (rangeD 0 s))), t, m, t2, v, k, sz] ∧ Step p M M', ⟨_, _, _, _, _, _, rfl, sA⟩, fun _ _ _ _ _ => trivial, ?_, ?_⟩
  · rintro i x ρ M5 hx ⟨t, m, t2, v, k, sz, rfl, s4⟩
    simp only [wpSs_nil, wpS, wpE, wpEs, wpEo, wpC, wpT, wpSrc, Rd_val, Rd_new, frz_lst, frz_ins, List.getElem?_cons_zero, List.getElem?_cons_succ, List.set_cons_zero, List.set_cons_succ, kw_nil, bindT, wipeD, List.map_cons, List.map_nil, List.zip_cons_cons, List.zip_nil_right, List.zip_nil_left, List.foldl_cons, List.foldl_nil, o_add, o_adds, o_addt, o_addl, o_sub, o_mul, o_div, o_mod, o_pow, c_lt, c_le, c_gt, c_ge, c_eq, c_ne, c_in, c_ni, c_is, c_isn, e_int, e_str, e_bool, t_bl, t_int, t_lst, t_tup, t_non, f_lent, f_lenl, f_lens, f_lbt, f_lbl, f_lbs, f_inti, f_tupl, f_tupt, f_lstt, f_lstl, f_stri, y_non, y_bl, y_int, y_str, y_tup, y_lst, y_ins, rg_1, rg_2, sq_tup, sq_lst, zp_tup, en_lst, en_tup, aL_lst, sl_t, sl_s, Ty.below, List.any_cons, List.any_nil, subT, Bool.or_false, Bool.not_true, Bool.not_false, true_and, and_true, reduceCtorEq, decide_false, decide_true, Bool.false_eq_true, if_false, if_true, Bool.not_eq_true', Bool.not_not]
    (rw [wpSs_cons]; simp only [wpSs_nil, wpS, wpE, wpEs, wpEo, wpC, wpT, wpSrc, Rd_val, Rd_new, frz_lst, frz_ins, List.getElem?_cons_zero, List.getElem?_cons_succ, List.set_cons_zero, List.set_cons_succ, kw_nil, bindT, wipeD, List.map_cons, List.map_nil, List.zip_cons_cons, List.zip_nil_right, List.zip_nil_left, List.foldl_cons, List.foldl_nil, o_add, o_adds, o_addt, o_addl, o_sub, o_mul, o_div, o_mod, o_pow, c_lt, c_le, c_gt, c_ge, c_eq, c_ne, c_in, c_ni, c_is, c_isn, e_int, e_str, e_bool, t_bl, t_int, t_lst, t_tup, t_non, f_lent, f_lenl, f_lens, f_lbt, f_lbl, f_lbs, f_inti, f_tupl, f_tupt, f_lstt, f_lstl, f_stri, y_non, y_bl, y_int, y_str, y_tup, y_lst, y_ins, rg_1, rg_2, sq_tup, sq_lst, zp_tup, en_lst, en_tup, aL_lst, sl_t, sl_s, Ty.below, List.any_cons, List.any_nil, subT, Bool.or_false, Bool.not_true, Bool.not_false, true_and, and_true, reduceCtorEq, decide_false, decide_true, Bool.false_eq_true, if_false, if_true, Bool.not_eq_true', Bool.not_not])
    refine ⟨fun i acc M' => ∃ rows : List (List Int), acc = rows.map (fun r => .tup (r.map .int)) ∧ rows.length = i ∧ (∀ (j : Nat) r m, rows[j]? = some r → sizes[j]? = some m → RowOk r m) ∧ Step p M5 M', ⟨[], rfl, rfl, fun _ _ _ h => by simp at h, Step.refl s4.pool⟩, fun _ _ _ _ _ => trivial, ?_, ?_⟩
    · rintro j y acc M6 hy ⟨rows, rfl, rfl, hr, s5⟩
      obtain ⟨s, hs1, rfl⟩ := map_get hy
      have hb := hsz s (List.mem_of_getElem? hs1)
      simp only [wpSs_nil, wpS, wpE, wpEs, wpEo, wpC, wpT, wpSrc, Rd_val, Rd_new, frz_lst, frz_ins, List.getElem?_cons_zero, List.getElem?_cons_succ, List.set_cons_zero, List.set_cons_succ, kw_nil, bindT, wipeD, List.map_cons, List.map_nil, List.zip_cons_cons, List.zip_nil_right, List.zip_nil_left, List.foldl_cons, List.foldl_nil, o_add, o_adds, o_addt, o_addl, o_sub, o_mul, o_div, o_mod, o_pow, c_lt, c_le, c_gt, c_ge, c_eq, c_ne, c_in, c_ni, c_is, c_isn, e_int, e_str, e_bool, t_bl, t_int, t_lst, t_tup, t_non, f_lent, f_lenl, f_lens, f_lbt, f_lbl, f_lbs, f_inti, f_tupl, f_tupt, f_lstt, f_lstl, f_stri, y_non, y_bl, y_int, y_str, y_tup, y_lst, y_ins, rg_1, rg_2, sq_tup, sq_lst, zp_tup, en_lst, en_tup, aL_lst, sl_t, sl_s, Ty.below, List.any_cons, List.any_nil, subT, Bool.or_false, Bool.not_true, Bool.not_false, true_and, and_true, reduceCtorEq, decide_false, decide_true, Bool.false_eq_true, if_false, if_true, Bool.not_eq_true', Bool.not_not]
      rw [h_vals]
      refine ⟨p, s, rfl, hb.1, hb.2, s5.pool, fun row M7 rok s6 => ?_⟩
      simp only [wpSs_nil, wpS, wpE, wpEs, wpEo, wpC, wpT, wpSrc, Rd_val, Rd_new, frz_lst, frz_ins, List.getElem?_cons_zero, List.getElem?_cons_succ, List.set_cons_zero, List.set_cons_succ, kw_nil, bindT, wipeD, List.map_cons, List.map_nil, List.zip_cons_cons, List.zip_nil_right, List.zip_nil_left, List.foldl_cons, List.foldl_nil, o_add, o_adds, o_addt, o_addl, o_sub, o_mul, o_div, o_mod, o_pow, c_lt, c_le, c_gt, c_ge, c_eq, c_ne, c_in, c_ni, c_is, c_isn, e_int, e_str, e_bool, t_bl, t_int, t_lst, t_tup, t_non, f_lent, f_lenl, f_lens, f_lbt, f_lbl, f_lbs, f_inti, f_tupl, f_tupt, f_lstt, f_lstl, f_stri, y_non, y_bl, y_int, y_str, y_tup, y_lst, y_ins, rg_1, rg_2, sq_tup, sq_lst, zp_tup, en_lst, en_tup, aL_lst, sl_t, sl_s, Ty.below, List.any_cons, List.any_nil, subT, Bool.or_false, Bool.not_true, Bool.not_false, true_and, and_true, reduceCtorEq, decide_false, decide_true, Bool.false_eq_true, if_false, if_true, Bool.not_eq_true', Bool.not_not]
      refine ⟨rows ++ [row], by simp, by simp, fun j r m h1 h2 => ?_, s5.trans s6⟩
      by_cases e : j < rows.length
      · rw [List.getElem?_append_left e] at h1
        exact hr j r m h1 h2
      · have ej : j = rows.length := by
          have := (List.getElem?_eq_some_iff.mp h1).1
          rw [List.length_append, List.length_singleton] at this
          omega
        subst ej
        rw [List.getElem?_append_right (by omega), Nat.sub_self] at h1
        simp at h1
        subst h1
        rw [hs1] at h2
        cases h2
        exact rok
    rintro acc M6 ⟨rows, rfl, hrl, hr, s5⟩
    rw [List.length_map] at hrl
    have sB := s4.trans s5
    simp only [wpSs_nil, wpS, wpE, wpEs, wpEo, wpC, wpT, wpSrc, Rd_val, Rd_new, frz_lst, frz_ins, List.getElem?_cons_zero, List.getElem?_cons_succ, List.set_cons_zero, List.set_cons_succ, kw_nil, bindT, wipeD, List.map_cons, List.map_nil, List.zip_cons_cons, List.zip_nil_right, List.zip_nil_left, List.foldl_cons, List.foldl_nil, o_add, o_adds, o_addt, o_addl, o_sub, o_mul, o_div, o_mod, o_pow, c_lt, c_le, c_gt, c_ge, c_eq, c_ne, c_in, c_ni, c_is, c_isn, e_int, e_str, e_bool, t_bl, t_int, t_lst, t_tup, t_non, f_lent, f_lenl, f_lens, f_lbt, f_lbl, f_lbs, f_inti, f_tupl, f_tupt, f_lstt, f_lstl, f_stri, y_non, y_bl, y_int, y_str, y_tup, y_lst, y_ins, rg_1, rg_2, sq_tup, sq_lst, zp_tup, en_lst, en_tup, aL_lst, sl_t, sl_s, Ty.below, List.any_cons, List.any_nil, subT, Bool.or_false, Bool.not_true, Bool.not_false, true_and, and_true, reduceCtorEq, decide_false, decide_true, Bool.false_eq_true, if_false, if_true, Bool.not_eq_true', Bool.not_not]
    (rw [wpSs_cons]; simp only [wpSs_nil, wpS, wpE, wpEs, wpEo, wpC, wpT, wpSrc, Rd_val, Rd_new, frz_lst, frz_ins, List.getElem?_cons_zero, List.getElem?_cons_succ, List.set_cons_zero, List.set_cons_succ, kw_nil, bindT, wipeD, List.map_cons, List.map_nil, List.zip_cons_cons, List.zip_nil_right, List.zip_nil_left, List.foldl_cons, List.foldl_nil, o_add, o_adds, o_addt, o_addl, o_sub, o_mul, o_div, o_mod, o_pow, c_lt, c_le, c_gt, c_ge, c_eq, c_ne, c_in, c_ni, c_is, c_isn, e_int, e_str, e_bool, t_bl, t_int, t_lst, t_tup, t_non, f_lent, f_lenl, f_lens, f_lbt, f_lbl, f_lbs, f_inti, f_tupl, f_tupt, f_lstt, f_lstl, f_stri, y_non, y_bl, y_int, y_str, y_tup, y_lst, y_ins, rg_1, rg_2, sq_tup, sq_lst, zp_tup, en_lst, en_tup, aL_lst, sl_t, sl_s, Ty.below, List.any_cons, List.any_nil, subT, Bool.or_false, Bool.not_true, Bool.not_false, true_and, and_true, reduceCtorEq, decide_false, decide_true, Bool.false_eq_true, if_false, if_true, Bool.not_eq_true', Bool.not_not])
    rw [meth_0, h_are]
    refine ⟨fs, _, rfl, pu, ?_⟩
    rw [e2, show marksD sizes (.tup (rows.map fun r => D.tup (r.map .int))) = true from mk hrl hr]
    simp only [wpSs_nil, wpS, wpE, wpEs, wpEo, wpC, wpT, wpSrc, Rd_val, Rd_new, frz_lst, frz_ins, List.getElem?_cons_zero, List.getElem?_cons_succ, List.set_cons_zero, List.set_cons_succ, kw_nil, bindT, wipeD, List.map_cons, List.map_nil, List.zip_cons_cons, List.zip_nil_right, List.zip_nil_left, List.foldl_cons, List.foldl_nil, o_add, o_adds, o_addt, o_addl, o_sub, o_mul, o_div, o_mod, o_pow, c_lt, c_le, c_gt, c_ge, c_eq, c_ne, c_in, c_ni, c_is, c_isn, e_int, e_str, e_bool, t_bl, t_int, t_lst, t_tup, t_non, f_lent, f_lenl, f_lens, f_lbt, f_lbl, f_lbs, f_inti, f_tupl, f_tupt, f_lstt, f_lstl, f_stri, y_non, y_bl, y_int, y_str, y_tup, y_lst, y_ins, rg_1, rg_2, sq_tup, sq_lst, zp_tup, en_lst, en_tup, aL_lst, sl_t, sl_s, Ty.below, List.any_cons, List.any_nil, subT, Bool.or_false, Bool.not_true, Bool.not_false, true_and, and_true, reduceCtorEq, decide_false, decide_true, Bool.false_eq_true, if_false, if_true, Bool.not_eq_true', Bool.not_not]
    refine same_ok rfl (by decide) ?_
    simp only [wpSs_nil, wpS, wpE, wpEs, wpEo, wpC, wpT, wpSrc, Rd_val, Rd_new, frz_lst, frz_ins, List.getElem?_cons_zero, List.getElem?_cons_succ, List.set_cons_zero, List.set_cons_succ, kw_nil, bindT, wipeD, List.map_cons, List.map_nil, List.zip_cons_cons, List.zip_nil_right, List.zip_nil_left, List.foldl_cons, List.foldl_nil, o_add, o_adds, o_addt, o_addl, o_sub, o_mul, o_div, o_mod, o_pow, c_lt, c_le, c_gt, c_ge, c_eq, c_ne, c_in, c_ni, c_is, c_isn, e_int, e_str, e_bool, t_bl, t_int, t_lst, t_tup, t_non, f_lent, f_lenl, f_lens, f_lbt, f_lbl, f_lbs, f_inti, f_tupl, f_tupt, f_lstt, f_lstl, f_stri, y_non, y_bl, y_int, y_str, y_tup, y_lst, y_ins, rg_1, rg_2, sq_tup, sq_lst, zp_tup, en_lst, en_tup, aL_lst, sl_t, sl_s, Ty.below, List.any_cons, List.any_nil, subT, Bool.or_false, Bool.not_true, Bool.not_false, true_and, and_true, reduceCtorEq, decide_false, decide_true, Bool.false_eq_true, if_false, if_true, Bool.not_eq_true', Bool.not_not]
    (rw [wpSs_cons]; simp only [wpSs_nil, wpS, wpE, wpEs, wpEo, wpC, wpT, wpSrc, Rd_val, Rd_new, frz_lst, frz_ins, List.getElem?_cons_zero, List.getElem?_cons_succ, List.set_cons_zero, List.set_cons_succ, kw_nil, bindT, wipeD, List.map_cons, List.map_nil, List.zip_cons_cons, List.zip_nil_right, List.zip_nil_left, List.foldl_cons, List.foldl_nil, o_add, o_adds, o_addt, o_addl, o_sub, o_mul, o_div, o_mod, o_pow, c_lt, c_le, c_gt, c_ge, c_eq, c_ne, c_in, c_ni, c_is, c_isn, e_int, e_str, e_bool, t_bl, t_int, t_lst, t_tup, t_non, f_lent, f_lenl, f_lens, f_lbt, f_lbl, f_lbs, f_inti, f_tupl, f_tupt, f_lstt, f_lstl, f_stri, y_non, y_bl, y_int, y_str, y_tup, y_lst, y_ins, rg_1, rg_2, sq_tup, sq_lst, zp_tup, en_lst, en_tup, aL_lst, sl_t, sl_s, Ty.below, List.any_cons, List.any_nil, subT, Bool.or_false, Bool.not_true, Bool.not_false, true_and, and_true, reduceCtorEq, decide_false, decide_true, Bool.false_eq_true, if_false, if_true, Bool.not_eq_true', Bool.not_not])
    refine ⟨⟨by decide, by decide⟩, ?_⟩
    refine ⟨fun i ρ M' => ∃ (t2 v : Option D), ρ = [some (.ref p), some (.lst (sizes.map .int)), some (.lst (ws.map .str)), some (kindsD fs), some (.tup (sizes.map fun s => D.tup (rangeD 0 s))), some x, some (.tup (rows.map fun r => .tup (r.map .int))), t2, v, k, sz] ∧ Step p M M', ⟨_, _, rfl, sB⟩, fun _ _ _ _ _ => trivial, ?_, ?_⟩
    · rintro i2 x2 ρ M7 hx2 ⟨t2, v, rfl, s6⟩
      simp only [wpSs_nil, wpS, wpE, wpEs, wpEo, wpC, wpT, wpSrc, Rd_val, Rd_new, frz_lst, frz_ins, List.getElem?_cons_zero, List.getElem?_cons_succ, List.set_cons_zero, List.set_cons_succ, kw_nil, bindT, wipeD, List.map_cons, List.map_nil, List.zip_cons_cons, List.zip_nil_right, List.zip_nil_left, List.foldl_cons, List.foldl_nil, o_add, o_adds, o_addt, o_addl, o_sub, o_mul, o_div, o_mod, o_pow, c_lt, c_le, c_gt, c_ge, c_eq, c_ne, c_in, c_ni, c_is, c_isn, e_int, e_str, e_bool, t_bl, t_int, t_lst, t_tup, t_non, f_lent, f_lenl, f_lens, f_lbt, f_lbl, f_lbs, f_inti, f_tupl, f_tupt, f_lstt, f_lstl, f_stri, y_non, y_bl, y_int, y_str, y_tup, y_lst, y_ins, rg_1, rg_2, sq_tup, sq_lst, zp_tup, en_lst, en_tup, aL_lst, sl_t, sl_s, Ty.below, List.any_cons, List.any_nil, subT, Bool.or_false, Bool.not_true, Bool.not_false, true_and, and_true, reduceCtorEq, decide_false, decide_true, Bool.false_eq_true, if_false, if_true, Bool.not_eq_true', Bool.not_not]
      (rw [wpSs_cons]; simp only [wpSs_nil, wpS, wpE, wpEs, wpEo, wpC, wpT, wpSrc, Rd_val, Rd_new, frz_lst, frz_ins, List.getElem?_cons_zero, List.getElem?_cons_succ, List.set_cons_zero, List.set_cons_succ, kw_nil, bindT, wipeD, List.map_cons, List.map_nil, List.zip_cons_cons, List.zip_nil_right, List.zip_nil_left, List.foldl_cons, List.foldl_nil, o_add, o_adds, o_addt, o_addl, o_sub, o_mul, o_div, o_mod, o_pow, c_lt, c_le, c_gt, c_ge, c_eq, c_ne, c_in, c_ni, c_is, c_isn, e_int, e_str, e_bool, t_bl, t_int, t_lst, t_tup, t_non, f_lent, f_lenl, f_lens, f_lbt, f_lbl, f_lbs, f_inti, f_tupl, f_tupt, f_lstt, f_lstl, f_stri, y_non, y_bl, y_int, y_str, y_tup, y_lst, y_ins, rg_1, rg_2, sq_tup, sq_lst, zp_tup, en_lst, en_tup, aL_lst, sl_t, sl_s, Ty.below, List.any_cons, List.any_nil, subT, Bool.or_false, Bool.not_true, Bool.not_false, true_and, and_true, reduceCtorEq, decide_false, decide_true, Bool.false_eq_true, if_false, if_true, Bool.not_eq_true', Bool.not_not])
      rw [h_chg]
      refine ⟨p, rows, sizes, rfl, by omega, by omega, hrl.symm, fun j r m h1 h2 => ⟨hr j r m h1 h2, hsz m (List.mem_of_getElem? h2)⟩, s6.pool, fun d M8 pd s7 => ?_⟩
      simp only [wpSs_nil, wpS, wpE, wpEs, wpEo, wpC, wpT, wpSrc, Rd_val, Rd_new, frz_lst, frz_ins, List.getElem?_cons_zero, List.getElem?_cons_succ, List.set_cons_zero, List.set_cons_succ, kw_nil, bindT, wipeD, List.map_cons, List.map_nil, List.zip_cons_cons, List.zip_nil_right, List.zip_nil_left, List.foldl_cons, List.foldl_nil, o_add, o_adds, o_addt, o_addl, o_sub, o_mul, o_div, o_mod, o_pow, c_lt, c_le, c_gt, c_ge, c_eq, c_ne, c_in, c_ni, c_is, c_isn, e_int, e_str, e_bool, t_bl, t_int, t_lst, t_tup, t_non, f_lent, f_lenl, f_lens, f_lbt, f_lbl, f_lbs, f_inti, f_tupl, f_tupt, f_lstt, f_lstl, f_stri, y_non, y_bl, y_int, y_str, y_tup, y_lst, y_ins, rg_1, rg_2, sq_tup, sq_lst, zp_tup, en_lst, en_tup, aL_lst, sl_t, sl_s, Ty.below, List.any_cons, List.any_nil, subT, Bool.or_false, Bool.not_true, Bool.not_false, true_and, and_true, reduceCtorEq, decide_false, decide_true, Bool.false_eq_true, if_false, if_true, Bool.not_eq_true', Bool.not_not]
      (rw [wpSs_cons]; simp only [wpSs_nil, wpS, wpE, wpEs, wpEo, wpC, wpT, wpSrc, Rd_val, Rd_new, frz_lst, frz_ins, List.getElem?_cons_zero, List.getElem?_cons_succ, List.set_cons_zero, List.set_cons_succ, kw_nil, bindT, wipeD, List.map_cons, List.map_nil, List.zip_cons_cons, List.zip_nil_right, List.zip_nil_left, List.foldl_cons, List.foldl_nil, o_add, o_adds, o_addt, o_addl, o_sub, o_mul, o_div, o_mod, o_pow, c_lt, c_le, c_gt, c_ge, c_eq, c_ne, c_in, c_ni, c_is, c_isn, e_int, e_str, e_bool, t_bl, t_int, t_lst, t_tup, t_non, f_lent, f_lenl, f_lens, f_lbt, f_lbl, f_lbs, f_inti, f_tupl, f_tupt, f_lstt, f_lstl, f_stri, y_non, y_bl, y_int, y_str, y_tup, y_lst, y_ins, rg_1, rg_2, sq_tup, sq_lst, zp_tup, en_lst, en_tup, aL_lst, sl_t, sl_s, Ty.below, List.any_cons, List.any_nil, subT, Bool.or_false, Bool.not_true, Bool.not_false, true_and, and_true, reduceCtorEq, decide_false, decide_true, Bool.false_eq_true, if_false, if_true, Bool.not_eq_true', Bool.not_not])
      rw [meth_0, h_are]
      refine ⟨fs, d, rfl, pd, ?_⟩
      simp only [wpSs_nil, wpS, wpE, wpEs, wpEo, wpC, wpT, wpSrc, Rd_val, Rd_new, frz_lst, frz_ins, List.getElem?_cons_zero, List.getElem?_cons_succ, List.set_cons_zero, List.set_cons_succ, kw_nil, bindT, wipeD, List.map_cons, List.map_nil, List.zip_cons_cons, List.zip_nil_right, List.zip_nil_left, List.foldl_cons, List.foldl_nil, o_add, o_adds, o_addt, o_addl, o_sub, o_mul, o_div, o_mod, o_pow, c_lt, c_le, c_gt, c_ge, c_eq, c_ne, c_in, c_ni, c_is, c_isn, e_int, e_str, e_bool, t_bl, t_int, t_lst, t_tup, t_non, f_lent, f_lenl, f_lens, f_lbt, f_lbl, f_lbs, f_inti, f_tupl, f_tupt, f_lstt, f_lstl, f_stri, y_non, y_bl, y_int, y_str, y_tup, y_lst, y_ins, rg_1, rg_2, sq_tup, sq_lst, zp_tup, en_lst, en_tup, aL_lst, sl_t, sl_s, Ty.below, List.any_cons, List.any_nil, subT, Bool.or_false, Bool.not_true, Bool.not_false, true_and, and_true, reduceCtorEq, decide_false, decide_true, Bool.false_eq_true, if_false, if_true, Bool.not_eq_true', Bool.not_not]
      rw [h_judge]
      refine ⟨sizes, d, rfl, pd, ?_⟩
      rw [e2]
      simp only [wpSs_nil, wpS, wpE, wpEs, wpEo, wpC, wpT, wpSrc, Rd_val, Rd_new, frz_lst, frz_ins, List.getElem?_cons_zero, List.getElem?_cons_succ, List.set_cons_zero, List.set_cons_succ, kw_nil, bindT, wipeD, List.map_cons, List.map_nil, List.zip_cons_cons, List.zip_nil_right, List.zip_nil_left, List.foldl_cons, List.foldl_nil, o_add, o_adds, o_addt, o_addl, o_sub, o_mul, o_div, o_mod, o_pow, c_lt, c_le, c_gt, c_ge, c_eq, c_ne, c_in, c_ni, c_is, c_isn, e_int, e_str, e_bool, t_bl, t_int, t_lst, t_tup, t_non, f_lent, f_lenl, f_lens, f_lbt, f_lbl, f_lbs, f_inti, f_tupl, f_tupt, f_lstt, f_lstl, f_stri, y_non, y_bl, y_int, y_str, y_tup, y_lst, y_ins, rg_1, rg_2, sq_tup, sq_lst, zp_tup, en_lst, en_tup, aL_lst, sl_t, sl_s, Ty.below, List.any_cons, List.any_nil, subT, Bool.or_false, Bool.not_true, Bool.not_false, true_and, and_true, reduceCtorEq, decide_false, decide_true, Bool.false_eq_true, if_false, if_true, Bool.not_eq_true', Bool.not_not]
      refine same_ok rfl (by simp [depD]) ?_
      simp only [wpSs_nil, wpS, wpE, wpEs, wpEo, wpC, wpT, wpSrc, Rd_val, Rd_new, frz_lst, frz_ins, List.getElem?_cons_zero, List.getElem?_cons_succ, List.set_cons_zero, List.set_cons_succ, kw_nil, bindT, wipeD, List.map_cons, List.map_nil, List.zip_cons_cons, List.zip_nil_right, List.zip_nil_left, List.foldl_cons, List.foldl_nil, o_add, o_adds, o_addt, o_addl, o_sub, o_mul, o_div, o_mod, o_pow, c_lt, c_le, c_gt, c_ge, c_eq, c_ne, c_in, c_ni, c_is, c_isn, e_int, e_str, e_bool, t_bl, t_int, t_lst, t_tup, t_non, f_lent, f_lenl, f_lens, f_lbt, f_lbl, f_lbs, f_inti, f_tupl, f_tupt, f_lstt, f_lstl, f_stri, y_non, y_bl, y_int, y_str, y_tup, y_lst, y_ins, rg_1, rg_2, sq_tup, sq_lst, zp_tup, en_lst, en_tup, aL_lst, sl_t, sl_s, Ty.below, List.any_cons, List.any_nil, subT, Bool.or_false, Bool.not_true, Bool.not_false, true_and, and_true, reduceCtorEq, decide_false, decide_true, Bool.false_eq_true, if_false, if_true, Bool.not_eq_true', Bool.not_not]
      exact ⟨_, _, rfl, s6.trans s7⟩
    · rintro ρ M7 ⟨t2, v, rfl, s6⟩
      exact ⟨_, _, _, _, _, _, rfl, s6⟩
  · rintro ρ M5 ⟨t, m, t2, v, k, sz, rfl, s4⟩
    (rw [wpSs_cons]; simp only [wpSs_nil, wpS, wpE, wpEs, wpEo, wpC, wpT, wpSrc, Rd_val, Rd_new, frz_lst, frz_ins, List.getElem?_cons_zero, List.getElem?_cons_succ, List.set_cons_zero, List.set_cons_succ, kw_nil, bindT, wipeD, List.map_cons, List.map_nil, List.zip_cons_cons, List.zip_nil_right, List.zip_nil_left, List.foldl_cons, List.foldl_nil, o_add, o_adds, o_addt, o_addl, o_sub, o_mul, o_div, o_mod, o_pow, c_lt, c_le, c_gt, c_ge, c_eq, c_ne, c_in, c_ni, c_is, c_isn, e_int, e_str, e_bool, t_bl, t_int, t_lst, t_tup, t_non, f_lent, f_lenl, f_lens, f_lbt, f_lbl, f_lbs, f_inti, f_tupl, f_tupt, f_lstt, f_lstl, f_stri, y_non, y_bl, y_int, y_str, y_tup, y_lst, y_ins, rg_1, rg_2, sq_tup, sq_lst, zp_tup, en_lst, en_tup, aL_lst, sl_t, sl_s, Ty.below, List.any_cons, List.any_nil, subT, Bool.or_false, Bool.not_true, Bool.not_false, true_and, and_true, reduceCtorEq, decide_false, decide_true, Bool.false_eq_true, if_false, if_true, Bool.not_eq_true', Bool.not_not])
    rw [meth_1, h_all]
    refine ⟨fs, rfl, fun f hf => by have := fok f hf; exact ⟨by have := this.2.1; omega, this.2.2.1⟩, ?_⟩
    simp only [wpSs_nil, wpS, wpE, wpEs, wpEo, wpC, wpT, wpSrc, Rd_val, Rd_new, frz_lst, frz_ins, List.getElem?_cons_zero, List.getElem?_cons_succ, List.set_cons_zero, List.set_cons_succ, kw_nil, bindT, wipeD, List.map_cons, List.map_nil, List.zip_cons_cons, List.zip_nil_right, List.zip_nil_left, List.foldl_cons, List.foldl_nil, o_add, o_adds, o_addt, o_addl, o_sub, o_mul, o_div, o_mod, o_pow, c_lt, c_le, c_gt, c_ge, c_eq, c_ne, c_in, c_ni, c_is, c_isn, e_int, e_str, e_bool, t_bl, t_int, t_lst, t_tup, t_non, f_lent, f_lenl, f_lens, f_lbt, f_lbl, f_lbs, f_inti, f_tupl, f_tupt, f_lstt, f_lstl, f_stri, y_non, y_bl, y_int, y_str, y_tup, y_lst, y_ins, rg_1, rg_2, sq_tup, sq_lst, zp_tup, en_lst, en_tup, aL_lst, sl_t, sl_s, Ty.below, List.any_cons, List.any_nil, subT, Bool.or_false, Bool.not_true, Bool.not_false, true_and, and_true, reduceCtorEq, decide_false, decide_true, Bool.false_eq_true, if_false, if_true, Bool.not_eq_true', Bool.not_not]
    rw [e3]
    exact same_ok sokE depE (hq _ s4)
theorem h_pool : TT.fn 16 = sp_law_pool := rfl
theorem h_holds : TT.fn 17 = sp_law_holds := rfl
theorem ok_law : SpOk TT N_law ir_law 1 sp_law := by
  rintro ds M Q E hl ⟨ns, rfl, hn, rfl, hq⟩
  show wpSs TT ir_law _ [some (.lst (ns.map .int)), none, none, none, none] _
  unfold ir_law
  (rw [wpSs_cons]; simp only [wpSs_nil, wpS, wpE, wpEs, wpEo, wpC, wpT, wpSrc, Rd_val, Rd_new, frz_lst, frz_ins, List.getElem?_cons_zero, List.getElem?_cons_succ, List.set_cons_zero, List.set_cons_succ, kw_nil, bindT, wipeD, List.map_cons, List.map_nil, List.zip_cons_cons, List.zip_nil_right, List.zip_nil_left, List.foldl_cons, List.foldl_nil, o_add, o_adds, o_addt, o_addl, o_sub, o_mul, o_div, o_mod, o_pow, c_lt, c_le, c_gt, c_ge, c_eq, c_ne, c_in, c_ni, c_is, c_isn, e_int, e_str, e_bool, t_bl, t_int, t_lst, t_tup, t_non, f_lent, f_lenl, f_lens, f_lbt, f_lbl, f_lbs, f_inti, f_tupl, f_tupt, f_lstt, f_lstl, f_stri, y_non, y_bl, y_int, y_str, y_tup, y_lst, y_ins, rg_1, rg_2, sq_tup, sq_lst, zp_tup, en_lst, en_tup, aL_lst, sl_t, sl_s, Ty.below, List.any_cons, List.any_nil, subT, Bool.or_false, Bool.not_true, Bool.not_false, true_and, and_true, reduceCtorEq, decide_false, decide_true, Bool.false_eq_true, if_false, if_true, Bool.not_eq_true', Bool.not_not])
  rw [h_pool]
  refine ⟨ns, rfl, hn, fun l hl => ?_⟩
  intro p hpn
  (rw [wpSs_cons]; simp only [wpSs_nil, wpS, wpE, wpEs, wpEo, wpC, wpT, wpSrc, Rd_val, Rd_new, frz_lst, frz_ins, List.getElem?_cons_zero, List.getElem?_cons_succ, List.set_cons_zero, List.set_cons_succ, kw_nil, bindT, wipeD, List.map_cons, List.map_nil, List.zip_cons_cons, List.zip_nil_right, List.zip_nil_left, List.foldl_cons, List.foldl_nil, o_add, o_adds, o_addt, o_addl, o_sub, o_mul, o_div, o_mod, o_pow, c_lt, c_le, c_gt, c_ge, c_eq, c_ne, c_in, c_ni, c_is, c_isn, e_int, e_str, e_bool, t_bl, t_int, t_lst, t_tup, t_non, f_lent, f_lenl, f_lens, f_lbt, f_lbl, f_lbs, f_inti, f_tupl, f_tupt, f_lstt, f_lstl, f_stri, y_non, y_bl, y_int, y_str, y_tup, y_lst, y_ins, rg_1, rg_2, sq_tup, sq_lst, zp_tup, en_lst, en_tup, aL_lst, sl_t, sl_s, Ty.below, List.any_cons, List.any_nil, subT, Bool.or_false, Bool.not_true, Bool.not_false, true_and, and_true, reduceCtorEq, decide_false, decide_true, Bool.false_eq_true, if_false, if_true, Bool.not_eq_true', Bool.not_not])
  refine ⟨⟨by decide, by decide⟩, ?_⟩
  refine ⟨fun i ρ M' => ∃ (a b c : Option D), ρ = [some (.lst (ns.map .int)), some (.ref p), a, b, c] ∧ PoolAt M' p, ⟨_, _, _, rfl, l, mput_same, hl⟩, fun _ _ _ _ _ => trivial, ?_, ?_⟩
  · rintro i x ρ M1 hx ⟨a, b, c, rfl, hp⟩
    simp only [wpSs_nil, wpS, wpE, wpEs, wpEo, wpC, wpT, wpSrc, Rd_val, Rd_new, frz_lst, frz_ins, List.getElem?_cons_zero, List.getElem?_cons_succ, List.set_cons_zero, List.set_cons_succ, kw_nil, bindT, wipeD, List.map_cons, List.map_nil, List.zip_cons_cons, List.zip_nil_right, List.zip_nil_left, List.foldl_cons, List.foldl_nil, o_add, o_adds, o_addt, o_addl, o_sub, o_mul, o_div, o_mod, o_pow, c_lt, c_le, c_gt, c_ge, c_eq, c_ne, c_in, c_ni, c_is, c_isn, e_int, e_str, e_bool, t_bl, t_int, t_lst, t_tup, t_non, f_lent, f_lenl, f_lens, f_lbt, f_lbl, f_lbs, f_inti, f_tupl, f_tupt, f_lstt, f_lstl, f_stri, y_non, y_bl, y_int, y_str, y_tup, y_lst, y_ins, rg_1, rg_2, sq_tup, sq_lst, zp_tup, en_lst, en_tup, aL_lst, sl_t, sl_s, Ty.below, List.any_cons, List.any_nil, subT, Bool.or_false, Bool.not_true, Bool.not_false, true_and, and_true, reduceCtorEq, decide_false, decide_true, Bool.false_eq_true, if_false, if_true, Bool.not_eq_true', Bool.not_not]
    (rw [wpSs_cons]; simp only [wpSs_nil, wpS, wpE, wpEs, wpEo, wpC, wpT, wpSrc, Rd_val, Rd_new, frz_lst, frz_ins, List.getElem?_cons_zero, List.getElem?_cons_succ, List.set_cons_zero, List.set_cons_succ, kw_nil, bindT, wipeD, List.map_cons, List.map_nil, List.zip_cons_cons, List.zip_nil_right, List.zip_nil_left, List.foldl_cons, List.foldl_nil, o_add, o_adds, o_addt, o_addl, o_sub, o_mul, o_div, o_mod, o_pow, c_lt, c_le, c_gt, c_ge, c_eq, c_ne, c_in, c_ni, c_is, c_isn, e_int, e_str, e_bool, t_bl, t_int, t_lst, t_tup, t_non, f_lent, f_lenl, f_lens, f_lbt, f_lbl, f_lbs, f_inti, f_tupl, f_tupt, f_lstt, f_lstl, f_stri, y_non, y_bl, y_int, y_str, y_tup, y_lst, y_ins, rg_1, rg_2, sq_tup, sq_lst, zp_tup, en_lst, en_tup, aL_lst, sl_t, sl_s, Ty.below, List.any_cons, List.any_nil, subT, Bool.or_false, Bool.not_true, Bool.not_false, true_and, and_true, reduceCtorEq, decide_false, decide_true, Bool.false_eq_true, if_false, if_true, Bool.not_eq_true', Bool.not_not])
    rw [h_draw]
    refine ⟨p, 6, rfl, by decide, by decide, hp, fun r M2 r0 r1 s1 => ?_⟩
    simp only [wpSs_nil, wpS, wpE, wpEs, wpEo, wpC, wpT, wpSrc, Rd_val, Rd_new, frz_lst, frz_ins, List.getElem?_cons_zero, List.getElem?_cons_succ, List.set_cons_zero, List.set_cons_succ, kw_nil, bindT, wipeD, List.map_cons, List.map_nil, List.zip_cons_cons, List.zip_nil_right, List.zip_nil_left, List.foldl_cons, List.foldl_nil, o_add, o_adds, o_addt, o_addl, o_sub, o_mul, o_div, o_mod, o_pow, c_lt, c_le, c_gt, c_ge, c_eq, c_ne, c_in, c_ni, c_is, c_isn, e_int, e_str, e_bool, t_bl, t_int, t_lst, t_tup, t_non, f_lent, f_lenl, f_lens, f_lbt, f_lbl, f_lbs, f_inti, f_tupl, f_tupt, f_lstt, f_lstl, f_stri, y_non, y_bl, y_int, y_str, y_tup, y_lst, y_ins, rg_1, rg_2, sq_tup, sq_lst, zp_tup, en_lst, en_tup, aL_lst, sl_t, sl_s, Ty.below, List.any_cons, List.any_nil, subT, Bool.or_false, Bool.not_true, Bool.not_false, true_and, and_true, reduceCtorEq, decide_false, decide_true, Bool.false_eq_true, if_false, if_true, Bool.not_eq_true', Bool.not_not]
    refine ⟨⟨by omega, by omega⟩, ?_⟩
    refine ⟨fun i acc M' => ∃ ss : List Int, acc = ss.map D.int ∧ ss.length = i ∧ (∀ s ∈ ss, 2 ≤ s ∧ s ≤ 8) ∧ PoolAt M' p, ⟨[], rfl, rfl, by simp, s1.pool⟩, fun _ _ _ _ _ => trivial, ?_, ?_⟩
    · rintro j y acc M3 hy ⟨ss, rfl, rfl, hss, hp3⟩
      simp only [wpSs_nil, wpS, wpE, wpEs, wpEo, wpC, wpT, wpSrc, Rd_val, Rd_new, frz_lst, frz_ins, List.getElem?_cons_zero, List.getElem?_cons_succ, List.set_cons_zero, List.set_cons_succ, kw_nil, bindT, wipeD, List.map_cons, List.map_nil, List.zip_cons_cons, List.zip_nil_right, List.zip_nil_left, List.foldl_cons, List.foldl_nil, o_add, o_adds, o_addt, o_addl, o_sub, o_mul, o_div, o_mod, o_pow, c_lt, c_le, c_gt, c_ge, c_eq, c_ne, c_in, c_ni, c_is, c_isn, e_int, e_str, e_bool, t_bl, t_int, t_lst, t_tup, t_non, f_lent, f_lenl, f_lens, f_lbt, f_lbl, f_lbs, f_inti, f_tupl, f_tupt, f_lstt, f_lstl, f_stri, y_non, y_bl, y_int, y_str, y_tup, y_lst, y_ins, rg_1, rg_2, sq_tup, sq_lst, zp_tup, en_lst, en_tup, aL_lst, sl_t, sl_s, Ty.below, List.any_cons, List.any_nil, subT, Bool.or_false, Bool.not_true, Bool.not_false, true_and, and_true, reduceCtorEq, decide_false, decide_true, Bool.false_eq_true, if_false, if_true, Bool.not_eq_true', Bool.not_not]
      refine ⟨p, 7, rfl, by decide, by decide, hp3, fun z M4 z0 z1 s2 => ?_⟩
      simp only [wpSs_nil, wpS, wpE, wpEs, wpEo, wpC, wpT, wpSrc, Rd_val, Rd_new, frz_lst, frz_ins, List.getElem?_cons_zero, List.getElem?_cons_succ, List.set_cons_zero, List.set_cons_succ, kw_nil, bindT, wipeD, List.map_cons, List.map_nil, List.zip_cons_cons, List.zip_nil_right, List.zip_nil_left, List.foldl_cons, List.foldl_nil, o_add, o_adds, o_addt, o_addl, o_sub, o_mul, o_div, o_mod, o_pow, c_lt, c_le, c_gt, c_ge, c_eq, c_ne, c_in, c_ni, c_is, c_isn, e_int, e_str, e_bool, t_bl, t_int, t_lst, t_tup, t_non, f_lent, f_lenl, f_lens, f_lbt, f_lbl, f_lbs, f_inti, f_tupl, f_tupt, f_lstt, f_lstl, f_stri, y_non, y_bl, y_int, y_str, y_tup, y_lst, y_ins, rg_1, rg_2, sq_tup, sq_lst, zp_tup, en_lst, en_tup, aL_lst, sl_t, sl_s, Ty.below, List.any_cons, List.any_nil, subT, Bool.or_false, Bool.not_true, Bool.not_false, true_and, and_true, reduceCtorEq, decide_false, decide_true, Bool.false_eq_true, if_false, if_true, Bool.not_eq_true', Bool.not_not]
      refine ⟨ss ++ [2 + z], by simp, by simp, fun s hs => ?_, s2.pool⟩
      rcases List.mem_append.mp hs with h | h
      · exact hss s h
      · simp at h; subst h; omega
    · rintro acc M3 ⟨ss, rfl, hsl, hss, hp3⟩
      rw [rg_len] at hsl
      simp only [wpSs_nil, wpS, wpE, wpEs, wpEo, wpC, wpT, wpSrc, Rd_val, Rd_new, frz_lst, frz_ins, List.getElem?_cons_zero, List.getElem?_cons_succ, List.set_cons_zero, List.set_cons_succ, kw_nil, bindT, wipeD, List.map_cons, List.map_nil, List.zip_cons_cons, List.zip_nil_right, List.zip_nil_left, List.foldl_cons, List.foldl_nil, o_add, o_adds, o_addt, o_addl, o_sub, o_mul, o_div, o_mod, o_pow, c_lt, c_le, c_gt, c_ge, c_eq, c_ne, c_in, c_ni, c_is, c_isn, e_int, e_str, e_bool, t_bl, t_int, t_lst, t_tup, t_non, f_lent, f_lenl, f_lens, f_lbt, f_lbl, f_lbs, f_inti, f_tupl, f_tupt, f_lstt, f_lstl, f_stri, y_non, y_bl, y_int, y_str, y_tup, y_lst, y_ins, rg_1, rg_2, sq_tup, sq_lst, zp_tup, en_lst, en_tup, aL_lst, sl_t, sl_s, Ty.below, List.any_cons, List.any_nil, subT, Bool.or_false, Bool.not_true, Bool.not_false, true_and, and_true, reduceCtorEq, decide_false, decide_true, Bool.false_eq_true, if_false, if_true, Bool.not_eq_true', Bool.not_not]
      (rw [wpSs_cons]; simp only [wpSs_nil, wpS, wpE, wpEs, wpEo, wpC, wpT, wpSrc, Rd_val, Rd_new, frz_lst, frz_ins, List.getElem?_cons_zero, List.getElem?_cons_succ, List.set_cons_zero, List.set_cons_succ, kw_nil, bindT, wipeD, List.map_cons, List.map_nil, List.zip_cons_cons, List.zip_nil_right, List.zip_nil_left, List.foldl_cons, List.foldl_nil, o_add, o_adds, o_addt, o_addl, o_sub, o_mul, o_div, o_mod, o_pow, c_lt, c_le, c_gt, c_ge, c_eq, c_ne, c_in, c_ni, c_is, c_isn, e_int, e_str, e_bool, t_bl, t_int, t_lst, t_tup, t_non, f_lent, f_lenl, f_lens, f_lbt, f_lbl, f_lbs, f_inti, f_tupl, f_tupt, f_lstt, f_lstl, f_stri, y_non, y_bl, y_int, y_str, y_tup, y_lst, y_ins, rg_1, rg_2, sq_tup, sq_lst, zp_tup, en_lst, en_tup, aL_lst, sl_t, sl_s, Ty.below, List.any_cons, List.any_nil, subT, Bool.or_false, Bool.not_true, Bool.not_false, true_and, and_true, reduceCtorEq, decide_false, decide_true, Bool.false_eq_true, if_false, if_true, Bool.not_eq_true', Bool.not_not])
      rw [h_holds]
      refine ⟨p, ss, rfl, by omega, by omega, hss, hp3, fun M4 s2 => ?_⟩
      simp only [wpSs_nil, wpS, wpE, wpEs, wpEo, wpC, wpT, wpSrc, Rd_val, Rd_new, frz_lst, frz_ins, List.getElem?_cons_zero, List.getElem?_cons_succ, List.set_cons_zero, List.set_cons_succ, kw_nil, bindT, wipeD, List.map_cons, List.map_nil, List.zip_cons_cons, List.zip_nil_right, List.zip_nil_left, List.foldl_cons, List.foldl_nil, o_add, o_adds, o_addt, o_addl, o_sub, o_mul, o_div, o_mod, o_pow, c_lt, c_le, c_gt, c_ge, c_eq, c_ne, c_in, c_ni, c_is, c_isn, e_int, e_str, e_bool, t_bl, t_int, t_lst, t_tup, t_non, f_lent, f_lenl, f_lens, f_lbt, f_lbl, f_lbs, f_inti, f_tupl, f_tupt, f_lstt, f_lstl, f_stri, y_non, y_bl, y_int, y_str, y_tup, y_lst, y_ins, rg_1, rg_2, sq_tup, sq_lst, zp_tup, en_lst, en_tup, aL_lst, sl_t, sl_s, Ty.below, List.any_cons, List.any_nil, subT, Bool.or_false, Bool.not_true, Bool.not_false, true_and, and_true, reduceCtorEq, decide_false, decide_true, Bool.false_eq_true, if_false, if_true, Bool.not_eq_true', Bool.not_not]
      exact ⟨_, _, _, rfl, s2.pool⟩
  · rintro ρ M1 ⟨a, b, c, rfl, hp⟩
    (rw [wpSs_cons]; simp only [wpSs_nil, wpS, wpE, wpEs, wpEo, wpC, wpT, wpSrc, Rd_val, Rd_new, frz_lst, frz_ins, List.getElem?_cons_zero, List.getElem?_cons_succ, List.set_cons_zero, List.set_cons_succ, kw_nil, bindT, wipeD, List.map_cons, List.map_nil, List.zip_cons_cons, List.zip_nil_right, List.zip_nil_left, List.foldl_cons, List.foldl_nil, o_add, o_adds, o_addt, o_addl, o_sub, o_mul, o_div, o_mod, o_pow, c_lt, c_le, c_gt, c_ge, c_eq, c_ne, c_in, c_ni, c_is, c_isn, e_int, e_str, e_bool, t_bl, t_int, t_lst, t_tup, t_non, f_lent, f_lenl, f_lens, f_lbt, f_lbl, f_lbs, f_inti, f_tupl, f_tupt, f_lstt, f_lstl, f_stri, y_non, y_bl, y_int, y_str, y_tup, y_lst, y_ins, rg_1, rg_2, sq_tup, sq_lst, zp_tup, en_lst, en_tup, aL_lst, sl_t, sl_s, Ty.below, List.any_cons, List.any_nil, subT, Bool.or_false, Bool.not_true, Bool.not_false, true_and, and_true, reduceCtorEq, decide_false, decide_true, Bool.false_eq_true, if_false, if_true, Bool.not_eq_true', Bool.not_not])
    exact hq _

end PL
namespace PL
open PySem PySem.Spec PyProof.Rows L2
theorem okT_law_draw : SpOk TT N_law_draw ir_law_draw 2 sp_law_draw := ok_law_draw
theorem okT_law_whole : SpOk TT N_law_whole ir_law_whole 1 sp_law_whole := ok_law_whole
theorem okT_law_are_marks : SpOk TT N_law_are_marks ir_law_are_marks 2 sp_law_are_marks := ok_law_are_marks rfl
theorem okT_law_row_changed : SpOk TT N_law_row_changed ir_law_row_changed 3 sp_law_row_changed := ok_law_row_changed rfl
theorem okT_law_changed : SpOk TT N_law_changed ir_law_changed 3 sp_law_changed := ok_law_changed rfl rfl
theorem okT_law_same (n : Nat) : SpOk (TT.at1 9 (sp_law_same n)) N_law_same ir_law_same 2 (sp_law_same (n + 1)) := ok_law_same n rfl
theorem okT_law_values : SpOk TT N_law_values ir_law_values 3 sp_law_values := ok_law_values rfl
theorem okT_law_words : SpOk TT N_law_words ir_law_words 2 sp_law_words := ok_law_words rfl
theorem okT_Kinds_all_marks : SpOk TT N_Kinds_all_marks ir_Kinds_all_marks 1 sp_Kinds_all_marks := ok_Kinds_all_marks rfl rfl
theorem okT_is_integer : SpOk TT N_is_integer ir_is_integer 1 sp_is_integer := ok_is_integer
theorem okT_is_from_to : SpOk TT N_is_from_to ir_is_from_to 3 sp_is_from_to := ok_is_from_to rfl
theorem okT_rises : SpOk TT N_rises ir_rises 2 sp_rises := ok_rises rfl
theorem okT_is_rising : SpOk TT N_is_rising ir_is_rising 2 sp_is_rising := ok_is_rising rfl
theorem okT_Kinds_are_marks : SpOk TT N_Kinds_are_marks ir_Kinds_are_marks 2 sp_Kinds_are_marks := ok_Kinds_are_marks rfl rfl rfl
theorem okT_is_sequence : SpOk TT N_is_sequence ir_is_sequence 1 sp_is_sequence := ok_is_sequence
theorem okT_is_word : SpOk TT N_is_word ir_is_word 1 sp_is_word := ok_is_word rfl rfl
theorem okT_is_feature : SpOk TT N_is_feature ir_is_feature 1 sp_is_feature := ok_is_feature rfl rfl rfl rfl rfl
theorem okT_Kinds_init : SpOk TT N_Kinds_init ir_Kinds_init 2 sp_Kinds_init := ok_Kinds_init rfl rfl rfl rfl rfl
theorem okT_law_holds : SpOk TT N_law_holds ir_law_holds 2 sp_law_holds := ok_law_holds
theorem okT_law_pool : SpOk TT N_law_pool ir_law_pool 1 sp_law_pool := ok_law_pool
theorem okT_law : SpOk TT N_law ir_law 1 sp_law := ok_law
theorem all_mk {P : Program} {w : World} {K : PySem.W.Frag} {h : Heap} {mg : Str → Option Value} {fa : Addr} {C0 f1 f2 f3 f4 f5 f6 f7 f8 f9 f10 f11 f12 f13 f14 f15 f16 f17 f18 f19 f20 f21 : Addr} (X : K.In h) (G : h.Ns mainGlobals mg) (hfa : mg "law" = some (.ref fa))
    {od1 an1 od2 an2 od3 an3 od4 an4 od5 an5 od6 an6 od7 an7 od8 an8 od9 an9 od10 an10 od11 an11 od12 an12 od13 an13 od14 an14 od15 an15 od16 an16 od17 an17 od18 an18 od19 an19 od20 an20 od21 an21 : Option Addr} {sl1 sl2 sl3 sl4 sl5 sl6 sl7 sl8 sl9 sl10 sl11 sl12 sl13 sl14 sl15 sl16 sl17 sl18 sl19 sl20 sl21 : Array (Option Value)} {oc1 kV1 dc1 pm1 cd1 ct1 oc2 kV2 dc2 pm2 cd2 ct2 oc3 kV3 dc3 pm3 cd3 ct3 oc4 kV4 dc4 pm4 cd4 ct4 oc5 kV5 dc5 pm5 cd5 ct5 oc6 kV6 dc6 pm6 cd6 ct6 oc7 kV7 dc7 pm7 cd7 ct7 oc8 kV8 dc8 pm8 cd8 ct8 oc9 kV9 dc9 pm9 cd9 ct9 oc10 kV10 dc10 pm10 cd10 ct10 oc11 kV11 dc11 pm11 cd11 ct11 oc12 kV12 dc12 pm12 cd12 ct12 oc13 kV13 dc13 pm13 cd13 ct13 oc14 kV14 dc14 pm14 cd14 ct14 oc15 kV15 dc15 pm15 cd15 ct15 oc16 kV16 dc16 pm16 cd16 ct16 oc17 kV17 dc17 pm17 cd17 ct17 oc18 kV18 dc18 pm18 cd18 ct18 oc19 kV19 dc19 pm19 cd19 ct19 oc20 kV20 dc20 pm20 cd20 ct20 oc21 kV21 dc21 pm21 cd21 ct21 : Value}  {tk1 tk2 tk3 tk4 tk5 : Nat}
    (c0C : PySem.W.nsIn K mainGlobals "Kinds" = some (some (.ref C0)))
    (c0g : PySem.W.plainGet K C0 Str.empty = true)
    (c0d : PySem.W.hasDictIn K C0 = true)
    (c0o : PySem.W.plainOver K C0 = true)
    (c0s : PySem.W.findIn K (.ref C0) "__setattr__" = some (some (.builtin "object.__setattr__")))
    (c0h : PySem.W.findIn K (.ref C0) "__class__" = some (some (.builtin "object.__class__")))
    (c0m : PySem.W.mroIn K C0 (.type "object") = some true)
    (c0k : PySem.W.makesIn K C0 = true)
    (c0p : PySem.W.keepIn K (.ref C0) = true)
    (c0a0 : PySem.W.findIn K (.ref C0) "features" = some none)
    (c0i : PySem.W.isClsIn K C0 = true)
    (c0t : PySem.W.typeIn K (.ref C0) = some (.type "type"))
    (c0xint : PySem.W.mroIn K C0 (.type "int") = some false)
    (c0xstr : PySem.W.mroIn K C0 (.type "str") = some false)
    (c0xbool : PySem.W.mroIn K C0 (.type "bool") = some false)
    (c0xlist : PySem.W.mroIn K C0 (.type "list") = some false)
    (c0xtuple : PySem.W.mroIn K C0 (.type "tuple") = some false)
    (c0xdict : PySem.W.mroIn K C0 (.type "dict") = some false)
    (c0xnone : PySem.W.mroIn K C0 (.type "NoneType") = some false)
    (hn0 : PySem.W.specialIn K (.builtin "object.__class__") "__get__" = some (some (.builtin "getset_descriptor.__get__")))
    (htk0 : PySem.W.takesIn K (.builtin "object.__class__") = some true)
    (g1 : PySem.W.nsIn K mainGlobals "LETTERS" = some (some (.str "abcdefghijklmnopqrstuvwxyz" tk1)))
    (g4 : PySem.W.nsIn K mainGlobals "MOST_FEATURES" = some (some (.int 6 tk2)))
    (g3 : PySem.W.nsIn K mainGlobals "MOST_VALUES" = some (some (.int 8 tk3)))
    (g2 : PySem.W.nsIn K mainGlobals "MOST_WEIGHT" = some (some (.int 9 tk4)))
    (g0 : PySem.W.nsIn K mainGlobals "MOST_WORD" = some (some (.int 12 tk5)))
    (a1 : PySem.W.nsIn K mainGlobals "_law_draw" = some (some (.ref f1)))
    (l1 : K.lookup f1 = some ⟨oc1, od1, .func (PySem.W.fnOf "_law_draw" "_law_draw" (defArgs s_law_draw) (defBody s_law_draw) (defScope s_law_draw) .none kV1 dc1 pm1 an1 cd1 ct1), sl1⟩)
    (d1 : PySem.W.codeIn K cd1 "_law_draw" = true)
    (k1 : PySem.W.keepIn K (.ref f1) = true)
    (a2 : PySem.W.nsIn K mainGlobals "_law_whole" = some (some (.ref f2)))
    (l2 : K.lookup f2 = some ⟨oc2, od2, .func (PySem.W.fnOf "_law_whole" "_law_whole" (defArgs s_law_whole) (defBody s_law_whole) (defScope s_law_whole) .none kV2 dc2 pm2 an2 cd2 ct2), sl2⟩)
    (d2 : PySem.W.codeIn K cd2 "_law_whole" = true)
    (k2 : PySem.W.keepIn K (.ref f2) = true)
    (a3 : PySem.W.nsIn K mainGlobals "_law_are_marks" = some (some (.ref f3)))
    (l3 : K.lookup f3 = some ⟨oc3, od3, .func (PySem.W.fnOf "_law_are_marks" "_law_are_marks" (defArgs s_law_are_marks) (defBody s_law_are_marks) (defScope s_law_are_marks) .none kV3 dc3 pm3 an3 cd3 ct3), sl3⟩)
    (d3 : PySem.W.codeIn K cd3 "_law_are_marks" = true)
    (k3 : PySem.W.keepIn K (.ref f3) = true)
    (a4 : PySem.W.nsIn K mainGlobals "_law_row_changed" = some (some (.ref f4)))
    (l4 : K.lookup f4 = some ⟨oc4, od4, .func (PySem.W.fnOf "_law_row_changed" "_law_row_changed" (defArgs s_law_row_changed) (defBody s_law_row_changed) (defScope s_law_row_changed) .none kV4 dc4 pm4 an4 cd4 ct4), sl4⟩)
    (d4 : PySem.W.codeIn K cd4 "_law_row_changed" = true)
    (k4 : PySem.W.keepIn K (.ref f4) = true)
    (a5 : PySem.W.nsIn K mainGlobals "_law_changed" = some (some (.ref f5)))
    (l5 : K.lookup f5 = some ⟨oc5, od5, .func (PySem.W.fnOf "_law_changed" "_law_changed" (defArgs s_law_changed) (defBody s_law_changed) (defScope s_law_changed) .none kV5 dc5 pm5 an5 cd5 ct5), sl5⟩)
    (d5 : PySem.W.codeIn K cd5 "_law_changed" = true)
    (k5 : PySem.W.keepIn K (.ref f5) = true)
    (a6 : PySem.W.nsIn K mainGlobals "_law_same" = some (some (.ref f6)))
    (l6 : K.lookup f6 = some ⟨oc6, od6, .func (PySem.W.fnOf "_law_same" "_law_same" (defArgs s_law_same) (defBody s_law_same) (defScope s_law_same) .none kV6 dc6 pm6 an6 cd6 ct6), sl6⟩)
    (d6 : PySem.W.codeIn K cd6 "_law_same" = true)
    (k6 : PySem.W.keepIn K (.ref f6) = true)
    (a7 : PySem.W.nsIn K mainGlobals "_law_values" = some (some (.ref f7)))
    (l7 : K.lookup f7 = some ⟨oc7, od7, .func (PySem.W.fnOf "_law_values" "_law_values" (defArgs s_law_values) (defBody s_law_values) (defScope s_law_values) .none kV7 dc7 pm7 an7 cd7 ct7), sl7⟩)
    (d7 : PySem.W.codeIn K cd7 "_law_values" = true)
    (k7 : PySem.W.keepIn K (.ref f7) = true)
    (a8 : PySem.W.nsIn K mainGlobals "_law_words" = some (some (.ref f8)))
    (l8 : K.lookup f8 = some ⟨oc8, od8, .func (PySem.W.fnOf "_law_words" "_law_words" (defArgs s_law_words) (defBody s_law_words) (defScope s_law_words) .none kV8 dc8 pm8 an8 cd8 ct8), sl8⟩)
    (d8 : PySem.W.codeIn K cd8 "_law_words" = true)
    (k8 : PySem.W.keepIn K (.ref f8) = true)
    (a9 : PySem.W.findIn K (.ref C0) "all_marks" = some (some (.ref f9)))
    (i9 : PySem.W.isFn K (.ref f9) = true)
    (l9 : K.lookup f9 = some ⟨oc9, od9, .func (PySem.W.fnOf "all_marks" "Kinds.all_marks" (defArgs s_Kinds_all_marks) (defBody s_Kinds_all_marks) (defScope s_Kinds_all_marks) .none kV9 dc9 pm9 an9 cd9 ct9), sl9⟩)
    (d9 : PySem.W.codeIn K cd9 "Kinds.all_marks" = true)
    (k9 : PySem.W.keepIn K (.ref f9) = true)
    (a10 : PySem.W.nsIn K mainGlobals "is_integer" = some (some (.ref f10)))
    (l10 : K.lookup f10 = some ⟨oc10, od10, .func (PySem.W.fnOf "is_integer" "is_integer" (defArgs s_is_integer) (defBody s_is_integer) (defScope s_is_integer) .none kV10 dc10 pm10 an10 cd10 ct10), sl10⟩)
    (d10 : PySem.W.codeIn K cd10 "is_integer" = true)
    (k10 : PySem.W.keepIn K (.ref f10) = true)
    (a11 : PySem.W.nsIn K mainGlobals "is_from_to" = some (some (.ref f11)))
    (l11 : K.lookup f11 = some ⟨oc11, od11, .func (PySem.W.fnOf "is_from_to" "is_from_to" (defArgs s_is_from_to) (defBody s_is_from_to) (defScope s_is_from_to) .none kV11 dc11 pm11 an11 cd11 ct11), sl11⟩)
    (d11 : PySem.W.codeIn K cd11 "is_from_to" = true)
    (k11 : PySem.W.keepIn K (.ref f11) = true)
    (a12 : PySem.W.nsIn K mainGlobals "rises" = some (some (.ref f12)))
    (l12 : K.lookup f12 = some ⟨oc12, od12, .func (PySem.W.fnOf "rises" "rises" (defArgs s_rises) (defBody s_rises) (defScope s_rises) .none kV12 dc12 pm12 an12 cd12 ct12), sl12⟩)
    (d12 : PySem.W.codeIn K cd12 "rises" = true)
    (k12 : PySem.W.keepIn K (.ref f12) = true)
    (a13 : PySem.W.nsIn K mainGlobals "is_rising" = some (some (.ref f13)))
    (l13 : K.lookup f13 = some ⟨oc13, od13, .func (PySem.W.fnOf "is_rising" "is_rising" (defArgs s_is_rising) (defBody s_is_rising) (defScope s_is_rising) .none kV13 dc13 pm13 an13 cd13 ct13), sl13⟩)
    (d13 : PySem.W.codeIn K cd13 "is_rising" = true)
    (k13 : PySem.W.keepIn K (.ref f13) = true)
    (a14 : PySem.W.findIn K (.ref C0) "are_marks" = some (some (.ref f14)))
    (i14 : PySem.W.isFn K (.ref f14) = true)
    (l14 : K.lookup f14 = some ⟨oc14, od14, .func (PySem.W.fnOf "are_marks" "Kinds.are_marks" (defArgs s_Kinds_are_marks) (defBody s_Kinds_are_marks) (defScope s_Kinds_are_marks) .none kV14 dc14 pm14 an14 cd14 ct14), sl14⟩)
    (d14 : PySem.W.codeIn K cd14 "Kinds.are_marks" = true)
    (k14 : PySem.W.keepIn K (.ref f14) = true)
    (a15 : PySem.W.nsIn K mainGlobals "is_sequence" = some (some (.ref f15)))
    (l15 : K.lookup f15 = some ⟨oc15, od15, .func (PySem.W.fnOf "is_sequence" "is_sequence" (defArgs s_is_sequence) (defBody s_is_sequence) (defScope s_is_sequence) .none kV15 dc15 pm15 an15 cd15 ct15), sl15⟩)
    (d15 : PySem.W.codeIn K cd15 "is_sequence" = true)
    (k15 : PySem.W.keepIn K (.ref f15) = true)
    (a16 : PySem.W.nsIn K mainGlobals "is_word" = some (some (.ref f16)))
    (l16 : K.lookup f16 = some ⟨oc16, od16, .func (PySem.W.fnOf "is_word" "is_word" (defArgs s_is_word) (defBody s_is_word) (defScope s_is_word) .none kV16 dc16 pm16 an16 cd16 ct16), sl16⟩)
    (d16 : PySem.W.codeIn K cd16 "is_word" = true)
    (k16 : PySem.W.keepIn K (.ref f16) = true)
    (a17 : PySem.W.nsIn K mainGlobals "is_feature" = some (some (.ref f17)))
    (l17 : K.lookup f17 = some ⟨oc17, od17, .func (PySem.W.fnOf "is_feature" "is_feature" (defArgs s_is_feature) (defBody s_is_feature) (defScope s_is_feature) .none kV17 dc17 pm17 an17 cd17 ct17), sl17⟩)
    (d17 : PySem.W.codeIn K cd17 "is_feature" = true)
    (k17 : PySem.W.keepIn K (.ref f17) = true)
    (a18 : PySem.W.findIn K (.ref C0) "__init__" = some (some (.ref f18)))
    (i18 : PySem.W.isFn K (.ref f18) = true)
    (l18 : K.lookup f18 = some ⟨oc18, od18, .func (PySem.W.fnOf "__init__" "Kinds.__init__" (defArgs s_Kinds_init) (defBody s_Kinds_init) (defScope s_Kinds_init) .none kV18 dc18 pm18 an18 cd18 ct18), sl18⟩)
    (d18 : PySem.W.codeIn K cd18 "Kinds.__init__" = true)
    (k18 : PySem.W.keepIn K (.ref f18) = true)
    (a19 : PySem.W.nsIn K mainGlobals "_law_holds" = some (some (.ref f19)))
    (l19 : K.lookup f19 = some ⟨oc19, od19, .func (PySem.W.fnOf "_law_holds" "_law_holds" (defArgs s_law_holds) (defBody s_law_holds) (defScope s_law_holds) .none kV19 dc19 pm19 an19 cd19 ct19), sl19⟩)
    (d19 : PySem.W.codeIn K cd19 "_law_holds" = true)
    (k19 : PySem.W.keepIn K (.ref f19) = true)
    (a20 : PySem.W.nsIn K mainGlobals "_law_pool" = some (some (.ref f20)))
    (l20 : K.lookup f20 = some ⟨oc20, od20, .func (PySem.W.fnOf "_law_pool" "_law_pool" (defArgs s_law_pool) (defBody s_law_pool) (defScope s_law_pool) .none kV20 dc20 pm20 an20 cd20 ct20), sl20⟩)
    (d20 : PySem.W.codeIn K cd20 "_law_pool" = true)
    (k20 : PySem.W.keepIn K (.ref f20) = true)
    (a21 : PySem.W.nsIn K mainGlobals "law" = some (some (.ref f21)))
    (l21 : K.lookup f21 = some ⟨oc21, od21, .func (PySem.W.fnOf "law" "law" (defArgs s_law) (defBody s_law) (defScope s_law) .none kV21 dc21 pm21 an21 cd21 ct21), sl21⟩)
    (d21 : PySem.W.codeIn K cd21 "law" = true)
    (k21 : PySem.W.keepIn K (.ref f21) = true)
    (z_range : PySem.W.nsIn K mainGlobals "range" = some none)
    (z_enumerate : PySem.W.nsIn K mainGlobals "enumerate" = some none)
    (z_zip : PySem.W.nsIn K mainGlobals "zip" = some none)
    (z_tuple : PySem.W.nsIn K mainGlobals "tuple" = some none)
    (z_reversed : PySem.W.nsIn K mainGlobals "reversed" = some none)
    (z_isinstance : PySem.W.nsIn K mainGlobals "isinstance" = some none)
    (z_len : PySem.W.nsIn K mainGlobals "len" = some none)
    (z_int : PySem.W.nsIn K mainGlobals "int" = some none)
    (z_str : PySem.W.nsIn K mainGlobals "str" = some none)
    (z_all : PySem.W.nsIn K mainGlobals "all" = some none)
    (z_any : PySem.W.nsIn K mainGlobals "any" = some none)
    (z_list : PySem.W.nsIn K mainGlobals "list" = some none)
    (z_max : PySem.W.nsIn K mainGlobals "max" = some none)
    (z_min : PySem.W.nsIn K mainGlobals "min" = some none)
    (z_abs : PySem.W.nsIn K mainGlobals "abs" = some none)
    (z_sum : PySem.W.nsIn K mainGlobals "sum" = some none)
    (z_bool : PySem.W.nsIn K mainGlobals "bool" = some none)
    (z_dict : PySem.W.nsIn K mainGlobals "dict" = some none)
    (z_NoneType : PySem.W.nsIn K mainGlobals "NoneType" = some none) :
    ∃ fd : FuncData, (∀ (s : Shared) (v : Value), BindsTo s fd ⟨[v], []⟩ [("script", v)]) ∧ ∀ base : Heap, K.In base → base.Ns mainGlobals mg → FnOk P w K mg base (L2.CX P w) 8 fa fd ["script"] (lawSpV K) := by
  have e := hfa.symm.trans (PySem.W.mg_of X G a21)
  cases e
  let cA : Nat → Addr := fun k => match k with
    | 0 => C0
    | _ => 0
  let S : Cs := ⟨K, cA⟩
  have blt : ∀ x ∈ bltN, mg x = none := by
    intro x hx
    simp only [bltN, List.mem_cons, List.not_mem_nil, or_false] at hx
    rcases hx with rfl | rfl | rfl | rfl | rfl | rfl | rfl | rfl | rfl | rfl | rfl | rfl | rfl | rfl | rfl | rfl | rfl | rfl | rfl
    · exact PySem.W.mg_none_of X G z_range
    · exact PySem.W.mg_none_of X G z_enumerate
    · exact PySem.W.mg_none_of X G z_zip
    · exact PySem.W.mg_none_of X G z_tuple
    · exact PySem.W.mg_none_of X G z_reversed
    · exact PySem.W.mg_none_of X G z_isinstance
    · exact PySem.W.mg_none_of X G z_len
    · exact PySem.W.mg_none_of X G z_int
    · exact PySem.W.mg_none_of X G z_str
    · exact PySem.W.mg_none_of X G z_all
    · exact PySem.W.mg_none_of X G z_any
    · exact PySem.W.mg_none_of X G z_list
    · exact PySem.W.mg_none_of X G z_max
    · exact PySem.W.mg_none_of X G z_min
    · exact PySem.W.mg_none_of X G z_abs
    · exact PySem.W.mg_none_of X G z_sum
    · exact PySem.W.mg_none_of X G z_bool
    · exact PySem.W.mg_none_of X G z_dict
    · exact PySem.W.mg_none_of X G z_NoneType
  have clok : ∀ k, TT.nc k = true → ClsOk S.K (S.cA k) (TT.at_ k) := by
    intro k hk
    have hk : k = 0 := by simpa [TT, t_nc] using hk
    rcases hk with rfl
    · refine ⟨⟨c0g, c0d, c0o, c0s⟩, fun f hf => ?_, c0h, hn0, htk0, c0m⟩
      have hf : f = "features" := by simpa [TT, t_at] using hf
      rcases hf with rfl
      · exact c0a0
  have kit : KitOk S TT.nc := by
    have nk : ∀ {k}, TT.nc k = true → k = 0 := fun {k} hk => by simpa [TT, t_nc] using hk
    refine ⟨fun k hk t ht => ?_, fun k hk t ht => ?_, fun k j hk hj => ?_⟩
    · rcases nk hk with rfl
      · cases t with
        | int => exact kit_ct c0xint (by decide +kernel)
        | str => exact kit_ct c0xstr (by decide +kernel)
        | bool => exact kit_ct c0xbool (by decide +kernel)
        | list => exact kit_ct c0xlist (by decide +kernel)
        | tuple => exact kit_ct c0xtuple (by decide +kernel)
        | dict => exact kit_ct c0xdict (by decide +kernel)
        | none => exact kit_ct c0xnone (by decide +kernel)
        | cls j => exact absurd rfl (ht j)
    · rcases nk hk with rfl
      · cases t with
        | int => exact kit_tc c0i c0t (by decide +kernel)
        | str => exact kit_tc c0i c0t (by decide +kernel)
        | bool => exact kit_tc c0i c0t (by decide +kernel)
        | list => exact kit_tc c0i c0t (by decide +kernel)
        | tuple => exact kit_tc c0i c0t (by decide +kernel)
        | dict => exact kit_tc c0i c0t (by decide +kernel)
        | none => exact kit_tc c0i c0t (by decide +kernel)
        | cls j => exact absurd rfl (ht j)
    · rcases nk hk with rfl
      · rcases nk hj with rfl
        · exact kit_cs
  have F1 := fun_mk (st := s_law_draw) l1 d1 k1
  have F2 := fun_mk (st := s_law_whole) l2 d2 k2
  have F3 := fun_mk (st := s_law_are_marks) l3 d3 k3
  have F4 := fun_mk (st := s_law_row_changed) l4 d4 k4
  have F5 := fun_mk (st := s_law_changed) l5 d5 k5
  have F6 := fun_mk (st := s_law_same) l6 d6 k6
  have F7 := fun_mk (st := s_law_values) l7 d7 k7
  have F8 := fun_mk (st := s_law_words) l8 d8 k8
  have F9 := fun_mk (st := s_Kinds_all_marks) l9 d9 k9
  have F10 := fun_mk (st := s_is_integer) l10 d10 k10
  have F11 := fun_mk (st := s_is_from_to) l11 d11 k11
  have F12 := fun_mk (st := s_rises) l12 d12 k12
  have F13 := fun_mk (st := s_is_rising) l13 d13 k13
  have F14 := fun_mk (st := s_Kinds_are_marks) l14 d14 k14
  have F15 := fun_mk (st := s_is_sequence) l15 d15 k15
  have F16 := fun_mk (st := s_is_word) l16 d16 k16
  have F17 := fun_mk (st := s_is_feature) l17 d17 k17
  have F18 := fun_mk (st := s_Kinds_init) l18 d18 k18
  have F19 := fun_mk (st := s_law_holds) l19 d19 k19
  have F20 := fun_mk (st := s_law_pool) l20 d20 k20
  have F21 := fun_mk (st := s_law) l21 d21 k21
  have b1_0 : BindOk K (PySem.W.fnOf "_law_draw" "_law_draw" (defArgs s_law_draw) (defBody s_law_draw) (defScope s_law_draw) .none kV1 dc1 pm1 an1 cd1 ct1) ["pool", "many"] (2, []) := ⟨fun us ws h1 h2 => match us, ws, h1, h2 with | [_, _], [], _, _ => rfl, fun s us ws _ h1 h2 => match us, ws, h1, h2 with | [_, _], [], _, _ => .of_eq rfl⟩
  have b2_0 : BindOk K (PySem.W.fnOf "_law_whole" "_law_whole" (defArgs s_law_whole) (defBody s_law_whole) (defScope s_law_whole) .none kV2 dc2 pm2 an2 cd2 ct2) ["value"] (1, []) := ⟨fun us ws h1 h2 => match us, ws, h1, h2 with | [_], [], _, _ => rfl, fun s us ws _ h1 h2 => match us, ws, h1, h2 with | [_], [], _, _ => .of_eq rfl⟩
  have b3_0 : BindOk K (PySem.W.fnOf "_law_are_marks" "_law_are_marks" (defArgs s_law_are_marks) (defBody s_law_are_marks) (defScope s_law_are_marks) .none kV3 dc3 pm3 an3 cd3 ct3) ["sizes", "value"] (2, []) := ⟨fun us ws h1 h2 => match us, ws, h1, h2 with | [_, _], [], _, _ => rfl, fun s us ws _ h1 h2 => match us, ws, h1, h2 with | [_, _], [], _, _ => .of_eq rfl⟩
  have b4_0 : BindOk K (PySem.W.fnOf "_law_row_changed" "_law_row_changed" (defArgs s_law_row_changed) (defBody s_law_row_changed) (defScope s_law_row_changed) .none kV4 dc4 pm4 an4 cd4 ct4) ["pool", "row", "size"] (3, []) := ⟨fun us ws h1 h2 => match us, ws, h1, h2 with | [_, _, _], [], _, _ => rfl, fun s us ws _ h1 h2 => match us, ws, h1, h2 with | [_, _, _], [], _, _ => .of_eq rfl⟩
  have b5_0 : BindOk K (PySem.W.fnOf "_law_changed" "_law_changed" (defArgs s_law_changed) (defBody s_law_changed) (defScope s_law_changed) .none kV5 dc5 pm5 an5 cd5 ct5) ["pool", "marks", "sizes"] (3, []) := ⟨fun us ws h1 h2 => match us, ws, h1, h2 with | [_, _, _], [], _, _ => rfl, fun s us ws _ h1 h2 => match us, ws, h1, h2 with | [_, _, _], [], _, _ => .of_eq rfl⟩
  have b6_0 : BindOk K (PySem.W.fnOf "_law_same" "_law_same" (defArgs s_law_same) (defBody s_law_same) (defScope s_law_same) .none kV6 dc6 pm6 an6 cd6 ct6) ["told", "due"] (2, []) := ⟨fun us ws h1 h2 => match us, ws, h1, h2 with | [_, _], [], _, _ => rfl, fun s us ws _ h1 h2 => match us, ws, h1, h2 with | [_, _], [], _, _ => .of_eq rfl⟩
  have b7_0 : BindOk K (PySem.W.fnOf "_law_values" "_law_values" (defArgs s_law_values) (defBody s_law_values) (defScope s_law_values) .none kV7 dc7 pm7 an7 cd7 ct7) ["pool", "many", "way"] (3, []) := ⟨fun us ws h1 h2 => match us, ws, h1, h2 with | [_, _, _], [], _, _ => rfl, fun s us ws _ h1 h2 => match us, ws, h1, h2 with | [_, _, _], [], _, _ => .of_eq rfl⟩
  have b8_0 : BindOk K (PySem.W.fnOf "_law_words" "_law_words" (defArgs s_law_words) (defBody s_law_words) (defScope s_law_words) .none kV8 dc8 pm8 an8 cd8 ct8) ["pool", "many"] (2, []) := ⟨fun us ws h1 h2 => match us, ws, h1, h2 with | [_, _], [], _, _ => rfl, fun s us ws _ h1 h2 => match us, ws, h1, h2 with | [_, _], [], _, _ => .of_eq rfl⟩
  have b9_0 : BindOk K (PySem.W.fnOf "all_marks" "Kinds.all_marks" (defArgs s_Kinds_all_marks) (defBody s_Kinds_all_marks) (defScope s_Kinds_all_marks) .none kV9 dc9 pm9 an9 cd9 ct9) ["self"] (1, []) := ⟨fun us ws h1 h2 => match us, ws, h1, h2 with | [_], [], _, _ => rfl, fun s us ws _ h1 h2 => match us, ws, h1, h2 with | [_], [], _, _ => .of_eq rfl⟩
  have b10_0 : BindOk K (PySem.W.fnOf "is_integer" "is_integer" (defArgs s_is_integer) (defBody s_is_integer) (defScope s_is_integer) .none kV10 dc10 pm10 an10 cd10 ct10) ["value"] (1, []) := ⟨fun us ws h1 h2 => match us, ws, h1, h2 with | [_], [], _, _ => rfl, fun s us ws _ h1 h2 => match us, ws, h1, h2 with | [_], [], _, _ => .of_eq rfl⟩
  have b11_0 : BindOk K (PySem.W.fnOf "is_from_to" "is_from_to" (defArgs s_is_from_to) (defBody s_is_from_to) (defScope s_is_from_to) .none kV11 dc11 pm11 an11 cd11 ct11) ["value", "least", "most"] (3, []) := ⟨fun us ws h1 h2 => match us, ws, h1, h2 with | [_, _, _], [], _, _ => rfl, fun s us ws _ h1 h2 => match us, ws, h1, h2 with | [_, _, _], [], _, _ => .of_eq rfl⟩
  have b12_0 : BindOk K (PySem.W.fnOf "rises" "rises" (defArgs s_rises) (defBody s_rises) (defScope s_rises) .none kV12 dc12 pm12 an12 cd12 ct12) ["value", "bound"] (2, []) := ⟨fun us ws h1 h2 => match us, ws, h1, h2 with | [_, _], [], _, _ => rfl, fun s us ws _ h1 h2 => match us, ws, h1, h2 with | [_, _], [], _, _ => .of_eq rfl⟩
  have b13_0 : BindOk K (PySem.W.fnOf "is_rising" "is_rising" (defArgs s_is_rising) (defBody s_is_rising) (defScope s_is_rising) .none kV13 dc13 pm13 an13 cd13 ct13) ["value", "bound"] (2, []) := ⟨fun us ws h1 h2 => match us, ws, h1, h2 with | [_, _], [], _, _ => rfl, fun s us ws _ h1 h2 => match us, ws, h1, h2 with | [_, _], [], _, _ => .of_eq rfl⟩
  have b14_0 : BindOk K (PySem.W.fnOf "are_marks" "Kinds.are_marks" (defArgs s_Kinds_are_marks) (defBody s_Kinds_are_marks) (defScope s_Kinds_are_marks) .none kV14 dc14 pm14 an14 cd14 ct14) ["self", "value"] (2, []) := ⟨fun us ws h1 h2 => match us, ws, h1, h2 with | [_, _], [], _, _ => rfl, fun s us ws _ h1 h2 => match us, ws, h1, h2 with | [_, _], [], _, _ => .of_eq rfl⟩
  have b14_1 : BindOk K (PySem.W.fnOf "are_marks" "Kinds.are_marks" (defArgs s_Kinds_are_marks) (defBody s_Kinds_are_marks) (defScope s_Kinds_are_marks) .none kV14 dc14 pm14 an14 cd14 ct14) ["self", "value"] (1, ["value"]) := ⟨fun us ws h1 h2 => match us, ws, h1, h2 with | [_], [_], _, _ => rfl, fun s us ws _ h1 h2 => match us, ws, h1, h2 with | [_], [_], _, _ => .of_eq rfl⟩
  have b15_0 : BindOk K (PySem.W.fnOf "is_sequence" "is_sequence" (defArgs s_is_sequence) (defBody s_is_sequence) (defScope s_is_sequence) .none kV15 dc15 pm15 an15 cd15 ct15) ["value"] (1, []) := ⟨fun us ws h1 h2 => match us, ws, h1, h2 with | [_], [], _, _ => rfl, fun s us ws _ h1 h2 => match us, ws, h1, h2 with | [_], [], _, _ => .of_eq rfl⟩
  have b16_0 : BindOk K (PySem.W.fnOf "is_word" "is_word" (defArgs s_is_word) (defBody s_is_word) (defScope s_is_word) .none kV16 dc16 pm16 an16 cd16 ct16) ["value"] (1, []) := ⟨fun us ws h1 h2 => match us, ws, h1, h2 with | [_], [], _, _ => rfl, fun s us ws _ h1 h2 => match us, ws, h1, h2 with | [_], [], _, _ => .of_eq rfl⟩
  have b17_0 : BindOk K (PySem.W.fnOf "is_feature" "is_feature" (defArgs s_is_feature) (defBody s_is_feature) (defScope s_is_feature) .none kV17 dc17 pm17 an17 cd17 ct17) ["value"] (1, []) := ⟨fun us ws h1 h2 => match us, ws, h1, h2 with | [_], [], _, _ => rfl, fun s us ws _ h1 h2 => match us, ws, h1, h2 with | [_], [], _, _ => .of_eq rfl⟩
  have b18_0 : BindOk K (PySem.W.fnOf "__init__" "Kinds.__init__" (defArgs s_Kinds_init) (defBody s_Kinds_init) (defScope s_Kinds_init) .none kV18 dc18 pm18 an18 cd18 ct18) ["self", "features"] (2, []) := ⟨fun us ws h1 h2 => match us, ws, h1, h2 with | [_, _], [], _, _ => rfl, fun s us ws _ h1 h2 => match us, ws, h1, h2 with | [_, _], [], _, _ => .of_eq rfl⟩
  have b19_0 : BindOk K (PySem.W.fnOf "_law_holds" "_law_holds" (defArgs s_law_holds) (defBody s_law_holds) (defScope s_law_holds) .none kV19 dc19 pm19 an19 cd19 ct19) ["pool", "sizes"] (2, []) := ⟨fun us ws h1 h2 => match us, ws, h1, h2 with | [_, _], [], _, _ => rfl, fun s us ws _ h1 h2 => match us, ws, h1, h2 with | [_, _], [], _, _ => .of_eq rfl⟩
  have b20_0 : BindOk K (PySem.W.fnOf "_law_pool" "_law_pool" (defArgs s_law_pool) (defBody s_law_pool) (defScope s_law_pool) .none kV20 dc20 pm20 an20 cd20 ct20) ["script"] (1, []) := ⟨fun us ws h1 h2 => match us, ws, h1, h2 with | [_], [], _, _ => rfl, fun s us ws _ h1 h2 => match us, ws, h1, h2 with | [_], [], _, _ => .of_eq rfl⟩
  refine ⟨PySem.W.fnOf "law" "law" (defArgs s_law) (defBody s_law) (defScope s_law) .none kV21 dc21 pm21 an21 cd21 ct21, fun s v => .of_eq rfl, fun base _ _ => ?_⟩
  have o1 : FnOk P w K mg base (L2.CX P w) 1 f1 _ ["pool", "many"] (lSp S TT 2 sp_law_draw) := def_ok ({ blt := blt, gl := AllG.get AllG.nil, fn := AllE.get AllE.nil, mt := AllE.get AllE.nil, mkr := AllE.get AllE.nil, cls := AllG.get AllG.nil, clok := clok, kit := kit } : Ent P w mg base S TT K_law_draw 0) F1 sc_law_draw ck_law_draw okT_law_draw
  have e1 : FnEnt P w mg base S TT 1 "_law_draw" ["pool", "many"] [(2, [])] sp_law_draw := ⟨f1, _, o1, PySem.W.mg_of X G a1, k1, (AllF.cons b1_0 AllF.nil).all⟩
  have o2 : FnOk P w K mg base (L2.CX P w) 1 f2 _ ["value"] (lSp S TT 1 sp_law_whole) := def_ok ({ blt := blt, gl := AllG.get AllG.nil, fn := AllE.get AllE.nil, mt := AllE.get AllE.nil, mkr := AllE.get AllE.nil, cls := AllG.get AllG.nil, clok := clok, kit := kit } : Ent P w mg base S TT K_law_whole 0) F2 sc_law_whole ck_law_whole okT_law_whole
  have e2 : FnEnt P w mg base S TT 1 "_law_whole" ["value"] [(1, [])] sp_law_whole := ⟨f2, _, o2, PySem.W.mg_of X G a2, k2, (AllF.cons b2_0 AllF.nil).all⟩
  have o3 : FnOk P w K mg base (L2.CX P w) 2 f3 _ ["sizes", "value"] (lSp S TT 2 sp_law_are_marks) := def_ok ({ blt := blt, gl := AllG.get AllG.nil, fn := AllE.get (.cons ⟨_, by decide, e2⟩ AllE.nil), mt := AllE.get AllE.nil, mkr := AllE.get AllE.nil, cls := AllG.get AllG.nil, clok := clok, kit := kit } : Ent P w mg base S TT K_law_are_marks 1) F3 sc_law_are_marks ck_law_are_marks okT_law_are_marks
  have e3 : FnEnt P w mg base S TT 2 "_law_are_marks" ["sizes", "value"] [(2, [])] sp_law_are_marks := ⟨f3, _, o3, PySem.W.mg_of X G a3, k3, (AllF.cons b3_0 AllF.nil).all⟩
  have o4 : FnOk P w K mg base (L2.CX P w) 2 f4 _ ["pool", "row", "size"] (lSp S TT 3 sp_law_row_changed) := def_ok ({ blt := blt, gl := AllG.get AllG.nil, fn := AllE.get (.cons ⟨_, by decide, e1⟩ AllE.nil), mt := AllE.get AllE.nil, mkr := AllE.get AllE.nil, cls := AllG.get AllG.nil, clok := clok, kit := kit } : Ent P w mg base S TT K_law_row_changed 1) F4 sc_law_row_changed ck_law_row_changed okT_law_row_changed
  have e4 : FnEnt P w mg base S TT 2 "_law_row_changed" ["pool", "row", "size"] [(3, [])] sp_law_row_changed := ⟨f4, _, o4, PySem.W.mg_of X G a4, k4, (AllF.cons b4_0 AllF.nil).all⟩
  have o5 : FnOk P w K mg base (L2.CX P w) 3 f5 _ ["pool", "marks", "sizes"] (lSp S TT 3 sp_law_changed) := def_ok ({ blt := blt, gl := AllG.get AllG.nil, fn := AllE.get (.cons ⟨_, by decide, e1⟩ (.cons ⟨_, by decide, e4⟩ AllE.nil)), mt := AllE.get AllE.nil, mkr := AllE.get AllE.nil, cls := AllG.get AllG.nil, clok := clok, kit := kit } : Ent P w mg base S TT K_law_changed 2) F5 sc_law_changed ck_law_changed okT_law_changed
  have e5 : FnEnt P w mg base S TT 3 "_law_changed" ["pool", "marks", "sizes"] [(3, [])] sp_law_changed := ⟨f5, _, o5, PySem.W.mg_of X G a5, k5, (AllF.cons b5_0 AllF.nil).all⟩
  have o6 : ∀ n, FnOk P w K mg base (L2.CX P w) n f6 (PySem.W.fnOf "_law_same" "_law_same" (defArgs s_law_same) (defBody s_law_same) (defScope s_law_same) .none kV6 dc6 pm6 an6 cd6 ct6) ["told", "due"] (lSp S TT 2 (sp_law_same n)) := by
    intro n
    induction n with
    | zero => exact fn_false (fun _ _ _ _ h => no_law_same h)
    | succ n ih0 =>
      have ih : FnEnt P w mg base S (TT.at1 9 (sp_law_same n)) n "_law_same" ["told", "due"] [(2, [])] (sp_law_same n) := ⟨f6, _, ih0, PySem.W.mg_of X G a6, k6, (AllF.cons b6_0 AllF.nil).all⟩
      exact def_ok (T := TT.at1 9 (sp_law_same n)) ({ blt := blt, gl := AllG.get AllG.nil, fn := AllE.get (.cons ⟨_, Nat.le_refl _, ih⟩ AllE.nil), mt := AllE.get AllE.nil, mkr := AllE.get AllE.nil, cls := AllG.get AllG.nil, clok := clok, kit := kit } : Ent P w mg base S (TT.at1 9 (sp_law_same n)) K_law_same n) F6 sc_law_same ck_law_same (okT_law_same n)
  have e6 : FnEnt P w mg base S TT 6 "_law_same" ["told", "due"] [(2, [])] (sp_law_same 6) := ⟨f6, _, o6 6, PySem.W.mg_of X G a6, k6, (AllF.cons b6_0 AllF.nil).all⟩
  have o7 : FnOk P w K mg base (L2.CX P w) 2 f7 _ ["pool", "many", "way"] (lSp S TT 3 sp_law_values) := def_ok ({ blt := blt, gl := AllG.get AllG.nil, fn := AllE.get (.cons ⟨_, by decide, e1⟩ AllE.nil), mt := AllE.get AllE.nil, mkr := AllE.get AllE.nil, cls := AllG.get AllG.nil, clok := clok, kit := kit } : Ent P w mg base S TT K_law_values 1) F7 sc_law_values ck_law_values okT_law_values
  have e7 : FnEnt P w mg base S TT 2 "_law_values" ["pool", "many", "way"] [(3, [])] sp_law_values := ⟨f7, _, o7, PySem.W.mg_of X G a7, k7, (AllF.cons b7_0 AllF.nil).all⟩
  have o8 : FnOk P w K mg base (L2.CX P w) 2 f8 _ ["pool", "many"] (lSp S TT 2 sp_law_words) := def_ok ({ blt := blt, gl := AllG.get AllG.nil, fn := AllE.get (.cons ⟨_, by decide, e1⟩ AllE.nil), mt := AllE.get AllE.nil, mkr := AllE.get AllE.nil, cls := AllG.get AllG.nil, clok := clok, kit := kit } : Ent P w mg base S TT K_law_words 1) F8 sc_law_words ck_law_words okT_law_words
  have e8 : FnEnt P w mg base S TT 2 "_law_words" ["pool", "many"] [(2, [])] sp_law_words := ⟨f8, _, o8, PySem.W.mg_of X G a8, k8, (AllF.cons b8_0 AllF.nil).all⟩
  have o9 : FnOk P w K mg base (L2.CX P w) 1 f9 _ ["self"] (lSp S TT 1 sp_Kinds_all_marks) := def_ok ({ blt := blt, gl := AllG.get AllG.nil, fn := AllE.get AllE.nil, mt := AllE.get AllE.nil, mkr := AllE.get AllE.nil, cls := AllG.get AllG.nil, clok := clok, kit := kit } : Ent P w mg base S TT K_Kinds_all_marks 0) F9 sc_Kinds_all_marks ck_Kinds_all_marks okT_Kinds_all_marks
  have e9 : MtEnt P w mg base S TT 1 0 "all_marks" ["self"] [(1, [])] sp_Kinds_all_marks := ⟨f9, _, o9, ⟨a9, i9, k9⟩, (AllF.cons b9_0 AllF.nil).all⟩
  have o10 : FnOk P w K mg base (L2.CX P w) 1 f10 _ ["value"] (lSp S TT 1 sp_is_integer) := def_ok ({ blt := blt, gl := AllG.get AllG.nil, fn := AllE.get AllE.nil, mt := AllE.get AllE.nil, mkr := AllE.get AllE.nil, cls := AllG.get AllG.nil, clok := clok, kit := kit } : Ent P w mg base S TT K_is_integer 0) F10 sc_is_integer ck_is_integer okT_is_integer
  have e10 : FnEnt P w mg base S TT 1 "is_integer" ["value"] [(1, [])] sp_is_integer := ⟨f10, _, o10, PySem.W.mg_of X G a10, k10, (AllF.cons b10_0 AllF.nil).all⟩
  have o11 : FnOk P w K mg base (L2.CX P w) 2 f11 _ ["value", "least", "most"] (lSp S TT 3 sp_is_from_to) := def_ok ({ blt := blt, gl := AllG.get AllG.nil, fn := AllE.get (.cons ⟨_, by decide, e10⟩ AllE.nil), mt := AllE.get AllE.nil, mkr := AllE.get AllE.nil, cls := AllG.get AllG.nil, clok := clok, kit := kit } : Ent P w mg base S TT K_is_from_to 1) F11 sc_is_from_to ck_is_from_to okT_is_from_to
  have e11 : FnEnt P w mg base S TT 2 "is_from_to" ["value", "least", "most"] [(3, [])] sp_is_from_to := ⟨f11, _, o11, PySem.W.mg_of X G a11, k11, (AllF.cons b11_0 AllF.nil).all⟩
  have o12 : FnOk P w K mg base (L2.CX P w) 3 f12 _ ["value", "bound"] (lSp S TT 2 sp_rises) := def_ok ({ blt := blt, gl := AllG.get AllG.nil, fn := AllE.get (.cons ⟨_, by decide, e11⟩ AllE.nil), mt := AllE.get AllE.nil, mkr := AllE.get AllE.nil, cls := AllG.get AllG.nil, clok := clok, kit := kit } : Ent P w mg base S TT K_rises 2) F12 sc_rises ck_rises okT_rises
  have e12 : FnEnt P w mg base S TT 3 "rises" ["value", "bound"] [(2, [])] sp_rises := ⟨f12, _, o12, PySem.W.mg_of X G a12, k12, (AllF.cons b12_0 AllF.nil).all⟩
  have o13 : FnOk P w K mg base (L2.CX P w) 4 f13 _ ["value", "bound"] (lSp S TT 2 sp_is_rising) := def_ok ({ blt := blt, gl := AllG.get AllG.nil, fn := AllE.get (.cons ⟨_, by decide, e12⟩ AllE.nil), mt := AllE.get AllE.nil, mkr := AllE.get AllE.nil, cls := AllG.get AllG.nil, clok := clok, kit := kit } : Ent P w mg base S TT K_is_rising 3) F13 sc_is_rising ck_is_rising okT_is_rising
  have e13 : FnEnt P w mg base S TT 4 "is_rising" ["value", "bound"] [(2, [])] sp_is_rising := ⟨f13, _, o13, PySem.W.mg_of X G a13, k13, (AllF.cons b13_0 AllF.nil).all⟩
  have o14 : FnOk P w K mg base (L2.CX P w) 5 f14 _ ["self", "value"] (lSp S TT 2 sp_Kinds_are_marks) := def_ok ({ blt := blt, gl := AllG.get AllG.nil, fn := AllE.get (.cons ⟨_, by decide, e13⟩ AllE.nil), mt := AllE.get AllE.nil, mkr := AllE.get AllE.nil, cls := AllG.get AllG.nil, clok := clok, kit := kit } : Ent P w mg base S TT K_Kinds_are_marks 4) F14 sc_Kinds_are_marks ck_Kinds_are_marks okT_Kinds_are_marks
  have e14 : MtEnt P w mg base S TT 5 0 "are_marks" ["self", "value"] [(2, []), (1, ["value"])] sp_Kinds_are_marks := ⟨f14, _, o14, ⟨a14, i14, k14⟩, (AllF.cons b14_0 (AllF.cons b14_1 AllF.nil)).all⟩
  have o15 : FnOk P w K mg base (L2.CX P w) 1 f15 _ ["value"] (lSp S TT 1 sp_is_sequence) := def_ok ({ blt := blt, gl := AllG.get AllG.nil, fn := AllE.get AllE.nil, mt := AllE.get AllE.nil, mkr := AllE.get AllE.nil, cls := AllG.get AllG.nil, clok := clok, kit := kit } : Ent P w mg base S TT K_is_sequence 0) F15 sc_is_sequence ck_is_sequence okT_is_sequence
  have e15 : FnEnt P w mg base S TT 1 "is_sequence" ["value"] [(1, [])] sp_is_sequence := ⟨f15, _, o15, PySem.W.mg_of X G a15, k15, (AllF.cons b15_0 AllF.nil).all⟩
  have o16 : FnOk P w K mg base (L2.CX P w) 1 f16 _ ["value"] (lSp S TT 1 sp_is_word) := def_ok ({ blt := blt, gl := AllG.get (.cons ⟨_, (.str "abcdefghijklmnopqrstuvwxyz"), PySem.W.mg_of X G g1, ⟨_, rfl⟩, fun c M H ok => (by simp only [TT, t_gl, Den])⟩ (.cons ⟨_, (.int 12), PySem.W.mg_of X G g0, ⟨_, rfl⟩, fun c M H ok => (by simp only [TT, t_gl, Den])⟩ AllG.nil)), fn := AllE.get AllE.nil, mt := AllE.get AllE.nil, mkr := AllE.get AllE.nil, cls := AllG.get AllG.nil, clok := clok, kit := kit } : Ent P w mg base S TT K_is_word 0) F16 sc_is_word ck_is_word okT_is_word
  have e16 : FnEnt P w mg base S TT 1 "is_word" ["value"] [(1, [])] sp_is_word := ⟨f16, _, o16, PySem.W.mg_of X G a16, k16, (AllF.cons b16_0 AllF.nil).all⟩
  have o17 : FnOk P w K mg base (L2.CX P w) 3 f17 _ ["value"] (lSp S TT 1 sp_is_feature) := def_ok ({ blt := blt, gl := AllG.get (.cons ⟨_, (.int 8), PySem.W.mg_of X G g3, ⟨_, rfl⟩, fun c M H ok => (by simp only [TT, t_gl, Den])⟩ (.cons ⟨_, (.int 9), PySem.W.mg_of X G g2, ⟨_, rfl⟩, fun c M H ok => (by simp only [TT, t_gl, Den])⟩ AllG.nil)), fn := AllE.get (.cons ⟨_, by decide, e11⟩ (.cons ⟨_, by decide, e15⟩ (.cons ⟨_, by decide, e16⟩ AllE.nil))), mt := AllE.get AllE.nil, mkr := AllE.get AllE.nil, cls := AllG.get AllG.nil, clok := clok, kit := kit } : Ent P w mg base S TT K_is_feature 2) F17 sc_is_feature ck_is_feature okT_is_feature
  have e17 : FnEnt P w mg base S TT 3 "is_feature" ["value"] [(1, [])] sp_is_feature := ⟨f17, _, o17, PySem.W.mg_of X G a17, k17, (AllF.cons b17_0 AllF.nil).all⟩
  have o18 : FnOk P w K mg base (L2.CX P w) 4 f18 _ ["self", "features"] (lSp S TT 2 sp_Kinds_init) := def_ok ({ blt := blt, gl := AllG.get (.cons ⟨_, (.int 6), PySem.W.mg_of X G g4, ⟨_, rfl⟩, fun c M H ok => (by simp only [TT, t_gl, Den])⟩ AllG.nil), fn := AllE.get (.cons ⟨_, by decide, e17⟩ (.cons ⟨_, by decide, e15⟩ AllE.nil)), mt := AllE.get AllE.nil, mkr := AllE.get AllE.nil, cls := AllG.get AllG.nil, clok := clok, kit := kit } : Ent P w mg base S TT K_Kinds_init 3) F18 sc_Kinds_init ck_Kinds_init okT_Kinds_init
  have e18 : MkEnt P w mg base S TT 4 0 "Kinds" ["self", "features"] [(2, [])] sp_Kinds_init := ⟨f18, _, ⟨c0k, a18, i18, c0p⟩, o18, PySem.W.mg_of X G c0C, (AllF.cons b18_0 AllF.nil).all⟩
  have o19 : FnOk P w K mg base (L2.CX P w) 7 f19 _ ["pool", "sizes"] (lSp S TT 2 sp_law_holds) := def_ok ({ blt := blt, gl := AllG.get AllG.nil, fn := AllE.get (.cons ⟨_, by decide, e3⟩ (.cons ⟨_, by decide, e5⟩ (.cons ⟨_, by decide, e1⟩ (.cons ⟨_, by decide, e6⟩ (.cons ⟨_, by decide, e7⟩ (.cons ⟨_, by decide, e8⟩ AllE.nil)))))), mt := AllE.get (.cons ⟨_, by decide, e9, by decide +kernel, by decide +kernel⟩ (.cons ⟨_, by decide, e14, by decide +kernel, by decide +kernel⟩ AllE.nil)), mkr := AllE.get (.cons ⟨_, by decide, e18⟩ AllE.nil), cls := AllG.get AllG.nil, clok := clok, kit := kit } : Ent P w mg base S TT K_law_holds 6) F19 sc_law_holds ck_law_holds okT_law_holds
  have e19 : FnEnt P w mg base S TT 7 "_law_holds" ["pool", "sizes"] [(2, [])] sp_law_holds := ⟨f19, _, o19, PySem.W.mg_of X G a19, k19, (AllF.cons b19_0 AllF.nil).all⟩
  have o20 : FnOk P w K mg base (L2.CX P w) 1 f20 _ ["script"] (lSp S TT 1 sp_law_pool) := def_ok ({ blt := blt, gl := AllG.get AllG.nil, fn := AllE.get AllE.nil, mt := AllE.get AllE.nil, mkr := AllE.get AllE.nil, cls := AllG.get AllG.nil, clok := clok, kit := kit } : Ent P w mg base S TT K_law_pool 0) F20 sc_law_pool ck_law_pool okT_law_pool
  have e20 : FnEnt P w mg base S TT 1 "_law_pool" ["script"] [(1, [])] sp_law_pool := ⟨f20, _, o20, PySem.W.mg_of X G a20, k20, (AllF.cons b20_0 AllF.nil).all⟩
  have o21 : FnOk P w K mg base (L2.CX P w) 8 fa _ ["script"] (lSp S TT 1 sp_law) := def_ok ({ blt := blt, gl := AllG.get AllG.nil, fn := AllE.get (.cons ⟨_, by decide, e1⟩ (.cons ⟨_, by decide, e19⟩ (.cons ⟨_, by decide, e20⟩ AllE.nil))), mt := AllE.get AllE.nil, mkr := AllE.get AllE.nil, cls := AllG.get AllG.nil, clok := clok, kit := kit } : Ent P w mg base S TT K_law 7) F21 sc_law ck_law okT_law
  exact law_ok (S := S) (T := TT) o21
end PL
open PySem PySem.W PyProof.Rows in
set_option maxRecDepth 100000 in
set_option maxHeartbeats 0 in
theorem PySem.Challenge.cw_rightfulhands_k03_marks_judged_holds : PySem.Challenge.rw_rightfulhands_k03_marks_judged.Holds := by
  w_on; o_law; k_head; (case hw => w_witness2)
  k_fill
  refine PL.walk (k := 8) (l := PySem.Challenge.rw_rightfulhands_k03_marks_judged) rfl rfl ⟨rfl, by decide, by decide⟩ (fun w h Y => PySem.W.kIn_of Y) ?F
  case F =>
    intro w mg fa h KX G hmg
    refine' PL.all_mk KX G hmg ?pl_c0C ?pl_c0g ?pl_c0d ?pl_c0o ?pl_c0s ?pl_c0h ?pl_c0m ?pl_c0k ?pl_c0p ?pl_c0a0 ?pl_c0i ?pl_c0t ?pl_c0xint ?pl_c0xstr ?pl_c0xbool ?pl_c0xlist ?pl_c0xtuple ?pl_c0xdict ?pl_c0xnone ?pl_hn0 ?pl_htk0 ?pl_g1 ?pl_g4 ?pl_g3 ?pl_g2 ?pl_g0 ?pl_a1 ?pl_l1 ?pl_d1 ?pl_k1 ?pl_a2 ?pl_l2 ?pl_d2 ?pl_k2 ?pl_a3 ?pl_l3 ?pl_d3 ?pl_k3 ?pl_a4 ?pl_l4 ?pl_d4 ?pl_k4 ?pl_a5 ?pl_l5 ?pl_d5 ?pl_k5 ?pl_a6 ?pl_l6 ?pl_d6 ?pl_k6 ?pl_a7 ?pl_l7 ?pl_d7 ?pl_k7 ?pl_a8 ?pl_l8 ?pl_d8 ?pl_k8 ?pl_a9 ?pl_i9 ?pl_l9 ?pl_d9 ?pl_k9 ?pl_a10 ?pl_l10 ?pl_d10 ?pl_k10 ?pl_a11 ?pl_l11 ?pl_d11 ?pl_k11 ?pl_a12 ?pl_l12 ?pl_d12 ?pl_k12 ?pl_a13 ?pl_l13 ?pl_d13 ?pl_k13 ?pl_a14 ?pl_i14 ?pl_l14 ?pl_d14 ?pl_k14 ?pl_a15 ?pl_l15 ?pl_d15 ?pl_k15 ?pl_a16 ?pl_l16 ?pl_d16 ?pl_k16 ?pl_a17 ?pl_l17 ?pl_d17 ?pl_k17 ?pl_a18 ?pl_i18 ?pl_l18 ?pl_d18 ?pl_k18 ?pl_a19 ?pl_l19 ?pl_d19 ?pl_k19 ?pl_a20 ?pl_l20 ?pl_d20 ?pl_k20 ?pl_a21 ?pl_l21 ?pl_d21 ?pl_k21 ?pl_z_range ?pl_z_enumerate ?pl_z_zip ?pl_z_tuple ?pl_z_reversed ?pl_z_isinstance ?pl_z_len ?pl_z_int ?pl_z_str ?pl_z_all ?pl_z_any ?pl_z_list ?pl_z_max ?pl_z_min ?pl_z_abs ?pl_z_sum ?pl_z_bool ?pl_z_dict ?pl_z_NoneType
    (case pl_c0C => k_is)
    (case pl_c0g => k_is)
    (case pl_c0d => k_is)
    (case pl_c0o => k_is)
    (case pl_c0s => k_is)
    (case pl_c0h => k_is)
    (case pl_c0m => k_is)
    (case pl_c0k => k_is)
    (case pl_c0p => k_is)
    (case pl_c0a0 => k_is)
    (case pl_c0i => k_is)
    (case pl_c0t => k_is)
    (case pl_c0xint => k_is)
    (case pl_c0xstr => k_is)
    (case pl_c0xbool => k_is)
    (case pl_c0xlist => k_is)
    (case pl_c0xtuple => k_is)
    (case pl_c0xdict => k_is)
    (case pl_c0xnone => k_is)
    (case pl_hn0 => k_is)
    (case pl_htk0 => k_is)
    (case pl_g1 => k_is)
    (case pl_g4 => k_is)
    (case pl_g3 => k_is)
    (case pl_g2 => k_is)
    (case pl_g0 => k_is)
    (case pl_a1 => k_is)
    (case pl_l1 => k_is)
    (case pl_d1 => k_is)
    (case pl_k1 => k_is)
    (case pl_a2 => k_is)
    (case pl_l2 => k_is)
    (case pl_d2 => k_is)
    (case pl_k2 => k_is)
    (case pl_a3 => k_is)
    (case pl_l3 => k_is)
    (case pl_d3 => k_is)
    (case pl_k3 => k_is)
    (case pl_a4 => k_is)
    (case pl_l4 => k_is)
    (case pl_d4 => k_is)
    (case pl_k4 => k_is)
    (case pl_a5 => k_is)
    (case pl_l5 => k_is)
    (case pl_d5 => k_is)
    (case pl_k5 => k_is)
    (case pl_a6 => k_is)
    (case pl_l6 => k_is)
    (case pl_d6 => k_is)
    (case pl_k6 => k_is)
    (case pl_a7 => k_is)
    (case pl_l7 => k_is)
    (case pl_d7 => k_is)
    (case pl_k7 => k_is)
    (case pl_a8 => k_is)
    (case pl_l8 => k_is)
    (case pl_d8 => k_is)
    (case pl_k8 => k_is)
    (case pl_a9 => k_is)
    (case pl_i9 => k_is)
    (case pl_l9 => k_is)
    (case pl_d9 => k_is)
    (case pl_k9 => k_is)
    (case pl_a10 => k_is)
    (case pl_l10 => k_is)
    (case pl_d10 => k_is)
    (case pl_k10 => k_is)
    (case pl_a11 => k_is)
    (case pl_l11 => k_is)
    (case pl_d11 => k_is)
    (case pl_k11 => k_is)
    (case pl_a12 => k_is)
    (case pl_l12 => k_is)
    (case pl_d12 => k_is)
    (case pl_k12 => k_is)
    (case pl_a13 => k_is)
    (case pl_l13 => k_is)
    (case pl_d13 => k_is)
    (case pl_k13 => k_is)
    (case pl_a14 => k_is)
    (case pl_i14 => k_is)
    (case pl_l14 => k_is)
    (case pl_d14 => k_is)
    (case pl_k14 => k_is)
    (case pl_a15 => k_is)
    (case pl_l15 => k_is)
    (case pl_d15 => k_is)
    (case pl_k15 => k_is)
    (case pl_a16 => k_is)
    (case pl_l16 => k_is)
    (case pl_d16 => k_is)
    (case pl_k16 => k_is)
    (case pl_a17 => k_is)
    (case pl_l17 => k_is)
    (case pl_d17 => k_is)
    (case pl_k17 => k_is)
    (case pl_a18 => k_is)
    (case pl_i18 => k_is)
    (case pl_l18 => k_is)
    (case pl_d18 => k_is)
    (case pl_k18 => k_is)
    (case pl_a19 => k_is)
    (case pl_l19 => k_is)
    (case pl_d19 => k_is)
    (case pl_k19 => k_is)
    (case pl_a20 => k_is)
    (case pl_l20 => k_is)
    (case pl_d20 => k_is)
    (case pl_k20 => k_is)
    (case pl_a21 => k_is)
    (case pl_l21 => k_is)
    (case pl_d21 => k_is)
    (case pl_k21 => k_is)
    (case pl_z_range => k_is)
    (case pl_z_enumerate => k_is)
    (case pl_z_zip => k_is)
    (case pl_z_tuple => k_is)
    (case pl_z_reversed => k_is)
    (case pl_z_isinstance => k_is)
    (case pl_z_len => k_is)
    (case pl_z_int => k_is)
    (case pl_z_str => k_is)
    (case pl_z_all => k_is)
    (case pl_z_any => k_is)
    (case pl_z_list => k_is)
    (case pl_z_max => k_is)
    (case pl_z_min => k_is)
    (case pl_z_abs => k_is)
    (case pl_z_sum => k_is)
    (case pl_z_bool => k_is)
    (case pl_z_dict => k_is)
    (case pl_z_NoneType => k_is)
