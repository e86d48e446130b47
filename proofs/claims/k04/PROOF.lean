import PyProof.Rows.All
import Wide.All
import OpenK.AllK
import Wide.FinOn
import HandS.ForMost
import HandS.ForExc
import HandS.Walk
import HandS.Zip
import HandS.Rev
import HandS.IsInst
import HandS.Deep
import HandS.TupAny
import HandS.Wide
import HandS.Conv
import HandS.Flow
import HandS.TupMul
import HandS.ExcInit
import HandS.ExcField
import HandS.WordsExc
import KE.GoesMore
import HandS.OwnEq
import HandS.Style
import HandS.ExcIs
import PySem.Challenge.RW_rightfulhands_k04_finds_and_claims
set_option Elab.async false
set_option linter.all false
set_option maxRecDepth 100000
set_option maxHeartbeats 4000000
/-! ### the plain layer: data without addresses -/
namespace PL
open PySem PySem.Spec PyProof.Rows L2

/-- plain data: what stands still is told whole, what may change is told by its address -/
inductive D where
  | non | bl (b : Bool) | int (i : Int) | str (x : Str) | ty (n : String)
  | tup (xs : List D) | lst (xs : List D)
  | dic (ks : List Key) (xs : List D)
  | ins (c : Nat) (ns : List Str) (xs : List D)
  | cls (c : Nat) | ref (a : Addr)
  | dit (ks : List (List Key)) (xs : List D)
/-- what may change -/
inductive Ob where
  | lst (xs : List D) | dic (ks : List Key) (xs : List D) | ins (c : Nat) (ns : List Str) (xs : List D) | dit (ks : List (List Key)) (xs : List D)
abbrev Mem := Addr → Option Ob
def Ob.frz : Ob → D
  | .lst xs => .lst xs
  | .dic ks xs => .dic ks xs
  | .ins c ns xs => .ins c ns xs
  | .dit ks xs => .dit ks xs
def mput (M : Mem) (a : Addr) (o : Ob) : Mem := fun b => if b = a then some o else M b
def mdel (M : Mem) (a : Addr) : Mem := fun b => if b = a then none else M b
theorem mput_same {M : Mem} {a : Addr} {o : Ob} : mput M a o a = some o := if_pos rfl
theorem mput_ne {M : Mem} {a b : Addr} {o : Ob} (h : b ≠ a) : mput M a o b = M b := if_neg h
theorem mput_mput {M : Mem} {a : Addr} {o u : Ob} : mput (mput M a o) a u = mput M a u := by
  funext b; unfold mput; split <;> rfl
theorem mdel_mput {M : Mem} {a : Addr} {o : Ob} (h : M a = none) : mdel (mput M a o) a = M := by
  funext b; unfold mdel mput
  by_cases e : b = a
  · rw [if_pos e, e, h]
  · rw [if_neg e, if_neg e]
def Sub (M M' : Mem) : Prop := ∀ a o, M a = some o → M' a = some o
theorem Sub.refl (M : Mem) : Sub M M := fun _ _ h => h
theorem Sub.put {M : Mem} {a : Addr} {o : Ob} (h : M a = none) : Sub M (mput M a o) := fun b u e => by
  unfold mput
  rw [if_neg fun q => by rw [q, h] at e; cases e]
  exact e
theorem Sub.none {M M' : Mem} (s : Sub M M') {a : Addr} (h : M' a = none) : M a = none := by
  cases e : M a with
  | none => rfl
  | some o => rw [s a o e] at h; cases h
theorem Sub.trans {M M' M'' : Mem} (s : Sub M M') (t : Sub M' M'') : Sub M M'' := fun a o h => t a o (s a o h)

/-- the constants of a program: its written part, its classes' addresses -/
structure Cn where
  K : PySem.W.Frag
  cA : Nat → Addr
  /-- what others are at work on: not read, not changed -/
  Z : Addr → Prop

def RdF (c : Cn) (M : Mem) (H : Hp) (a : Addr) (u : HO) : Prop := ¬ c.Z a ∧ M a = none ∧ Rd H a u
/-- a tuple, a list of the written part -/
def WrT (K : PySem.W.Frag) (a : Addr) (xs : List V) : Prop := ∃ (o : Obj) (its : Array Value) (n : Nat), K.lookup a = some o ∧ o.cls = .type "tuple" ∧ o.data = .seq its n ∧ its.size ≤ sizeLine ∧ Vals xs its.toList
def SqTF (c : Cn) (M : Mem) (H : Hp) (a : Addr) (xs : List V) : Prop := RdF c M H a (.tup xs) ∨ WrT c.K a xs
def WrL (K : PySem.W.Frag) (a : Addr) (xs : List V) : Prop := ∃ (o : Obj) (its : Array Value) (n : Nat), K.lookup a = some o ∧ o.cls = .type "list" ∧ o.dict = none ∧ o.data = .seq its n ∧ its.size ≤ sizeLine ∧ Vals xs its.toList
def SqLF (c : Cn) (M : Mem) (H : Hp) (a : Addr) (xs : List V) : Prop := RdF c M H a (.lst xs) ∨ WrL c.K a xs
theorem SqTF.sq {c : Cn} {M : Mem} {H : Hp} {a : Addr} {xs : List V} (h : SqTF c M H a xs) : SqT c.K H a xs := by
  rcases h with h | h
  · exact .inl h.2.2
  · exact .inr h
theorem SqLF.sq {c : Cn} {M : Mem} {H : Hp} {a : Addr} {xs : List V} (h : SqLF c M H a xs) : SqL c.K H a xs := by
  rcases h with h | h
  · exact .inl h.2.2
  · exact .inr h

mutual
def Den (c : Cn) (M : Mem) (H : Hp) : D → V → Prop
  | .non, v => v = .non
  | .bl b, v => v = .bl b
  | .int i, v => v = .int i
  | .str x, v => v = .str x
  | .ty n, v => v = .ty n
  | .cls k, v => v = .ref (c.cA k)
  | .ref a, v => v = .ref a
  | .tup xs, v => ∃ a vs, v = .ref a ∧ SqTF c M H a vs ∧ xs.length ≤ sizeLine ∧ DenL c M H xs vs
  | .lst xs, v => ∃ a vs, v = .ref a ∧ SqLF c M H a vs ∧ xs.length ≤ sizeLine ∧ DenL c M H xs vs
  | .ins k ns xs, v => ∃ a dx vs, v = .ref a ∧ (¬ c.Z a ∧ M a = none ∧ H a = some (.ins (c.cA k) dx (ns.zip vs))) ∧ ns.length = xs.length ∧ DenL c M H xs vs
  | .dic ks xs, v => ∃ a vs, v = .ref a ∧ RdF c M H a (.dK (ks.zip vs)) ∧ ks.length = xs.length ∧ DenL c M H xs vs
  | .dit ks xs, v => ∃ a vs, v = .ref a ∧ RdF c M H a (.dT (ks.zip vs)) ∧ ks.length = xs.length ∧ DenL c M H xs vs
def DenL (c : Cn) (M : Mem) (H : Hp) : List D → List V → Prop
  | [], vs => vs = []
  | x :: xs, vs => ∃ v r, vs = v :: r ∧ Den c M H x v ∧ DenL c M H xs r
end

/-- a changing object lies in the heap -/
def ObD (c : Cn) (M : Mem) (H : Hp) : Ob → HO → Prop
  | .lst xs, u => ∃ vs, u = .lst vs ∧ xs.length ≤ sizeLine ∧ DenL c M H xs vs
  | .dic ks xs, u => ∃ vs, u = .dK (ks.zip vs) ∧ ks.length = xs.length ∧ DenL c M H xs vs
  | .ins k ns xs, u => ∃ dx vs, u = .ins (c.cA k) dx (ns.zip vs) ∧ ns.length = xs.length ∧ DenL c M H xs vs
  | .dit ks xs, u => ∃ vs, u = .dT (ks.zip vs) ∧ ks.length = xs.length ∧ DenL c M H xs vs
structure MR (c : Cn) (M : Mem) (H : Hp) : Prop where
  at_ : ∀ a o, M a = some o → ∃ u, H a = some u ∧ ObD c M H o u
  hid : ∀ a, c.Z a → M a = none ∧ ∃ u, H a = some u
/-- from one state to a later one: what doesn't change hasn't changed -/
def Nf : HO → Prop
  | .frz _ _ => False
  | _ => True
structure Keep (c : Cn) (M : Mem) (H : Hp) (M' : Mem) (H' : Hp) : Prop where
  old : ∀ a u, ¬ c.Z a → M a = none → Nf u → Rd H a u → Rd H' a u ∧ M' a = none
  inst : ∀ a C dx fs, ¬ c.Z a → M a = none → H a = some (.ins C dx fs) → H' a = some (.ins C dx fs)
  hid : ∀ a, c.Z a → H' a = H a
theorem Keep.refl (c : Cn) (M : Mem) (H : Hp) : Keep c M H M H := ⟨fun _ _ _ h _ r => ⟨r, h⟩, fun _ _ _ _ _ _ h => h, fun _ _ => rfl⟩
theorem Keep.trans {c : Cn} {M M1 M2 : Mem} {H H1 H2 : Hp} (a : Keep c M H M1 H1) (b : Keep c M1 H1 M2 H2) : Keep c M H M2 H2 :=
  ⟨fun x u z h n r => let ⟨r1, h1⟩ := a.old x u z h n r; b.old x u z h1 n r1, fun x C dx fs z h e => b.inst x C dx fs z (a.old x _ z h (by trivial) (.inl e)).2 (a.inst x C dx fs z h e), fun x z => (b.hid x z).trans (a.hid x z)⟩

theorem DenL.length {c : Cn} {M : Mem} {H : Hp} : ∀ {xs : List D} {vs : List V}, DenL c M H xs vs → xs.length = vs.length
  | [], _, h => by simp only [DenL] at h; subst h; rfl
  | x :: xs, _, h => by
    simp only [DenL] at h
    obtain ⟨v, r, rfl, _, h2⟩ := h
    simp [DenL.length h2]
theorem DenL.get {c : Cn} {M : Mem} {H : Hp} : ∀ {xs : List D} {vs : List V} {i : Nat} {x : D}, DenL c M H xs vs → xs[i]? = some x → ∃ v, vs[i]? = some v ∧ Den c M H x v
  | [], _, _, _, _, e => by simp at e
  | y :: xs, _, 0, x, h, e => by
    simp only [DenL] at h
    obtain ⟨v, r, rfl, h1, h2⟩ := h
    simp at e; subst e
    exact ⟨v, rfl, h1⟩
  | y :: xs, _, i + 1, x, h, e => by
    simp only [DenL] at h
    obtain ⟨v, r, rfl, h1, h2⟩ := h
    obtain ⟨u, hu, q⟩ := DenL.get (i := i) h2 (by simpa using e)
    exact ⟨u, by simpa using hu, q⟩
theorem DenL.get' {c : Cn} {M : Mem} {H : Hp} {xs : List D} {vs : List V} {i : Nat} {v : V} (h : DenL c M H xs vs) (e : vs[i]? = some v) : ∃ x, xs[i]? = some x ∧ Den c M H x v := by
  have hi : i < xs.length := by
    rw [h.length]
    exact (List.getElem?_eq_some_iff.mp e).1
  obtain ⟨u, hu, q⟩ := h.get (i := i) (x := xs[i]) (by simp [hi])
  rw [e] at hu
  cases hu
  exact ⟨_, by simp [hi], q⟩
theorem DenL.nil {c : Cn} {M : Mem} {H : Hp} : DenL c M H [] [] := by simp only [DenL]
theorem DenL.cons {c : Cn} {M : Mem} {H : Hp} {x : D} {v : V} {xs : List D} {vs : List V} (h : Den c M H x v) (t : DenL c M H xs vs) : DenL c M H (x :: xs) (v :: vs) := by
  simp only [DenL]
  exact ⟨v, vs, rfl, h, t⟩
theorem DenL.append {c : Cn} {M : Mem} {H : Hp} : ∀ {xs ys : List D} {vs ws : List V}, DenL c M H xs vs → DenL c M H ys ws → DenL c M H (xs ++ ys) (vs ++ ws)
  | [], _, _, _, h, t => by simp only [DenL] at h; subst h; exact t
  | x :: xs, _, _, _, h, t => by
    simp only [DenL] at h
    obtain ⟨v, r, rfl, h1, h2⟩ := h
    exact DenL.cons h1 (DenL.append h2 t)
theorem DenL.of_get {c : Cn} {M : Mem} {H : Hp} : ∀ {xs : List D} {vs : List V}, xs.length = vs.length → (∀ (i : Nat) (x : D) (v : V), xs[i]? = some x → vs[i]? = some v → Den c M H x v) → DenL c M H xs vs
  | [], [], _, _ => DenL.nil
  | [], _ :: _, h, _ => by simp at h
  | _ :: _, [], h, _ => by simp at h
  | x :: xs, v :: vs, h, g => DenL.cons (g 0 x v rfl rfl) (DenL.of_get (by simpa using h) fun i y u e1 e2 => g (i + 1) y u (by simpa using e1) (by simpa using e2))
theorem DenL.set {c : Cn} {M : Mem} {H : Hp} {x : D} {v : V} (h : Den c M H x v) : ∀ {xs : List D} {vs : List V} (i : Nat), DenL c M H xs vs → DenL c M H (xs.set i x) (vs.set i v)
  | [], _, _, t => by simp only [DenL] at t; subst t; exact DenL.nil
  | y :: xs, _, 0, t => by
    simp only [DenL] at t
    obtain ⟨w, r, rfl, h1, h2⟩ := t
    exact DenL.cons h h2
  | y :: xs, _, i + 1, t => by
    simp only [DenL] at t
    obtain ⟨w, r, rfl, h1, h2⟩ := t
    exact DenL.cons h1 (DenL.set h i h2)
theorem DenL.take {c : Cn} {M : Mem} {H : Hp} : ∀ {xs : List D} {vs : List V} (n : Nat), DenL c M H xs vs → DenL c M H (xs.take n) (vs.take n)
  | _, _, 0, _ => DenL.nil
  | [], _, _ + 1, t => by simp only [DenL] at t; subst t; exact DenL.nil
  | y :: xs, _, n + 1, t => by
    simp only [DenL] at t
    obtain ⟨w, r, rfl, h1, h2⟩ := t
    exact DenL.cons h1 (DenL.take n h2)
theorem DenL.drop {c : Cn} {M : Mem} {H : Hp} : ∀ {xs : List D} {vs : List V} (n : Nat), DenL c M H xs vs → DenL c M H (xs.drop n) (vs.drop n)
  | _, _, 0, t => t
  | [], _, _ + 1, t => by simp only [DenL] at t; subst t; exact DenL.nil
  | y :: xs, _, n + 1, t => by
    simp only [DenL] at t
    obtain ⟨w, r, rfl, h1, h2⟩ := t
    exact DenL.drop n h2

/-- the same, the hidden part another one -/
structure KeepG (c : Cn) (M : Mem) (H : Hp) (c' : Cn) (M' : Mem) (H' : Hp) : Prop where
  eK : c'.K = c.K
  eA : c'.cA = c.cA
  old : ∀ a u, ¬ c.Z a → M a = none → Nf u → Rd H a u → ¬ c'.Z a ∧ Rd H' a u ∧ M' a = none
  inst : ∀ a C dx fs, ¬ c.Z a → M a = none → H a = some (.ins C dx fs) → H' a = some (.ins C dx fs)
theorem Keep.g {c : Cn} {M M' : Mem} {H H' : Hp} (k : Keep c M H M' H') : KeepG c M H c M' H' :=
  ⟨rfl, rfl, fun a u z h n r => ⟨z, (k.old a u z h n r).1, (k.old a u z h n r).2⟩, k.inst⟩
section
variable {c c' : Cn} {M M' : Mem} {H H' : Hp}
theorem SqTF.keepG (k : KeepG c M H c' M' H') {a : Addr} {xs : List V} (h : SqTF c M H a xs) : SqTF c' M' H' a xs := by
  rcases h with ⟨h0, h1, h2⟩ | h
  · obtain ⟨z, r, m⟩ := k.old a _ h0 h1 (by trivial) h2
    exact .inl ⟨z, m, r⟩
  · exact .inr (by rw [k.eK]; exact h)
theorem SqLF.keepG (k : KeepG c M H c' M' H') {a : Addr} {xs : List V} (h : SqLF c M H a xs) : SqLF c' M' H' a xs := by
  rcases h with ⟨h0, h1, h2⟩ | h
  · obtain ⟨z, r, m⟩ := k.old a _ h0 h1 (by trivial) h2
    exact .inl ⟨z, m, r⟩
  · exact .inr (by rw [k.eK]; exact h)
mutual
theorem Den.keepG (k : KeepG c M H c' M' H') : ∀ (d : D) (v : V), Den c M H d v → Den c' M' H' d v
  | .non, _, h => by simpa only [Den] using h
  | .bl _, _, h => by simpa only [Den] using h
  | .int _, _, h => by simpa only [Den] using h
  | .str _, _, h => by simpa only [Den] using h
  | .ty _, _, h => by simpa only [Den] using h
  | .cls _, _, h => by simp only [Den] at h ⊢; rw [k.eA]; exact h
  | .ref _, _, h => by simpa only [Den] using h
  | .tup xs, v, h => by
    simp only [Den] at h ⊢
    obtain ⟨a, vs, e, q, l, r⟩ := h
    exact ⟨a, vs, e, q.keepG k, l, DenL.keepG k xs vs r⟩
  | .lst xs, v, h => by
    simp only [Den] at h ⊢
    obtain ⟨a, vs, e, q, l, r⟩ := h
    exact ⟨a, vs, e, q.keepG k, l, DenL.keepG k xs vs r⟩
  | .ins n ns xs, v, h => by
    simp only [Den] at h ⊢
    obtain ⟨a, dx, vs, e, q, l, r⟩ := h
    obtain ⟨z1, _, m1⟩ := k.old _ _ q.1 q.2.1 (by trivial) (.inl q.2.2)
    have r1 := k.inst _ _ _ _ q.1 q.2.1 q.2.2
    exact ⟨a, dx, vs, e, ⟨z1, m1, by rw [k.eA]; exact r1⟩, l, DenL.keepG k xs vs r⟩
  | .dic ks xs, v, h => by
    simp only [Den] at h ⊢
    obtain ⟨a, vs, e, q, l, r⟩ := h
    obtain ⟨z1, r1, m1⟩ := k.old _ _ q.1 q.2.1 (by trivial) q.2.2
    exact ⟨a, vs, e, ⟨z1, m1, r1⟩, l, DenL.keepG k xs vs r⟩
  | .dit ks xs, v, h => by
    simp only [Den] at h ⊢
    obtain ⟨a, vs, e, q, l, r⟩ := h
    obtain ⟨z1, r1, m1⟩ := k.old _ _ q.1 q.2.1 (by trivial) q.2.2
    exact ⟨a, vs, e, ⟨z1, m1, r1⟩, l, DenL.keepG k xs vs r⟩
theorem DenL.keepG (k : KeepG c M H c' M' H') : ∀ (xs : List D) (vs : List V), DenL c M H xs vs → DenL c' M' H' xs vs
  | [], _, h => by simpa only [DenL] using h
  | x :: xs, _, h => by
    simp only [DenL] at h ⊢
    obtain ⟨v, r, e, h1, h2⟩ := h
    exact ⟨v, r, e, Den.keepG k x v h1, DenL.keepG k xs r h2⟩
end
theorem ObD.keepG (k : KeepG c M H c' M' H') {o : Ob} {u : HO} (h : ObD c M H o u) : ObD c' M' H' o u := by
  cases o with
  | lst xs => obtain ⟨vs, e, l, r⟩ := h; exact ⟨vs, e, l, r.keepG k⟩
  | dic ks xs => obtain ⟨vs, e, l, r⟩ := h; exact ⟨vs, e, l, r.keepG k⟩
  | ins n ns xs => obtain ⟨dx, vs, e, l, r⟩ := h; exact ⟨dx, vs, by rw [k.eA]; exact e, l, r.keepG k⟩
  | dit ks xs => obtain ⟨vs, e, l, r⟩ := h; exact ⟨vs, e, l, r.keepG k⟩
end
theorem SqTF.keep {c : Cn} {M M' : Mem} {H H' : Hp} (k : Keep c M H M' H') {a : Addr} {xs : List V} (h : SqTF c M H a xs) : SqTF c M' H' a xs := h.keepG k.g
theorem SqLF.keep {c : Cn} {M M' : Mem} {H H' : Hp} (k : Keep c M H M' H') {a : Addr} {xs : List V} (h : SqLF c M H a xs) : SqLF c M' H' a xs := h.keepG k.g
theorem Den.keep {c : Cn} {M M' : Mem} {H H' : Hp} (k : Keep c M H M' H') (d : D) (v : V) (h : Den c M H d v) : Den c M' H' d v := h.keepG k.g
theorem DenL.keep {c : Cn} {M M' : Mem} {H H' : Hp} (k : Keep c M H M' H') (xs : List D) (vs : List V) (h : DenL c M H xs vs) : DenL c M' H' xs vs := h.keepG k.g
theorem ObD.keep {c : Cn} {M M' : Mem} {H H' : Hp} (k : Keep c M H M' H') {o : Ob} {u : HO} (h : ObD c M H o u) : ObD c M' H' o u := h.keepG k.g

/-! ### steps of the state -/
section
variable {c : Cn} {M : Mem} {H : Hp} {p : Addr}
theorem MR.none (m : MR c M H) (h : H p = none) : M p = none := by
  cases e : M p with
  | none => rfl
  | some o =>
    obtain ⟨u, hu, _⟩ := m.at_ p o e
    rw [h] at hu; cases hu
theorem MR.nz (m : MR c M H) (h : H p = Option.none) : ¬ c.Z p := fun z => by
  obtain ⟨_, u, hu⟩ := m.hid p z
  rw [h] at hu; cases hu
theorem MR.nzM {o : Ob} (m : MR c M H) (h : M p = some o) : ¬ c.Z p := fun z => by
  rw [(m.hid p z).1] at h; cases h
theorem rd_ne {a : Addr} {u : HO} (r : Rd H a u) (h : H p = none) : a ≠ p := by
  rintro rfl
  rcases r with r | ⟨o, r⟩ <;> rw [h] at r <;> cases r
theorem rd_upd {a : Addr} {u o : HO} (r : Rd H a u) (h : a ≠ p) : Rd (upd H p o) a u := by
  rcases r with r | ⟨x, r⟩
  · exact .inl (by rw [upd_ne h]; exact r)
  · exact .inr ⟨x, by rw [upd_ne h]; exact r⟩
theorem ne_nz {a : Addr} (z : c.Z a) (h : ¬ c.Z p) : a ≠ p := fun e => h (e ▸ z)
/-- a new object that is not told as changing -/
theorem Keep.new {o : HO} (m : MR c M H) (h : H p = Option.none) : Keep c M H M (upd H p o) :=
  ⟨fun a u _ m _ r => ⟨rd_upd r (rd_ne r h), m⟩, fun a _ _ _ _ _ e => by rw [upd_ne (ne_of_none e h)]; exact e, fun a z => upd_ne (ne_nz z (m.nz h))⟩
theorem MR.new {o : HO} (m : MR c M H) (h : H p = Option.none) : MR c M (upd H p o) := ⟨fun a ob e => by
  obtain ⟨u, hu, r⟩ := m.at_ a ob e
  exact ⟨u, by rw [upd_ne (ne_of_none hu h)]; exact hu, r.keep (Keep.new m h)⟩, fun a z => by
  obtain ⟨h1, u, hu⟩ := m.hid a z
  exact ⟨h1, u, by rw [upd_ne (ne_nz z (m.nz h))]; exact hu⟩⟩
/-- a new one that is -/
theorem Keep.cell {o : HO} {ob : Ob} (m : MR c M H) (h : H p = Option.none) : Keep c M H (mput M p ob) (upd H p o) :=
  ⟨fun a u _ m _ r => ⟨rd_upd r (rd_ne r h), by rw [mput_ne (rd_ne r h)]; exact m⟩, fun a _ _ _ _ _ e => by rw [upd_ne (ne_of_none e h)]; exact e, fun a z => upd_ne (ne_nz z (m.nz h))⟩
theorem MR.put {o : HO} {ob : Ob} (m : MR c M H) (nz : ¬ c.Z p) (k : Keep c M H (mput M p ob) (upd H p o)) (q : ObD c M H ob o) : MR c (mput M p ob) (upd H p o) := ⟨fun a b e => by
  by_cases z : a = p
  · subst z
    rw [mput_same] at e; cases e
    exact ⟨o, upd_same, q.keep k⟩
  · rw [mput_ne z] at e
    obtain ⟨u, hu, r⟩ := m.at_ a b e
    exact ⟨u, by rw [upd_ne z]; exact hu, r.keep k⟩, fun a z => by
  obtain ⟨h1, u, hu⟩ := m.hid a z
  exact ⟨by rw [mput_ne (ne_nz z nz)]; exact h1, u, by rw [upd_ne (ne_nz z nz)]; exact hu⟩⟩
theorem MR.cell {o : HO} {ob : Ob} (m : MR c M H) (h : H p = Option.none) (q : ObD c M H ob o) : MR c (mput M p ob) (upd H p o) := m.put (m.nz h) (Keep.cell m h) q
/-- one that changes is changed -/
theorem Keep.write {o : HO} {ob ob' : Ob} (m : MR c M H) (h : M p = some ob) : Keep c M H (mput M p ob') (upd H p o) := ⟨fun a u _ m _ r => by
  have z : a ≠ p := by rintro rfl; rw [h] at m; cases m
  exact ⟨rd_upd r z, by rw [mput_ne z]; exact m⟩, fun a _ _ _ _ m e => by
  have z : a ≠ p := by rintro rfl; rw [h] at m; cases m
  rw [upd_ne z]; exact e, fun a z => upd_ne (ne_nz z (m.nzM h))⟩
theorem MR.write {o : HO} {ob ob' : Ob} (m : MR c M H) (h : M p = some ob) (q : ObD c M H ob' o) : MR c (mput M p ob') (upd H p o) := m.put (m.nzM h) (Keep.write m h) q
/-- what changes no more -/
theorem Keep.sub {M' : Mem} (s : Sub M' M) : Keep c M H M' H := ⟨fun a u _ m _ r => ⟨r, s.none m⟩, fun _ _ _ _ _ _ e => e, fun _ _ => rfl⟩
theorem MR.sub {M' : Mem} (m : MR c M H) (s : Sub M' M) : MR c M' H := ⟨fun a b e => by
  obtain ⟨u, hu, r⟩ := m.at_ a b (s a b e)
  exact ⟨u, hu, r.keep (Keep.sub s)⟩, fun a z => ⟨s.none (m.hid a z).1, (m.hid a z).2⟩⟩
theorem Sub.del (M : Mem) (p : Addr) : Sub (mdel M p) M := fun a o e => by
  unfold mdel at e
  split at e
  · cases e
  · exact e
theorem Den.frz {ob : Ob} (m : MR c M H) (h : M p = some ob) : Den c (mdel M p) H ob.frz (.ref p) := by
  obtain ⟨u, hu, q⟩ := m.at_ p ob h
  have k : Keep c M H (mdel M p) H := Keep.sub (Sub.del M p)
  have z : mdel M p p = Option.none := if_pos rfl
  have nz := m.nzM h
  cases ob with
  | lst xs => obtain ⟨vs, e, l, r⟩ := q; subst e; simp only [Ob.frz, Den]; exact ⟨p, vs, rfl, .inl ⟨nz, z, .inl hu⟩, l, r.keep k⟩
  | dic ks xs => obtain ⟨vs, e, l, r⟩ := q; subst e; simp only [Ob.frz, Den]; exact ⟨p, vs, rfl, ⟨nz, z, .inl hu⟩, l, r.keep k⟩
  | ins n ns xs => obtain ⟨dx, vs, e, l, r⟩ := q; subst e; simp only [Ob.frz, Den]; exact ⟨p, dx, vs, rfl, ⟨nz, z, hu⟩, l, r.keep k⟩
  | dit ks xs => obtain ⟨vs, e, l, r⟩ := q; subst e; simp only [Ob.frz, Den]; exact ⟨p, vs, rfl, ⟨nz, z, .inl hu⟩, l, r.keep k⟩
end

/-! ### the slots -/
abbrev Sd := List (Option D)
structure SR (c : Cn) (ρ : Sd) (σ : L2.St) (M : Mem) (H : Hp) : Prop where
  len : ρ.length = σ.length
  get : ∀ (i : Nat) (d : D), ρ[i]? = some (some d) → ∃ v, σ[i]? = some (some v) ∧ Den c M H d v
  mem : MR c M H
section
variable {c : Cn} {M M' : Mem} {H H' : Hp} {ρ : Sd} {σ : L2.St}
theorem SR.keep (s : SR c ρ σ M H) (k : Keep c M H M' H') (m : MR c M' H') : SR c ρ σ M' H' :=
  ⟨s.len, fun i d e => let ⟨v, h, q⟩ := s.get i d e; ⟨v, h, q.keep k⟩, m⟩
theorem SR.set (s : SR c ρ σ M H) {i : Nat} {d : D} {v : V} (q : Den c M H d v) : SR c (ρ.set i (some d)) (σ.set i (some v)) M H := by
  refine ⟨by rw [List.length_set, List.length_set, s.len], fun j e h => ?_, s.mem⟩
  by_cases z : i = j
  · subst z
    by_cases hi : i < ρ.length
    · rw [List.getElem?_set_self hi] at h
      cases h
      exact ⟨v, List.getElem?_set_self (by rw [← s.len]; exact hi), q⟩
    · rw [List.getElem?_eq_none (by rw [List.length_set]; omega)] at h; cases h
  · rw [List.getElem?_set_ne z] at h ⊢
    exact s.get j e h
theorem SR.unset (s : SR c ρ σ M H) {i : Nat} : SR c (ρ.set i none) (σ.set i none) M H := by
  refine ⟨by rw [List.length_set, List.length_set, s.len], fun j e h => ?_, s.mem⟩
  by_cases z : i = j
  · subst z
    by_cases hi : i < ρ.length
    · rw [List.getElem?_set_self hi] at h; cases h
    · rw [List.getElem?_eq_none (by rw [List.length_set]; omega)] at h; cases h
  · rw [List.getElem?_set_ne z] at h ⊢
    exact s.get j e h
end
end PL
/-! ### a def's text in short, and what it asks -/
namespace PL
open PySem PySem.Spec PyProof.Rows L2

/-- a value, or an object that was just made and that nobody else has -/
inductive R where
  | val (d : D) | new (o : Ob)
def R.d : R → D
  | .val d => d
  | .new o => o.frz
abbrev QR := R → Mem → Prop
abbrev EX := Nat → List D → Mem → Prop
/-- a promise: the arguments, what may change, the wanted end, the wanted error -/
abbrev DSp := List D → Mem → QR → EX → Prop

/-! ### data seen -/
def asL (M : Mem) : D → Option (List D)
  | .lst xs => some xs
  | .ref p => match M p with
    | some (.lst xs) => some xs
    | _ => none
  | _ => none
def asT : D → Option (List D)
  | .tup xs => some xs
  | _ => none
def asS (M : Mem) (d : D) : Option (List D) := match d with
  | .tup xs => some xs
  | d => asL M d
def asI (M : Mem) : D → Option (Nat × List Str × List D)
  | .ins c ns xs => some (c, ns, xs)
  | .ref p => match M p with
    | some (.ins c ns xs) => some (c, ns, xs)
    | _ => none
  | _ => none
/-- a class: a built-in one, one of the program -/
inductive Ty where
  | int | str | bool | list | tuple | dict | none | cls (c : Nat)
  deriving DecidableEq
def Ty.name : Ty → String
  | .int => "int" | .str => "str" | .bool => "bool" | .list => "list" | .tuple => "tuple" | .dict => "dict" | .none => "NoneType" | .cls _ => ""
def typ (M : Mem) : D → Option Ty
  | .non => some .none
  | .bl _ => some .bool
  | .int _ => some .int
  | .str _ => some .str
  | .tup _ => some .tuple
  | .lst _ => some .list
  | .dic _ _ => some .dict
  | .ins c _ _ => some (.cls c)
  | .ref p => match M p with
    | some (.lst _) => some .list
    | some (.dic _ _) => some .dict
    | some (.dit _ _) => some .dict
    | some (.ins c _ _) => some (.cls c)
    | _ => Option.none
  | _ => Option.none
def Ty.below (n : Nat → Bool) : Ty → Bool
  | .cls k => n k
  | _ => true
def subT : Ty → Ty → Bool
  | .bool, .int => true
  | a, b => decide (a = b)

mutual
/-- as data, for == -/
def dat : D → Option PyData
  | .non => some .none
  | .bl b => some (.bool b)
  | .int i => some (.int i)
  | .str x => some (.str x)
  | .tup xs => match datL xs with | some ys => some (.tuple ys) | none => none
  | .lst xs => match datL xs with | some ys => some (.list ys) | none => none
  | _ => none
def datL : List D → Option (List PyData)
  | [] => some []
  | x :: xs => match dat x, datL xs with
    | some y, some ys => some (y :: ys)
    | _, _ => none
end
def datM (M : Mem) : D → Option PyData
  | .ref p => match M p with
    | some (.lst xs) => match datL xs with | some ys => some (.list ys) | none => none
    | _ => none
  | d => dat d
def flatD : D → Bool
  | .non | .bl _ | .int _ | .str _ => true
  | _ => false
def eqF : D → D → Bool
  | .non, .non => true
  | .bl a, .bl b => a == b
  | .bl a, .int b => (if a then 1 else 0) == b
  | .int a, .bl b => a == (if b then 1 else 0)
  | .int a, .int b => a == b
  | .str a, .str b => a == b
  | _, _ => false

/-! ### operators -/
def addS (x y : D) (M : Mem) (Q : R → Prop) : Prop := match x with
  | .int i => match y with
    | .int j => Q (.val (.int (i + j)))
    | _ => False
  | .str a => match y with
    | .str b => a.length + b.length ≤ sizeLine ∧ Q (.val (.str (a ++ b)))
    | _ => False
  | .tup xs => match y with
    | .tup ys => xs.length + ys.length ≤ sizeLine ∧ Q (.val (.tup (xs ++ ys)))
    | _ => False
  | x => match asL M x with
    | some xs => match asL M y with
      | some ys => xs.length + ys.length ≤ sizeLine ∧ Q (.new (.lst (xs ++ ys)))
      | none => False
    | none => False
def int2 (x y : D) (K : Int → Int → Prop) : Prop := match x with
  | .int i => match y with
    | .int j => K i j
    | _ => False
  | _ => False
def opS (o : Operator) (x y : D) (M : Mem) (Q : R → Prop) : Prop := match o with
  | .Add => addS x y M Q
  | .Sub => int2 x y fun i j => Q (.val (.int (i - j)))
  | .Mult => match x with
    | .tup xs => match y with
      | .int k => (xs ≠ [] ∧ 1 ≤ k ∧ k ≤ 1000 ∧ xs.length ≤ 1000) ∧ Q (.val (.tup (List.replicate k.toNat xs).flatten))
      | _ => False
    | .lst xs => match y with
      | .int k => (0 ≤ k ∧ k ≤ 1000 ∧ xs.length ≤ 1000) ∧ Q (.new (.lst (List.replicate k.toNat xs).flatten))
      | _ => False
    | .str a => match y with
      | .int k => (1 ≤ k ∧ k ≤ 1000 ∧ 1 ≤ a.length ∧ a.length ≤ 1000) ∧ Q (.val (.str ⟨(List.replicate k.toNat a.cps).foldl (· ++ ·) #[]⟩))
      | _ => False
    | x => int2 x y fun i j => i.natAbs.log2 + j.natAbs.log2 < 1000000 ∧ Q (.val (.int (i * j)))
  | .FloorDiv => int2 x y fun i j => (0 < j ∧ j.natAbs.log2 < 9000) ∧ Q (.val (.int (i / j)))
  | .Mod => int2 x y fun i j => 0 < j ∧ Q (.val (.int (i % j)))
  | .Pow => int2 x y fun i j => (0 ≤ j ∧ j ≤ 1000000 ∧ i.natAbs < 2 ^ 64) ∧ Q (.val (.int (i ^ j.toNat)))
  | _ => False
def eqS (x y : D) (M : Mem) (Q : Bool → Prop) : Prop := match datM M x with
  | some d => match datM M y with
    | some e => SeqAt.shaped d = true ∧ SeqAt.shaped e = true ∧ Q (PyData.eqv d e)
    | none => False
  | none => False
def inS (x y : D) (M : Mem) (Q : Bool → Prop) : Prop := match y with
  | .str b => match x with
    | .str a => Q (!(Builtin.Str.occurrences b a 0 b.length 1).isEmpty)
    | _ => False
  | y => match asS M y with
    | some ys => (flatD x = true ∧ ys.all flatD = true) ∧ Q (ys.any fun z => eqF z x)
    | none => False
def isNon : D → Bool
  | .non => true
  | _ => false
def isS (x y : D) (Q : Bool → Prop) : Prop := match y with
  | .non => Q (isNon x)
  | _ => False
def cmpS (o : CmpOp) (x y : D) (M : Mem) (Q : Bool → Prop) : Prop := match o with
  | .Lt => int2 x y fun i j => Q (decide (i < j))
  | .LtE => int2 x y fun i j => Q (decide (i ≤ j))
  | .Gt => int2 x y fun i j => Q (decide (j < i))
  | .GtE => int2 x y fun i j => Q (decide (j ≤ i))
  | .Eq => eqS x y M Q
  | .NotEq => eqS x y M fun b => Q (!b)
  | .In => inS x y M Q
  | .NotIn => inS x y M fun b => Q (!b)
  | .Is => isS x y Q
  | .IsNot => isS x y fun b => Q (!b)
def truS (d : D) (M : Mem) (Q : Bool → Prop) : Prop := match d with
  | .non => Q false
  | .bl b => Q b
  | .int i => Q (i != 0)
  | .str y => y.length ≤ sizeLine ∧ Q ((y.length : Int) != 0)
  | d => match asS M d with
    | some xs => Q (!xs.isEmpty)
    | none => False
def ixS (x y : D) (M : Mem) (Q : D → Prop) : Prop := match y with
  | .int i => match x with
    | .str z => z.length ≤ sizeLine ∧ match atI z.cps.toList i with
      | some c => Q (.str ⟨#[c]⟩)
      | none => False
    | x => match asS M x with
      | some xs => match atI xs i with
        | some d => Q d
        | none => False
      | none => False
  | _ => False
def cutD (xs : List D) (lo hi : Option Int) : List D := (xs.drop (HT.sIx xs.length 0 lo)).take (HT.sIx xs.length xs.length hi - HT.sIx xs.length 0 lo)
def slS (x : D) (lo hi : Option Int) (M : Mem) (Q : R → Prop) : Prop := match x with
  | .str z => z.length ≤ sizeLine ∧ Q (.val (.str (cutS z lo hi)))
  | .tup xs => Q (.val (.tup (cutD xs lo hi)))
  | x => match asL M x with
    | some xs => Q (.new (.lst (cutD xs lo hi)))
    | none => False

/-! ### built-in functions and methods, by values -/
inductive Fn where
  | len | lenB | int | str | all | any | list | tuple | max2 | min2 | abs | sum
def Fn.name : Fn → Str
  | .len => "len" | .lenB => "len" | .int => "int" | .str => "str" | .all => "all" | .any => "any" | .list => "list" | .tuple => "tuple" | .max2 => "max" | .min2 => "min" | .abs => "abs" | .sum => "sum"
def asBs : List D → Option (List Bool)
  | [] => some []
  | .bl b :: r => match asBs r with | some bs => some (b :: bs) | none => none
  | _ :: _ => none
def asIs : List D → Option (List Int)
  | [] => some []
  | .int i :: r => match asIs r with | some is => some (i :: is) | none => none
  | _ :: _ => none
def asSs : List D → Option (List Str)
  | [] => some []
  | .str x :: r => match asSs r with | some ss => some (x :: ss) | none => none
  | _ :: _ => none
def one (ds : List D) (K : D → Prop) : Prop := match ds with
  | [x] => K x
  | _ => False
def two (ds : List D) (K : D → D → Prop) : Prop := match ds with
  | [x, y] => K x y
  | _ => False
def fnS (f : Fn) (ds : List D) (M : Mem) (Q : R → Prop) : Prop := match f with
  | .len => one ds fun x => match x with
    | .str z => z.length ≤ sizeLine ∧ Q (.val (.int z.length))
    | x => match asS M x with
      | some xs => Q (.val (.int xs.length))
      | none => False
  | .lenB => one ds fun x => match x with
    | .str z => z.length ≤ sizeLine ∧ Q (.val (.int z.length))
    | x => match asS M x with
      | some xs => xs.length ≤ sizeLine → Q (.val (.int xs.length))
      | none => False
  | .int => one ds fun x => match x with
    | .int i => Q (.val (.int i))
    | .bl b => Q (.val (.int (if b then 1 else 0)))
    | .str a => a.length ≤ 640 ∧ match PySem.intText? a with
      | some n => Q (.val (.int n))
      | none => False
    | _ => False
  | .str => one ds fun x => match x with
    | .int i => i.natAbs.log2 < 1920 ∧ Q (.val (.str (toString i)))
    | _ => False
  | .all => one ds fun x => match asL M x with
    | some xs => match asBs xs with
      | some bs => Q (.val (.bl (bs.all id)))
      | none => False
    | none => False
  | .any => one ds fun x => match asL M x with
    | some xs => match asBs xs with
      | some bs => Q (.val (.bl (bs.any id)))
      | none => False
    | none => False
  | .sum => one ds fun x => match asL M x with
    | some xs => match asIs xs with
      | some is => Q (.val (.int is.sum))
      | none => False
    | none => False
  | .list => one ds fun x => match asS M x with
    | some xs => Q (.new (.lst xs))
    | none => False
  | .tuple => one ds fun x => match asS M x with
    | some xs => Q (.val (.tup xs))
    | none => False
  | .max2 => two ds fun x y => int2 x y fun i j => Q (.val (.int (if j > i then j else i)))
  | .min2 => two ds fun x y => int2 x y fun i j => Q (.val (.int (if j < i then j else i)))
  | .abs => one ds fun x => match x with
    | .int i => Q (.val (.int (if i < 0 then -i else i)))
    | _ => False
inductive Mt where
  | append | pop | popAt | join
/-- the receiver is of the method's type -/
def mtTy (m : Mt) (x : D) (M : Mem) : Bool := match m with
  | .join => match x with
    | .str _ => true
    | _ => false
  | _ => (asL M x).isSome
/-- a list that may change, by its address -/
def cellS (x : D) (M : Mem) (K : Addr → List D → Prop) : Prop := match x with
  | .ref p => match M p with
    | some (.lst xs) => K p xs
    | _ => False
  | _ => False
def intS (x : D) (K : Int → Prop) : Prop := match x with
  | .int i => K i
  | _ => False
def strS (x : D) (K : Str → Prop) : Prop := match x with
  | .str a => K a
  | _ => False
def optS {α : Type} (o : Option α) (K : α → Prop) : Prop := match o with
  | some a => K a
  | none => False
def mtS (m : Mt) (o : D) (ds : List D) (M : Mem) (Q : QR) : Prop := match m with
  | .append => one ds fun y => cellS o M fun p xs => xs.length < sizeLine ∧ Q (.val .non) (mput M p (.lst (xs ++ [y])))
  | .pop => ds = [] ∧ cellS o M fun p xs => optS xs[xs.length - 1]? fun y => Q (.val y) (mput M p (.lst xs.dropLast))
  | .popAt => one ds fun i => intS i fun i => cellS o M fun p xs => optS (ixN xs.length i) fun k => optS xs[k]? fun y => Q (.val y) (mput M p (.lst (xs.eraseIdx k)))
  | .join => one ds fun y => strS o fun a => optS (asS M y) fun ys => optS (asSs ys) fun ss => (ss.map Str.length).sum + ss.length * a.length ≤ 16777216 ∧ Q (.val (.str (Txt.join a ss))) M
def fldS (nc : Nat → Bool) (at_ : Nat → List Str) (x : D) (f : Str) (M : Mem) (Q : D → Prop) : Prop := match asI M x with
  | some (c, ns, xs) => (nc c && (at_ c).contains f) = true ∧ optS ((ns.zip xs).lookup f) Q
  | none => False

/-! ### the text -/
/-- a target: a slot, or several -/
inductive Tg where
  | name (i : Nat) | tup (is : List Nat)
mutual
inductive E where
  | var (i : Nat) | con (d : D) | glob (g : Nat)
  | op (o : Operator) (a b : E) | neg (a : E) | cmp (o : CmpOp) (a b : E) | chain (o o' : CmpOp) (a b c : E)
  | and (a b : E) | or (a b : E) | not (a : E) | ite (t : Te) (a b : E)
  | tup (es : Es) | lst (es : Es) | ix (a i : E) | slice (a : E) (lo hi : Eo)
  | fn (f : Fn) (es : Es) | mt (m : Mt) (o : E) (es : Es) | fld (o : E) (f : Str) | isi (a : E) (ts : List Ty)
  | call (k : Nat) (es : Es) (kw : List Str) (vs : Es) | make (k : Nat) (es : Es) (kw : List Str) (vs : Es) | meth (k : Nat) (o : E) (es : Es) (kw : List Str) (vs : Es)
  | comp (elt : E) (t : Tg) (s : Src) (cond : Teo) (own : List (Str × Nat))
  | tupRev (a : E) | tupRange (es : Es) | lstRange (es : Es) | ieq (neg : Bool) (k : Nat) (a b : E)
  | cell (a : E) | frz (a : E) | own (a : E)
inductive Te where
  | val (e : E) | and (a b : Te) | or (a b : Te) | not (a : Te)
inductive Teo where
  | none | some (t : Te)
inductive Es where
  | nil | cons (e : E) (es : Es)
inductive Eo where
  | none | some (e : E)
inductive Src where
  | seq (a : E) | range (es : Es) | enum (a : E) | zip (a b : E)
end

/-- what stands around: the constants, the promises of defs, methods, makers; the attributes of a class; the places of keywords -/
structure Tb where
  gl : Nat → D
  fn : Nat → DSp
  mt : Nat → DSp
  mak : Nat → DSp
  mc : Nat → Nat
  at_ : Nat → List Str
  fp : Nat → List Str
  mp : Nat → List Str
  kp : Nat → List Str
  xf : Nat → List Str
  nc : Nat → Bool
  xc : Nat → Bool := fun _ => false
  sub : Nat → Nat → Bool := fun _ _ => false

/-- the arguments in the parameters' order -/
def kwArgs {α : Type} (ps : List Str) (ds : List α) (kw : List Str) (vs : List α) : List α := ds ++ (ps.drop ds.length).filterMap fun p => (kw.zip vs).lookup p

def bindT (t : Tg) (x : D) (ρ : Sd) (K : Sd → Prop) : Prop := match t with
  | .name i => K (ρ.set i (some x))
  | .tup is => match x with
    | .tup xs => is.length = xs.length ∧ K ((is.zip xs).foldl (fun r p => r.set p.1 (some p.2)) ρ)
    | _ => False
def wipeD (ρ : Sd) : List Nat → Sd
  | [] => ρ
  | v :: vs => (wipeD ρ vs).set v none
def noEX : EX := fun _ _ _ => False
def rangeD (a b : Int) : List D := (List.range (b - a).toNat).map fun i => .int (a + (i : Nat))
def rgS (ds : List D) (K : List D → Prop) : Prop := match ds with
  | [.int n] => (-(2 ^ 62) ≤ n ∧ n ≤ 16777216) ∧ K (rangeD 0 n)
  | [.int a, .int b] => (-(2 ^ 62) ≤ a ∧ a < 2 ^ 62 ∧ -(2 ^ 62) ≤ b ∧ b < 2 ^ 62 ∧ b - a ≤ 16777216) ∧ K (rangeD a b)
  | _ => False
/-- what is walked: its items, and what must stay so -/
def seqS (x : D) (M : Mem) (K : List D → (Mem → Prop) → Prop) : Prop := match x with
  | .tup xs => K xs fun _ => True
  | .lst xs => K xs fun _ => True
  | .str z => z.cps.size ≤ sizeLine ∧ K (z.cps.toList.map fun c => .str ⟨#[c]⟩) fun _ => True
  | .ref p => match M p with
    | some (.lst xs) => K xs fun M' => M' p = some (.lst xs)
    | _ => False
  | _ => False
def enumD (xs : List D) : List D := (List.range xs.length).map fun i => .tup [.int (i : Nat), xs.getD i .non]
def zipD (xs ys : List D) : List D := (xs.zip ys).map fun p => .tup [p.1, p.2]

def zipS (x y : D) (M : Mem) (K : List D → (Mem → Prop) → Prop) : Prop := match x with
  | .tup xs => match y with
    | .tup ys => K (zipD xs ys) fun _ => True
    | _ => False
  | x => optS (asL M x) fun xs => optS (asL M y) fun ys => K (zipD xs ys) fun M' => asL M' x = some xs ∧ asL M' y = some ys
/-- an instance of the class that is meant -/
def methS (x : D) (M : Mem) (c : Nat) (ns : List Str) (B : Prop) : Prop := match asI M x with
  | some (c', ns', _) => (c' = c ∧ ns' = ns) ∧ B
  | none => False
/-- == (or !=) as the own __eq__ tells -/
def kOwn (T : Tb) (neg : Bool) (k : Nat) : D → D → Mem → QR → Prop := fun x y M Q => match typ M y with
  | some t => t.below T.nc = true ∧ methS x M (T.mc k) (T.at_ (T.mc k)) (T.mt k [x, y] M (fun r M3 => match r.d with | .bl b => Q (.val (.bl (b != neg))) M3 | _ => False) fun _ _ _ => False)
  | none => False
/-- a comprehension: W by the turn, the new list, the memory -/
def compS (tc : Sd → Mem → (Bool → Mem → Prop) → Prop) (te : Sd → Mem → QR → Prop) (t : Tg) (ρ : Sd) (M1 : Mem) (Q : QR) (items : List D) (live : Mem → Prop) : Prop := ∃ W : Nat → List D → Mem → Prop, W 0 [] M1 ∧
      (∀ i acc M', i ≤ items.length → W i acc M' → live M') ∧
      (∀ i x acc M', items[i]? = some x → W i acc M' → bindT t x ρ fun ρ2 => tc ρ2 M' (fun k M2 =>
        if k = true then te ρ2 M2 (fun r M3 => W (i + 1) (acc ++ [r.d]) M3) else W (i + 1) acc M2)) ∧
      (∀ acc M', W items.length acc M' → Q (.new (.lst acc)) M')
mutual
def wpE (T : Tb) : E → Sd → Mem → QR → EX → Prop
  | .var i, ρ, M, Q, _ => match ρ[i]? with
    | some (some d) => Q (.val d) M
    | _ => False
  | .con d, _, M, Q, _ => Q (.val d) M
  | .glob g, _, M, Q, _ => Q (.val (T.gl g)) M
  | .op o a b, ρ, M, Q, X => wpE T a ρ M (fun x M1 => wpE T b ρ M1 (fun y M2 => opS o x.d y.d M2 fun r => Q r M2) X) X
  | .neg a, ρ, M, Q, X => wpE T a ρ M (fun x M1 => match x.d with
    | .int i => Q (.val (.int (-i))) M1
    | _ => False) X
  | .cmp o a b, ρ, M, Q, X => wpE T a ρ M (fun x M1 => wpE T b ρ M1 (fun y M2 => cmpS o x.d y.d M2 fun k => Q (.val (.bl k)) M2) X) X
  | .chain o o' a b c, ρ, M, Q, X => wpE T a ρ M (fun x M1 => wpE T b ρ M1 (fun y M2 => cmpS o x.d y.d M2 fun k =>
      if k = true then wpE T c ρ M2 (fun z M3 => cmpS o' y.d z.d M3 fun k' => Q (.val (.bl k')) M3) X else Q (.val (.bl false)) M2) X) X
  | .and a b, ρ, M, Q, X => wpE T a ρ M (fun x M1 => match x.d with
    | .bl k => if k = true then wpE T b ρ M1 Q X else Q (.val (.bl false)) M1
    | _ => False) X
  | .or a b, ρ, M, Q, X => wpE T a ρ M (fun x M1 => match x.d with
    | .bl k => if k = true then Q (.val (.bl true)) M1 else wpE T b ρ M1 Q X
    | _ => False) X
  | .not a, ρ, M, Q, X => wpE T a ρ M (fun x M1 => truS x.d M1 fun k => Q (.val (.bl (!k))) M1) X
  | .ite t a b, ρ, M, Q, X => wpT T t ρ M (fun k M1 => if k = true then wpE T a ρ M1 Q X else wpE T b ρ M1 Q X) X
  | .tup es, ρ, M, Q, X => wpEs T es ρ M (fun ds M1 => Q (.val (.tup ds)) M1) X
  | .lst es, ρ, M, Q, X => wpEs T es ρ M (fun ds M1 => Q (.new (.lst ds)) M1) X
  | .ix a i, ρ, M, Q, X => wpE T a ρ M (fun x M1 => wpE T i ρ M1 (fun y M2 => ixS x.d y.d M2 fun d => Q (.val d) M2) X) X
  | .slice a lo hi, ρ, M, Q, X => wpE T a ρ M (fun x M1 => wpEo T lo ρ M1 (fun l M2 => wpEo T hi ρ M2 (fun h M3 => slS x.d l h M3 fun r => Q r M3) X) X) X
  | .fn f es, ρ, M, Q, X => wpEs T es ρ M (fun ds M1 => fnS f ds M1 fun r => Q r M1) X
  | .mt m o es, ρ, M, Q, X => wpE T o ρ M (fun x M1 => mtTy m x.d M1 = true ∧ wpEs T es ρ M1 (fun ds M2 => mtS m x.d ds M2 Q) X) X
  | .fld o f, ρ, M, Q, X => wpE T o ρ M (fun x M1 => fldS T.nc T.at_ x.d f M1 fun d => Q (.val d) M1) X
  | .isi a ts, ρ, M, Q, X => wpE T a ρ M (fun x M1 => match typ M1 x.d with
    | some t => t.below T.nc = true ∧ Q (.val (.bl (ts.any (subT t)))) M1
    | none => False) X
  | .call k es kw vs, ρ, M, Q, X => wpEs T es ρ M (fun ds M1 => wpEs T vs ρ M1 (fun zs M2 => T.fn k (kwArgs (T.fp k) ds kw zs) M2 Q X) X) X
  | .make k es kw vs, ρ, M, Q, X => wpEs T es ρ M (fun ds M1 => wpEs T vs ρ M1 (fun zs M2 => ∀ p, M2 p = none →
      T.mak k (.ref p :: kwArgs ((T.kp k).drop 1) ds kw zs) (mput M2 p (.ins k [] [])) (fun r M3 => r.d = .non ∧ ∃ o, M3 p = some o ∧ Q (.new o) (mdel M3 p)) X) X) X
  | .meth k o es kw vs, ρ, M, Q, X => wpE T o ρ M (fun x M1 => methS x.d M1 (T.mc k) (T.at_ (T.mc k)) (wpEs T es ρ M1 (fun ds M2 => wpEs T vs ρ M2 (fun zs M3 => T.mt k (x.d :: kwArgs ((T.mp k).drop 1) ds kw zs) M3 Q X) X) X)) X
  | .comp elt t s cond own, ρ, M, Q, X => wpSrc T s ρ M (fun items live M1 => compS (fun ρ2 M2 K => wpC T cond ρ2 M2 K noEX) (fun ρ2 M2 K => wpE T elt ρ2 M2 K noEX) t (wipeD ρ (own.map (·.2))) M1 Q items live) X
  | .tupRev a, ρ, M, Q, X => wpE T a ρ M (fun x M1 => match asL M1 x.d with
    | some xs => Q (.val (.tup xs.reverse)) M1
    | none => False) X
  | .tupRange es, ρ, M, Q, X => wpEs T es ρ M (fun ds M1 => rgS ds fun xs => Q (.val (.tup xs)) M1) X
  | .ieq neg k a b, ρ, M, Q, X => wpE T a ρ M (fun x M1 => wpE T b ρ M1 (fun y M2 => kOwn T neg k x.d y.d M2 Q) X) X
  | .lstRange es, ρ, M, Q, X => wpEs T es ρ M (fun ds M1 => rgS ds fun xs => Q (.new (.lst xs)) M1) X
  | .cell a, ρ, M, Q, X => wpE T a ρ M (fun r M1 => match r with
    | .new o => ∀ p, M1 p = none → Q (.val (.ref p)) (mput M1 p o)
    | .val _ => False) X
  | .frz a, ρ, M, Q, X => wpE T a ρ M (fun r M1 => match r with
    | .val (.ref p) => match M1 p with
      | some o => Q (.val o.frz) (mdel M1 p)
      | none => False
    | _ => False) X
  | .own a, ρ, M, Q, X => wpE T a ρ M (fun r M1 => match r with
    | .val (.ref p) => match M1 p with
      | some o => Q (.new o) (mdel M1 p)
      | none => False
    | _ => False) X
def wpEs (T : Tb) : Es → Sd → Mem → (List D → Mem → Prop) → EX → Prop
  | .nil, _, M, Q, _ => Q [] M
  | .cons e es, ρ, M, Q, X => wpE T e ρ M (fun x M1 => wpEs T es ρ M1 (fun ds M2 => Q (x.d :: ds) M2) X) X
def wpEo (T : Tb) : Eo → Sd → Mem → (Option Int → Mem → Prop) → EX → Prop
  | .none, _, M, Q, _ => Q none M
  | .some e, ρ, M, Q, X => wpE T e ρ M (fun x M1 => match x.d with
    | .int i => Q (some i) M1
    | _ => False) X
def wpC (T : Tb) : Teo → Sd → Mem → (Bool → Mem → Prop) → EX → Prop
  | .none, _, M, Q, _ => Q true M
  | .some e, ρ, M, Q, X => wpT T e ρ M Q X
def wpT (T : Tb) : Te → Sd → Mem → (Bool → Mem → Prop) → EX → Prop
  | .and a b, ρ, M, Q, X => wpT T a ρ M (fun k M1 => if k = true then wpT T b ρ M1 Q X else Q false M1) X
  | .or a b, ρ, M, Q, X => wpT T a ρ M (fun k M1 => if k = true then Q true M1 else wpT T b ρ M1 Q X) X
  | .not a, ρ, M, Q, X => wpT T a ρ M (fun k M1 => Q (!k) M1) X
  | .val e, ρ, M, Q, X => wpE T e ρ M (fun x M1 => truS x.d M1 fun k => Q k M1) X
def wpSrc (T : Tb) : Src → Sd → Mem → (List D → (Mem → Prop) → Mem → Prop) → EX → Prop
  | .seq a, ρ, M, K, X => wpE T a ρ M (fun x M1 => seqS x.d M1 fun xs live => K xs live M1) X
  | .range es, ρ, M, K, X => wpEs T es ρ M (fun ds M1 => rgS ds fun xs => K xs (fun _ => True) M1) X
  | .enum a, ρ, M, K, X => wpE T a ρ M (fun x M1 => optS (asS M1 x.d) fun xs => K (enumD xs) (fun M' => asS M' x.d = some xs) M1) X
  | .zip a b, ρ, M, K, X => wpE T a ρ M (fun x M1 => wpE T b ρ M1 (fun y M2 => zipS x.d y.d M2 fun xs live => K xs live M2) X) X
end
end PL
/-! ### statements in short; the look at a text -/
namespace PL
open PySem PySem.Spec PyProof.Rows L2

/-- a part of what a suite gives -/
inductive Part where
  | con (d : D) | fld (f : Str) | var (j : Nat)
/-- a suite: it returns a part, a tuple of parts -/
inductive Su where
  | ret (p : Part) | retT (ps : List Part)
/-- an except clause: the class, the name's slot, the suite -/
structure Hd where
  c : Nat
  i : Option Nat
  su : Su
mutual
inductive S where
  | set (i : Nat) (e : E) | setT (t : Tg) (e : E) | par (is : List Nat) (es : Es) | sub (o i e : E) | fld (o : E) (f : Str) (e : E) | aug (i : Nat) (o : Operator) (e : E)
  | expr (e : E) | ret (e : E) | retN | ite (t : Te) (a b : Ss) | for_ (t : Tg) (s : Src) (b : Ss) | while_ (t : Te) (b : Ss)
  | brk | cont | pass | never
  | raise_ (k : Nat) (es : Es) | try_ (b : Ss) (hs : List Hd)
inductive Ss where
  | nil | cons (s : S) (ss : Ss) | frz (i : Nat) (ss : Ss)
end

structure DEnds where
  nx : Sd → Mem → Prop
  rt : QR
  bk : Sd → Mem → Prop := fun _ _ => False
  ct : Sd → Mem → Prop := fun _ _ => False
  ex : Nat → List D → Sd → Mem → Prop := fun _ _ _ _ => False
def DEnds.at_ (D : DEnds) (ρ : Sd) : EX := fun k f M => D.ex k f ρ M

def putN (f : Str) : List Str → List Str
  | [] => [f]
  | g :: r => if g = f then g :: r else g :: putN f r
def putX (f : Str) (v : D) : List Str → List D → List D
  | [], _ => [v]
  | _, [] => [v]
  | g :: r, x :: xs => if g = f then v :: xs else x :: putX f v r xs
def setS (x y v : D) (M : Mem) (K : Mem → Prop) : Prop := cellS x M fun p xs => intS y fun k => optS (ixN xs.length k) fun j => K (mput M p (.lst (xs.set j v)))
def augS (o : Operator) (x y : D) (M : Mem) (Q : R → Prop) : Prop := match o with
  | .Add => match x with
    | .int i => match y with
      | .int j => Q (.val (.int (i + j)))
      | _ => False
    | _ => False
  | .Sub => int2 x y fun i j => Q (.val (.int (i - j)))
  | _ => False

def partS (T : Tb) (k : Nat) (f : List D) (p : Part) (ρ : Sd) (K : D → Prop) : Prop := match p with
  | .con d => K d
  | .fld n => optS (((T.xf k).zip f).lookup n) K
  | .var j => match ρ[j]? with
    | some (some d) => K d
    | _ => False
def partsS (T : Tb) (k : Nat) (f : List D) : List Part → Sd → (List D → Prop) → Prop
  | [], _, K => K []
  | p :: ps, ρ, K => partS T k f p ρ fun d => partsS T k f ps ρ fun ds => K (d :: ds)
def suS (T : Tb) (k : Nat) (f : List D) (su : Su) (D : DEnds) (ρ : Sd) (M : Mem) : Prop := match su with
  | .ret p => partS T k f p ρ fun d => D.rt (.val d) M
  | .retT ps => partsS T k f ps ρ fun ds => D.rt (.val (.tup ds)) M
def hdS (T : Tb) (k : Nat) (f : List D) : List Hd → DEnds → Sd → Mem → Prop
  | [], D, ρ, M => D.ex k f ρ M
  | h :: hs, D, ρ, M => (T.xc h.c && (match h.i with | some i => decide (i < ρ.length) | none => true)) = true ∧ if T.sub k h.c = true then suS T k f h.su D ρ M else hdS T k f hs D ρ M
/-- a for: W by the turn, the slots, the memory -/
def forS (body : (Sd → Mem → Prop) → Sd → Mem → Prop) (t : Tg) (ρ : Sd) (M1 : Mem) (fin : Sd → Mem → Prop) (items : List D) (live : Mem → Prop) : Prop := ∃ W : Nat → Sd → Mem → Prop, W 0 ρ M1 ∧
      (∀ i ρ' M', i ≤ items.length → W i ρ' M' → live M') ∧
      (∀ i x ρ' M', items[i]? = some x → W i ρ' M' → bindT t x ρ' fun ρ2 => body (W (i + 1)) ρ2 M') ∧
      (∀ ρ' M', W items.length ρ' M' → fin ρ' M')
def whileS (test : Sd → Mem → (Bool → Mem → Prop) → Prop) (body : (Sd → Mem → Prop) → Sd → Mem → Prop) (ρ : Sd) (M : Mem) (fin : Sd → Mem → Prop) : Prop := ∃ W : Nat → Sd → Mem → Prop, (∃ m, W m ρ M) ∧ ∀ m ρ' M', W m ρ' M' →
      test ρ' M' (fun k M1 => if k = true then body (fun ρ2 M2 => ∃ m', m' < m ∧ W m' ρ2 M2) ρ' M1 else fin ρ' M1)
mutual
def wpS (T : Tb) : S → DEnds → Sd → Mem → Prop
  | .set i e, D, ρ, M => wpE T e ρ M (fun r M1 => D.nx (ρ.set i (some r.d)) M1) (D.at_ ρ)
  | .setT t e, D, ρ, M => wpE T e ρ M (fun r M1 => bindT t r.d ρ fun ρ' => D.nx ρ' M1) (D.at_ ρ)
  | .par is es, D, ρ, M => wpEs T es ρ M (fun ds M1 => is.length = ds.length ∧ D.nx ((is.zip ds).foldl (fun r p => r.set p.1 (some p.2)) ρ) M1) (D.at_ ρ)
  | .sub o i e, D, ρ, M => wpE T e ρ M (fun r M1 => wpE T o ρ M1 (fun x M2 => wpE T i ρ M2 (fun y M3 => setS x.d y.d r.d M3 fun M4 => D.nx ρ M4) (D.at_ ρ)) (D.at_ ρ)) (D.at_ ρ)
  | .fld o f e, D, ρ, M => wpE T e ρ M (fun r M1 => wpE T o ρ M1 (fun x M2 => match x.d with
    | .ref p => match M2 p with
      | some (.ins c ns xs) => (T.nc c && (T.at_ c).contains f) = true ∧ ns.length < 1000 ∧ D.nx ρ (mput M2 p (.ins c (putN f ns) (putX f r.d ns xs)))
      | _ => False
    | _ => False) (D.at_ ρ)) (D.at_ ρ)
  | .aug i o e, D, ρ, M => match ρ[i]? with
    | some (some d) => wpE T e ρ M (fun r M1 => augS o d r.d M1 fun z => D.nx (ρ.set i (some z.d)) M1) (D.at_ ρ)
    | _ => False
  | .expr e, D, ρ, M => wpE T e ρ M (fun _ M1 => D.nx ρ M1) (D.at_ ρ)
  | .ret e, D, ρ, M => wpE T e ρ M D.rt (D.at_ ρ)
  | .retN, D, ρ, M => D.rt (.val .non) M
  | .ite t a b, D, ρ, M => wpT T t ρ M (fun k M1 => if k = true then wpSs T a D ρ M1 else wpSs T b D ρ M1) (D.at_ ρ)
  | .for_ t s b, D, ρ, M => wpSrc T s ρ M (fun items live M1 => forS (fun nx ρ2 M2 => wpSs T b { D with nx := nx, ct := nx, bk := D.nx } ρ2 M2) t ρ M1 D.nx items live) (D.at_ ρ)
  | .while_ t b, D, ρ, M => whileS (fun ρ' M' K => wpT T t ρ' M' K (D.at_ ρ')) (fun nx ρ2 M2 => wpSs T b { D with nx := nx, ct := nx, bk := D.nx } ρ2 M2) ρ M D.nx
  | .brk, D, ρ, M => D.bk ρ M
  | .cont, D, ρ, M => D.ct ρ M
  | .pass, D, ρ, M => D.nx ρ M
  | .never, _, _, _ => False
  | .raise_ k es, D, ρ, M => wpEs T es ρ M (fun ds M1 => D.ex k ds.reverse ρ M1) (D.at_ ρ)
  | .try_ b hs, D, ρ, M => wpSs T b { D with ex := fun k f ρ' M' => hdS T k f hs D ρ' M' } ρ M
def wpSs (T : Tb) : Ss → DEnds → Sd → Mem → Prop
  | .nil, D, ρ, M => D.nx ρ M
  | .cons s ss, D, ρ, M => wpS T s { D with nx := wpSs T ss D } ρ M
  | .frz i ss, D, ρ, M => match ρ[i]? with
    | some (some (.ref p)) => match M p with
      | some o => wpSs T ss D (ρ.set i (some o.frz)) (mdel M p)
      | none => False
    | _ => False
end

/-! ### the look: does the short text tell this text? -/
structure Ck where
  N : List Str
  gl : List (Nat × Str)
  fn : List (Nat × Str × List (Nat × List Str))
  mt : List (Nat × Str × List (Nat × List Str))
  mkr : List (Nat × Str × List (Nat × List Str))
  cl : List (Nat × Str)
  xr : List (Nat × Str × Nat) := []
  hc : List (Nat × Str) := []
  eq : List Nat := []
/-- the k-th is x, called in one of its ways -/
def formB (l : List (Nat × Str × List (Nat × List Str))) (k : Nat) (x : Str) (n : Nat) (kw : List Str) : Bool := match l.lookup k with
  | some (y, F) => y == x && F.contains (n, kw)
  | none => false
def dbg (x : Str) : Bool := !(x == ("__debug__" : Str))
def visB (sc : Scope) (x : Str) : Bool := match sc.names.lookup x with
  | some .local | some .cell | some .free => true
  | _ => false
def glB (sc : Scope) (x : Str) : Bool := match sc.names.lookup x with
  | some .globalImplicit => true
  | _ => false
def locB (sc : Scope) (x : Str) : Bool := match sc.names.lookup x with
  | some .local => true
  | _ => false
def isComp : Expr → Bool
  | .ListComp .. | .SetComp .. | .DictComp .. => true
  | _ => false
def notStar : Expr → Bool
  | .Starred .. => false
  | _ => true
def notSet : Expr → Bool
  | .Set .. => false
  | _ => true
def noSuper : Expr → Bool
  | .Call (.Name _ _) [] [] _ => false
  | _ => true
def notSlice : Expr → Bool
  | .Slice .. => false
  | _ => true
def tyB (K : Ck) (sc : Scope) : Ty → Expr → Bool
  | .cls c, .Name x _ => glB sc x && dbg x && K.cl.lookup c == some x
  | .none, _ => false
  | t, .Name x _ => glB sc x && x == Str.ofString t.name
  | _, _ => false
def tysB (K : Ck) (sc : Scope) : List Ty → List Expr → Bool
  | [], [] => true
  | t :: ts, e :: es => notStar e && tyB K sc t e && tysB K sc ts es
  | _, _ => false
def isiB (K : Ck) (sc : Scope) (ts : List Ty) (e : Expr) : Bool := match e with
  | .Name n p => (match ts with
    | [t] => tyB K sc t (.Name n p)
    | _ => false)
  | .Tuple es _ _ => tysB K sc ts es && decide (es.length ≤ 1000)
  | _ => false
/-- a test that is its value's truth -/
def valB (e : E) (ex : Expr) : Bool := match ex with
  | .BoolOp .. => false
  | .IfExp .. => false
  | .UnaryOp .Not .. => false
  | .Compare .. => (match e with
    | .cmp .. => true
    | .chain .. => true
    | _ => false)
  | _ => true
def celB (sc : Scope) (x : Str) : Bool := match sc.names.lookup x with
  | some .cell => true
  | _ => false
def tgB (K : Ck) (sc : Scope) (fn : Str → Bool) : Tg → Expr → Bool
  | .name i, .Name x _ => K.N[i]? == some x && (locB sc x || (celB sc x && fn x))
  | .tup is, .Tuple es _ _ => namesB K sc fn is es
  | _, _ => false
where namesB (K : Ck) (sc : Scope) (fn : Str → Bool) : List Nat → List Expr → Bool
  | [], [] => true
  | i :: is, .Name x _ :: es => K.N[i]? == some x && (locB sc x || (celB sc x && fn x)) && namesB K sc fn is es
  | _, _ => false
/-- the scope of a comprehension's block within -/
def inB (scope sc : Scope) : Scope := relS scope sc
def pairTg : Tg → Bool
  | .tup _ => true
  | _ => false
def conB : D → Const → Bool
  | .non, .none => true
  | .bl b, .bool b' => b == b'
  | .int i, .int i' => i == i'
  | .str x, .str x' => x == x'
  | _, _ => false
def cmpOk (o : CmpOp) (b : Expr) : Bool := !behindInMarks o b
def mtNm : Mt → Str
  | .append => "append" | .pop => "pop" | .popAt => "pop" | .join => "join"
def mtArgs : Mt → Nat
  | .pop => 0
  | _ => 1
def few12 {α : Type} : List α → Bool
  | [_] => true
  | [_, _] => true
  | _ => false
def lineB (apos pos : Pos) : Bool := apos.endLine == pos.line
mutual
def chkE (K : Ck) : E → Scope → Expr → Bool
  | .var i, sc, ex => match ex with
    | .Name x _ => K.N[i]? == some x && visB sc x && dbg x && !(x == ("__classdict__" : Str))
    | _ => false
  | .con d, _, ex => match ex with
    | .Constant c _ _ => conB d c
    | _ => false
  | .glob g, sc, ex => match ex with
    | .Name x _ => K.gl.lookup g == some x && glB sc x && dbg x
    | _ => false
  | .op o a b, sc, ex => match ex with
    | .BinOp a' o' b' _ => decide (o = o') && chkE K a sc a' && chkE K b sc b'
    | _ => false
  | .neg a, sc, ex => match ex with
    | .UnaryOp .USub a' _ => chkE K a sc a'
    | _ => false
  | .cmp o a b, sc, ex => match ex with
    | .Compare a' [o'] [b'] _ => decide (o = o') && cmpOk o b' && chkE K a sc a' && chkE K b sc b'
    | _ => false
  | .chain o o2 a b c, sc, ex => match ex with
    | .Compare a' [o', o2'] [b', c'] _ => decide (o = o') && decide (o2 = o2') && cmpOk o2 c' && chkE K a sc a' && chkE K b sc b' && chkE K c sc c'
    | _ => false
  | .and a b, sc, ex => match ex with
    | .BoolOp .And (x :: y :: r) pos => chkE K a sc x && chkE K b sc (match r with | [] => y | r => .BoolOp .And (y :: r) pos)
    | _ => false
  | .or a b, sc, ex => match ex with
    | .BoolOp .Or (x :: y :: r) pos => chkE K a sc x && chkE K b sc (match r with | [] => y | r => .BoolOp .Or (y :: r) pos)
    | _ => false
  | .not a, sc, ex => match ex with
    | .UnaryOp .Not a' _ => chkE K a sc a'
    | _ => false
  | .ite t a b, sc, ex => match ex with
    | .IfExp t' a' b' _ => chkT K t sc t' && chkE K a sc a' && chkE K b sc b'
    | _ => false
  | .tup es, sc, ex => match ex with
    | .Tuple es' _ _ => chkEs K es sc es' && decide (es'.length ≤ 1000)
    | _ => false
  | .lst es, sc, ex => match ex with
    | .List es' _ => chkEs K es sc es' && decide (es'.length ≤ 1000)
    | _ => false
  | .ix a i, sc, ex => match ex with
    | .Subscript a' i' _ => notSlice i' && chkE K a sc a' && chkE K i sc i'
    | _ => false
  | .slice a lo hi, sc, ex => match ex with
    | .Subscript a' (.Slice lo' hi' none _) _ => chkE K a sc a' && chkEo K lo sc lo' && chkEo K hi sc hi'
    | _ => false
  | .fn f es, sc, ex => match ex with
    | .Call (.Name x _) (e' :: es') [] _ => x == f.name && glB sc x && notSet e' && chkEs K es sc (e' :: es')
    | _ => false
  | .mt m o es, sc, ex => match ex with
    | .Call (.Attribute o' x apos) es' [] pos => x == mtNm m && decide (es'.length = mtArgs m) && lineB apos pos && noSuper o' && chkE K o sc o' && chkEs K es sc es'
    | _ => false
  | .fld o f, sc, ex => match ex with
    | .Attribute o' f' _ => f == f' && noSuper o' && chkE K o sc o'
    | _ => false
  | .isi a ts, sc, ex => match ex with
    | .Call (.Name x _) [a', t'] [] _ => x == ("isinstance" : Str) && glB sc x && notStar a' && chkE K a sc a' && isiB K sc ts t'
    | _ => false
  | .call k es kw vs, sc, ex => match ex with
    | .Call (.Name x _) es' kws _ => formB K.fn k x es'.length kw && glB sc x && dbg x && chkEs K es sc es' && chkKw K kw vs sc kws
    | _ => false
  | .make k es kw vs, sc, ex => match ex with
    | .Call (.Name x _) es' kws _ => formB K.mkr k x (es'.length + 1) kw && glB sc x && dbg x && chkEs K es sc es' && chkKw K kw vs sc kws
    | _ => false
  | .meth k o es kw vs, sc, ex => match ex with
    | .Call (.Attribute o' x apos) es' kws pos => formB K.mt k x (es'.length + 1) kw && noSuper o' && lineB apos pos && decide (es'.length + kws.length < 20) && chkE K o sc o' && chkEs K es sc es' && chkKw K kw vs sc kws
    | _ => false
  | .comp elt t s cond own, sc, ex => match ex with
    | .ListComp elt' [⟨tg, iter, ifs, 0⟩] scope _ => blkC K.N sc scope own && tgB K (inB scope sc) (fun x => scope.names.lookup x == some .cell) t tg && ownT t (own.map (·.2)) && notSet iter && chkSrc K s sc iter tg && chkC K cond (inB scope sc) ifs && chkE K elt (inB scope sc) elt'
    | _ => false
  | .tupRev a, sc, ex => match ex with
    | .Call (.Name x _) [.Call (.Name y _) [a'] [] _] [] _ => x == ("tuple" : Str) && y == ("reversed" : Str) && glB sc x && glB sc y && notStar a' && chkE K a sc a'
    | _ => false
  | .tupRange es, sc, ex => match ex with
    | .Call (.Name x _) [.Call (.Name y _) es' [] _] [] _ => x == ("tuple" : Str) && y == ("range" : Str) && glB sc x && glB sc y && few12 es' && chkEs K es sc es'
    | _ => false
  | .ieq neg k a b, sc, ex => match ex with
    | .Compare a' [o'] [b'] _ => decide (o' = if neg = true then CmpOp.NotEq else CmpOp.Eq) && K.eq.contains k && cmpOk o' b' && chkE K a sc a' && chkE K b sc b'
    | _ => false
  | .lstRange es, sc, ex => match ex with
    | .Call (.Name x _) [.Call (.Name y _) es' [] _] [] _ => x == ("list" : Str) && y == ("range" : Str) && glB sc x && glB sc y && few12 es' && chkEs K es sc es'
    | _ => false
  | .cell a, sc, e => chkE K a sc e
  | .frz a, sc, e => chkE K a sc e
  | .own a, sc, e => chkE K a sc e
def chkEs (K : Ck) : Es → Scope → List Expr → Bool
  | .nil, _, ex => match ex with
    | [] => true
    | _ => false
  | .cons e es, sc, ex => match ex with
    | e' :: es' => notStar e' && chkE K e sc e' && chkEs K es sc es'
    | _ => false
def chkKw (K : Ck) (kw : List Str) : Es → Scope → List Keyword → Bool
  | .nil, _, ex => match ex with
    | [] => kw.isEmpty
    | _ => false
  | .cons e es, sc, ex => match ex with
    | ⟨some n, e', _⟩ :: ks => (match kw with | [] => false | m :: kw' => m == n && chkE K e sc e' && chkKw K kw' es sc ks)
    | _ => false
def chkEo (K : Ck) : Eo → Scope → Option Expr → Bool
  | .none, _, ex => match ex with
    | none => true
    | _ => false
  | .some e, sc, ex => match ex with
    | some e' => chkE K e sc e'
    | _ => false
def chkC (K : Ck) : Teo → Scope → List Expr → Bool
  | .none, _, ex => match ex with
    | [] => true
    | _ => false
  | .some t, sc, ex => match ex with
    | [e] => chkT K t sc e
    | _ => false
def chkT (K : Ck) : Te → Scope → Expr → Bool
  | .val e, sc, ex => valB e ex && chkE K e sc ex
  | .and a b, sc, ex => match ex with
    | .BoolOp .And (x :: y :: r) pos => chkT K a sc x && chkT K b sc (match r with | [] => y | r => .BoolOp .And (y :: r) pos)
    | _ => false
  | .or a b, sc, ex => match ex with
    | .BoolOp .Or (x :: y :: r) pos => chkT K a sc x && chkT K b sc (match r with | [] => y | r => .BoolOp .Or (y :: r) pos)
    | _ => false
  | .not a, sc, ex => match ex with
    | .UnaryOp .Not a' _ => chkT K a sc a'
    | _ => false
def chkSrc (K : Ck) : Src → Scope → Expr → Expr → Bool
  | .seq a, sc, e, _ => chkE K a sc e
  | .range es, sc, ex, tx => match ex, tx with
    | .Call (.Name x _) es' [] _, _ => x == ("range" : Str) && glB sc x && few12 es' && chkEs K es sc es'
    | _, _ => false
  | .enum a, sc, ex, tx => match ex, tx with
    | .Call (.Name x _) [e] [] _, .Tuple _ _ _ => x == ("enumerate" : Str) && glB sc x && notStar e && chkE K a sc e
    | _, _ => false
  | .zip a b, sc, ex, tx => match ex, tx with
    | .Call (.Name x _) [e, e2] [] _, .Tuple _ _ _ => x == ("zip" : Str) && glB sc x && notStar e && notStar e2 && chkE K a sc e && chkE K b sc e2
    | _, _ => false
def ownT : Tg → List Nat → Bool
  | .name i, vs => vs.contains i
  | .tup is, vs => is.all vs.contains
end
/-- the way of a store at a name: straight (an own rule of a comprehension), or not -/
def swB (sc : Scope) (t : Str) (p : Pos) : Expr → Bool
  | .ListComp _ _ s q => (if sc.kind.isAnnotationScope then ScopeKind.function else sc.kind) == .function && sc.names.lookup t == some .local && p.line == q.line && !(s.names.any fun (n, k) => n == t && (k == .local || k == .cell))
  | _ => false
def setOk : Expr → Bool
  | .SetComp .. | .DictComp .. => false
  | _ => true
/-- a tuple on the right whose stores are not swapped -/
def tupV (ts : List Expr) : Expr → Bool
  | .Tuple vs _ _ => !(ts.length == 2 || ts.length == 3) || vs.length != ts.length
  | .ListComp .. | .SetComp .. | .DictComp .. => false
  | _ => true
def locsB (K : Ck) (sc : Scope) : List Nat → List Expr → Bool
  | [], [] => true
  | i :: is, .Name x _ :: es => K.N[i]? == some x && locB sc x && locsB K sc is es
  | _, _ => false
/-- a, b = x, y, swapped -/
def parB (sc : Scope) (x y : Str) (px py : Pos) (a b : Expr) : Bool := notStar a && notStar b && (if sc.kind.isAnnotationScope then ScopeKind.function else sc.kind) == .function && !(x == y) && py.line == px.line && ![a, b].all (foldedForSure 8) && ![a, b].all (constantsAlone 8)
/-- a, b, c = x, y, z, swapped -/
def parB3 (sc : Scope) (x y z : Str) (px py pz : Pos) (a b c : Expr) : Bool := notStar a && notStar b && notStar c && (if sc.kind.isAnnotationScope then ScopeKind.function else sc.kind) == .function && !(x == y) && !(x == z) && !(y == z) && py.line == px.line && pz.line == px.line && ![a, b, c].all (foldedForSure 8) && ![a, b, c].all (constantsAlone 8)
def chkPart (K : Ck) (sc : Scope) (i : Option Nat) : Part → Expr → Bool
  | .con d, ex => match ex with
    | .Constant c _ _ => conB d c
    | _ => false
  | .var j, ex => match ex with
    | .Name x _ => K.N[j]? == some x && visB sc x && dbg x && !(x == ("__classdict__" : Str)) && !(i == some j)
    | _ => false
  | .fld f, ex => match ex with
    | .Attribute (.Name x _) f' _ => f == f' && (match i with | some j => K.N[j]? == some x && visB sc x && dbg x && !(x == ("__classdict__" : Str)) | none => false)
    | _ => false
def chkParts (K : Ck) (sc : Scope) (i : Option Nat) : List Part → List Expr → Bool
  | [], [] => true
  | p :: ps, e :: es => notStar e && chkPart K sc i p e && chkParts K sc i ps es
  | _, _ => false
def chkSu (K : Ck) (sc : Scope) (i : Option Nat) : Su → List Stmt → Bool
  | .ret p, sts => match sts with
    | [.Return (some e) _] => chkPart K sc i p e
    | _ => false
  | .retT ps, sts => match sts with
    | [.Return (some (.Tuple es _ _)) _] => chkParts K sc i ps es && decide (es.length ≤ 1000)
    | _ => false
def chkHd (K : Ck) (sc : Scope) : List Hd → List ExceptHandler → Bool
  | [], [] => true
  | h :: hs, .ExceptHandler (some (.Name x _)) n (st0 :: sts) _ :: r => K.hc.lookup h.c == some x && glB sc x && dbg x && (match h.i, n with
    | none, none => true
    | some i, some n => K.N[i]? == some n && locB sc n
    | _, _ => false) && chkSu K sc h.i h.su (st0 :: sts) && chkHd K sc hs r
  | _, _ => false
mutual
def chkS (K : Ck) (sc : Scope) : S → Stmt → Bool
  | .set i e, ex => match ex with
    | .Assign [.Name x p1] v pos => K.N[i]? == some x && (locB sc x || celB sc x) && setOk v && chkE K e sc v
    | _ => false
  | .setT t e, ex => match ex with
    | .Assign [.Tuple es k p1] v pos => tupV es v && tgB K sc (fun _ => true) t (.Tuple es k p1) && chkE K e sc v
    | _ => false
  | .par is es, ex => match ex with
    | .Assign [.Tuple [.Name x px, .Name y py] _ _] (.Tuple [a, b] _ _) pos => (match is with
      | [i, j] => K.N[i]? == some x && K.N[j]? == some y && locB sc x && locB sc y && !(i == j)
      | _ => false) && parB sc x y px py a b && chkEs K es sc [a, b]
    | .Assign [.Tuple [.Name x px, .Name y py, .Name z pz] _ _] (.Tuple [a, b, c] _ _) pos => (match is with
      | [i, j, k] => K.N[i]? == some x && K.N[j]? == some y && K.N[k]? == some z && locB sc x && locB sc y && locB sc z && !(i == j) && !(i == k) && !(j == k)
      | _ => false) && parB3 sc x y z px py pz a b c && chkEs K es sc [a, b, c]
    | _ => false
  | .sub o i e, ex => match ex with
    | .Assign [.Subscript o' i' _] v _ => !(isComp v) && notSlice i' && chkE K e sc v && chkE K o sc o' && chkE K i sc i'
    | _ => false
  | .fld o f e, ex => match ex with
    | .Assign [.Attribute o' f' _] v _ => !(isComp v) && f == f' && chkE K e sc v && chkE K o sc o'
    | _ => false
  | .aug i o e, ex => match ex with
    | .AugAssign (.Name x _) o' v _ => K.N[i]? == some x && (locB sc x || celB sc x) && decide (o = o') && (decide (o = .Add) || decide (o = .Sub)) && chkE K e sc v
    | _ => false
  | .expr e, ex => match ex with
    | .Expr v _ => !(isComp v) && chkE K e sc v
    | _ => false
  | .ret e, ex => match ex with
    | .Return (some v) _ => chkE K e sc v
    | _ => false
  | .retN, ex => match ex with
    | .Return none _ => true
    | _ => false
  | .ite t a b, ex => match ex with
    | .If t' a' b' _ => chkT K t sc t' && chkSs K sc a a' && chkSs K sc b b'
    | _ => false
  | .for_ t s b, ex => match ex with
    | .For tg iter b' [] _ => tgB K sc (fun _ => true) t tg && notSet iter && chkSrc K s sc iter tg && chkSs K sc b b'
    | _ => false
  | .while_ t b, ex => match ex with
    | .While t' b' [] _ => chkT K t sc t' && chkSs K sc b b'
    | _ => false
  | .brk, ex => match ex with
    | .Break _ => true
    | _ => false
  | .cont, ex => match ex with
    | .Continue _ => true
    | _ => false
  | .pass, ex => match ex with
    | .Pass _ => true
    | _ => false
  | .never, _ => true
  | .raise_ k es, ex => match ex with
    | .Raise (some (.Call (.Name x _) (e' :: es') [] _)) none _ => K.xr.lookup k == some (x, (e' :: es').length) && glB sc x && dbg x && decide ((e' :: es').length ≤ 100) && chkEs K es sc (e' :: es')
    | _ => false
  | .try_ b hs, ex => match ex with
    | .Try b' (h' :: hs') [] [] _ => chkSs K sc b b' && chkHd K sc hs (h' :: hs')
    | _ => false
def chkSs (K : Ck) (sc : Scope) : Ss → List Stmt → Bool
  | .nil, ex => match ex with
    | [] => true
    | _ => false
  | .cons s ss, ex => match ex with
    | st :: sts => chkS K sc s st && chkSs K sc ss sts
    | _ => false
  | .frz _ ss, sts => chkSs K sc ss sts
end
end PL
/-! ### readings lifted to plain data -/
namespace PL
open PySem PySem.Spec PyProof.Rows L2

/-- the program's constants, without what is hidden -/
structure Cs where
  K : PySem.W.Frag
  cA : Nat → Addr
def Cs.ok (S : Cs) (c : Cn) : Prop := c.K = S.K ∧ c.cA = S.cA

def RV (c : Cn) (M : Mem) (H : Hp) (M' : Mem) (H' : Hp) : R → V → Prop
  | .val d, v => Keep c M H M' H' ∧ MR c M' H' ∧ Den c M' H' d v
  | .new o, v => ∃ p, v = .ref p ∧ M' p = none ∧ Keep c M H (mput M' p o) H' ∧ MR c (mput M' p o) H'
section
variable {c : Cn} {M M1 M' : Mem} {H H1 H' : Hp} {r : R} {v : V} {o : Ob} {d : D}
theorem RV.plain (h : RV c M H M' H' r v) : Keep c M H M' H' ∧ MR c M' H' ∧ Den c M' H' r.d v := by
  cases r with
  | val d => exact h
  | new o =>
    obtain ⟨p, rfl, hp, k, m⟩ := h
    have e := mdel_mput (o := o) hp
    have s : Sub M' (mput M' p o) := Sub.put hp
    refine ⟨k.trans (Keep.sub s), m.sub s, ?_⟩
    have q := Den.frz m (mput_same (M := M') (a := p) (o := o))
    rw [e] at q
    exact q
theorem RV.after (k : Keep c M H M1 H1) (h : RV c M1 H1 M' H' r v) : RV c M H M' H' r v := by
  cases r with
  | val d => exact ⟨k.trans h.1, h.2⟩
  | new o =>
    obtain ⟨p, e, hp, k', m⟩ := h
    exact ⟨p, e, hp, k.trans k', m⟩
theorem RV.same (m : MR c M H) (q : Den c M H d v) : RV c M H M H (.val d) v := ⟨Keep.refl _ _ _, m, q⟩
/-- a new object in the heap -/
theorem RV.fresh {u : HO} {p : Addr} (m : MR c M H) (h : H p = none) (q : ObD c M H o u) : RV c M H M (upd H p u) (.new o) (.ref p) := ⟨p, rfl, m.none h, Keep.cell m h, MR.cell m h q⟩
theorem RV.freshV {u : HO} {p : Addr} (m : MR c M H) (h : H p = none) (q : ObD c M H o u) : RV c M H M (upd H p u) (.val o.frz) (.ref p) := (RV.fresh m h q).plain
end

/-- an error's own dict -/
def XD (T : Tb) (c : Cn) (M : Mem) (H : Hp) (d : Addr) (k : Nat) (f : List D) : Prop := T.xc k = true ∧ ∃ vs, H d = some (.xd ((T.xf k).zip vs)) ∧ DenL c M H f vs
def XOK (T : Tb) (c : Cn) (W : WX) (σ : L2.St) (M : Mem) (H : Hp) (E : EX) : Prop := ∀ k f M' H' d, E k f M' → Keep c M H M' H' → MR c M' H' → XD T c M' H' d k f → W (.ref (c.cA k)) (some d) σ H'
theorem XOK.after {T : Tb} {c : Cn} {W : WX} {σ : L2.St} {M M1 : Mem} {H H1 : Hp} {E : EX} (x : XOK T c W σ M H E) (k : Keep c M H M1 H1) : XOK T c W σ M1 H1 E :=
  fun n f M' H' d e k' m q => x n f M' H' d e (k.trans k') m q

abbrev DTE := Sd → Mem → QR → EX → Prop
abbrev DTA := Sd → Mem → (List D → Mem → Prop) → EX → Prop
abbrev DTT := Sd → Mem → (Bool → Mem → Prop) → EX → Prop
def lE (S : Cs) (T : Tb) (W : WX) (t : DTE) : TE := fun σ H Q => ∃ (c : Cn) (ρ : Sd) (M : Mem) (Q' : QR) (E : EX), S.ok c ∧ SR c ρ σ M H ∧ XOK T c W σ M H E ∧ t ρ M Q' E ∧
  ∀ r M' v H', Q' r M' → RV c M H M' H' r v → Q v H'
def lA (S : Cs) (T : Tb) (W : WX) (n : Nat) (t : DTA) : TA := fun σ H Q => ∃ (c : Cn) (ρ : Sd) (M : Mem) (Q' : List D → Mem → Prop) (E : EX), S.ok c ∧ SR c ρ σ M H ∧ XOK T c W σ M H E ∧ t ρ M Q' E ∧
  ∀ ds M' vs H', ds.length = n → Q' ds M' → Keep c M H M' H' → MR c M' H' → DenL c M' H' ds vs → Q vs H'
def lT (S : Cs) (T : Tb) (W : WX) (t : DTT) : TT := fun σ H Q => ∃ (c : Cn) (ρ : Sd) (M : Mem) (Q' : Bool → Mem → Prop) (E : EX), S.ok c ∧ SR c ρ σ M H ∧ XOK T c W σ M H E ∧ t ρ M Q' E ∧
  ∀ k M' H', Q' k M' → Keep c M H M' H' → MR c M' H' → Q k H'
def lO (S : Cs) (T : Tb) (W : WX) (t : Sd → Mem → (Option Int → Mem → Prop) → EX → Prop) : TO := fun σ H Q => ∃ (c : Cn) (ρ : Sd) (M : Mem) (Q' : Option Int → Mem → Prop) (E : EX), S.ok c ∧ SR c ρ σ M H ∧ XOK T c W σ M H E ∧ t ρ M Q' E ∧
  ∀ k M' H', Q' k M' → Keep c M H M' H' → MR c M' H' → Q k H'

/-- by values -/
def LV1 (S : Cs) (k : D → Mem → QR → Prop) : V → Hp → VK → Prop := fun v H Q => ∃ (c : Cn) (M : Mem) (x : D) (Q' : QR), S.ok c ∧ MR c M H ∧ Den c M H x v ∧ k x M Q' ∧ ∀ r M' v' H', Q' r M' → RV c M H M' H' r v' → Q v' H'
def LV2 (S : Cs) (k : D → D → Mem → QR → Prop) : R2 := fun v w H Q => ∃ (c : Cn) (M : Mem) (x y : D) (Q' : QR), S.ok c ∧ MR c M H ∧ Den c M H x v ∧ Den c M H y w ∧ k x y M Q' ∧ ∀ r M' v' H', Q' r M' → RV c M H M' H' r v' → Q v' H'
def LVn (S : Cs) (k : List D → Mem → QR → Prop) : List V → Hp → VK → Prop := fun vs H Q => ∃ (c : Cn) (M : Mem) (xs : List D) (Q' : QR), S.ok c ∧ MR c M H ∧ DenL c M H xs vs ∧ k xs M Q' ∧ ∀ r M' v' H', Q' r M' → RV c M H M' H' r v' → Q v' H'
def LVb (S : Cs) (k : D → Mem → (Bool → Prop) → Prop) : V → Hp → (Bool → Hp → Prop) → Prop := fun v H Q => ∃ (c : Cn) (M : Mem) (x : D) (Q' : Bool → Prop), S.ok c ∧ MR c M H ∧ Den c M H x v ∧ k x M Q' ∧ ∀ b, Q' b → Q b H

theorem PE.imp {X : Cx} {e : Expr} {t t' : TE} (h : PE X e t) (i : ∀ σ H Q, t' σ H Q → t σ H Q) : PE X e t' := ⟨fun pins s σ H Q I q => h.run pins s σ H Q I (i σ H Q q)⟩
theorem PT.imp {X : Cx} {e : Expr} {t t' : TT} (h : PT X e t) (i : ∀ σ H Q, t' σ H Q → t σ H Q) : PT X e t' := ⟨fun pins s σ H Q I q => h.run pins s σ H Q I (i σ H Q q)⟩
theorem PA.imp {X : Cx} {e : List Expr} {t t' : TA} (h : PA X e t) (i : ∀ σ H Q, t' σ H Q → t σ H Q) : PA X e t' := ⟨fun p pins s σ H Q I q => h.run p pins s σ H Q I (i σ H Q q)⟩
section
variable {S : Cs} {T : Tb} {W : WX} {ta tb : DTE} {tr : DTA} {σ : L2.St} {H : Hp} {Q : VK}
/-- one part, then what is made of it -/
theorem lE_un {k : D → Mem → QR → Prop} (h : lE S T W (fun ρ M Q E => ta ρ M (fun x M1 => k x.d M1 Q) E) σ H Q) : lE S T W ta σ H fun v H1 => LV1 S k v H1 Q := by
  obtain ⟨c, ρ, M, Q', E, ok, s, x, t, q⟩ := h
  refine ⟨c, ρ, M, _, E, ok, s, x, t, fun r M1 v H1 hk rv => ?_⟩
  obtain ⟨k1, m1, d1⟩ := rv.plain
  exact ⟨c, M1, _, _, ok, m1, d1, hk, fun r M' v' H' h1 h2 => q r M' v' H' h1 (h2.after k1)⟩
theorem lE_bin {k : D → D → Mem → QR → Prop} (h : lE S T W (fun ρ M Q E => ta ρ M (fun x M1 => tb ρ M1 (fun y M2 => k x.d y.d M2 Q) E) E) σ H Q) :
    lE S T W ta σ H fun v H1 => lE S T W tb σ H1 fun w H2 => LV2 S k v w H2 Q := by
  obtain ⟨c, ρ, M, Q', E, ok, s, x, t, q⟩ := h
  refine ⟨c, ρ, M, _, E, ok, s, x, t, fun r M1 v H1 hk rv => ?_⟩
  obtain ⟨k1, m1, d1⟩ := rv.plain
  refine ⟨c, ρ, M1, _, E, ok, s.keep k1 m1, x.after k1, hk, fun r2 M2 w H2 hk2 rv2 => ?_⟩
  obtain ⟨k2, m2, d2⟩ := rv2.plain
  exact ⟨c, M2, _, _, _, ok, m2, Den.keep k2 _ _ d1, d2, hk2, fun r M' v' H' h1 h2 => q r M' v' H' h1 (h2.after (k1.trans k2))⟩
theorem lA_fn {n : Nat} {k : List D → Mem → QR → Prop} (h : lE S T W (fun ρ M Q E => tr ρ M (fun ds M1 => k ds M1 Q) E) σ H Q) : lA S T W n tr σ H fun vs H1 => LVn S k vs H1 Q := by
  obtain ⟨c, ρ, M, Q', E, ok, s, x, t, q⟩ := h
  refine ⟨c, ρ, M, _, E, ok, s, x, t, fun ds M1 vs H1 _ hk k1 m1 d1 => ?_⟩
  exact ⟨c, M1, _, _, ok, m1, d1, hk, fun r M' v' H' h1 h2 => q r M' v' H' h1 (h2.after k1)⟩
end
end PL
/-! ### the operations by values -/
namespace PL
open PySem PySem.Spec PyProof.Rows L2
section
variable {S : Cs} {X : Cx} {c : Cn} {M : Mem} {H : Hp} {v : V} {d : D}
/-- a list seen, by its address -/
theorem asL_at {K : PySem.W.Frag} {xs : List D} (hK : c.K = K) (m : MR c M H) (q : Den c M H d v) (e : asL M d = some xs) : ∃ a vs, v = .ref a ∧ SqL K H a vs ∧ DenL c M H xs vs ∧ xs.length ≤ sizeLine := by
  subst hK
  cases d with
  | lst ys =>
    simp only [asL] at e; cases e
    simp only [Den] at q
    obtain ⟨a, vs, rfl, h, l, r⟩ := q
    exact ⟨a, vs, rfl, h.sq, r, l⟩
  | ref p =>
    simp only [asL] at e
    simp only [Den] at q
    subst q
    cases hp : M p with
    | none => rw [hp] at e; cases e
    | some o =>
      rw [hp] at e
      cases o with
      | lst ys =>
        simp only at e; cases e
        obtain ⟨u, hu, vs, rfl, l, r⟩ := m.at_ p _ hp
        exact ⟨p, vs, rfl, .inl (.inl hu), r, l⟩
      | _ => simp at e
  | _ => simp [asL] at e
theorem asS_at {K : PySem.W.Frag} {xs : List D} (hK : c.K = K) (m : MR c M H) (q : Den c M H d v) (e : asS M d = some xs) : ∃ a vs, v = .ref a ∧ (SqL K H a vs ∨ SqT K H a vs) ∧ DenL c M H xs vs ∧ xs.length ≤ sizeLine := by
  subst hK
  by_cases z : ∃ ys, d = .tup ys
  · obtain ⟨ys, rfl⟩ := z
    simp only [asS] at e; cases e
    simp only [Den] at q
    obtain ⟨a, vs, rfl, h, l, r⟩ := q
    exact ⟨a, vs, rfl, .inr h.sq, r, l⟩
  · have e' : asL M d = some xs := by
      cases d <;> first | exact e | exact absurd ⟨_, rfl⟩ z
    obtain ⟨a, vs, rfl, h, r, l⟩ := asL_at rfl m q e'
    exact ⟨a, vs, rfl, .inl h, r, l⟩
/-- list + list, whatever is read -/
def rCatR (K : PySem.W.Frag) : R2 := fun x y H Q => ∃ l b xs zs, x = .ref l ∧ y = .ref b ∧ SqL K H l xs ∧ SqL K H b zs ∧ xs.length + zs.length ≤ sizeLine ∧ ∀ p, H p = none → Q (.ref p) (upd H p (.lst (xs ++ zs)))
theorem op_catR : OpR X (binaryOp .Add) (rCatR X.K) := by
  intro pins s σ H x y v u Q I rx ry h
  obtain ⟨l, b, xs, zs, rfl, rfl, hH, hB, hz, q⟩ := h
  cases rx
  cases ry
  obtain ⟨its, r, ⟨⟨o1, od1, odt1, os1⟩, n, e, h1, h2, h3⟩, z⟩ := I.list hH
  obtain ⟨its2, r2, ⟨⟨o2, od2, odt2, os2⟩, n2, e2, h4, h5, h6⟩, z2⟩ := I.list hB
  simp only at h1 h2 h3 h4 h5 h6
  subst h1 h2 h3 h4 h5 h6
  have hl := r.length
  have hl2 := r2.length
  have ea : its.toArray ++ its2.toArray = (its ++ its2).toArray := by simp
  refine concat_meets ⟨_, e, rfl⟩ ⟨_, e2, rfl⟩ noFill_list_add seq_list_add PySem.F.slot_list_add PySem.F.entry_list_add (PySem.F.args_list_add_2 _ _) (PyProof.Rows.list_addW l b its.toArray its2.toArray n n2 none none os1 os2 (by rw [List.size_toArray, List.size_toArray]; omega)) ⟨e, e2, ?_⟩
  rw [ea]
  exact ⟨.ref _, _, I.lnew (t' := s.toks) (r.append r2) (by rw [List.length_append]; omega), rfl, q _ I.fresh⟩

/-! a tuple once -/
theorem tuple_mul1W (l : Addr) (items : Array Value) (n : Nat) (dd : Option Addr) (sl : Array (Option Value)) (u : Tok) :
    Meets (Builtin.«tuple.__mul__» ⟨[.ref l, .int 1 u], []⟩) (fun _ R s => s.heap.get? l = some { cls := .type "tuple", dict := dd, data := .seq items n, slots := sl } ∧ R (.ok (.ret (Value.ref l))) s) :=
  .of_wp fun prog w A R s h => by
    obtain ⟨hp, g, d, tk, os⟩ := s
    obtain ⟨hl, h⟩ := h
    have f1 := AutoSeq1.idx_int
    wp_walk using wpAny_loadPart' hl
    exact ⟨_, rfl, h⟩
def rRep1 (K : PySem.W.Frag) : R2 := fun x y H Q => ∃ l xs, x = .ref l ∧ y = .int 1 ∧ SqT K H l xs ∧ Q (.ref l) H
theorem op_rep1 {X : Cx} : OpR X (binaryOp .Mult) (rRep1 X.K) := by
  intro pins s σ H x y v u Q I rx ry h
  obtain ⟨l, xs, rfl, rfl, hT, q⟩ := h
  cases rx
  obtain ⟨t, rfl⟩ := ry
  obtain ⟨its, r, ⟨⟨cls, dd, data, sl⟩, ho, hc, n, hd⟩, hs⟩ := I.tuple hT
  simp only at hc hd
  subst hc hd
  refine wpAny_binaryOp_repeat_ref (T := "tuple") (U := "int") (by decide) ⟨_, ho, rfl⟩ (fun s' => typeIs_int s' 1 t) noFill_tuple_mul F.fills_int_mul F.slot_int_rmul repeat_tuple F.slot_int_index.lookup
    (call_meets F.slot_int_rmul (typeIs_int s 1 t) F.entry_int_rmul (F.args_int_rmul_2 _ _) (int_rmul_tuple 1 t l its.toArray n dd sl)
      ⟨ho, rfl, ⟨_, ho, rfl⟩, call_meets F.slot_tuple_mul ⟨_, ho, rfl⟩ F.entry_tuple_mul (F.args_tuple_mul_2 _ _) (tuple_mul1W l its.toArray n dd sl t) ⟨ho, ?_⟩⟩)
  exact ⟨.ref l, _, I, rfl, q⟩
/-! a str times an int -/
def rRepS : R2 := fun x y H Q => ∃ a k, x = .str a ∧ y = .int k ∧ 1 ≤ k ∧ k ≤ 1000 ∧ 1 ≤ a.length ∧ a.length ≤ 1000 ∧ Q (.str ⟨(List.replicate k.toNat a.cps).foldl (· ++ ·) #[]⟩) H
theorem op_repS {X : Cx} : OpR X (binaryOp .Mult) rRepS := by
  intro pins s σ H x y v u Q I rx ry h
  obtain ⟨a, k, rfl, rfl, k1, k2, a1, a2, q⟩ := h
  obtain ⟨t, rfl⟩ := rx
  obtain ⟨t', rfl⟩ := ry
  have ha : ¬ (a.length == 0) = true := by simp; omega
  refine PySem.P.mul_str (by rw [decide_eq_false (by omega), decide_eq_false (by omega)]; rfl) (fun _ _ => ?_) (fun _ _ => ?_) ?_
  · have h1 : (a.length : Int) ≤ 1000 := by omega
    have h2 : (1000 : Int) ≤ (2 ^ 63 - 1) / k := by
      rw [Int.le_ediv_iff_mul_le (by omega)]
      have : 1000 * k ≤ 1000 * 1000 := by omega
      omega
    omega
  · have : a.length * k.toNat ≤ 1000 * 1000 := Nat.mul_le_mul a2 (by omega)
    unfold Builtin.Str.tooLong
    rw [sizeLine_eq]
    exact decide_eq_false (by omega)
  · rw [if_neg (by omega)]
    by_cases e : k = 1
    · subst e
      rw [if_pos (by simp)]
      have ea : (⟨(List.replicate (1 : Int).toNat a.cps).foldl (· ++ ·) #[]⟩ : Str) = a := by simp
      rw [ea] at q
      exact ⟨.str a, H, I, ⟨t, rfl⟩, q⟩
    · have hk : ¬(k == 1 || a.length == 0) = true := by simp; omega
      rw [if_neg hk]
      refine ⟨?_, .str _, H, I.tok _, ⟨_, rfl⟩, q⟩
      show (List.foldl (fun x1 x2 => x1 ++ x2) #[] (List.replicate k.toNat a.cps)).size ≤ sizeLine
      have sj : ∀ (n : Nat) (acc : Array Nat), (List.foldl (fun x1 x2 => x1 ++ x2) acc (List.replicate n a.cps)).size = acc.size + n * a.cps.size := by
        intro n
        induction n with
        | zero => intro acc; simp
        | succ n ih => intro acc; rw [List.replicate_succ, List.foldl_cons, ih, Array.size_append, Nat.succ_mul]; omega
      rw [sj, sizeLine_eq]
      have : k.toNat * a.cps.size ≤ 1000 * 1000 := Nat.mul_le_mul (by omega) a2
      have e0 : (#[] : Array Nat).size = 0 := rfl
      omega
/-! a list times an int -/
theorem list_mulW (l : Addr) (items : Array Value) (n : Nat) (sl : Array (Option Value)) (x : Int) (u : Tok) (hc0 : ¬(!Builtin.List.listFitsIndex x) = true) (hc1 : ¬items.size * x.toNat > (2 ^ 63 - 1) / 8) (hc2 : ¬Builtin.List.listTooLong (items.size * x.toNat) = true) :
    Meets (Builtin.«list.__mul__» ⟨[.ref l, .int x u], []⟩) (fun _ R s => s.heap.get? l = some { cls := .type "list", dict := none, data := .seq items n, slots := sl } ∧ R (.ok (.ret (Value.ref s.heap.objs.size))) { s with heap := s.heap.push { cls := Value.type "list", data := Data.seq (List.foldl (fun x1 x2 => x1 ++ x2) #[] (List.replicate (if items.isEmpty = true then 0 else x.toNat) items)) }, toks := s.toks }) :=
  .of_wp fun prog w A R s h => by
    obtain ⟨hp, g, d, tk, os⟩ := s; obtain ⟨hl, h⟩ := h
    have hsz := AutoListH.joined_fits hc2
    wp_walk using wpAny_loadPart' hl; refine wpAny_ite_false (decide_eq_false (Nat.not_lt.mpr hsz)) ?_; wp_walk using wpAny_loadPart' hl; exact ⟨_, rfl, h⟩
theorem int_rmul_listW (a : Int) (t : Tok) (l : Addr) (items : Array Value) (n : Nat) (sl : Array (Option Value)) :
    Meets (Builtin.«int.__rmul__» ⟨[.int a t, .ref l], []⟩) (fun _ R s => s.heap.get? l = some { cls := .type "list", dict := none, data := .seq items n, slots := sl } ∧ R (.ok (.ret Value.notImplemented)) s) :=
  .of_wp fun prog w A R s h => by obtain ⟨hp, g, d, tk, os⟩ := s; obtain ⟨hl, h⟩ := h; wp_walk using wpAny_loadPart' hl; exact ⟨_, rfl, h⟩
def rRepL (K : PySem.W.Frag) : R2 := fun x y H Q => ∃ l k xs, x = .ref l ∧ y = .int k ∧ SqL K H l xs ∧ 0 ≤ k ∧ k ≤ 1000 ∧ xs.length ≤ 1000 ∧ ∀ p, H p = none → Q (.ref p) (upd H p (.lst (List.replicate k.toNat xs).flatten))
theorem op_repL {X : Cx} : OpR X (binaryOp .Mult) (rRepL X.K) := by
  intro pins s σ H x y v u Q I rx ry h
  obtain ⟨l, k, xs, rfl, rfl, hH, h1, h2, hz, q⟩ := h
  cases rx
  obtain ⟨t, rfl⟩ := ry
  obtain ⟨its, r, ⟨⟨o1, od1, odt1, os1⟩, n, e, h3, h4, h5⟩, z⟩ := I.list hH
  simp only at h3 h4 h5
  subst h3 h4 h5
  have hl := r.length
  have hb : xs.length * k.toNat ≤ 1000 * 1000 := Nat.mul_le_mul hz (by omega)
  have hlen : its.toArray.size * k.toNat ≤ sizeLine := by rw [List.size_toArray, ← hl, sizeLine_eq]; omega
  have hcap : ¬ its.toArray.size * k.toNat > (2 ^ 63 - 1) / 8 := by
    have : (sizeLine : Nat) ≤ (2 ^ 63 - 1) / 8 := by decide
    omega
  have hfit : ¬ (!Builtin.List.listFitsIndex k) = true := by
    rw [fitsIndex_both (by omega) (by omega)]
    exact Bool.false_ne_true
  have hlong : ¬ Builtin.List.listTooLong (its.toArray.size * k.toNat) = true := by
    rw [notLongL hlen]
    exact Bool.false_ne_true
  have hnew : List.foldl (fun x1 x2 => x1 ++ x2) #[] (List.replicate (if its.toArray.isEmpty = true then 0 else k.toNat) its.toArray) = (List.replicate k.toNat its).flatten.toArray := by
    have f0 : ∀ m : Nat, List.foldl (fun x1 x2 => x1 ++ x2) #[] (List.replicate m its.toArray) = (List.replicate m its).flatten.toArray := fun m => by
      have := foldl_rep its m []
      rw [List.nil_append] at this
      exact this
    rw [f0]
    cases its with
    | nil => simp
    | cons a r' => rw [if_neg (by simp)]
  refine wpAny_binaryOp_repeat_ref (T := "list") (U := "int") (by decide) ⟨_, e, rfl⟩ (fun s' => typeIs_int s' k t) noFill_list_mul F.fills_int_mul F.slot_int_rmul repeat_list F.slot_int_index.lookup
    (call_meets F.slot_int_rmul (typeIs_int s k t) F.entry_int_rmul (F.args_int_rmul_2 _ _) (int_rmul_listW k t l its.toArray n os1)
      ⟨e, rfl, ⟨_, e, rfl⟩, call_meets F.slot_list_mul ⟨_, e, rfl⟩ F.entry_list_mul (F.args_list_mul_2 _ _) (list_mulW l its.toArray n os1 k t hfit hcap hlong) ⟨e, ?_⟩⟩)
  rw [hnew]
  exact ⟨.ref _, _, I.lnew (t' := s.toks) (r.rep k.toNat) (by rw [PyProof.Rows.lm_len_rep_flat, Nat.mul_comm, sizeLine_eq]; omega), rfl, q _ I.fresh⟩
theorem DenL.rep {c : Cn} {M : Mem} {H : Hp} {xs : List D} {vs : List V} (h : DenL c M H xs vs) : ∀ n : Nat, DenL c M H (List.replicate n xs).flatten (List.replicate n vs).flatten
  | 0 => DenL.nil
  | n + 1 => by rw [List.replicate_succ, List.replicate_succ, List.flatten_cons, List.flatten_cons]; exact h.append (DenL.rep h n)
theorem int2_of {x y : D} {K : Int → Int → Prop} (h : int2 x y K) : ∃ i j, x = .int i ∧ y = .int j ∧ K i j := by
  unfold int2 at h
  cases x <;> try exact h.elim
  cases y <;> try exact h.elim
  exact ⟨_, _, rfl, rfl, h⟩

abbrev kOp (o : Operator) : D → D → Mem → QR → Prop := fun x y M Q => opS o x y M fun r => Q r M
theorem or_op {o : Operator} (hK : X.K = S.K) : OpR X (binaryOp o) (LV2 S (kOp o)) := by
  intro pins s σ H x y v u Q I rx ry ⟨c, M, dx, dy, Q', ok, m, d1, d2, h, q⟩
  have kI : ∀ {f : Int → Int → Int} {C : Int → Int → Prop}, int2 dx dy (fun i j => C i j ∧ Q' (.val (.int (f i j))) M) → OpR X (binaryOp o) (rI C fun i j => .int (f i j)) → wpAny (model X.prog X.w) X.A (binaryOp o v u) (EP X pins σ Q) X.xe s := fun {f C} h R => by
    obtain ⟨i, j, rfl, rfl, h1, h2⟩ := int2_of h
    simp only [Den] at d1 d2
    subst d1 d2
    exact R pins s σ H _ _ v u Q I rx ry ⟨i, j, rfl, rfl, h1, q _ _ _ _ h2 (RV.same m (by simp only [Den]))⟩
  have kI0 : ∀ {f : Int → Int → Int}, int2 dx dy (fun i j => Q' (.val (.int (f i j))) M) → OpR X (binaryOp o) (rI0 fun i j => .int (f i j)) → wpAny (model X.prog X.w) X.A (binaryOp o v u) (EP X pins σ Q) X.xe s := fun {f} h R => by
    obtain ⟨i, j, rfl, rfl, h2⟩ := int2_of h
    simp only [Den] at d1 d2
    subst d1 d2
    exact R pins s σ H _ _ v u Q I rx ry ⟨i, j, rfl, rfl, q _ _ _ _ h2 (RV.same m (by simp only [Den]))⟩
  have kL : (∃ xs ys, asL M dx = some xs ∧ asL M dy = some ys ∧ xs.length + ys.length ≤ sizeLine ∧ Q' (.new (.lst (xs ++ ys))) M) → wpAny (model X.prog X.w) X.A (binaryOp .Add v u) (EP X pins σ Q) X.xe s := by
    rintro ⟨xs, ys, e1, e2, hz, hq⟩
    obtain ⟨a, vs, rfl, r1, q1, l1⟩ := asL_at (ok.1.trans hK.symm) m d1 e1
    obtain ⟨b, ws, rfl, r2, q2, l2⟩ := asL_at (ok.1.trans hK.symm) m d2 e2
    refine op_catR pins s σ H _ _ v u Q I rx ry ⟨a, b, vs, ws, rfl, rfl, r1, r2, by rw [← q1.length, ← q2.length]; exact hz, fun p hp => q _ _ _ _ hq (RV.fresh m hp ⟨_, rfl, by rw [List.length_append]; exact hz, q1.append q2⟩)⟩
  unfold kOp opS at h
  cases o with
  | Add =>
    simp only at h
    unfold addS at h
    have l : (match asL M dx with
      | some xs => match asL M dy with
        | some ys => xs.length + ys.length ≤ sizeLine ∧ Q' (.new (.lst (xs ++ ys))) M
        | none => False
      | none => False) → wpAny (model X.prog X.w) X.A (binaryOp .Add v u) (EP X pins σ Q) X.xe s := fun h => by
      cases e1 : asL M dx with
      | none => rw [e1] at h; exact h.elim
      | some xs =>
        rw [e1] at h
        simp only at h
        cases e2 : asL M dy with
        | none => rw [e2] at h; exact h.elim
        | some ys =>
          rw [e2] at h
          exact kL ⟨xs, ys, e1, e2, h⟩
    cases dx with
    | int i =>
      cases dy <;> try exact h.elim
      exact kI0 (f := fun i j => i + j) (show int2 (.int i) (.int _) _ from h) op_add
    | str a =>
      cases dy <;> try exact h.elim
      obtain ⟨h1, h2⟩ := h
      simp only [Den] at d1 d2
      subst d1 d2
      exact op_add_str pins s σ H _ _ v u Q I rx ry ⟨_, _, rfl, rfl, h1, q _ _ _ _ h2 (RV.same m (by simp only [Den]))⟩
    | tup xs =>
      cases dy <;> try exact h.elim
      rename_i ys
      obtain ⟨h1, h2⟩ := h
      simp only [Den] at d1 d2
      obtain ⟨a, vs, rfl, t1, l1, q1⟩ := d1
      obtain ⟨b, ws, rfl, t2, l2, q2⟩ := d2
      have T1 := t1.sq
      have T2 := t2.sq
      rw [ok.1, ← hK] at T1 T2
      refine op_catA pins s σ H _ _ v u Q I rx ry ⟨a, b, vs, ws, rfl, rfl, T1, T2, by rw [← q1.length, ← q2.length]; exact h1, fun e => ?_, fun e1 e2 => ?_, fun e1 e2 p hp => ?_⟩
      · refine q _ _ _ _ h2 (RV.same m ?_)
        subst e
        have : xs = [] := List.eq_nil_of_length_eq_zero q1.length
        subst this
        simp only [Den, List.nil_append]
        exact ⟨b, ws, rfl, t2, l2, q2⟩
      · refine q _ _ _ _ h2 (RV.same m ?_)
        subst e2
        have : ys = [] := List.eq_nil_of_length_eq_zero q2.length
        subst this
        simp only [Den, List.append_nil]
        exact ⟨a, vs, rfl, t1, l1, q1⟩
      · refine q _ _ _ _ h2 ⟨Keep.new m hp, MR.new m hp, ?_⟩
        simp only [Den]
        exact ⟨p, _, rfl, .inl ⟨m.nz hp, m.none hp, .inl upd_same⟩, by rw [List.length_append]; exact h1, (q1.append q2).keep (Keep.new m hp)⟩
    | lst xs => exact l h
    | ref p => exact l h
    | _ => exact l h
  | Sub => exact kI0 (f := fun i j => i - j) h op_sub
  | Mult =>
    cases dx with
    | tup xs =>
      cases dy <;> try exact h.elim
      rename_i k
      obtain ⟨⟨hne, k1, k2, hz⟩, hq⟩ := h
      simp only [Den] at d1 d2
      obtain ⟨a, vs, rfl, t1, l1, q1⟩ := d1
      subst d2
      have T1 := t1.sq
      rw [ok.1, ← hK] at T1
      by_cases e : k = 1
      · subst e
        refine op_rep1 pins s σ H _ _ v u Q I rx ry ⟨a, vs, rfl, rfl, T1, q _ _ _ _ hq (RV.same m ?_)⟩
        simp only [Den]
        refine ⟨a, vs, rfl, t1, by simpa using l1, by simpa using q1⟩
      · refine op_repT pins s σ H _ _ v u Q I rx ry ⟨a, k, vs, rfl, rfl, T1, fun e => hne ?_, by omega, k2, by rw [← q1.length]; exact hz, fun p hp => q _ _ _ _ hq ⟨Keep.new m hp, MR.new m hp, ?_⟩⟩
        · subst e
          exact List.eq_nil_of_length_eq_zero q1.length
        · simp only [Den]
          refine ⟨p, _, rfl, .inl ⟨m.nz hp, m.none hp, .inl upd_same⟩, ?_, (q1.rep k.toNat).keep (Keep.new m hp)⟩
          rw [PyProof.Rows.lm_len_rep_flat, sizeLine_eq]
          have a1 : k.toNat * xs.length ≤ 1000 * 1000 := Nat.mul_le_mul (by omega) hz
          omega
    | lst xs =>
      cases dy <;> try exact h.elim
      rename_i k
      obtain ⟨⟨k1, k2, hz⟩, hq⟩ := h
      simp only [Den] at d1 d2
      obtain ⟨a, vs, rfl, t1, l1, q1⟩ := d1
      subst d2
      have T1 := t1.sq
      rw [ok.1, ← hK] at T1
      refine op_repL pins s σ H _ _ v u Q I rx ry ⟨a, k, vs, rfl, rfl, T1, k1, k2, by rw [← q1.length]; exact hz, fun p hp => q _ _ _ _ hq (RV.fresh (o := .lst (List.replicate k.toNat xs).flatten) (u := .lst (List.replicate k.toNat vs).flatten) m hp ⟨_, rfl, ?_, q1.rep k.toNat⟩)⟩
      rw [PyProof.Rows.lm_len_rep_flat, sizeLine_eq]
      have a1 : k.toNat * xs.length ≤ 1000 * 1000 := Nat.mul_le_mul (by omega) hz
      omega
    | str a =>
      cases dy <;> try exact h.elim
      rename_i k
      obtain ⟨⟨k1, k2, a1, a2⟩, hq⟩ := h
      simp only [Den] at d1 d2
      subst d1 d2
      exact op_repS pins s σ H _ _ v u Q I rx ry ⟨a, k, rfl, rfl, k1, k2, a1, a2, q _ _ _ _ hq (RV.same m (by simp only [Den]))⟩
    | _ => exact kI (f := fun i j => i * j) h op_mulW
  | FloorDiv => exact kI (f := fun i j => i / j) h op_fdivW
  | Mod => exact kI (f := fun i j => i % j) h op_mod
  | Pow => exact kI (f := fun i j => i ^ j.toNat) h op_pow
  | _ => exact h.elim

/-! ### comparisons -/
mutual
theorem dat_dp {K : PySem.W.Frag} (hK : c.K = K) (m : MR c M H) : ∀ (d : D) (e : PyData) (v : V), dat d = some e → Den c M H d v → Dp K H v e
  | .non, _, _, h, q => by simp only [dat] at h; cases h; simp only [Den] at q; subst q; exact .non
  | .bl _, _, _, h, q => by simp only [dat] at h; cases h; simp only [Den] at q; subst q; exact .bl _
  | .int _, _, _, h, q => by simp only [dat] at h; cases h; simp only [Den] at q; subst q; exact .int _
  | .str _, _, _, h, q => by simp only [dat] at h; cases h; simp only [Den] at q; subst q; exact .str _
  | .tup xs, e, v, h, q => by
    simp only [dat] at h
    cases hx : datL xs with
    | none => rw [hx] at h; cases h
    | some ys =>
      rw [hx] at h; simp only at h; cases h
      simp only [Den] at q
      obtain ⟨a, vs, rfl, t, _, r⟩ := q
      have t' := t.sq
      rw [hK] at t'
      exact .tup t' (datL_dp hK m xs ys vs hx r)
  | .lst xs, e, v, h, q => by
    simp only [dat] at h
    cases hx : datL xs with
    | none => rw [hx] at h; cases h
    | some ys =>
      rw [hx] at h; simp only at h; cases h
      simp only [Den] at q
      obtain ⟨a, vs, rfl, t, _, r⟩ := q
      exact .lst (by rw [← hK]; exact t.sq) (datL_dp hK m xs ys vs hx r)
  | .ty _, _, _, h, _ => by simp [dat] at h
  | .cls _, _, _, h, _ => by simp [dat] at h
  | .ref _, _, _, h, _ => by simp [dat] at h
  | .ins _ _ _, _, _, h, _ => by simp [dat] at h
  | .dic _ _, _, _, h, _ => by simp [dat] at h
  | .dit _ _, _, _, h, _ => by simp [dat] at h
theorem datL_dp {K : PySem.W.Frag} (hK : c.K = K) (m : MR c M H) : ∀ (xs : List D) (es : List PyData) (vs : List V), datL xs = some es → DenL c M H xs vs → DpAll K H vs es
  | [], _, _, h, q => by simp only [datL] at h; cases h; simp only [DenL] at q; subst q; exact .nil
  | x :: xs, es, vs, h, q => by
    simp only [datL] at h
    simp only [DenL] at q
    obtain ⟨v, r, rfl, q1, q2⟩ := q
    cases h1 : dat x with
    | none => rw [h1] at h; cases h
    | some y =>
      rw [h1] at h
      cases h2 : datL xs with
      | none => rw [h2] at h; cases h
      | some ys =>
        rw [h2] at h; simp only at h; cases h
        exact .cons (dat_dp hK m x y v h1 q1) (datL_dp hK m xs ys r h2 q2)
end
theorem datM_dp {K : PySem.W.Frag} {e : PyData} (hK : c.K = K) (m : MR c M H) (h : datM M d = some e) (q : Den c M H d v) : Dp K H v e := by
  cases d with
  | ref p =>
    simp only [datM] at h
    simp only [Den] at q
    subst q
    cases hp : M p with
    | none => rw [hp] at h; cases h
    | some o =>
      rw [hp] at h
      cases o with
      | lst xs =>
        simp only at h
        cases hx : datL xs with
        | none => rw [hx] at h; cases h
        | some ys =>
          rw [hx] at h; simp only at h; cases h
          obtain ⟨u, hu, vs, rfl, l, r⟩ := m.at_ p _ hp
          exact .lst (.inl (.inl hu)) (datL_dp hK m xs ys vs hx r)
      | _ => simp at h
  | _ => exact dat_dp hK m _ e v h q
theorem flat_v (h : flatD d = true) (q : Den c M H d v) : flatV v = true := by
  cases d <;> first | (simp [flatD] at h; done) | (simp only [Den] at q; subst q; rfl)
theorem eqF_v {d e : D} {v w : V} (h1 : flatD d = true) (h2 : flatD e = true) (q1 : Den c M H d v) (q2 : Den c M H e w) : eqF d e = eqV v w := by
  cases d <;> first
    | (simp [flatD] at h1; done)
    | (simp only [Den] at q1; subst q1
       cases e <;> first
        | (simp [flatD] at h2; done)
        | (simp only [Den] at q2; subst q2; rfl))
theorem flats_v : ∀ {xs : List D} {vs : List V}, xs.all flatD = true → DenL c M H xs vs → vs.all flatV = true
  | [], _, _, q => by simp only [DenL] at q; subst q; rfl
  | x :: xs, _, h, q => by
    simp only [DenL] at q
    obtain ⟨v, r, rfl, q1, q2⟩ := q
    simp only [List.all_cons, Bool.and_eq_true] at h ⊢
    exact ⟨flat_v h.1 q1, flats_v h.2 q2⟩
theorem anyF_v {x : D} {w : V} (hx : flatD x = true) (qx : Den c M H x w) : ∀ {xs : List D} {vs : List V}, xs.all flatD = true → DenL c M H xs vs → (xs.any fun z => eqF z x) = inV w vs
  | [], _, _, q => by simp only [DenL] at q; subst q; rfl
  | y :: xs, _, h, q => by
    simp only [DenL] at q
    obtain ⟨v, r, rfl, q1, q2⟩ := q
    simp only [List.all_cons, Bool.and_eq_true] at h
    unfold inV
    rw [List.any_cons, List.any_cons, eqF_v h.1 hx q1 qx]
    congr 1
    exact anyF_v hx qx h.2 q2

abbrev kCmp (o : CmpOp) : D → D → Mem → QR → Prop := fun x y M Q => cmpS o x y M fun k => Q (.val (.bl k)) M
theorem or_eq {neg : Bool} (hK : X.K = S.K) (hu : X.A.units + 64 < cLine) : OpR X (compareOp (if neg then .NotEq else .Eq)) (LV2 S fun x y M Q => eqS x y M fun k => Q (.val (.bl (if neg then !k else k))) M) := by
  intro pins s σ H x y v u Q I rx ry ⟨c, M, dx, dy, Q', ok, m, d1, d2, h, q⟩
  dsimp only [eqS] at h
  cases e1 : datM M dx with
  | none => rw [e1] at h; exact h.elim
  | some d =>
    rw [e1] at h
    cases e2 : datM M dy with
    | none => rw [e2] at h; exact h.elim
    | some e =>
      rw [e2] at h
      obtain ⟨s1, s2, h⟩ := h
      have p1 := datM_dp (ok.1.trans hK.symm) m e1 d1
      have p2 := datM_dp (ok.1.trans hK.symm) m e2 d2
      have fin := q _ _ _ _ h (RV.same (c := c) (H := H) (v := .bl (if neg then !PyData.eqv d e else PyData.eqv d e)) m (by simp only [Den]))
      cases neg with
      | true => exact op_neD hu pins s σ H x y v u Q I rx ry ⟨d, e, p1, p2, s1, s2, fin⟩
      | false => exact op_eqD hu pins s σ H x y v u Q I rx ry ⟨d, e, p1, p2, s1, s2, fin⟩
theorem or_in {neg : Bool} (hK : X.K = S.K) : OpR X (compareOp (if neg then .NotIn else .In)) (LV2 S fun x y M Q => inS x y M fun k => Q (.val (.bl (if neg then !k else k))) M) := by
  intro pins s σ H x y v u Q I rx ry ⟨c, M, dx, dy, Q', ok, m, d1, d2, h, q⟩
  dsimp only [inS] at h
  have seq : (match asS M dy with
    | some ys => (flatD dx = true ∧ ys.all flatD = true) ∧ Q' (.val (.bl (if neg then !(ys.any fun z => eqF z dx) else ys.any fun z => eqF z dx))) M
    | none => False) → wpAny (model X.prog X.w) X.A (compareOp (if neg then .NotIn else .In) v u) (EP X pins σ Q) X.xe s := fun h => by
    cases e : asS M dy with
    | none => rw [e] at h; exact h.elim
    | some ys =>
      rw [e] at h
      obtain ⟨⟨f1, f2⟩, h⟩ := h
      obtain ⟨a, vs, rfl, sq, r, l⟩ := asS_at (ok.1.trans hK.symm) m d2 e
      have fin := q _ _ _ _ h (RV.same (c := c) (H := H) (v := .bl (if neg then !(ys.any fun z => eqF z dx) else ys.any fun z => eqF z dx)) m (by simp only [Den]))
      rw [anyF_v f1 d1 f2 r] at fin
      cases neg with
      | true => exact op_notIn_seq pins s σ H x _ v u Q I rx ry ⟨a, vs, rfl, sq, flat_v f1 d1, flats_v f2 r, fin⟩
      | false => exact op_in_seq pins s σ H x _ v u Q I rx ry ⟨a, vs, rfl, sq, flat_v f1 d1, flats_v f2 r, fin⟩
  cases dy with
  | str b =>
    simp only at h
    cases dx <;> try exact h.elim
    simp only [Den] at d1 d2
    subst d1 d2
    have fin := fun k (h : Q' (.val (.bl k)) M) => q _ _ _ _ h (RV.same (c := c) (H := H) (v := .bl k) m (by simp only [Den]))
    cases neg with
    | true => exact op_notin_str pins s σ H _ _ v u Q I rx ry ⟨_, _, rfl, rfl, fin _ h⟩
    | false => exact op_in_str pins s σ H _ _ v u Q I rx ry ⟨_, _, rfl, rfl, fin _ h⟩
  | _ => exact seq h
theorem or_is {neg : Bool} : OpR X (compareOp (if neg then .IsNot else .Is)) (LV2 S fun x y M Q => isS x y fun k => Q (.val (.bl (if neg then !k else k))) M) := by
  intro pins s σ H x y v u Q I rx ry ⟨c, M, dx, dy, Q', ok, m, d1, d2, h, q⟩
  dsimp only [isS] at h
  cases dy <;> try exact h.elim
  simp only [Den] at d2
  subst d2
  have e : isNon dx = decide (x = V.non) := by
    cases dx with
    | non => simp only [Den] at d1; subst d1; rfl
    | bl _ => simp only [Den] at d1; subst d1; rfl
    | int _ => simp only [Den] at d1; subst d1; rfl
    | str _ => simp only [Den] at d1; subst d1; rfl
    | ty _ => simp only [Den] at d1; subst d1; rfl
    | cls _ => simp only [Den] at d1; subst d1; rfl
    | ref _ => simp only [Den] at d1; subst d1; rfl
    | tup _ => simp only [Den] at d1; obtain ⟨a, vs, rfl, _⟩ := d1; rfl
    | lst _ => simp only [Den] at d1; obtain ⟨a, vs, rfl, _⟩ := d1; rfl
    | ins _ _ _ => simp only [Den] at d1; obtain ⟨a, dx, vs, rfl, _⟩ := d1; rfl
    | dic _ _ => simp only [Den] at d1; obtain ⟨a, vs, rfl, _⟩ := d1; rfl
    | dit _ _ => simp only [Den] at d1; obtain ⟨a, vs, rfl, _⟩ := d1; rfl
  simp only at h
  have fin := q _ _ _ _ h (RV.same (c := c) (H := H) (v := .bl (if neg then !isNon dx else isNon dx)) m (by simp only [Den]))
  rw [e] at fin
  cases neg with
  | true => exact op_notN pins s σ H _ _ v u Q I rx ry ⟨rfl, fin⟩
  | false => exact op_isN pins s σ H _ _ v u Q I rx ry ⟨rfl, fin⟩
theorem or_cmp {o : CmpOp} (hK : X.K = S.K) (hu : X.A.units + 64 < cLine) : OpR X (compareOp o) (LV2 S (kCmp o)) := by
  have kI : ∀ {f : Int → Int → Bool}, OpR X (compareOp o) (rI0 fun i j => .bl (f i j)) → OpR X (compareOp o) (LV2 S fun x y M Q => int2 x y fun i j => Q (.val (.bl (f i j))) M) := fun {f} R => by
    intro pins s σ H x y v u Q I rx ry ⟨c, M, dx, dy, Q', ok, m, d1, d2, h, q⟩
    obtain ⟨i, j, rfl, rfl, h2⟩ := int2_of h
    simp only [Den] at d1 d2
    subst d1 d2
    exact R pins s σ H _ _ v u Q I rx ry ⟨i, j, rfl, rfl, q _ _ _ _ h2 (RV.same m (by simp only [Den]))⟩
  cases o with
  | Lt => exact kI op_lt
  | LtE => exact kI op_le
  | Gt => exact kI op_gt
  | GtE => exact kI op_ge
  | Eq => exact or_eq (neg := false) hK hu
  | NotEq => exact or_eq (neg := true) hK hu
  | In => exact or_in (neg := false) hK
  | NotIn => exact or_in (neg := true) hK
  | Is => exact or_is (neg := false)
  | IsNot => exact or_is (neg := true)

/-! ### truth -/
theorem tru_v {Q : Bool → Prop} (hK : c.K = X.K) (m : MR c M H) (q : Den c M H d v) (h : truS d M Q) : ∃ k, TruV X.K v H k ∧ Q k := by
  unfold truS at h
  have seq : (match asS M d with
    | some xs => Q (!xs.isEmpty)
    | none => False) → ∃ k, TruV X.K v H k ∧ Q k := fun h => by
    cases e : asS M d with
    | none => rw [e] at h; exact h.elim
    | some xs =>
      rw [e] at h
      obtain ⟨a, vs, rfl, sq, r, l⟩ := asS_at hK m q e
      have z : xs.isEmpty = vs.isEmpty := by
        have := r.length
        cases xs <;> cases vs <;> first | rfl | simp at this
      refine ⟨_, ?_, h⟩
      rcases sq with sq | sq
      · exact .inl ⟨vs, sq, by rw [z]⟩
      · exact .inr (.inl ⟨vs, sq, by rw [z]⟩)
  cases d with
  | non => simp only [Den] at q; subst q; exact ⟨_, rfl, h⟩
  | bl _ => simp only [Den] at q; subst q; exact ⟨_, rfl, h⟩
  | int _ => simp only [Den] at q; subst q; exact ⟨_, rfl, h⟩
  | str _ => simp only [Den] at q; subst q; exact ⟨_, ⟨h.1, rfl⟩, h.2⟩
  | _ => exact seq h

/-! ### items and slices -/
theorem atI_den {xs : List D} {vs : List V} {i : Int} {x : D} (r : DenL c M H xs vs) (h : atI xs i = some x) : ∃ u, atI vs i = some u ∧ Den c M H x u := by
  unfold atI at h ⊢
  rw [← r.length]
  cases e : ixN xs.length i with
  | none => rw [e] at h; cases h
  | some j =>
    rw [e] at h
    exact r.get h
abbrev kIx : D → D → Mem → QR → Prop := fun x y M Q => ixS x y M fun d => Q (.val d) M
theorem ir_ix (hK : X.K = S.K) : IxR X (LV2 S kIx) := by
  intro value slice pins s σ H x y v u Q I rx ry ⟨c, M, dx, dy, Q', ok, m, d1, d2, h, q⟩ hs
  unfold kIx ixS at h
  cases dy <;> try exact h.elim
  rename_i i
  simp only [Den] at d2
  subst d2
  have seq : (match asS M dx with
      | some xs => match atI xs i with
        | some d => Q' (.val d) M
        | none => False
      | none => False) → wpAny (model X.prog X.w) X.A _ (EP X pins σ Q) X.xe s := fun h => by
    cases e : asS M dx with
    | none => rw [e] at h; exact h.elim
    | some xs =>
      rw [e] at h
      simp only at h
      cases e2 : atI xs i with
      | none => rw [e2] at h; exact h.elim
      | some d =>
        rw [e2] at h
        obtain ⟨a, vs, rfl, sq, r, l⟩ := asS_at (ok.1.trans hK.symm) m d1 e
        obtain ⟨w, hw, qd⟩ := atI_den r e2
        have fin := q _ _ _ _ h (RV.same m qd)
        rcases sq with sq | sq
        · exact ix_list value slice pins s σ H _ _ v u Q I rx ry ⟨a, vs, i, w, rfl, rfl, sq, hw, fin⟩ hs
        · exact ix_tup value slice pins s σ H _ _ v u Q I rx ry ⟨a, vs, i, w, rfl, rfl, sq, hw, fin⟩ hs
  cases dx with
  | str z =>
    simp only at h
    obtain ⟨hz, h⟩ := h
    cases e2 : atI z.cps.toList i with
    | none => rw [e2] at h; exact h.elim
    | some k =>
      rw [e2] at h
      simp only [Den] at d1
      subst d1
      exact ix_str value slice pins s σ H _ _ v u Q I rx ry ⟨z, i, k, rfl, rfl, hz, e2, q _ _ _ _ h (RV.same m (by simp only [Den]))⟩ hs
  | _ => exact seq h
theorem cut_den {xs : List D} {vs : List V} (lo hi : Option Int) (r : DenL c M H xs vs) : DenL c M H (cutD xs lo hi) (cutV vs lo hi) := by
  unfold cutD cutV
  rw [← r.length]
  exact (r.drop _).take _
theorem cutD_len (xs : List D) (lo hi : Option Int) : (cutD xs lo hi).length ≤ xs.length := by
  unfold cutD
  rw [List.length_take, List.length_drop]
  omega
theorem cutD_whole {xs : List D} {lo hi : Option Int} (h : HT.sIx xs.length 0 lo = 0 ∧ HT.sIx xs.length xs.length hi = xs.length) : cutD xs lo hi = xs := by
  unfold cutD
  rw [h.1, h.2]
  simp
/-- xs[a:b] of a list that is read -/
def rSlR : V → Option Int → Option Int → Hp → VK → Prop := fun x lo hi H Q => ∃ a xs, x = .ref a ∧ Rd H a (.lst xs) ∧ ∀ p, H p = none → Q (.ref p) (upd H p (.lst (cutV xs lo hi)))
def LVs (S : Cs) : V → Option Int → Option Int → Hp → VK → Prop := fun v lo hi H Q => ∃ (c : Cn) (M : Mem) (x : D) (Q' : QR), S.ok c ∧ MR c M H ∧ Den c M H x v ∧ slS x lo hi M (fun r => Q' r M) ∧ ∀ r M' v' H', Q' r M' → RV c M H M' H' r v' → Q v' H'
theorem sr_sl (hK : X.K = S.K) : SlR X (LVs S) := by
  intro pins s σ H x v vl vu lo hi sl Q I rx hs pl pu ⟨c, M, dx, Q', ok, m, d1, h, q⟩
  by_cases z1 : ∃ z, dx = .str z
  · obtain ⟨z, rfl⟩ := z1
    simp only [Den] at d1
    subst d1
    exact sl_str pins s σ H _ v vl vu lo hi sl Q I rx hs pl pu ⟨z, rfl, h.1, q _ _ _ _ h.2 (RV.same m (by simp only [Den]))⟩
  by_cases z2 : ∃ xs, dx = .tup xs
  · obtain ⟨xs, rfl⟩ := z2
    dsimp only [slS] at h
    have d1' := d1
    simp only [Den] at d1
    obtain ⟨a, vs, rfl, t, l, r⟩ := d1
    have t' := t.sq
    rw [ok.1, ← hK] at t'
    refine sl_tupA pins s σ H _ v vl vu lo hi sl Q I rx hs pl pu ⟨a, vs, rfl, t', fun hw => ?_, fun hw p hp => ?_⟩
    · rw [← r.length] at hw
      rw [cutD_whole hw] at h
      exact q _ _ _ _ h (RV.same m d1')
    · refine q _ _ _ _ h ⟨Keep.new m hp, MR.new m hp, ?_⟩
      simp only [Den]
      exact ⟨p, _, rfl, .inl ⟨m.nz hp, m.none hp, .inl upd_same⟩, Nat.le_trans (cutD_len _ _ _) l, (cut_den lo hi r).keep (Keep.new m hp)⟩
  have h' : ∃ xs, asL M dx = some xs ∧ Q' (.new (.lst (cutD xs lo hi))) M := by
    have h2 : (match asL M dx with
      | some xs => Q' (.new (.lst (cutD xs lo hi))) M
      | none => False) := by
      cases dx <;> first | exact h | exact absurd ⟨_, rfl⟩ z1 | exact absurd ⟨_, rfl⟩ z2
    cases e : asL M dx with
    | none => rw [e] at h2; exact h2.elim
    | some xs => rw [e] at h2; exact ⟨xs, rfl, h2⟩
  obtain ⟨xs, e, h'⟩ := h'
  obtain ⟨a, vs, rfl, sq, r, l⟩ := asL_at (ok.1.trans hK.symm) m d1 e
  exact sl_list pins s σ H _ v vl vu lo hi sl Q I rx hs pl pu ⟨a, vs, rfl, sq, fun p hp => q _ _ _ _ h' (RV.fresh m hp ⟨_, rfl, Nat.le_trans (cutD_len _ _ _) l, cut_den lo hi r⟩)⟩
end
end PL
/-! ### built-in functions, methods, attributes by values -/
namespace PL
open PySem PySem.Spec PyProof.Rows L2
section
variable {S : Cs} {X : Cx} {c : Cn} {M : Mem} {H : Hp} {v : V} {d : D}
theorem one_of {ds : List D} {K : D → Prop} (h : one ds K) : ∃ x, ds = [x] ∧ K x := by
  unfold one at h
  split at h
  · exact ⟨_, rfl, h⟩
  · exact h.elim
theorem two_of {ds : List D} {K : D → D → Prop} (h : two ds K) : ∃ x y, ds = [x, y] ∧ K x y := by
  unfold two at h
  split at h
  · exact ⟨_, _, rfl, h⟩
  · exact h.elim
theorem DenL.one {x : D} {vs : List V} (q : DenL c M H [x] vs) : ∃ v, vs = [v] ∧ Den c M H x v := by
  simp only [DenL] at q
  obtain ⟨v, r, rfl, h, rfl⟩ := q
  exact ⟨v, rfl, h⟩
theorem DenL.two {x y : D} {vs : List V} (q : DenL c M H [x, y] vs) : ∃ v w, vs = [v, w] ∧ Den c M H x v ∧ Den c M H y w := by
  simp only [DenL] at q
  obtain ⟨v, r, rfl, h, w, r2, rfl, h2, rfl⟩ := q
  exact ⟨v, w, rfl, h, h2⟩
theorem asBs_v : ∀ {xs : List D} {bs : List Bool} {vs : List V}, asBs xs = some bs → DenL c M H xs vs → vs = bs.map V.bl
  | [], _, _, h, q => by simp only [asBs] at h; cases h; simp only [DenL] at q; exact q
  | x :: xs, bs, vs, h, q => by
    simp only [DenL] at q
    obtain ⟨v, r, rfl, q1, q2⟩ := q
    cases x <;> try (simp [asBs] at h; done)
    simp only [asBs] at h
    cases e : asBs xs with
    | none => rw [e] at h; cases h
    | some cs =>
      rw [e] at h; simp only at h; cases h
      simp only [Den] at q1
      rw [q1, asBs_v e q2]; rfl
theorem asIs_v : ∀ {xs : List D} {bs : List Int} {vs : List V}, asIs xs = some bs → DenL c M H xs vs → vs = bs.map V.int
  | [], _, _, h, q => by simp only [asIs] at h; cases h; simp only [DenL] at q; exact q
  | x :: xs, bs, vs, h, q => by
    simp only [DenL] at q
    obtain ⟨v, r, rfl, q1, q2⟩ := q
    cases x <;> try (simp [asIs] at h; done)
    simp only [asIs] at h
    cases e : asIs xs with
    | none => rw [e] at h; cases h
    | some cs =>
      rw [e] at h; simp only at h; cases h
      simp only [Den] at q1
      rw [q1, asIs_v e q2]; rfl
theorem asSs_v : ∀ {xs : List D} {bs : List Str} {vs : List V}, asSs xs = some bs → DenL c M H xs vs → vs = bs.map V.str
  | [], _, _, h, q => by simp only [asSs] at h; cases h; simp only [DenL] at q; exact q
  | x :: xs, bs, vs, h, q => by
    simp only [DenL] at q
    obtain ⟨v, r, rfl, q1, q2⟩ := q
    cases x <;> try (simp [asSs] at h; done)
    simp only [asSs] at h
    cases e : asSs xs with
    | none => rw [e] at h; cases h
    | some cs =>
      rw [e] at h; simp only at h; cases h
      simp only [Den] at q1
      rw [q1, asSs_v e q2]; rfl

def Fn.val : Fn → Value
  | .len => .builtin "len" | .lenB => .builtin "len" | .int => .type "int" | .str => .type "str" | .all => .builtin "all" | .any => .builtin "any" | .list => .type "list" | .tuple => .type "tuple"
  | .max2 => .builtin "max" | .min2 => .builtin "min" | .abs => .builtin "abs" | .sum => .builtin "sum"
abbrev kFn (f : Fn) : List D → Mem → QR → Prop := fun ds M Q => fnS f ds M fun r => Q r M
theorem den_tup {p : Addr} {xs : List D} {vs : List V} (m : MR c M H) (hp : H p = none) (l : xs.length ≤ sizeLine) (r : DenL c M H xs vs) : RV c M H M (upd H p (.tup vs)) (.val (.tup xs)) (.ref p) := by
  refine ⟨Keep.new m hp, MR.new m hp, ?_⟩
  simp only [Den]
  exact ⟨p, _, rfl, .inl ⟨m.nz hp, m.none hp, .inl upd_same⟩, l, r.keep (Keep.new m hp)⟩
theorem cr_fn {f : Fn} (hc : X.calm = true) (hK : X.K = S.K) : CallR X f.val (LVn S (kFn f)) := by
  intro pins s σ H vs us Q I rs ⟨c, M, ds, Q', ok, m, dl, h, q⟩
  have hk : c.K = X.K := ok.1.trans hK.symm
  have sc : ∀ {d : D} {v : V}, Q' (.val d) M → Den c M H d v → Q v H := fun h1 h2 => q _ _ _ _ h1 (RV.same m h2)
  have lst : ∀ {K : List D → Prop} {d : D}, (match asL M d with | some xs => K xs | none => False) → ∃ xs, asL M d = some xs ∧ K xs := fun {K d} h => by
    cases e : asL M d with
    | none => rw [e] at h; exact h.elim
    | some xs => rw [e] at h; exact ⟨xs, rfl, h⟩
  have seq : ∀ {K : List D → Prop} {d : D}, (match asS M d with | some xs => K xs | none => False) → ∃ xs, asS M d = some xs ∧ K xs := fun {K d} h => by
    cases e : asS M d with
    | none => rw [e] at h; exact h.elim
    | some xs => rw [e] at h; exact ⟨xs, rfl, h⟩
  cases f with
  | len =>
    obtain ⟨x, rfl, h⟩ := one_of (show one ds _ from h)
    obtain ⟨v, rfl, d1⟩ := dl.one
    by_cases z : ∃ y, x = .str y
    · obtain ⟨y, rfl⟩ := z
      simp only [Den] at d1
      subst d1
      exact call_len_str pins s σ H _ us Q I rs ⟨y, rfl, h.1, sc h.2 (by simp only [Den])⟩
    · have h' : (match asS M x with | some xs => Q' (.val (.int xs.length)) M | none => False) := by
        cases x <;> first | exact h | exact absurd ⟨_, rfl⟩ z
      obtain ⟨xs, e, h'⟩ := seq (K := fun xs => Q' (.val (.int xs.length)) M) h'
      obtain ⟨a, ws, rfl, sq, r, l⟩ := asS_at hk m d1 e
      refine call_len_seq pins s σ H _ us Q I rs ⟨a, ws, rfl, sq, sc h' ?_⟩
      simp only [Den]
      rw [r.length]
  | lenB =>
    obtain ⟨x, rfl, h⟩ := one_of (show one ds _ from h)
    obtain ⟨v, rfl, d1⟩ := dl.one
    by_cases z : ∃ y, x = .str y
    · obtain ⟨y, rfl⟩ := z
      simp only [Den] at d1
      subst d1
      exact call_len_str pins s σ H _ us Q I rs ⟨y, rfl, h.1, sc h.2 (by simp only [Den])⟩
    · have h' : (match asS M x with | some xs => xs.length ≤ sizeLine → Q' (.val (.int xs.length)) M | none => False) := by
        cases x <;> first | exact h | exact absurd ⟨_, rfl⟩ z
      obtain ⟨xs, e, h'⟩ := seq (K := fun xs => xs.length ≤ sizeLine → Q' (.val (.int xs.length)) M) h'
      obtain ⟨a, ws, rfl, sq, r, l⟩ := asS_at hk m d1 e
      refine call_len_seq pins s σ H _ us Q I rs ⟨a, ws, rfl, sq, sc (h' l) ?_⟩
      simp only [Den]
      rw [r.length]
  | int =>
    obtain ⟨x, rfl, h⟩ := one_of (show one ds _ from h)
    obtain ⟨v, rfl, d1⟩ := dl.one
    cases x with
    | bl b =>
      simp only [Den] at d1
      subst d1
      exact call_int1 pins s σ H _ us Q I rs (.inr ⟨_, rfl, sc h (by simp only [Den])⟩)
    | int i =>
      simp only [Den] at d1
      subst d1
      exact call_int1 pins s σ H _ us Q I rs (.inl ⟨_, rfl, sc h (by simp only [Den])⟩)
    | str a =>
      simp only [Den] at d1
      subst d1
      obtain ⟨h1, h⟩ := h
      cases e : PySem.intText? a with
      | none => rw [e] at h; exact h.elim
      | some n =>
        rw [e] at h
        exact call_int_str pins s σ H _ us Q I rs ⟨a, n, rfl, e, h1, sc h (by simp only [Den])⟩
    | _ => exact h.elim
  | str =>
    obtain ⟨x, rfl, h⟩ := one_of (show one ds _ from h)
    obtain ⟨v, rfl, d1⟩ := dl.one
    cases x <;> try exact h.elim
    simp only [Den] at d1
    subst d1
    exact call_str_int pins s σ H _ us Q I rs ⟨_, rfl, h.1, sc h.2 (by simp only [Den])⟩
  | all =>
    obtain ⟨x, rfl, h⟩ := one_of (show one ds _ from h)
    obtain ⟨v, rfl, d1⟩ := dl.one
    obtain ⟨xs, e, h⟩ := lst (K := fun xs => match asBs xs with | some bs => Q' (.val (.bl (bs.all id))) M | none => False) h
    cases e2 : asBs xs with
    | none => rw [e2] at h; exact h.elim
    | some bs =>
      rw [e2] at h
      obtain ⟨a, ws, rfl, sq, r, l⟩ := asL_at hk m d1 e
      have := asBs_v e2 r
      subst this
      exact cr_all hc pins s σ H _ us Q I rs ⟨a, bs, rfl, sq, sc h (by simp only [Den])⟩
  | any =>
    obtain ⟨x, rfl, h⟩ := one_of (show one ds _ from h)
    obtain ⟨v, rfl, d1⟩ := dl.one
    obtain ⟨xs, e, h⟩ := lst (K := fun xs => match asBs xs with | some bs => Q' (.val (.bl (bs.any id))) M | none => False) h
    cases e2 : asBs xs with
    | none => rw [e2] at h; exact h.elim
    | some bs =>
      rw [e2] at h
      obtain ⟨a, ws, rfl, sq, r, l⟩ := asL_at hk m d1 e
      have := asBs_v e2 r
      subst this
      exact cr_any hc pins s σ H _ us Q I rs ⟨a, bs, rfl, sq, sc h (by simp only [Den])⟩
  | sum =>
    obtain ⟨x, rfl, h⟩ := one_of (show one ds _ from h)
    obtain ⟨v, rfl, d1⟩ := dl.one
    obtain ⟨xs, e, h⟩ := lst (K := fun xs => match asIs xs with | some is => Q' (.val (.int is.sum)) M | none => False) h
    cases e2 : asIs xs with
    | none => rw [e2] at h; exact h.elim
    | some bs =>
      rw [e2] at h
      obtain ⟨a, ws, rfl, sq, r, l⟩ := asL_at hk m d1 e
      have := asIs_v e2 r
      subst this
      exact cr_sum hc pins s σ H _ us Q I rs ⟨a, bs, rfl, sq, sc h (by simp only [Den])⟩
  | list =>
    obtain ⟨x, rfl, h⟩ := one_of (show one ds _ from h)
    obtain ⟨v, rfl, d1⟩ := dl.one
    obtain ⟨xs, e, h⟩ := seq (K := fun xs => Q' (.new (.lst xs)) M) h
    obtain ⟨a, ws, rfl, sq, r, l⟩ := asS_at hk m d1 e
    exact call_list_of pins s σ H _ us Q I rs ⟨a, ws, rfl, sq, fun p hp => q _ _ _ _ h (RV.fresh m hp ⟨_, rfl, l, r⟩)⟩
  | tuple =>
    obtain ⟨x, rfl, h⟩ := one_of (show one ds _ from h)
    obtain ⟨v, rfl, d1⟩ := dl.one
    obtain ⟨xs, e, h⟩ := seq (K := fun xs => Q' (.val (.tup xs)) M) h
    by_cases z : ∃ ys, x = .tup ys
    · obtain ⟨ys, rfl⟩ := z
      simp only [asS] at e; cases e
      have d1' := d1
      simp only [Den] at d1
      obtain ⟨a, ws, rfl, t, l, r⟩ := d1
      have t' := t.sq
      rw [hk] at t'
      exact call_tuple_of pins s σ H _ us Q I rs ⟨a, ws, rfl, .inr ⟨t', sc h d1'⟩⟩
    · have e' : asL M x = some xs := by
        cases x <;> first | exact e | exact absurd ⟨_, rfl⟩ z
      obtain ⟨a, ws, rfl, sq, r, l⟩ := asL_at hk m d1 e'
      exact call_tuple_of pins s σ H _ us Q I rs ⟨a, ws, rfl, .inl ⟨sq, fun p hp => q _ _ _ _ h (den_tup m hp l r)⟩⟩
  | max2 =>
    obtain ⟨x, y, rfl, h⟩ := two_of (show two ds _ from h)
    obtain ⟨v, w, rfl, d1, d2⟩ := dl.two
    obtain ⟨i, j, rfl, rfl, h⟩ := int2_of h
    simp only [Den] at d1 d2
    subst d1 d2
    exact call_max2 hc pins s σ H _ us Q I rs ⟨i, j, rfl, sc h (by simp only [Den])⟩
  | min2 =>
    obtain ⟨x, y, rfl, h⟩ := two_of (show two ds _ from h)
    obtain ⟨v, w, rfl, d1, d2⟩ := dl.two
    obtain ⟨i, j, rfl, rfl, h⟩ := int2_of h
    simp only [Den] at d1 d2
    subst d1 d2
    exact call_min2 hc pins s σ H _ us Q I rs ⟨i, j, rfl, sc h (by simp only [Den])⟩
  | abs =>
    obtain ⟨x, rfl, h⟩ := one_of (show one ds _ from h)
    obtain ⟨v, rfl, d1⟩ := dl.one
    cases x <;> try exact h.elim
    simp only [Den] at d1
    subst d1
    exact call_abs pins s σ H _ us Q I rs ⟨_, rfl, sc h (by simp only [Den])⟩

/-! ### methods of lists and texts -/
def Mt.ty : Mt → String
  | .join => "str"
  | _ => "list"
def Mt.id_ : Mt → String
  | .append => "list.append" | .pop => "list.pop" | .popAt => "list.pop" | .join => "str.join"
def LVm (S : Cs) (m : Mt) : V → List V → Hp → VK → Prop := fun v vs H Q => ∃ (c : Cn) (M : Mem) (x : D) (ds : List D) (Q' : QR), S.ok c ∧ MR c M H ∧ Den c M H x v ∧ DenL c M H ds vs ∧ mtS m x ds M Q' ∧ ∀ r M' v' H', Q' r M' → RV c M H M' H' r v' → Q v' H'
theorem cell_at {p : Addr} {xs : List D} (m : MR c M H) (h : M p = some (.lst xs)) : ∃ vs, H p = some (.lst vs) ∧ xs.length ≤ sizeLine ∧ DenL c M H xs vs := by
  obtain ⟨u, hu, vs, rfl, l, r⟩ := m.at_ p _ h
  exact ⟨vs, hu, l, r⟩
theorem DenL.dropLast {xs : List D} {vs : List V} (h : DenL c M H xs vs) : DenL c M H xs.dropLast vs.dropLast := by
  rw [List.dropLast_eq_take, List.dropLast_eq_take, h.length]
  exact h.take _
theorem DenL.eraseIdx {xs : List D} {vs : List V} (i : Nat) (h : DenL c M H xs vs) : DenL c M H (xs.eraseIdx i) (vs.eraseIdx i) := by
  rw [List.eraseIdx_eq_take_drop_succ, List.eraseIdx_eq_take_drop_succ]
  exact (h.take _).append (h.drop _)
theorem cell_of {x : D} {K : Addr → List D → Prop} (h : cellS x M K) : ∃ p xs, x = .ref p ∧ M p = some (.lst xs) ∧ K p xs := by
  unfold cellS at h
  cases x with
  | ref p =>
    simp only at h
    cases e : M p with
    | none => rw [e] at h; exact h.elim
    | some o =>
      rw [e] at h
      cases o with
      | lst xs => exact ⟨p, xs, rfl, e, h⟩
      | _ => exact h.elim
  | _ => exact h.elim
theorem int_of {x : D} {K : Int → Prop} (h : intS x K) : ∃ i, x = .int i ∧ K i := by
  unfold intS at h
  cases x with
  | int i => exact ⟨i, rfl, h⟩
  | _ => exact h.elim
theorem str_of {x : D} {K : Str → Prop} (h : strS x K) : ∃ i, x = .str i ∧ K i := by
  unfold strS at h
  cases x with
  | str i => exact ⟨i, rfl, h⟩
  | _ => exact h.elim
theorem opt_of {α : Type} {o : Option α} {K : α → Prop} (h : optS o K) : ∃ a, o = some a ∧ K a := by
  unfold optS at h
  cases o with
  | some i => exact ⟨i, rfl, h⟩
  | none => exact h.elim
theorem mr_mt {m : Mt} (hK : X.K = S.K) : MtR X m.id_ (LVm S m) := by
  intro pins s σ H v vs u us Q I rx rs ⟨c, M, x, ds, Q', ok, mr, d1, dl, h, q⟩
  have hk : c.K = X.K := ok.1.trans hK.symm
  cases m with
  | append =>
    obtain ⟨y, rfl, h⟩ := one_of (show one ds _ from h)
    obtain ⟨w, rfl, d2⟩ := dl.one
    obtain ⟨p, xs, rfl, hp, hz, h⟩ := cell_of h
    obtain ⟨ws, hw, l, r⟩ := cell_at mr hp
    simp only [Den] at d1
    subst d1
    have k := Keep.write (o := .lst (ws ++ [w])) (ob' := .lst (xs ++ [y])) mr hp
    refine mt_append pins s σ H _ _ u us Q I rx rs ⟨p, ws, w, rfl, rfl, hw, by rw [← r.length]; exact hz, q _ _ _ _ h ⟨k, MR.write mr hp ⟨_, rfl, ?_, r.append (DenL.cons d2 DenL.nil)⟩, by simp only [Den]⟩⟩
    rw [List.length_append, List.length_singleton]
    omega
  | pop =>
    have h' := (show ds = [] ∧ cellS x M (fun p xs => optS xs[xs.length - 1]? fun y => Q' (.val y) (mput M p (.lst xs.dropLast))) from h)
    clear h
    obtain ⟨rfl, h⟩ := h'
    simp only [DenL] at dl
    subst dl
    obtain ⟨p, xs, rfl, hp, h⟩ := cell_of h
    obtain ⟨y, e, h⟩ := opt_of h
    obtain ⟨ws, hw, l, r⟩ := cell_at mr hp
    simp only [Den] at d1
    subst d1
    obtain ⟨w, e2, d2⟩ := r.get e
    rw [r.length] at e2
    have k := Keep.write (o := .lst ws.dropLast) (ob' := .lst xs.dropLast) mr hp
    exact mt_pop pins s σ H _ _ u us Q I rx rs ⟨p, ws, w, rfl, rfl, hw, e2, q _ _ _ _ h ⟨k, MR.write mr hp ⟨_, rfl, by rw [List.length_dropLast]; omega, r.dropLast⟩, Den.keep k _ _ d2⟩⟩
  | popAt =>
    obtain ⟨z, rfl, h⟩ := one_of (show one ds _ from h)
    obtain ⟨w0, rfl, d2⟩ := dl.one
    obtain ⟨i, rfl, h⟩ := int_of h
    obtain ⟨p, xs, rfl, hp, h⟩ := cell_of h
    obtain ⟨k, e, h⟩ := opt_of h
    obtain ⟨y, e2, h⟩ := opt_of h
    simp only [Den] at d1 d2
    subst d1 d2
    obtain ⟨ws, hw, l, r⟩ := cell_at mr hp
    obtain ⟨w, e3, d3⟩ := r.get e2
    obtain ⟨h1, h2, h3, h4⟩ := ixN_seq e
    have hs : sizeLine = 16777216 := sizeLine_eq
    have kk := Keep.write (o := .lst (ws.eraseIdx k)) (ob' := .lst (xs.eraseIdx k)) mr hp
    refine mt_popAt pins s σ H _ _ u us Q I rx rs ⟨p, ws, i, k, w, rfl, rfl, hw, by omega, by omega, by rw [← r.length]; exact h1, e3, q _ _ _ _ h ⟨kk, MR.write mr hp ⟨_, rfl, ?_, r.eraseIdx k⟩, Den.keep kk _ _ d3⟩⟩
    have := len_erase xs k
    omega
  | join =>
    obtain ⟨y, rfl, h⟩ := one_of (show one ds _ from h)
    obtain ⟨w, rfl, d2⟩ := dl.one
    obtain ⟨a, rfl, h⟩ := str_of h
    obtain ⟨ys, e, h⟩ := opt_of h
    obtain ⟨ss, e2, h1, h2⟩ := opt_of h
    simp only [Den] at d1
    subst d1
    obtain ⟨p, ws, rfl, sq, r, l⟩ := asS_at hk mr d2 e
    have := asSs_v e2 r
    subst this
    exact mt_join pins s σ H _ _ u us Q I rx rs ⟨a, p, ss, rfl, rfl, sq, h1, q _ _ _ _ h2 (RV.same mr (by simp only [Den]))⟩
theorem mt_ty {m : Mt} (hK : c.K = X.K) (mr : MR c M H) (q : Den c M H d v) (h : mtTy m d M = true) : tyV X.K m.ty v H := by
  have lst : (asL M d).isSome = true → tyV X.K "list" v H := fun h => by
    obtain ⟨xs, e⟩ := Option.isSome_iff_exists.mp h
    obtain ⟨a, ws, rfl, sq, r, l⟩ := asL_at hK mr q e
    exact .inl ⟨rfl, ws, sq⟩
  cases m with
  | join =>
    cases d with
    | str a => simp only [Den] at q; subst q; exact (rfl : "str" = "str")
    | _ => exact absurd (show false = true from h) Bool.false_ne_true
  | append => exact lst h
  | pop => exact lst h
  | popAt => exact lst h
end
end PL
/-! ### what stands around: classes, defs -/
namespace PL
open PySem PySem.Spec PyProof.Rows L2

/-- an own class: its attributes are the instances' own -/
structure ClsOk (K : PySem.W.Frag) (C : Addr) (at_ : List Str) : Prop where
  cl : Cls K C
  na : ∀ f ∈ at_, NoAttr K C f
  ha : PySem.W.findIn K (.ref C) "__class__" = some (some (.builtin "object.__class__"))
  hn : PySem.W.specialIn K (.builtin "object.__class__") "__get__" = some (some (.builtin "getset_descriptor.__get__"))
  htk : PySem.W.takesIn K (.builtin "object.__class__") = some true
  hm : PySem.W.mroIn K C (.type "object") = some true
def Cs.tv (S : Cs) : Ty → Value
  | .cls k => .ref (S.cA k)
  | t => .type t.name
/-- isinstance's answers for the classes below n -/
structure KitOk (S : Cs) (n : Nat → Bool) : Prop where
  cb : ∀ k, n k = true → ∀ t : Ty, (∀ j, t ≠ .cls j) → PySem.W.kitOne S.K (.ref (S.cA k)) (.type t.name) = some false
  bc : ∀ k, n k = true → ∀ t : Ty, (∀ j, t ≠ .cls j) → PySem.W.kitOne S.K (.type t.name) (.ref (S.cA k)) = some false
  cc : ∀ k j, n k = true → n j = true → PySem.W.kitOne S.K (.ref (S.cA k)) (.ref (S.cA j)) = some (decide (k = j))
theorem kit_bb {K : PySem.W.Frag} : ∀ a b : Ty, (∀ j, a ≠ .cls j) → (∀ j, b ≠ .cls j) → PySem.W.kitOne K (.type a.name) (.type b.name) = some (subT a b) := by
  intro a b ha hb
  cases a <;> first | exact absurd rfl (ha _) | (cases b <;> first | exact absurd rfl (hb _) | exact kit_ty (by decide +kernel))
theorem kit_all {S : Cs} {n : Nat → Bool} (k : KitOk S n) {a b : Ty} (ha : a.below n = true) (hb : b.below n = true) : PySem.W.kitOne S.K (S.tv a) (S.tv b) = some (subT a b) := by
  cases a with
  | cls i =>
    have hi : n i = true := by simpa [Ty.below] using ha
    cases b with
    | cls j =>
      have hj : n j = true := by simpa [Ty.below] using hb
      rw [show S.tv (.cls i) = .ref (S.cA i) from rfl, show S.tv (.cls j) = .ref (S.cA j) from rfl, k.cc i j hi hj]
      simp [subT]
    | _ => exact k.cb i hi _ (fun j z => by cases z)
  | _ =>
    cases b with
    | cls j =>
      have hj : n j = true := by simpa [Ty.below] using hb
      exact k.bc j hj _ (fun j z => by cases z)
    | _ => exact kit_bb _ _ (fun j z => by cases z) (fun j z => by cases z)

section
variable {S : Cs} {X : Cx} {c : Cn} {M : Mem} {H : Hp} {v : V} {d : D}
/-- a value's class by its data -/
theorem typ_of {T : Tb} {n : Nat → Bool} {t : Ty} (ok : S.ok c) (hK : X.K = S.K) (hcl : ∀ k, n k = true → ClsOk S.K (S.cA k) (T.at_ k)) (mr : MR c M H) (q : Den c M H d v) (h : typ M d = some t) (hb : t.below n = true) : TyX X.K H v (S.tv t) := by
  have hk : c.K = X.K := ok.1.trans hK.symm
  have ins : ∀ {k : Nat} {a dx : Addr} {fs : List (Str × V)}, (Ty.cls k).below n = true → H a = some (.ins (c.cA k) dx fs) → TyX X.K H (.ref a) (S.tv (.cls k)) := fun {k a dx fs} hb e => by
    have hi : n k = true := by simpa [Ty.below] using hb
    have C := hcl k hi
    rw [ok.2] at e
    rw [hK]
    exact .base (.ins e C.cl C.ha C.hn C.htk C.hm)
  cases d with
  | non => simp only [typ] at h; cases h; simp only [Den] at q; subst q; exact .base .non
  | bl _ => simp only [typ] at h; cases h; simp only [Den] at q; subst q; exact .base (.bl _)
  | int _ => simp only [typ] at h; cases h; simp only [Den] at q; subst q; exact .base (.int _)
  | str _ => simp only [typ] at h; cases h; simp only [Den] at q; subst q; exact .base (.str _)
  | tup _ =>
    simp only [typ] at h; cases h; simp only [Den] at q
    obtain ⟨a, vs, rfl, t, _⟩ := q
    rcases t with ⟨_, _, t | ⟨o, t⟩⟩ | ⟨o, its, n, e, hc, _⟩
    · exact .base (.tup t)
    · exact .fTuple t
    · exact .kTuple (by rw [← hk]; exact e) hc
  | lst _ =>
    simp only [typ] at h; cases h; simp only [Den] at q
    obtain ⟨a, vs, rfl, t, _⟩ := q
    rcases t with ⟨_, _, t | ⟨o, t⟩⟩ | ⟨o, its, n, e, hc, _⟩
    · exact .base (.lst t)
    · exact .base (.frz t)
    · exact .kList (by rw [← hk]; exact e) hc
  | dic _ _ =>
    simp only [typ] at h; cases h; simp only [Den] at q
    obtain ⟨a, vs, rfl, ⟨_, _, t | ⟨o, t⟩⟩, _⟩ := q
    · exact .base (.dK t)
    · exact .fDict t
  | ins k ns xs =>
    simp only [typ] at h; cases h; simp only [Den] at q
    obtain ⟨a, dx, vs, rfl, ⟨_, _, t⟩, _⟩ := q
    exact ins hb t
  | ref p =>
    simp only [Den] at q
    subst q
    simp only [typ] at h
    cases e : M p with
    | none => rw [e] at h; cases h
    | some o =>
      rw [e] at h
      obtain ⟨u, hu, r⟩ := mr.at_ p _ e
      cases o with
      | lst xs => simp only at h; cases h; obtain ⟨vs, rfl, _⟩ := r; exact .base (.lst hu)
      | dic ks xs => simp only at h; cases h; obtain ⟨vs, rfl, _⟩ := r; exact .base (.dK hu)
      | dit ks xs => simp only at h; cases h; obtain ⟨vs, rfl, _⟩ := r; exact .base (.dT hu)
      | ins k ns xs => simp only at h; cases h; obtain ⟨dx, vs, rfl, _⟩ := r; exact ins hb hu
  | _ => simp [typ] at h
end
end PL
/-! ### calls of the program's own defs -/
namespace PL
open PySem PySem.Spec PyProof.Rows L2

/-! ### the forms of a text -/
theorem star_cons {e : Expr} {es : List Expr} {env : Env} (h : notStar e = true) : starEach (e :: es) env = (false, eval e env) :: starEach es env := by
  cases e <;> first | rfl | (exact absurd h (by simp [notStar]))
theorem star_any {pos : Pos} {env : Env} : ∀ {es : List Expr}, es.all notStar = true → (backTo pos (starEach es env)).any (·.1) = false
  | [], _ => rfl
  | e :: es, h => by
    simp only [List.all_cons, Bool.and_eq_true] at h
    rw [star_cons h.1]
    exact star_any h.2
theorem star_all {pos : Pos} {env : Env} : ∀ {es : List Expr}, es.all notStar = true → (backTo pos (starEach es env)).all (fun x => !x.1) = true
  | [], _ => rfl
  | e :: es, h => by
    simp only [List.all_cons, Bool.and_eq_true] at h
    rw [star_cons h.1]
    exact star_all h.2
/-- the keywords have these names -/
def kwNm : List Str → List Keyword → Prop
  | [], [] => True
  | k :: ks, ⟨some n, _, _⟩ :: r => k = n ∧ kwNm ks r
  | _, _ => False
theorem kw_none {pos : Pos} {env : Env} : ∀ {ks : List Str} {kws : List Keyword}, kwNm ks kws → (backToKw pos (keywordEach kws env)).any (·.1.isNone) = false ∧ (backToKw pos (keywordEach kws env)).all (·.1.isSome) = true ∧ (backToKw pos (keywordEach kws env)).filterMap (·.1) = ks
  | [], [], _ => ⟨rfl, rfl, rfl⟩
  | k :: ks, ⟨some n, e, p⟩ :: r, h => by
    obtain ⟨rfl, h⟩ := h
    obtain ⟨h1, h2, h3⟩ := kw_none (pos := pos) (env := env) h
    refine ⟨?_, ?_, ?_⟩
    · show (false || (backToKw pos (keywordEach r env)).any (·.1.isNone)) = false
      rw [h1]; rfl
    · show (true && (backToKw pos (keywordEach r env)).all (·.1.isSome)) = true
      rw [h2]; rfl
    · show k :: (backToKw pos (keywordEach r env)).filterMap (·.1) = k :: ks
      rw [h3]
  | [], _ :: _, h => h.elim
  | _ :: _, [], h => h.elim
  | _ :: _, ⟨none, _, _⟩ :: _, h => h.elim

/-! ### arguments in the parameters' order -/
theorem lookup_vals {p : Str} : ∀ {ks : List Str} {zs : List V} {ws : List Value}, Vals zs ws → (match (ks.zip zs).lookup p, (ks.zip ws).lookup p with | some z, some w => RelV z w | none, none => True | _, _ => False)
  | [], _, _, _ => by simp
  | k :: ks, _, _, .nil => by simp
  | k :: ks, _, _, .cons r t => by
    simp only [List.zip_cons_cons, List.lookup_cons]
    cases p == k with
    | true => exact r
    | false => exact lookup_vals t
theorem kw_vals {ks : List Str} {zs : List V} {ws : List Value} (r : Vals zs ws) : ∀ ps : List Str, Vals (ps.filterMap fun p => (ks.zip zs).lookup p) (ps.filterMap fun p => (ks.zip ws).lookup p)
  | [] => .nil
  | p :: ps => by
    have h := lookup_vals (p := p) (ks := ks) r
    rw [List.filterMap_cons, List.filterMap_cons]
    cases e1 : (ks.zip zs).lookup p <;> cases e2 : (ks.zip ws).lookup p <;> rw [e1, e2] at h
    · exact kw_vals r ps
    · exact h.elim
    · exact h.elim
    · exact .cons h (kw_vals r ps)
theorem vals_kw {ps ks : List Str} {vs zs : List V} {us ws : List Value} (r : Vals vs us) (t : Vals zs ws) : Vals (kwArgs ps vs ks zs) (kwArgs ps us ks ws) := by
  unfold kwArgs
  rw [r.length]
  exact r.append (kw_vals t _)
section
variable {c : Cn} {M : Mem} {H : Hp}
theorem lookup_den {p : Str} : ∀ {ks : List Str} {ds : List D} {zs : List V}, DenL c M H ds zs → (match (ks.zip ds).lookup p, (ks.zip zs).lookup p with | some d, some z => Den c M H d z | none, none => True | _, _ => False)
  | [], _, _, _ => by simp
  | k :: ks, [], _, q => by simp only [DenL] at q; subst q; simp
  | k :: ks, d :: ds, _, q => by
    simp only [DenL] at q
    obtain ⟨v, r, rfl, h1, h2⟩ := q
    simp only [List.zip_cons_cons, List.lookup_cons]
    cases p == k with
    | true => exact h1
    | false => exact lookup_den h2
theorem kw_dens {ks : List Str} {ds : List D} {zs : List V} (r : DenL c M H ds zs) : ∀ ps : List Str, DenL c M H (ps.filterMap fun p => (ks.zip ds).lookup p) (ps.filterMap fun p => (ks.zip zs).lookup p)
  | [] => DenL.nil
  | p :: ps => by
    have h := lookup_den (p := p) (ks := ks) r
    rw [List.filterMap_cons, List.filterMap_cons]
    cases e1 : (ks.zip ds).lookup p <;> cases e2 : (ks.zip zs).lookup p <;> rw [e1, e2] at h
    · exact kw_dens r ps
    · exact h.elim
    · exact h.elim
    · exact DenL.cons h (kw_dens r ps)
theorem dens_kw {ps ks : List Str} {ds es : List D} {vs zs : List V} (r : DenL c M H ds vs) (t : DenL c M H es zs) : DenL c M H (kwArgs ps ds ks es) (kwArgs ps vs ks zs) := by
  unfold kwArgs
  rw [r.length]
  exact r.append (kw_dens t _)
end

/-! ### promises -/
/-- a promise over plain data, as the layer's -/
def lSp (S : Cs) (T : Tb) (n : Nat) (sp : DSp) : Sp := fun vs H Q E => ∃ (c : Cn) (M : Mem) (ds : List D) (Q' : QR) (E' : EX), S.ok c ∧ MR c M H ∧ DenL c M H ds vs ∧ ds.length = n ∧ sp ds M Q' E' ∧
  (∀ r M' v H', Q' r M' → RV c M H M' H' r v → Q v H') ∧ ∀ k f M' H' d, E' k f M' → Keep c M H M' H' → MR c M' H' → XD T c M' H' d k f → E (.ref (c.cA k)) (some d) H'
/-- a way of calling: how many stand by place, the names of the others -/
abbrev Form := Nat × List Str
structure BindOk (K : PySem.W.Frag) (fd : FuncData) (ps : List Str) (F : Form) : Prop where
  len : ∀ {α : Type} (us ws : List α), us.length = F.1 → ws.length = F.2.length → (kwArgs ps us F.2 ws).length = ps.length
  to : ∀ (s : Shared) (us ws : List Value), K.In s.heap → us.length = F.1 → ws.length = F.2.length → BindsTo s fd ⟨us, F.2.zip ws⟩ (ps.zip (kwArgs ps us F.2 ws))
section
variable (P : Program) (w : World) (mg : Str → Option Value) (base : Heap) (S : Cs) (T : Tb)
structure FnEnt (j : Nat) (x : Str) (ps : List Str) (F : List Form) (sp : DSp) : Prop where
  ex : ∃ (f : Addr) (fd : FuncData), FnOk P w S.K mg base (L2.CX P w) j f fd ps (lSp S T ps.length sp) ∧ mg x = some (.ref f) ∧ PySem.W.keepIn S.K (.ref f) = true ∧ ∀ g ∈ F, BindOk S.K fd ps g
structure MtEnt (j : Nat) (c : Nat) (x : Str) (ps : List Str) (F : List Form) (sp : DSp) : Prop where
  ex : ∃ (f : Addr) (fd : FuncData), FnOk P w S.K mg base (L2.CX P w) j f fd ps (lSp S T ps.length sp) ∧ Meth S.K (S.cA c) x f ∧ ∀ g ∈ F, BindOk S.K fd ps g
structure MkEnt (j : Nat) (c : Nat) (x : Str) (ps : List Str) (F : List Form) (sp : DSp) : Prop where
  ex : ∃ (f : Addr) (fd : FuncData), Mk S.K (S.cA c) f ∧ FnOk P w S.K mg base (L2.CX P w) j f fd ps (lSp S T ps.length sp) ∧ mg x = some (.ref (S.cA c)) ∧ ∀ g ∈ F, BindOk S.K fd ps g
end

section
variable {X : Cx} {S : Cs} {T : Tb} {W : WX} {σ : L2.St} {H : Hp} {Q : VK} {pins : List (Addr × Obj)} {s : Shared}
/-- the callee runs -/
theorem run_g {k : Nat} {f : Addr} {fd : FuncData} {ps ks : List Str} {sp : Sp} {E : XK} {us ws us' : List Value} {vs : List V} (F : FnOk X.prog X.w X.K X.mg X.base (L2.CX X.prog X.w) k f fd ps sp) (hr : Room k X.A) (hx : PassesAt (L2.CX X.prog X.w) X σ E)
    (I : Inv X pins σ H s) (hb : BindsTo s fd ⟨us, ks.zip ws⟩ (ps.zip us')) (r : Vals vs us') (h : sp vs H Q E) : wpAny (model X.prog X.w) X.A (call (.ref f) us (ks.zip ws)) (EP X pins σ Q) X.xe s := by
  refine wpAny_call (codeAny_mono (F.run X.A X.stack s H ⟨us, ks.zip ws⟩ us' vs Q E hr I.env0 hb r h) fun r s' hq => ?_)
  cases r with
  | error e => exact hx pins H s e s' I hq
  | ok fl =>
    cases fl with
    | ret u => exact I.after hq
    | next => exact False.elim hq
    | brk => exact False.elim hq
    | cont => exact False.elim hq
/-- a new instance -/
theorem run_mk {k : Nat} {C f : Addr} {fd : FuncData} {ps ks : List Str} {sp : Sp} {E : XK} {us ws : List Value} {vs : List V} {us' : Value → List Value} (M : Mk X.K C f) (F : FnOk X.prog X.w X.K X.mg X.base (L2.CX X.prog X.w) k f fd ps sp) (hr : Room (k + 1) X.A) (hx : PassesAt (L2.CX X.prog X.w) X σ E)
    (I : Inv X pins σ H s) (hb : ∀ (s' : Shared) (x : Value), X.K.In s'.heap → BindsTo s' fd ⟨x :: us, ks.zip ws⟩ (ps.zip (us' x))) (r : ∀ x, Vals (V.ref x :: vs) (us' (.ref x)))
    (h : ∀ x dx, H x = none → H dx = none → dx ≠ x → sp (.ref x :: vs) (upd (upd H dx (.own x)) x (.ins C dx [])) (fun v H2 => v = .non ∧ Q (.ref x) H2) E) :
    wpAny (model X.prog X.w) X.A (call (.ref C) us (ks.zip ws)) (EP X pins σ Q) X.xe s := by
  have hq := h (s.heap.objs.size + 1) s.heap.objs.size (I.hok.fresh (Nat.le_succ _)) (I.hok.fresh (Nat.le_refl _)) (Nat.ne_of_lt (Nat.lt_succ_self _))
  have I2 := Inv.made (C := C) I
  refine wpAny_call (make_map (f := f) I.kIn M.makes M.init (beq_iff_eq.mp M.fn) (codeAny_mono (F.run _ X.stack _ _ ⟨Value.ref (s.heap.objs.size + 1) :: us, ks.zip ws⟩ (us' (.ref (s.heap.objs.size + 1))) _ _ E (hr.make C us (ks.zip ws))
    (I2.env0.make C us (ks.zip ws)) (hb _ _ I2.kIn) (r _) hq) fun r s' hq' => ?_))
  cases r with
  | error e => exact hx pins _ _ e s' I2 hq'
  | ok fl =>
    cases fl with
    | ret u =>
      obtain ⟨v, H', I3, rv, ev, q3⟩ := I2.after hq'
      subst ev
      exact ⟨rv, ⟨V.ref (s.heap.objs.size + 1), H', I3, rfl, q3⟩⟩
    | next => exact False.elim hq'
    | brk => exact False.elim hq'
    | cont => exact False.elim hq'
/-- the arguments by place and by name, then the call -/
theorem args_g {es : List Expr} {kws : List Keyword} {ks : List Str} {ta tk : TA} {f : Value} {first : List Value} {pos : Pos} {R : List V → List V → Hp → Prop} {Q : Value → Shared → Prop} (ha : PA X es ta) (hk : PK X kws tk) (hs : es.all notStar = true) (hn : kwNm ks kws) (kp : PySem.W.keepIn X.K f = true)
    (ha0 : es = [] → ∀ σ H Q, ta σ H Q → Q [] H) (hk0 : kws = [] → ∀ σ H Q, tk σ H Q → Q [] H) (I : Inv X pins σ H s) (h : ta σ H fun vs H1 => tk σ H1 fun zs H2 => R vs zs H2)
    (hq : ∀ us ws s2 vs zs H2, Inv X pins σ H2 s2 → Vals vs us → Vals zs ws → R vs zs H2 → wpAny (model X.prog X.w) X.A (call f (first ++ us) (ks.zip ws)) Q X.xe s2) :
    wpAny (model X.prog X.w) X.A (callWith pos f first (backTo pos (starEach es X.env)) (backToKw pos (keywordEach kws X.env))) Q X.xe s := by
  obtain ⟨n1, n2, n3⟩ := kw_none (pos := pos) (env := X.env) hn
  have s1 := star_any (pos := pos) (env := X.env) hs
  cases kws with
  | nil =>
    have e : ks = [] := by cases ks with | nil => rfl | cons _ _ => exact hn.elim
    subst e
    cases es with
    | nil => exact PySem.W.callWith_K0 I.kIn kp (hq [] [] s [] [] H I .nil .nil (hk0 rfl _ _ _ (ha0 rfl _ _ _ h)))
    | cons e es =>
      simp only [List.all_cons, Bool.and_eq_true] at hs
      refine PySem.W.callWith_K (h₀ := X.base) I.ok.mod.kin kp (thn (ha.run pos pins s σ H _ I h) fun us s1 ⟨vs, H1, I1, r, q⟩ => ⟨I1.kIn, ?_⟩) (star_cons hs.1) (star_any hs.2)
      exact hq us [] s1 vs [] H1 I1 r .nil (hk0 rfl _ _ _ q)
  | cons kw kws =>
    cases es with
    | nil =>
      refine PySem.W.callWith_KW0 (h₀ := X.base) I.ok.mod.kin kp n2 ?_ (by rw [s1, n1]; rfl)
      refine thn (hk.run pos pins s σ H _ I (ha0 rfl _ _ _ h)) fun ws s2 ⟨zs, H2, I2, rz, q2⟩ => ⟨I2.kIn, ?_⟩
      rw [n3]
      exact hq [] ws s2 [] zs H2 I2 .nil rz q2
    | cons e es =>
      simp only [List.all_cons, Bool.and_eq_true] at hs
      refine PySem.W.callWith_KW (h₀ := X.base) I.ok.mod.kin kp n2 (thn (ha.run pos pins s σ H _ I h) fun us s1 ⟨vs, H1, I1, r, q⟩ => ?_) (by rw [s1, n1]; rfl) (star_cons hs.1)
      refine thn (hk.run pos pins s1 σ H1 _ I1 q) fun ws s2 ⟨zs, H2, I2, rz, q2⟩ => ⟨I2.kIn, ?_⟩
      rw [n3]
      exact hq us ws s2 vs zs H2 I2 r rz q2

/-- both argument lists at plain data -/
theorem lA_two {n m : Nat} {ta tk : DTA} {k : List D → List D → Mem → QR → EX → Prop} (h : lE S T W (fun ρ M Q E => ta ρ M (fun ds M1 => tk ρ M1 (fun zs M2 => k ds zs M2 Q E) E) E) σ H Q) :
    lA S T W n ta σ H fun vs H1 => lA S T W m tk σ H1 fun zs H2 => ∃ (c : Cn) (M : Mem) (ds es : List D) (Q' : QR) (E : EX), S.ok c ∧ MR c M H2 ∧ DenL c M H2 ds vs ∧ DenL c M H2 es zs ∧ ds.length = n ∧ es.length = m ∧ XOK T c W σ M H2 E ∧ k ds es M Q' E ∧
      ∀ r M' v' H', Q' r M' → RV c M H2 M' H' r v' → Q v' H' := by
  obtain ⟨c, ρ, M, Q', E, ok, s, x, t, q⟩ := h
  refine ⟨c, ρ, M, _, E, ok, s, x, t, fun ds M1 vs H1 l1 hk k1 m1 d1 => ?_⟩
  refine ⟨c, ρ, M1, _, E, ok, s.keep k1 m1, x.after k1, hk, fun es M2 zs H2 l2 hk2 k2 m2 d2 => ?_⟩
  exact ⟨c, M2, ds, es, _, E, ok, m2, DenL.keep k2 _ _ d1, d2, l1, l2, (x.after k1).after k2, hk2, fun r M' v' H' h1 h2 => q r M' v' H' h1 (h2.after (k1.trans k2))⟩
theorem lA_nil0 {t : DTA} (ht : ∀ ρ M Q E, t ρ M Q E → Q [] M) {Q : List V → Hp → Prop} (h : lA S T W 0 t σ H Q) : Q [] H := by
  obtain ⟨c, ρ, M, Q', E, ok, s, x, t, q⟩ := h
  exact q [] M [] H rfl (ht _ _ _ _ t) (Keep.refl _ _ _) s.mem DenL.nil

/-- f(..) of a def of the program -/
theorem r_call {j i : Nat} {x : Str} {ps : List Str} {F : List Form} {sp : DSp} {es : List Expr} {kws : List Keyword} {ks : List Str} {ta tk : DTA} {p pos : Pos} (hK : X.K = S.K) (en : FnEnt X.prog X.w X.mg X.base S T j x ps F sp) (hj : j ≤ i) (hr : Room i X.A) (tw : Takes X W) (hg : Gl X x) (hd : (x == ("__debug__" : Str)) = false)
    (ha : PA X es (lA S T W es.length ta)) (hk : PK X kws (lA S T W ks.length tk)) (ha0 : es = [] → ∀ ρ M Q E, ta ρ M Q E → Q [] M) (hk0 : kws = [] → ∀ ρ M Q E, tk ρ M Q E → Q [] M) (hs : es.all notStar = true) (hn : kwNm ks kws) (hF : (es.length, ks) ∈ F) :
    PE X (.Call (.Name x p) es kws pos) (lE S T W fun ρ M Q E => ta ρ M (fun ds M1 => tk ρ M1 (fun zs M2 => sp (kwArgs ps ds ks zs) M2 Q E) E) E) := by
  refine ⟨fun pins s σ H Q I h => ?_⟩
  obtain ⟨f, fd, FK, mf, kp, bs⟩ := en.ex
  rw [← hK] at FK kp
  have b := bs _ hF
  have hk1 : kws = [] → ks.length = 0 := fun e => by subst e; cases ks with | nil => rfl | cons _ _ => exact hn.elim
  refine wpAny_Call_Name_kw (ld_glob I hg mf ?_ hd)
  refine args_g (first := []) ha hk hs hn kp (fun e => ?_) (fun e => ?_) I (lA_two h) (fun us ws s2 vs zs H2 I2 r rz ⟨c, M, ds, es', Q', E, ok, m, d1, d2, l1, l2, xo, hsp, q⟩ => ?_)
  · subst e; exact fun σ H Q h => lA_nil0 (ha0 rfl) h
  · intro σ H Q h
    rw [hk1 e] at h
    exact lA_nil0 (hk0 e) h
  · have lu : us.length = es.length := by rw [← r.length, ← d1.length, l1]
    have lw : ws.length = ks.length := by rw [← rz.length, ← d2.length, l2]
    rw [hK] at FK
    refine run_g (E := fun cls d H => W cls d σ H) (by rw [hK]; exact FK) (hr.mono hj) (passAt tw σ) I2 (b.to s2 us ws (by rw [← hK]; exact I2.kIn) lu lw) (vals_kw r rz) ?_
    exact ⟨c, M, _, Q', E, ok, m, dens_kw d1 d2, b.len _ _ l1 l2, hsp, q, xo⟩
end
end PL
/-! ### makers, methods, and the rules of expressions -/
namespace PL
open PySem PySem.Spec PyProof.Rows L2
theorem base_of {o : Expr} {name : Str} {env : Env} {whole : Sem Value} (h : noSuper o = true) : attributeBase o name env whole = whole := by
  cases o with
  | Call f args kws pos =>
    cases f <;> try rfl
    cases args with
    | cons _ _ => rfl
    | nil =>
      cases kws with
      | cons _ _ => rfl
      | nil => exact absurd h (by simp [noSuper])
  | _ => rfl
theorem meth_at {prog : Program} {w : World} {A : Around} {E : Value → Shared → Prop} {s : Shared} {env : Env} {o : Expr} {name : Str} {apos pos : Pos} {args : List Expr} {kws : List Keyword} {Q : Value → Shared → Prop}
    (hb : noSuper o = true) (hl : lineB apos pos = true) (hs : args.all notStar = true) {ks : List Str} (hk : kwNm ks kws) (hf : args.length + kws.length < 20)
    (h : wpAny (model prog w) A (eval o env) (fun ov s₁ => ∀ pl, wpAny (model prog w) A (getMethod ov name pl) (fun fx s₂ => wpAny (model prog w) A (callWith pos fx.1 fx.2 (backTo pos (starEach args env)) (backToKw pos (keywordEach kws env))) Q E s₂) E s₁) E s) :
    wpAny (model prog w) A (eval (.Call (.Attribute o name apos) args kws pos) env) Q E s := by
  rw [arm_eval_Call, base_of hb]
  refine wpAny_bind (wpAny_mono h (fun ov s₁ h₁ => wpAny_bind (wpAny_standAt ?_)) fun _ _ e => e)
  have hform : methodCallForm (args.length + kws.length) (backTo pos (starEach args env)) (backToKw pos (keywordEach kws env)) = true := by
    unfold methodCallForm
    rw [star_all hs, (kw_none (pos := pos) (env := env) hk).2.1]
    simp only [Bool.and_self, Bool.true_and, decide_eq_true_eq]
    split <;> omega
  have hpos : methodCallPos true o env apos pos = pure pos := by
    unfold lineB at hl
    unfold methodCallPos
    simp [hl]
  unfold methodCall
  rw [hform]
  refine wpAny_bind (wpAny_holding ?_)
  unfold calleeOf
  rw [if_pos rfl]
  refine wpAny_mono (h₁ _) (fun fx s₂ h₂ => ?_) fun _ _ e => e
  exact wpAny_bind (wpAny_of_eq hpos h₂)

theorem kwArgs_cons {α : Type} {ps ks : List Str} {x : α} {us ws : List α} : kwArgs ps (x :: us) ks ws = x :: kwArgs (ps.drop 1) us ks ws := by
  unfold kwArgs
  rw [List.length_cons, List.drop_drop, Nat.add_comm 1, List.cons_append]
theorem mput_mdel {M : Mem} {p : Addr} {o : Ob} (h : M p = some o) : mput (mdel M p) p o = M := by
  funext b
  unfold mput mdel
  by_cases e : b = p
  · rw [if_pos e, e, h]
  · rw [if_neg e, if_neg e]
section
variable {X : Cx} {S : Cs} {T : Tb} {W : WX} {σ : L2.St} {H : Hp} {Q : VK} {pins : List (Addr × Obj)} {s : Shared}
/-- C(..) -/
theorem r_make {j i cn : Nat} {x : Str} {ps : List Str} {F : List Form} {sp : DSp} {es : List Expr} {kws : List Keyword} {ks : List Str} {ta tk : DTA} {p pos : Pos} (hK : X.K = S.K) (en : MkEnt X.prog X.w X.mg X.base S T j cn x ps F sp) (hj : j + 1 ≤ i) (hr : Room i X.A) (tw : Takes X W) (hg : Gl X x) (hd : (x == ("__debug__" : Str)) = false)
    (ha : PA X es (lA S T W es.length ta)) (hk : PK X kws (lA S T W ks.length tk)) (ha0 : es = [] → ∀ ρ M Q E, ta ρ M Q E → Q [] M) (hk0 : kws = [] → ∀ ρ M Q E, tk ρ M Q E → Q [] M) (hs : es.all notStar = true) (hn : kwNm ks kws) (hF : (es.length + 1, ks) ∈ F) :
    PE X (.Call (.Name x p) es kws pos) (lE S T W fun ρ M Q E => ta ρ M (fun ds M1 => tk ρ M1 (fun zs M2 => ∀ q, M2 q = none →
      sp (.ref q :: kwArgs (ps.drop 1) ds ks zs) (mput M2 q (.ins cn [] [])) (fun r M3 => r.d = .non ∧ ∃ o, M3 q = some o ∧ Q (.new o) (mdel M3 q)) E) E) E) := by
  refine ⟨fun pins s σ H Q I h => ?_⟩
  obtain ⟨f, fd, Mm, FK, mf, bs⟩ := en.ex
  have b := bs _ hF
  have hk1 : kws = [] → ks.length = 0 := fun e => by subst e; cases ks with | nil => rfl | cons _ _ => exact hn.elim
  rw [← hK] at Mm
  refine wpAny_Call_Name_kw (ld_glob I hg mf ?_ hd)
  refine args_g (first := []) ha hk hs hn Mm.kp (fun e => ?_) (fun e => ?_) I (lA_two (k := fun ds zs M2 Q E => ∀ q, M2 q = none → sp (.ref q :: kwArgs (ps.drop 1) ds ks zs) (mput M2 q (.ins cn [] [])) (fun r M3 => r.d = .non ∧ ∃ o, M3 q = some o ∧ Q (.new o) (mdel M3 q)) E) h)
    (fun us ws s2 vs zs H2 I2 r rz ⟨c, M, ds, es', Q', E, ok, m, d1, d2, l1, l2, xo, hsp, q⟩ => ?_)
  · subst e; exact fun σ H Q h => lA_nil0 (ha0 rfl) h
  · intro σ H Q h
    rw [hk1 e] at h
    exact lA_nil0 (hk0 e) h
  · have lu : us.length = es.length := by rw [← r.length, ← d1.length, l1]
    have lw : ws.length = ks.length := by rw [← rz.length, ← d2.length, l2]
    refine run_mk (us' := fun x => x :: kwArgs (ps.drop 1) us ks ws) (E := fun cls d H => W cls d σ H) (vs := kwArgs (ps.drop 1) vs ks zs) Mm (by rw [hK]; exact FK) (hr.mono hj) (passAt tw σ) I2 (fun s' x kin => ?_) (fun x => .cons rfl (vals_kw r rz)) fun x dx hx hdx hne => ?_
    · have := b.to s' (x :: us) ws (by rw [← hK]; exact kin) (by rw [List.length_cons, lu]) lw
      rw [kwArgs_cons] at this
      exact this
    · have m1 := m.new (o := .own x) hdx
      have k1 := Keep.new (o := .own x) m hdx
      have hx1 : upd H2 dx (.own x) x = none := by rw [upd_ne (Ne.symm hne)]; exact hx
      have qi : ObD c M (upd H2 dx (.own x)) (.ins cn [] []) (.ins (S.cA cn) dx []) := ⟨dx, [], by rw [ok.2]; rfl, rfl, DenL.nil⟩
      have k2 := Keep.cell (o := .ins (S.cA cn) dx []) (ob := .ins cn [] []) m1 hx1
      have m2 := MR.cell m1 hx1 qi
      have kk := k1.trans k2
      have hM : M x = none := m.none hx
      have len := b.len (.ref x :: ds) es' (by rw [List.length_cons, l1]) l2
      rw [kwArgs_cons] at len
      refine ⟨c, _, .ref x :: kwArgs (ps.drop 1) ds ks es', _, E, ok, m2, DenL.cons (by simp only [Den]) (DenL.keep kk _ _ (dens_kw d1 d2)), len, hsp x hM, fun r M3 v H3 hr3 rv => ?_, xo.after kk⟩
      obtain ⟨e1, o, ho, hq⟩ := hr3
      obtain ⟨k3, m3, dv⟩ := rv.plain
      rw [e1] at dv
      simp only [Den] at dv
      refine ⟨dv, q _ _ _ _ hq ⟨x, rfl, if_pos rfl, ?_, ?_⟩⟩
      · rw [mput_mdel ho]; exact kk.trans k3
      · rw [mput_mdel ho]; exact m3
/-- an instance seen -/
theorem asI_at {c : Cn} {M : Mem} {d : D} {v : V} {k : Nat} {ns : List Str} {xs : List D} (m : MR c M H) (q : Den c M H d v) (e : asI M d = some (k, ns, xs)) : ∃ a dx vs, v = .ref a ∧ H a = some (.ins (c.cA k) dx (ns.zip vs)) ∧ DenL c M H xs vs ∧ ns.length = xs.length := by
  cases d with
  | ins k' ns' ys =>
    simp only [asI] at e; cases e
    simp only [Den] at q
    obtain ⟨a, dx, vs, rfl, ⟨_, _, h⟩, l, r⟩ := q
    exact ⟨a, dx, vs, rfl, h, r, l⟩
  | ref p =>
    simp only [asI] at e
    simp only [Den] at q
    subst q
    cases hp : M p with
    | none => rw [hp] at e; cases e
    | some o =>
      rw [hp] at e
      cases o with
      | ins k' ns' ys =>
        simp only at e; cases e
        obtain ⟨u, hu, dx, vs, rfl, l, r⟩ := m.at_ p _ hp
        exact ⟨p, dx, vs, rfl, hu, r, l⟩
      | _ => simp at e
  | _ => simp [asI] at e
theorem zip_none {ns : List Str} {vs : List V} {f : Str} (h : f ∉ ns) : (ns.zip vs).lookup f = none := by
  induction ns generalizing vs with
  | nil => rfl
  | cons n ns ih =>
    cases vs with
    | nil => rfl
    | cons v vs =>
      simp only [List.mem_cons, not_or] at h
      rw [List.zip_cons_cons, List.lookup_cons, beq_eq_false_iff_ne.mpr h.1]
      exact ih h.2
theorem lA_two2 {n m : Nat} {ta tk : DTA} {c : Cn} {ρ : Sd} {M : Mem} {Q' : QR} {E : EX} {d : D} {v : V} {k : List D → List D → Mem → QR → EX → Prop} (ok : S.ok c) (s : SR c ρ σ M H) (x : XOK T c W σ M H E) (dd : Den c M H d v)
    (t : ta ρ M (fun ds M1 => tk ρ M1 (fun zs M2 => k ds zs M2 Q' E) E) E) (q : ∀ r M' v' H', Q' r M' → RV c M H M' H' r v' → Q v' H') :
    lA S T W n ta σ H fun vs H1 => lA S T W m tk σ H1 fun zs H2 => ∃ (c : Cn) (M : Mem) (ds es : List D) (Q' : QR) (E : EX), S.ok c ∧ MR c M H2 ∧ Den c M H2 d v ∧ DenL c M H2 ds vs ∧ DenL c M H2 es zs ∧ ds.length = n ∧ es.length = m ∧ XOK T c W σ M H2 E ∧ k ds es M Q' E ∧
      ∀ r M' v' H', Q' r M' → RV c M H2 M' H' r v' → Q v' H' := by
  refine ⟨c, ρ, M, _, E, ok, s, x, t, fun ds M1 vs H1 l1 hk k1 m1 d1 => ?_⟩
  refine ⟨c, ρ, M1, _, E, ok, s.keep k1 m1, x.after k1, hk, fun es M2 zs H2 l2 hk2 k2 m2 d2 => ?_⟩
  exact ⟨c, M2, ds, es, Q', E, ok, m2, Den.keep (k1.trans k2) _ _ dd, DenL.keep k2 _ _ d1, d2, l1, l2, (x.after k1).after k2, hk2, fun r M' v' H' h1 h2 => q r M' v' H' h1 (h2.after (k1.trans k2))⟩
/-- o.m(..) -/
theorem r_meth {j i cn : Nat} {x : Str} {ps at_ : List Str} {F : List Form} {sp : DSp} {o : Expr} {es : List Expr} {kws : List Keyword} {ks : List Str} {to : DTE} {ta tk : DTA} {apos pos : Pos} (hK : X.K = S.K) (en : MtEnt X.prog X.w X.mg X.base S T j cn x ps F sp) (hcl : Cls S.K (S.cA cn)) (hat : x ∉ at_) (hj : j ≤ i) (hr : Room i X.A) (tw : Takes X W)
    (hb : noSuper o = true) (hl : lineB apos pos = true) (hfew : es.length + kws.length < 20) (ho : PE X o (lE S T W to))
    (ha : PA X es (lA S T W es.length ta)) (hk : PK X kws (lA S T W ks.length tk)) (ha0 : es = [] → ∀ ρ M Q E, ta ρ M Q E → Q [] M) (hk0 : kws = [] → ∀ ρ M Q E, tk ρ M Q E → Q [] M) (hs : es.all notStar = true) (hn : kwNm ks kws) (hF : (es.length + 1, ks) ∈ F) :
    PE X (.Call (.Attribute o x apos) es kws pos) (lE S T W fun ρ M Q E => to ρ M (fun r M1 => methS r.d M1 cn at_ (ta ρ M1 (fun ds M2 => tk ρ M2 (fun zs M3 => sp (r.d :: kwArgs (ps.drop 1) ds ks zs) M3 Q E) E) E)) E) := by
  refine ⟨fun pins s σ H Q I h => ?_⟩
  obtain ⟨f, fd, FK, mf, bs⟩ := en.ex
  have b := bs _ hF
  have hk1 : kws = [] → ks.length = 0 := fun e => by subst e; cases ks with | nil => rfl | cons _ _ => exact hn.elim
  refine meth_at hb hl hs hn hfew ?_
  obtain ⟨c, ρ, M, Q', E, ok, sr, xo, t, q⟩ := h
  refine thn (ho.run pins s σ H (fun v H1 => ∃ (c : Cn) (ρ : Sd) (M1 : Mem) (d : D) (Q' : QR) (E : EX) (xs : List D), S.ok c ∧ SR c ρ σ M1 H1 ∧ XOK T c W σ M1 H1 E ∧ Den c M1 H1 d v ∧ asI M1 d = some (cn, at_, xs) ∧
      ta ρ M1 (fun ds M2 => tk ρ M2 (fun zs M3 => sp (d :: kwArgs (ps.drop 1) ds ks zs) M3 Q' E) E) E ∧ ∀ r M' v' H', Q' r M' → RV c M1 H1 M' H' r v' → Q v' H') I ⟨c, ρ, M, _, E, ok, sr, xo, t, fun r M1 v H1 hk rv => ?_⟩) fun ov s1 ⟨v, H1, I1, rv, c, ρ, M1, d, Q', E, xs, ok, sr, xo, dd, ei, ht, q⟩ => ?_
  · obtain ⟨k1, m1, d1⟩ := rv.plain
    unfold methS at hk
    cases e : asI M1 r.d with
    | none => rw [e] at hk; exact hk.elim
    | some y =>
      obtain ⟨c', ns, xs⟩ := y
      rw [e] at hk
      obtain ⟨⟨rfl, rfl⟩, hk⟩ := hk
      exact ⟨c, ρ, M1, r.d, Q', E, xs, ok, sr.keep k1 m1, xo.after k1, d1, e, hk, fun r' M' v' H' h1 h2 => q r' M' v' H' h1 (h2.after k1)⟩
  · intro pl
    obtain ⟨a, dx, vs0, rfl, ha', r0, l0⟩ := asI_at sr.mem dd ei
    rw [ok.2] at ha'
    obtain rfl : ov = Value.ref a := rv
    have mf' : Meth X.K (S.cA cn) x f := by rw [hK]; exact mf
    have cl' : Cls X.K (S.cA cn) := by rw [hK]; exact hcl
    refine getmeth_ok I1 ha' cl' mf' (zip_none hat) ?_
    have h3 := lA_two2 (d := d) (v := V.ref a) (n := es.length) (m := ks.length) ok sr xo dd ht q
    refine args_g (first := [.ref a]) ha hk hs hn mf'.kp (fun e => ?_) (fun e => ?_) I1 h3
      (fun us ws s2 vs zs H2 I2 r rz ⟨c, M, ds, es', Q', E, ok, m, dd2, d1, d2, l1, l2, xo, hsp, q⟩ => ?_)
    · subst e; exact fun σ H Q h => lA_nil0 (ha0 rfl) h
    · intro σ H Q h
      rw [hk1 e] at h
      exact lA_nil0 (hk0 e) h
    · have lu : us.length = es.length := by rw [← r.length, ← d1.length, l1]
      have lw : ws.length = ks.length := by rw [← rz.length, ← d2.length, l2]
      have bb := b.to s2 (.ref a :: us) ws (by rw [← hK]; exact I2.kIn) (by rw [List.length_cons, lu]) lw
      rw [kwArgs_cons] at bb
      have len := b.len (d :: ds) es' (by rw [List.length_cons, l1]) l2
      rw [kwArgs_cons] at len
      refine run_g (E := fun cls d H => W cls d σ H) (by rw [hK]; exact FK) (hr.mono hj) (passAt tw σ) I2 bb (.cons (show RelV (V.ref a) (Value.ref a) from rfl) (vals_kw r rz)) ?_
      exact ⟨c, M, d :: kwArgs (ps.drop 1) ds ks es', Q', E, ok, m, DenL.cons dd2 (dens_kw d1 d2), len, hsp, q, xo⟩
end
end PL
/-! ### own errors that are made -/
namespace PL
open PySem PySem.Spec PyProof.Rows L2
/-- an error's making: its values under its names -/
def spXi (K : PySem.W.Frag) (names : List Str) : Sp := fun vs H Q _ => ∃ (a C : Addr) (ys : List V), vs = .ref a :: ys ∧ ys.length = names.length ∧ OexC K C ∧ (∀ f ∈ names, PySem.W.findIn K (.ref C) f = some none) ∧ H a = some (exo a C none) ∧
  ∀ (dx : Addr) (H2 : Hp), H dx = none → dx ≠ a → H2 a = some (exo a C (some dx)) → H2 dx = some (exd dx (names.zip ys).reverse) → (∀ b, b ≠ a → b ≠ dx → H2 b = H b) → Q .non H2
structure XrEnt (P : Program) (w : World) (mg : Str → Option Value) (base : Heap) (S : Cs) (T : Tb) (j : Nat) (k : Nat) (x : Str) (n : Nat) : Prop where
  ex : ∃ (fI : Addr) (fd : FuncData) (ps names : List Str), OexC S.K (S.cA k) ∧ PySem.W.findIn S.K (.ref (S.cA k)) "__init__" = some (some (.ref fI)) ∧ PySem.W.typeIn S.K (.ref fI) = some (.type "function") ∧
    FnOk P w S.K mg base (L2.CX P w) j fI fd ps (spXi S.K names) ∧ Binds S.K fd ps [] ∧ mg x = some (.ref (S.cA k)) ∧ T.xf k = names.reverse ∧ names.length = n ∧ T.xc k = true ∧ ∀ f ∈ names, PySem.W.findIn S.K (.ref (S.cA k)) f = some none
section
variable {P : Program} {w : World} {K : PySem.W.Frag} {mg : Str → Option Value} {base : Heap} {f : Addr} {fd : FuncData} {st : Stmt} {qual x y : Str} {q1 q2 q3 q4 r1 r2 r3 r4 : Pos}
theorem lv {N ps : List Str} {sc : Scope} (Sc : FnScope N ps sc) {X : Cx} (hN : X.N = N) (hs : X.env.scope = sc) {i : Nat} {z : Str} {pos : Pos} (hi : N[i]? = some z) (hp : z ∈ ps) (hd : (z == ("__debug__" : Str)) = false) (hc : (z == ("__classdict__" : Str)) = false) : PE X (.Name z pos) (tVar i) := by
  refine pe_var (by rw [hN]; exact hi) ?_ hd hc
  rw [hs]
  rcases Sc.par z hp with h | h
  · exact .inl h
  · exact .inr (.inl h)
theorem xi_one (F : L2.Fun K "__init__" qual st f fd) (Sc : FnScope ["self", x] ["self", x] (defScope st)) (hb : defBody st = [.Assign [.Attribute (.Name "self" q1) x q2] (.Name x q3) q4]) (hd : (x == ("__debug__" : Str)) = false) (hc : (x == ("__classdict__" : Str)) = false) :
    FnOk P w K mg base (L2.CX P w) 1 f fd ["self", x] (spXi K [x]) := by
  refine F.okX Sc (fun vs H Q E h => ?_) (fun cdv A outer s H vs Q E hr h => ?_)
  · obtain ⟨a, C, ys, rfl, hl, _⟩ := h
    simpa using hl
  · obtain ⟨a, C, ys, rfl, hl, T, hno, ha, q⟩ := h
    match ys, hl with
    | [v], _ =>
      rw [hb]
      refine ⟨_, pss_one (ps_ost (lv (i := 0) Sc rfl rfl rfl (by simp) (by decide) (by decide)) (lv (i := 1) Sc rfl rfl rfl (by simp) hd hc)), ?_⟩
      refine ⟨v, rfl, .ref a, rfl, a, C, rfl, T, hno x (by simp), .inl ⟨ha, fun dx h1 h2 => ?_⟩⟩
      refine q dx _ h1 h2 upd_same ?_ fun b n1 n2 => ?_
      · rw [upd_ne h2, upd_same]; rfl
      · rw [upd_ne n1, upd_ne n2]
theorem xi_two (F : L2.Fun K "__init__" qual st f fd) (Sc : FnScope ["self", x, y] ["self", x, y] (defScope st)) (hb : defBody st = [.Assign [.Attribute (.Name "self" q1) x q2] (.Name x q3) q4, .Assign [.Attribute (.Name "self" r1) y r2] (.Name y r3) r4])
    (hd : (x == ("__debug__" : Str)) = false) (hc : (x == ("__classdict__" : Str)) = false) (hd2 : (y == ("__debug__" : Str)) = false) (hc2 : (y == ("__classdict__" : Str)) = false) :
    FnOk P w K mg base (L2.CX P w) 1 f fd ["self", x, y] (spXi K [x, y]) := by
  refine F.okX Sc (fun vs H Q E h => ?_) (fun cdv A outer s H vs Q E hr h => ?_)
  · obtain ⟨a, C, ys, rfl, hl, _⟩ := h
    simpa using hl
  · obtain ⟨a, C, ys, rfl, hl, T, hno, ha, q⟩ := h
    match ys, hl with
    | [v, u], _ =>
      rw [hb]
      refine ⟨_, pss_cons (ps_ost (lv (i := 0) Sc rfl rfl rfl (by simp) (by decide) (by decide)) (lv (i := 1) Sc rfl rfl rfl (by simp) hd hc)) (pss_one (ps_ost (lv (i := 0) Sc rfl rfl rfl (by simp) (by decide) (by decide)) (lv (i := 2) Sc rfl rfl rfl (by simp) hd2 hc2))), ?_⟩
      refine ⟨v, rfl, .ref a, rfl, a, C, rfl, T, hno x (by simp), .inl ⟨ha, fun dx h1 h2 => ?_⟩⟩
      refine ⟨u, rfl, .ref a, rfl, a, C, rfl, T, hno y (by simp), .inr ⟨dx, [(x, v)], upd_same, (by rw [upd_ne h2, upd_same]), (by show 1 ≤ 900; decide), ?_⟩⟩
      refine q dx _ h1 h2 ?_ ?_ fun b n1 n2 => ?_
      · rw [upd_ne (Ne.symm h2), upd_same]
      · rw [upd_same]; rfl
      · rw [upd_ne n2, upd_ne n1, upd_ne n2]
end
end PL
/-! ### enumerate(a tuple) -/
namespace PL
open PySem PySem.Spec PyProof.Rows L2
theorem meets_enumerate_newT (l : Addr) (items : Array Value) (n : Nat) (dct : Option Addr) (sl : Array (Option Value)) :
    Meets (Builtin.«enumerate.__new__» ⟨[.type "enumerate", .ref l], []⟩) (fun _ R s => s.heap.get? l = some { cls := .type "tuple", dict := dct, data := .seq items n, slots := sl } ∧
      R (.ok (.ret (.ref (s.heap.push { cls := .type "tuple_iterator", data := .fields #[.ref l, .int 0 0] }).objs.size)))
        { s with heap := (s.heap.push { cls := .type "tuple_iterator", data := .fields #[.ref l, .int 0 0] }).push { cls := .type "enumerate", data := .fields #[.none, .bool false, .ref s.heap.objs.size, rawInt 0, .none, .none] } }) :=
  .of_wp fun prog w A R s h => by
    obtain ⟨hp, g, d, tk, os⟩ := s; obtain ⟨hl, h⟩ := h
    have hsub := sub_enumerate
    have hL : Heap.IsTuple (Shared.heap ⟨hp, g, d, tk, os⟩) l items := ⟨_, hl, rfl, n, rfl⟩
    wp_walk using AutoSeq1.wpAny_loadPart' hl
    refine wpAny_stack_any fun st => wpAny_pure ?_
    split
    · rename_i c _ _ _ _ _
      cases (c == Value.type "enumerate")
      · wp_walk using AutoSeq1.wpAny_loadPart' hl, wpAny_pyIter_tuple hL
        exact ⟨_, rfl, h⟩
      · wp_walk using AutoSeq1.wpAny_loadPart' hl, wpAny_pyIter_tuple hL
        exact ⟨_, rfl, h⟩
    · wp_walk using AutoSeq1.wpAny_loadPart' hl, wpAny_pyIter_tuple hL
      exact ⟨_, rfl, h⟩
section
variable {prog : Program} {w : World} {A : Around} {E : Value → Shared → Prop} {s : Shared}
theorem call_enumerate_tuple {l : Addr} {items : Array Value} {Q : Value → Shared → Prop} (hL : s.heap.IsTuple l items)
    (h : ∀ h', IsEnum h' (s.heap.objs.size + 1) s.heap.objs.size 0 .none → h'.IsTupleIter s.heap.objs.size l 0 → h'.objs.size = s.heap.objs.size + 2 →
      (∀ b o, s.heap.get? b = some o → h'.get? b = some o) → Q (.ref (s.heap.objs.size + 1)) { s with heap := h' }) :
    wpAny (model prog w) A (call (.type "enumerate") [.ref l]) Q E s := by
  obtain ⟨⟨c, dct, dt, sl⟩, hl, hc, n, hd⟩ := hL
  replace hc : c = .type "tuple" := hc
  replace hd : dt = .seq items n := hd
  subst hc hd
  refine callType_new F.called_enumerate (by decide) (F.typeCall_enumerate_1 _) (F.newCall_enumerate_1 _) (fun obj => F.args_object_init_2 obj _) F.entry_enumerate_new
    (meets_enumerate_newT l items n dct sl) ⟨hl, ?_⟩
  have hz : (s.heap.push { cls := .type "tuple_iterator", data := .fields #[.ref l, .int 0 0] }).objs.size = s.heap.objs.size + 1 := Heap.size_push ..
  show _ ∧ _
  rw [hz]
  have he : IsEnum ((s.heap.push { cls := .type "tuple_iterator", data := .fields #[.ref l, .int 0 0] }).push
      { cls := .type "enumerate", data := .fields #[.none, .bool false, .ref s.heap.objs.size, rawInt 0, .none, .none] }) (s.heap.objs.size + 1) s.heap.objs.size 0 .none := by
    have := Heap.get?_push_size (s.heap.push { cls := .type "tuple_iterator", data := .fields #[.ref l, .int 0 0] })
      (o := { cls := .type "enumerate", data := .fields #[.none, .bool false, .ref s.heap.objs.size, rawInt 0, .none, .none] }) rfl
    rw [hz] at this; exact this
  refine ⟨⟨_, he, rfl⟩, h _ he ⟨_, Heap.get?_push_of_some _ (Heap.get?_push_size _ rfl), rfl, rfl⟩ (by rw [Heap.size_push, hz]) fun b o x => Heap.get?_push_of_some _ (Heap.get?_push_of_some _ x)⟩
end
/-- the tuple at a, each item in a new pair -/
def IteT (K : PySem.W.Frag) (a : Addr) : It :=
  ⟨fun i H => ∃ (xs : List V) (x : V), SqT K H a xs ∧ xs[i]? = some x, fun i H v H' => ∃ T x, v = .ref T ∧ H T = none ∧ H' = upd H T (.tup [.int (i : Nat), x]) ∧ ∀ xs, SqT K H a xs → xs[i]? = some x, fun i H => ∃ xs : List V, SqT K H a xs ∧ xs.length = i⟩
theorem turn_enumT {P : Program} {w : World} {K : PySem.W.Frag} {elts : List Expr} {kk : Nat} {tpos : Pos} (a e it : Addr) :
    Turn P w K (.Tuple elts kk tpos) (IteT K a) [e, it] e (fun i h => (∃ old, IsEnum h e it ((i : Nat) : Int) old) ∧ h.IsTupleIter it a i ∧ e ≠ it ∧ e ≠ a ∧ a ≠ it) where
  mem := by simp
  obj := fun i h st b hb => by
    obtain ⟨⟨old, he⟩, ⟨o, ho, hc, hd⟩, _⟩ := st
    have e' : b = e ∨ b = it := by simpa using hb
    rcases e' with z | z
    · rw [z]; exact ⟨_, he, fun v q => nomatch q⟩
    · rw [z]; exact ⟨o, ho, fun v q => by rw [hd] at q; cases q⟩
  keep := fun i h h' st k => let ⟨⟨old, he⟩, hi, hne⟩ := st; ⟨⟨old, k e (by simp) _ he⟩, hi.at fun o q => k it (by simp) o q, hne⟩
  item := by
    intro X hP hw hK hc i pins s σ H E I hf st hg
    subst hP hw hK
    obtain ⟨⟨old, he⟩, hit, hne, hea, hai⟩ := st
    obtain ⟨xs, x, hq, hx⟩ := hg
    obtain ⟨its, rv, p, hz⟩ := I.tuple hq
    obtain ⟨u, hu, ru⟩ := rv.get hx
    have hel : e < s.heap.objs.size := Heap.lt_size he
    have hil : it < s.heap.objs.size := by obtain ⟨_, q, _⟩ := hit; exact Heap.lt_size q
    have hlt : i < its.toArray.size := by
      have := (List.getElem?_eq_some_iff.mp hu).1
      simpa using this
    refine wpAny_pyNext_enum_itemD (Draws.tuple (A := X.A.in1) (show X.A.in1.handled = none from I.ok.hd hc) it a hai its.toArray) he ⟨hit, p⟩ hlt hne (by simp [hne, hea]) fun x' h' tk hx' ho hit' hT hsz hk => ?_
    have ex : x' = u := by
      have z : its.toArray[i]? = some u := by simpa using hu
      rw [z] at hx'; exact (Option.some.inj hx').symm
    subst ex
    refine ⟨_, rfl, wpAny_letOwnedTupleGo_enum (s := { s with heap := h', toks := tk + 1 }) ho fun h'' he' sb => ?_⟩
    have hT2 : h''.get? s.heap.objs.size = some { cls := .type "tuple", data := .seq #[.int i tk, x'] } := (sb.2 _ (Nat.ne_of_gt hel)).trans hT
    have new : ObjOk X.prog X.w (upd H s.heap.objs.size (.tup [.int (i : Nat), x])) h'' s.heap.objs.size (.tup [.int (i : Nat), x]) :=
      ⟨by show 2 ≤ sizeLine; decide, [.int i tk, x'], .cons ⟨_, rfl⟩ (.cons ru .nil), ⟨_, hT2, rfl, _, rfl⟩⟩
    have I1 : Inv X pins σ (upd H s.heap.objs.size (.tup [.int (i : Nat), x])) { s with heap := h'', toks := tk + 1 } :=
      I.turnedNew (ch := [e, it]) (fun b ob hb q => (sb.2 b (fun z => hb (by simp [z]))).trans (hk b ob (fun z => hb (by simp [z])) (fun z => hb (by simp [z])) q)) hf (Nat.le_refl _) new
    refine ⟨.ref s.heap.objs.size, _, I1, rfl, ⟨_, x, rfl, I.hok.fresh (Nat.le_refl _), rfl, fun ys hy => by rw [I.tuple_inj hy hq]; exact hx⟩, ⟨⟨x', ?_⟩, hit'.1.at fun o q => (sb.2 it (Ne.symm hne)).trans q, hne, hea, hai⟩, fun b hb => ?_⟩
    · have e1 : ((i + 1 : Nat) : Int) = (i : Int) + 1 := by omega
      rw [e1]; exact he'
    · have hb' : b < s.heap.objs.size := by
        have e' : b = e ∨ b = it := by simpa using hb
        rcases e' with z | z
        · rw [z]; exact hel
        · rw [z]; exact hil
      rw [upd_ne (Nat.ne_of_lt hb')]
      exact (hf b hb).1
  done := by
    intro X hP hw hK hc i pins s σ H E I hf st hg
    subst hP hw hK
    obtain ⟨⟨old, he⟩, hit, hne, hea, hai⟩ := st
    obtain ⟨xs, hq, hx⟩ := hg
    obtain ⟨its, rv, p, hz⟩ := I.tuple hq
    obtain ⟨f0, f1, f2, f3, f4, f5⟩ := hf it (by simp)
    have hl := rv.length
    have hi : its.toArray.size = i := by simp; omega
    subst hi
    exact wpAny_pyNext_enum_endD (Draws.tuple (A := X.A.in1) (show X.A.in1.handled = none from I.ok.hd hc) it a hai its.toArray) he ⟨hit, p⟩ fun h' eb => ⟨rfl, I.turned (t' := s.toks) (fun b o hb q => eb b o hb q) f0 f1 f3 f4 f5⟩
  self := fun A i s Q E st h => let ⟨⟨_, he⟩, _⟩ := st; wpAny_pyIter_enum he h
/-- enumerate(x), x a list or a tuple -/
def iEnumA (K : PySem.W.Frag) (te : TE) : TI := fun σ H R => te σ H fun v H1 => ∃ a xs, v = .ref a ∧ ((SqL K H1 a xs ∧ R (Ite K a) H1) ∨ (SqT K H1 a xs ∧ R (IteT K a) H1))
theorem pi_enumA {X : Cx} {e : Expr} {te : TE} {p pos tpos : Pos} {elts : List Expr} {kk : Nat} (hg : Gl X "enumerate") (hm : X.mg "enumerate" = none) (he : PE X e te) (hn : notStar e = true) :
    PI X (.Tuple elts kk tpos) (.Call (.Name "enumerate" p) [e] [] pos) (iEnumA X.K te) := by
  refine ⟨fun pins s σ H R I h => ?_⟩
  refine Call_ (ld_blt I hg hm boot_enumerate (PyProof.Rows.callWith_type1 (thn ((pa_cons he pa_nil (star_cons hn)).run pos pins s σ H (fun vs H1 => match vs with | [v] => ∃ a xs, v = .ref a ∧ ((SqL X.K H1 a xs ∧ R (Ite X.K a) H1) ∨ (SqT X.K H1 a xs ∧ R (IteT X.K a) H1)) | _ => False) I h) fun us s1 ⟨vs, H1, I1, r1, q0⟩ => ?_) (star_cons hn) rfl))
  cases r1 with
  | nil => exact q0.elim
  | cons r rr =>
    cases rr with
    | cons _ _ => exact q0.elim
    | nil =>
    obtain ⟨a, xs, ea, q1⟩ := q0
    subst ea
    cases r
    have f2 : ∀ b ∈ [s1.heap.objs.size + 1, s1.heap.objs.size], FpOk X pins H1 b := fun b hb => by
      have e' : b = s1.heap.objs.size + 1 ∨ b = s1.heap.objs.size := by simpa using hb
      have hle : s1.heap.objs.size ≤ b := by
        rcases e' with z | z
        · rw [z]; exact Nat.le_add_right _ _
        · rw [z]; exact Nat.le_refl _
      exact I1.fpOk hle (I1.hok.fresh hle)
    rcases q1 with ⟨hq, q⟩ | ⟨hq, q⟩
    · obtain ⟨its, rv, p', hz⟩ := I1.list hq
      refine call_enumerate_list p'.isList fun h' he hit hsz hk => wpAny_pyIter_enum he ?_
      have I2 : Inv X pins σ H1 { s1 with heap := h' } := I1.kept (t' := s1.toks) hk
      exact ⟨s1.heap.objs.size + 1, [s1.heap.objs.size + 1, s1.heap.objs.size], _, _, H1, rfl, I2, turn_enum a (s1.heap.objs.size + 1) s1.heap.objs.size, ⟨⟨.none, he⟩, hit, Nat.succ_ne_self _⟩, f2, q⟩
    · obtain ⟨its, rv, p', hz⟩ := I1.tuple hq
      have ha : a < s1.heap.objs.size := by obtain ⟨_, z, _⟩ := p'; exact Heap.lt_size z
      refine call_enumerate_tuple p' fun h' he hit hsz hk => wpAny_pyIter_enum he ?_
      have I2 : Inv X pins σ H1 { s1 with heap := h' } := I1.kept (t' := s1.toks) hk
      exact ⟨s1.heap.objs.size + 1, [s1.heap.objs.size + 1, s1.heap.objs.size], _, _, H1, rfl, I2, turn_enumT a (s1.heap.objs.size + 1) s1.heap.objs.size, ⟨⟨.none, he⟩, hit, Nat.succ_ne_self _, Nat.ne_of_gt (Nat.lt_succ_of_lt ha), Nat.ne_of_lt ha⟩, f2, q⟩
end PL
/-! ### what is walked -/
namespace PL
open PySem PySem.Spec PyProof.Rows L2
/-- the iterator J gives these items while live holds -/
def WalkD (c : Cn) (items : List D) (live : Mem → Prop) (M1 : Mem) (H1 : Hp) (J : It) : Prop := items.length ≤ sizeLine ∧ ∀ c' M' H', KeepG c M1 H1 c' M' H' → MR c' M' H' → live M' →
  (∀ i, i < items.length → J.go i H') ∧ J.stop items.length H' ∧ ∀ i x H'', i < items.length → J.yld i H' x H'' → ∃ d, items[i]? = some d ∧ Keep c' M' H' M' H'' ∧ MR c' M' H'' ∧ Den c' M' H'' d x
abbrev DTK := Sd → Mem → (List D → (Mem → Prop) → Mem → Prop) → EX → Prop
def lI (S : Cs) (T : Tb) (W : WX) (t : DTK) : TI := fun σ H R => ∃ (c : Cn) (ρ : Sd) (M : Mem) (K : List D → (Mem → Prop) → Mem → Prop) (E : EX), S.ok c ∧ SR c ρ σ M H ∧ XOK T c W σ M H E ∧ t ρ M K E ∧
  ∀ items live M1 H1 J, K items live M1 → Keep c M H M1 H1 → MR c M1 H1 → WalkD c items live M1 H1 J → R J H1
theorem PI.imp {X : Cx} {tg e : Expr} {t t' : TI} (h : PI X tg e t) (i : ∀ σ H Q, t' σ H Q → t σ H Q) : PI X tg e t' := ⟨fun pins s σ H Q I q => h.run pins s σ H Q I (i σ H Q q)⟩
/-- a list, a tuple, a text -/
def iAny (K : PySem.W.Frag) (te : TE) : TI := fun σ H R => te σ H fun v H1 => (∃ a, v = .ref a ∧ (∃ xs, SqL K H1 a xs) ∧ R (Itl K a) H1) ∨ (∃ a, v = .ref a ∧ (∃ xs, SqT K H1 a xs) ∧ R (Itt K a) H1) ∨ ∃ x, v = .str x ∧ R (Its x) H1
theorem pi_any {X : Cx} {tg l : Expr} {tl : TE} (hl : PE X l tl) : PI X tg l (iAny X.K tl) := by
  refine ⟨fun pins s σ H R I h => ?_⟩
  refine thn (hl.run pins s σ H _ I h) fun v s1 ⟨x, H1, I1, r1, q1⟩ => ?_
  rcases q1 with ⟨a, e, ⟨xs, hq⟩, q⟩ | ⟨a, e, ⟨xs, hq⟩, q⟩ | ⟨x, e, q⟩
  · subst e
    cases r1
    obtain ⟨its, rv, p, hz⟩ := I1.list hq
    refine wpAny_pyIter_list p.isList ?_
    refine ⟨s1.heap.objs.size, [s1.heap.objs.size], _, _, H1, rfl, I1.kept (t' := s1.toks) fun b o e => Heap.get?_push_of_some _ e, turn_list a _, ⟨_, Heap.get?_push_size _ rfl, rfl, rfl⟩, fun b hb => ?_, q⟩
    have e : b = s1.heap.objs.size := by simpa using hb
    subst e
    exact I1.fpOk (Nat.le_refl _) (I1.hok.fresh (Nat.le_refl _))
  · subst e
    cases r1
    obtain ⟨its, rv, p, hz⟩ := I1.tuple hq
    refine wpAny_pyIter_tuple (show s1.heap.IsTuple a its.toArray from p) ?_
    refine ⟨s1.heap.objs.size, [s1.heap.objs.size], _, _, H1, rfl, I1.kept (t' := s1.toks) fun b o e => Heap.get?_push_of_some _ e, turn_tuple a _, ⟨_, Heap.get?_push_size _ rfl, rfl, rfl⟩, fun b hb => ?_, q⟩
    have e : b = s1.heap.objs.size := by simpa using hb
    subst e
    exact I1.fpOk (Nat.le_refl _) (I1.hok.fresh (Nat.le_refl _))
  · subst e
    obtain ⟨t, rfl⟩ := r1
    cases ha : x.cps.all (· < 128)
    · exact wpAny_pyIter_wide ha (pi_one (tk := s1.toks) I1 _ (turn_str _ x t "str_iterator" (.inr rfl)) ⟨_, Heap.get?_push_size _ rfl, rfl, rfl⟩ q)
    · exact wpAny_pyIter_ascii ha (pi_one (tk := s1.toks) I1 _ (turn_str _ x t "str_ascii_iterator" (.inl rfl)) ⟨_, Heap.get?_push_size _ rfl, rfl, rfl⟩ q)
section
variable {c : Cn} {M1 : Mem} {H1 : Hp} {K : PySem.W.Frag}
/-- a list that stands, or stands as live says -/
theorem walkD_list {items : List D} {live : Mem → Prop} {a : Addr} (hK : c.K = K) (hz : items.length ≤ sizeLine) (h : ∀ c' M' H', KeepG c M1 H1 c' M' H' → MR c' M' H' → live M' → ∃ vs, SqL K H' a vs ∧ DenL c' M' H' items vs) : WalkD c items live M1 H1 (Itl K a) := by
  refine ⟨hz, fun c' M' H' k m l => ?_⟩
  obtain ⟨vs, r, q⟩ := h c' M' H' k m l
  have w := walk_list (K := K) (a := a) (xs := vs)
  have sq : SqL K H' a vs := r
  rw [q.length]
  refine ⟨fun i hi => w.goes i H' hi sq, w.stops H' sq, fun i x H'' hi y => ?_⟩
  obtain ⟨e, hx⟩ := w.yields i H' x H'' hi sq y
  subst e
  obtain ⟨d, hd, dd⟩ := q.get' hx
  exact ⟨d, hd, Keep.refl _ _ _, m, dd⟩
theorem walkD_tup {items : List D} {live : Mem → Prop} {a : Addr} {vs : List V} (hK : c.K = K) (hz : items.length ≤ sizeLine) (h : SqTF c M1 H1 a vs) (q : DenL c M1 H1 items vs) : WalkD c items live M1 H1 (Itt K a) := by
  refine ⟨hz, fun c' M' H' k m l => ?_⟩
  have q' := DenL.keepG k _ _ q
  have sq := (h.keepG k).sq
  rw [k.eK, hK] at sq
  have w := walk_tup (K := K) (a := a) (xs := vs)
  rw [q.length]
  refine ⟨fun i hi => w.goes i H' hi sq, w.stops H' sq, fun i x H'' hi y => ?_⟩
  obtain ⟨e, hx⟩ := w.yields i H' x H'' hi sq y
  subst e
  obtain ⟨d, hd, dd⟩ := q'.get' hx
  exact ⟨d, hd, Keep.refl _ _ _, m, dd⟩
theorem walkD_str {z : Str} {live : Mem → Prop} (hz : z.cps.size ≤ sizeLine) : WalkD c (z.cps.toList.map fun k => D.str ⟨#[k]⟩) live M1 H1 (Its z) := by
  refine ⟨by rw [List.length_map, Array.length_toList]; exact hz, fun c' M' H' k m l => ?_⟩
  have w := walk_str (z := z)
  rw [List.length_map, Array.length_toList]
  refine ⟨fun i hi => w.goes i H' hi trivial, w.stops H' trivial, fun i x H'' hi y => ?_⟩
  obtain ⟨e, ch, hk, hx⟩ := w.yields i H' x H'' hi trivial y
  subst e hx
  refine ⟨.str ⟨#[ch]⟩, ?_, Keep.refl _ _ _, m, by simp only [Den]⟩
  rw [List.getElem?_map, Array.getElem?_toList, hk]
  rfl
theorem walkD_range {a b : Int} {live : Mem → Prop} (h : b - a ≤ 16777216) : WalkD c (rangeD a b) live M1 H1 (Itr a (b - a).toNat) := by
  have hs : sizeLine = 16777216 := sizeLine_eq
  have hl : (rangeD a b).length = (b - a).toNat := by unfold rangeD; rw [List.length_map, List.length_range]
  refine ⟨by rw [hl]; omega, fun c' M' H' k m l => ?_⟩
  have w := walk_range (lo := a) (n := (b - a).toNat)
  rw [hl]
  refine ⟨fun i hi => w.goes i H' hi trivial, w.stops H' trivial, fun i x H'' hi y => ?_⟩
  obtain ⟨e, hx⟩ := w.yields i H' x H'' hi trivial y
  subst e hx
  refine ⟨.int (a + i), ?_, Keep.refl _ _ _, m, by simp only [Den]⟩
  unfold rangeD
  rw [List.getElem?_map, List.getElem?_range hi]
  rfl
/-- a new pair -/
theorem pair_new {M' : Mem} {H' : Hp} {T : Addr} {x y : V} {d e : D} (m : MR c M' H') (hT : H' T = none) (dx : Den c M' H' d x) (dy : Den c M' H' e y) :
    Keep c M' H' M' (upd H' T (.tup [x, y])) ∧ MR c M' (upd H' T (.tup [x, y])) ∧ Den c M' (upd H' T (.tup [x, y])) (.tup [d, e]) (.ref T) := by
  have k := Keep.new (o := .tup [x, y]) m hT
  refine ⟨k, MR.new m hT, ?_⟩
  simp only [Den]
  exact ⟨T, [x, y], rfl, .inl ⟨m.nz hT, m.none hT, .inl upd_same⟩, by show 2 ≤ sizeLine; decide, DenL.keep k _ _ (DenL.cons dx (DenL.cons dy DenL.nil))⟩
theorem enumD_get {xs : List D} {i : Nat} {x : D} (h : xs[i]? = some x) : (enumD xs)[i]? = some (.tup [.int (i : Nat), x]) := by
  unfold enumD
  rw [List.getElem?_map, List.getElem?_range (List.getElem?_eq_some_iff.mp h).1]
  simp [List.getD, h]
theorem enumD_len (xs : List D) : (enumD xs).length = xs.length := by
  unfold enumD
  rw [List.length_map, List.length_range]
end
section
variable {X : Cx} {S : Cs} {T : Tb} {W : WX} {ta tb : DTE} {tg e e2 : Expr} {p pos : Pos}
theorem r_seq (hK : X.K = S.K) (he : PE X e (lE S T W ta)) : PI X tg e (lI S T W fun ρ M K E => ta ρ M (fun x M1 => seqS x.d M1 fun xs live => K xs live M1) E) := by
  refine PI.imp (pi_any he) fun σ H R ⟨c, ρ, M, K, E, ok, s, x, t, q⟩ => ⟨c, ρ, M, _, E, ok, s, x, t, fun r M1 v H1 hk rv => ?_⟩
  obtain ⟨k1, m1, d1⟩ := rv.plain
  have hk' : c.K = X.K := ok.1.trans hK.symm
  have hs : sizeLine = 16777216 := sizeLine_eq
  generalize r.d = d at hk d1
  unfold seqS at hk
  cases d with
  | tup xs =>
    simp only [Den] at d1
    obtain ⟨a, vs, rfl, t, l, r⟩ := d1
    have sq := t.sq
    rw [hk'] at sq
    exact .inr (.inl ⟨a, rfl, ⟨vs, sq⟩, q _ _ _ _ _ hk k1 m1 (walkD_tup hk' l t r)⟩)
  | lst xs =>
    simp only [Den] at d1
    obtain ⟨a, vs, rfl, t, l, r⟩ := d1
    have sq := t.sq
    rw [hk'] at sq
    refine .inl ⟨a, rfl, ⟨vs, sq⟩, q _ _ _ _ _ hk k1 m1 (walkD_list hk' l fun c' M' H' k m _ => ⟨vs, ?_, DenL.keepG k _ _ r⟩)⟩
    have sq' := (t.keepG k).sq
    rw [k.eK, hk'] at sq'
    exact sq'
  | str z =>
    simp only [Den] at d1
    subst d1
    obtain ⟨hz, hk⟩ := hk
    exact .inr (.inr ⟨z, rfl, q _ _ _ _ _ hk k1 m1 (walkD_str hz)⟩)
  | ref p =>
    simp only at hk
    simp only [Den] at d1
    subst d1
    cases hp : M1 p with
    | none => rw [hp] at hk; exact hk.elim
    | some o =>
      rw [hp] at hk
      cases o with
      | lst xs =>
        obtain ⟨vs, hv, l, r⟩ := cell_at m1 hp
        refine .inl ⟨p, rfl, ⟨vs, .inl (.inl hv)⟩, q _ _ _ _ _ hk k1 m1 (walkD_list hk' l fun c' M' H' k m hl => ?_)⟩
        obtain ⟨vs', hv', _, r'⟩ := cell_at m hl
        exact ⟨vs', .inl (.inl hv'), r'⟩
      | _ => exact hk.elim
  | _ => exact hk.elim
theorem rg_of {ds : List D} {K : List D → Prop} (h : rgS ds K) : (∃ n, ds = [.int n] ∧ (-(2 ^ 62) ≤ n ∧ n ≤ 16777216) ∧ K (rangeD 0 n)) ∨ ∃ a b, ds = [.int a, .int b] ∧ (-(2 ^ 62) ≤ a ∧ a < 2 ^ 62 ∧ -(2 ^ 62) ≤ b ∧ b < 2 ^ 62 ∧ b - a ≤ 16777216) ∧ K (rangeD a b) := by
  unfold rgS at h
  split at h
  · exact .inl ⟨_, rfl, h⟩
  · exact .inr ⟨_, _, rfl, h⟩
  · exact h.elim
theorem r_range1 {ta : DTA} (hg : Gl X "range") (hm : X.mg "range" = none) (hn : notStar e = true) (ha : PA X [e] (lA S T W 1 ta)) : PI X tg (.Call (.Name "range" p) [e] [] pos) (lI S T W fun ρ M K E => ta ρ M (fun ds M1 => rgS ds fun xs => K xs (fun _ => True) M1) E) := by
  refine PI.imp (pi_range1 hg hm ha (star_cons hn)) fun σ H R ⟨c, ρ, M, K, E, ok, s, x, t, q⟩ => ⟨c, ρ, M, _, E, ok, s, x, t, fun ds M1 vs H1 hl hk k1 m1 d1 => ?_⟩
  rcases rg_of hk with ⟨n, rfl, hb, hk⟩ | ⟨a, b, rfl, _⟩
  · obtain ⟨v, rfl, dv⟩ := d1.one
    simp only [Den] at dv
    subst dv
    have w := walkD_range (c := c) (M1 := M1) (H1 := H1) (a := 0) (b := n) (live := fun _ => True) (by omega)
    rw [Int.sub_zero] at w
    exact ⟨n, rfl, hb.1, by omega, q _ _ _ _ _ hk k1 m1 w⟩
  · simp at hl
theorem r_range2 {ta : DTA} (hg : Gl X "range") (hm : X.mg "range" = none) (hn : notStar e = true) (hn2 : notStar e2 = true) (ha : PA X [e, e2] (lA S T W 2 ta)) : PI X tg (.Call (.Name "range" p) [e, e2] [] pos) (lI S T W fun ρ M K E => ta ρ M (fun ds M1 => rgS ds fun xs => K xs (fun _ => True) M1) E) := by
  refine PI.imp (pi_range2 hg hm ha (by rw [star_cons hn, star_cons hn2]; rfl) (by rw [star_cons hn2]; rfl)) fun σ H R ⟨c, ρ, M, K, E, ok, s, x, t, q⟩ => ⟨c, ρ, M, _, E, ok, s, x, t, fun ds M1 vs H1 hl hk k1 m1 d1 => ?_⟩
  rcases rg_of hk with ⟨n, rfl, _⟩ | ⟨a, b, rfl, hb, hk⟩
  · simp at hl
  · obtain ⟨v, w, rfl, dv, dw⟩ := d1.two
    simp only [Den] at dv dw
    subst dv dw
    exact ⟨a, b, rfl, ⟨hb.1, hb.2.1, hb.2.2.1, hb.2.2.2.1⟩, q _ _ _ _ _ hk k1 m1 (walkD_range hb.2.2.2.2)⟩
theorem r_enum {elts : List Expr} {kk : Nat} {tpos : Pos} (hK : X.K = S.K) (hg : Gl X "enumerate") (hm : X.mg "enumerate" = none) (hn : notStar e = true) (he : PE X e (lE S T W ta)) :
    PI X (.Tuple elts kk tpos) (.Call (.Name "enumerate" p) [e] [] pos) (lI S T W fun ρ M K E => ta ρ M (fun x M1 => optS (asS M1 x.d) fun xs => K (enumD xs) (fun M' => asS M' x.d = some xs) M1) E) := by
  refine PI.imp (pi_enumA hg hm he hn) fun σ H R ⟨c, ρ, M, K, E, ok, s, x, t, q⟩ => ⟨c, ρ, M, _, E, ok, s, x, t, fun r M1 v H1 hk rv => ?_⟩
  obtain ⟨k1, m1, d1⟩ := rv.plain
  have hk' : c.K = X.K := ok.1.trans hK.symm
  generalize r.d = d at hk d1
  obtain ⟨xs, e1, hk⟩ := opt_of hk
  by_cases z : ∃ ys, d = .tup ys
  · obtain ⟨ys, rfl⟩ := z
    simp only [asS] at e1; cases e1
    simp only [Den] at d1
    obtain ⟨a, vs, rfl, t, l, r⟩ := d1
    have sq := t.sq
    rw [hk'] at sq
    refine ⟨a, vs, rfl, .inr ⟨sq, q _ _ _ _ _ hk k1 m1 ⟨by rw [enumD_len]; exact l, fun c' M' H' k m _ => ?_⟩⟩⟩
    have sq' := (t.keepG k).sq
    rw [k.eK, hk'] at sq'
    have r' := DenL.keepG k _ _ r
    rw [enumD_len, r.length]
    refine ⟨fun i hi => ⟨vs, vs[i], sq', by simp [hi]⟩, ⟨vs, sq', rfl⟩, fun i x H'' hi y => ?_⟩
    obtain ⟨T0, w, rfl, hT, rfl, hw⟩ := y
    obtain ⟨d, hd, dd⟩ := r'.get' (hw vs sq')
    obtain ⟨a1, a2, a3⟩ := pair_new (d := .int (i : Nat)) (x := .int (i : Nat)) m hT (by simp only [Den]) dd
    exact ⟨_, enumD_get hd, a1, a2, a3⟩
  · have e' : asL M1 d = some xs := by
      cases d <;> first | exact e1 | exact absurd ⟨_, rfl⟩ z
    obtain ⟨a, vs, rfl, sq, r, l⟩ := asL_at hk' m1 d1 e'
    refine ⟨a, vs, rfl, .inl ⟨sq, q _ _ _ _ _ hk k1 m1 ⟨by rw [enumD_len]; exact l, fun c' M' H' k m hl => ?_⟩⟩⟩
    have d' := Den.keepG k _ _ d1
    have el : asL M' d = some xs := by
      cases d <;> first | exact hl | exact absurd ⟨_, rfl⟩ z
    obtain ⟨a', vs', ea, sq', r', l'⟩ := asL_at (k.eK.trans hk') m d' el
    cases ea
    have w := walk_enum (K := X.K) (a := a) (xs := vs')
    rw [enumD_len, r'.length]
    refine ⟨fun i hi => w.goes i H' hi sq', w.stops H' sq', fun i x H'' hi y => ?_⟩
    obtain ⟨T0, u, v2, rfl, hT, rfl, hu, hw⟩ := w.yields i H' x H'' hi sq' y
    cases hu
    obtain ⟨d, hd, dd⟩ := r'.get' hw
    obtain ⟨a1, a2, a3⟩ := pair_new (d := .int (i : Nat)) (x := .int (i : Nat)) m hT (by simp only [Den]) dd
    exact ⟨_, enumD_get hd, a1, a2, a3⟩
theorem zip_of {x y : D} {M : Mem} {K : List D → (Mem → Prop) → Prop} (h : zipS x y M K) : (∃ xs ys, x = .tup xs ∧ y = .tup ys ∧ K (zipD xs ys) fun _ => True) ∨ ∃ xs ys, asL M x = some xs ∧ asL M y = some ys ∧ K (zipD xs ys) fun M' => asL M' x = some xs ∧ asL M' y = some ys := by
  by_cases z : ∃ xs, x = .tup xs
  · obtain ⟨xs, rfl⟩ := z
    dsimp only [zipS] at h
    cases y <;> try exact h.elim
    exact .inl ⟨_, _, rfl, rfl, h⟩
  · have h' : optS (asL M x) fun xs => optS (asL M y) fun ys => K (zipD xs ys) fun M' => asL M' x = some xs ∧ asL M' y = some ys := by
      cases x <;> first | exact h | exact absurd ⟨_, rfl⟩ z
    obtain ⟨xs, e1, h'⟩ := opt_of h'
    obtain ⟨ys, e2, h'⟩ := opt_of h'
    exact .inr ⟨xs, ys, e1, e2, h'⟩
theorem zipD_len {xs ys : List D} : (zipD xs ys).length = min xs.length ys.length := by
  unfold zipD
  rw [List.length_map, List.length_zip]
theorem zipD_get {xs ys : List D} {i : Nat} {x y : D} (h1 : xs[i]? = some x) (h2 : ys[i]? = some y) : (zipD xs ys)[i]? = some (.tup [x, y]) := by
  unfold zipD
  rw [List.getElem?_map, (List.getElem?_zip_eq_some (z := (x, y))).mpr ⟨h1, h2⟩]
  rfl
theorem r_zip {elts : List Expr} {kk : Nat} {tpos : Pos} (hK : X.K = S.K) (hg : Gl X "zip") (hm : X.mg "zip" = none) (hn : notStar e = true) (hn2 : notStar e2 = true) (he : PE X e (lE S T W ta)) (he2 : PE X e2 (lE S T W tb)) :
    PI X (.Tuple elts kk tpos) (.Call (.Name "zip" p) [e, e2] [] pos) (lI S T W fun ρ M K E => ta ρ M (fun x M1 => tb ρ M1 (fun y M2 => zipS x.d y.d M2 fun xs live => K xs live M2) E) E) := by
  refine PI.imp (RZ.pi_zipA hg hm (pa_cons he (pa_cons he2 pa_nil (star_cons hn2)) (star_cons hn)) (star_cons hn) (by rw [star_cons hn2]; rfl)) fun σ H R ⟨c, ρ, M, K, E, ok, s, x, t, q⟩ => ⟨c, ρ, M, _, E, ok, s, x, t, fun r M1 v H1 hk rv => ?_⟩
  obtain ⟨k1, m1, d1⟩ := rv.plain
  refine ⟨c, ρ, M1, _, E, ok, s.keep k1 m1, x.after k1, hk, fun r2 M2 w H2 hk2 rv2 => ?_⟩
  obtain ⟨k2, m2, d2⟩ := rv2.plain
  have d1 := Den.keep k2 _ _ d1
  have kk := k1.trans k2
  have hk' : c.K = X.K := ok.1.trans hK.symm
  generalize r.d = dx at hk2 d1
  generalize r2.d = dy at hk2 d2
  have hs : sizeLine = 16777216 := sizeLine_eq
  rcases zip_of hk2 with ⟨xs, ys, rfl, rfl, hk⟩ | ⟨xs, ys, e1, e2, hk⟩
  · simp only [Den] at d1 d2
    obtain ⟨a, vs, rfl, t1, l1, r1⟩ := d1
    obtain ⟨b, ws, rfl, t2, l2, r2⟩ := d2
    have sq1 := t1.sq
    have sq2 := t2.sq
    rw [hk'] at sq1 sq2
    refine ⟨a, b, vs, ws, rfl, .inr ⟨sq1, sq2, q _ _ _ _ _ hk kk m2 ⟨by rw [zipD_len]; omega, fun c' M' H' k m _ => ?_⟩⟩⟩
    have q1 := (t1.keepG k).sq
    have q2 := (t2.keepG k).sq
    rw [k.eK, hk'] at q1 q2
    have r1' := DenL.keepG k _ _ r1
    have r2' := DenL.keepG k _ _ r2
    rw [zipD_len, r1.length, r2.length]
    refine ⟨fun i hi => ⟨vs, ws, vs[i]'(by omega), ws[i]'(by omega), q1, q2, by simp, by simp⟩, ⟨vs, ws, q1, q2, by omega⟩, fun i x H'' hi y => ?_⟩
    obtain ⟨T0, u, w, rfl, hT, rfl, hu, hw⟩ := y
    obtain ⟨d, hd, dd⟩ := r1'.get' (hu vs q1)
    obtain ⟨e, he, de⟩ := r2'.get' (hw ws q2)
    obtain ⟨a1, a2, a3⟩ := pair_new m hT dd de
    exact ⟨_, zipD_get hd he, a1, a2, a3⟩
  · obtain ⟨a, vs, rfl, sq1, r1, l1⟩ := asL_at hk' m2 d1 e1
    obtain ⟨b, ws, rfl, sq2, r2, l2⟩ := asL_at hk' m2 d2 e2
    refine ⟨a, b, vs, ws, rfl, .inl ⟨sq1, sq2, q _ _ _ _ _ hk kk m2 ⟨by rw [zipD_len]; omega, fun c' M' H' k m hl => ?_⟩⟩⟩
    obtain ⟨a', vs', ea, sq1', r1', _⟩ := asL_at (k.eK.trans hk') m (Den.keepG k _ _ d1) hl.1
    obtain ⟨b', ws', eb, sq2', r2', _⟩ := asL_at (k.eK.trans hk') m (Den.keepG k _ _ d2) hl.2
    cases ea
    cases eb
    have w := walk_zip (K := X.K) (a := a) (b := b) (xs := vs') (ys := ws') rfl
    rw [zipD_len, r1'.length, r2'.length]
    refine ⟨fun i hi => w.goes i H' hi ⟨sq1', sq2'⟩, w.stops H' ⟨sq1', sq2'⟩, fun i x H'' hi y => ?_⟩
    obtain ⟨T0, u, v2, rfl, hT, rfl, hu, hw⟩ := w.yields i H' x H'' hi ⟨sq1', sq2'⟩ y
    obtain ⟨d, hd, dd⟩ := r1'.get' hu
    obtain ⟨e, he, de⟩ := r2'.get' hw
    obtain ⟨a1, a2, a3⟩ := pair_new m hT dd de
    exact ⟨_, zipD_get hd he, a1, a2, a3⟩
end
end PL
/-! ### targets; comprehensions -/
namespace PL
open PySem PySem.Spec PyProof.Rows L2
def hidC (c : Cn) (D : Addr) : Cn := { c with Z := fun a => c.Z a ∨ a = D }
section
variable {c : Cn} {M M' M1 : Mem} {H H' H1 : Hp} {A : Addr}
/-- a new object, hidden -/
theorem KeepG.hid1 {o : HO} (h : H A = none) : KeepG c M H (hidC c A) M (upd H A o) :=
  ⟨rfl, rfl, fun a u z m n r => ⟨fun q => q.elim z (rd_ne r h), rd_upd r (rd_ne r h), m⟩, fun a C dx fs z m e => by rw [upd_ne (ne_of_none e h)]; exact e⟩
theorem KeepG.show_ : KeepG (hidC c A) M H c M H := ⟨rfl, rfl, fun a u z m n r => ⟨fun q => z (.inl q), r, m⟩, fun _ _ _ _ _ _ e => e⟩
theorem KeepG.rew {o : HO} : KeepG (hidC c A) M H (hidC c A) M (upd H A o) :=
  ⟨rfl, rfl, fun a u z m n r => ⟨z, rd_upd r fun e => z (.inr e), m⟩, fun a C dx fs z m e => by rw [upd_ne fun e => z (.inr e)]; exact e⟩
theorem KeepG.put {o : Ob} : KeepG (hidC c A) M H c (mput M A o) H :=
  ⟨rfl, rfl, fun a u z m n r => ⟨fun q => z (.inl q), r, by rw [mput_ne fun e => z (.inr e)]; exact m⟩, fun _ _ _ _ _ _ e => e⟩
theorem KeepG.trans {c c' c'' : Cn} {M M' M'' : Mem} {H H' H'' : Hp} (a : KeepG c M H c' M' H') (b : KeepG c' M' H' c'' M'' H'') : KeepG c M H c'' M'' H'' :=
  ⟨b.eK.trans a.eK, b.eA.trans a.eA, fun x u z m n r => let ⟨z1, r1, m1⟩ := a.old x u z m n r; b.old x u z1 m1 n r1, fun x C dx fs z m e => by
    obtain ⟨z1, r1, m1⟩ := a.old x _ z m (by trivial) (.inl e)
    exact b.inst x C dx fs z1 m1 (a.inst x C dx fs z m e)⟩
theorem MR.hid1 {o : HO} (m : MR c M H) (h : H A = Option.none) : MR (hidC c A) M (upd H A o) := ⟨fun a ob e => by
  obtain ⟨u, hu, r⟩ := m.at_ a ob e
  exact ⟨u, by rw [upd_ne (ne_of_none hu h)]; exact hu, r.keepG (KeepG.hid1 h)⟩, fun a z => by
  rcases z with z | rfl
  · obtain ⟨h1, u, hu⟩ := m.hid a z
    exact ⟨h1, u, by rw [upd_ne (ne_of_none hu h)]; exact hu⟩
  · exact ⟨m.none h, _, upd_same⟩⟩
theorem MR.rew {o : HO} (m : MR (hidC c A) M H) : MR (hidC c A) M (upd H A o) := ⟨fun a ob e => by
  obtain ⟨u, hu, r⟩ := m.at_ a ob e
  have ne : a ≠ A := fun q => by
    subst q
    rw [(m.hid a (.inr rfl)).1] at e
    cases e
  exact ⟨u, by rw [upd_ne ne]; exact hu, r.keepG KeepG.rew⟩, fun a z => by
  by_cases q : a = A
  · subst q; exact ⟨(m.hid a z).1, _, upd_same⟩
  · obtain ⟨h1, u, hu⟩ := m.hid a z
    exact ⟨h1, u, by rw [upd_ne q]; exact hu⟩⟩
theorem MR.show_ (m : MR (hidC c A) M H) : MR c M H := ⟨fun a ob e => by
  obtain ⟨u, hu, r⟩ := m.at_ a ob e
  exact ⟨u, hu, r.keepG KeepG.show_⟩, fun a z => m.hid a (.inl z)⟩
/-- from the state before the hidden one -/
theorem Keep.unhide {o : HO} (h : H1 A = none) (hz : ¬ c.Z A) (k : Keep (hidC c A) M1 (upd H1 A o) M' H') : Keep c M1 H1 M' H' :=
  ⟨fun a u z m n r => k.old a u (fun q => q.elim z (rd_ne r h)) m n (rd_upd r (rd_ne r h)), fun a C dx fs z m e => k.inst a C dx fs (fun q => q.elim z (ne_of_none e h)) m (by rw [upd_ne (ne_of_none e h)]; exact e), fun a z => by
    rw [k.hid a (.inl z), upd_ne (ne_nz z hz)]⟩
theorem Keep.over {o o' : HO} (k : Keep (hidC c A) M1 (upd H1 A o) M' H') : Keep (hidC c A) M1 (upd H1 A o') M' (upd H' A o') := by
  have ne : ∀ {a : Addr}, ¬ (hidC c A).Z a → a ≠ A := fun z e => z (.inr e)
  have rd : ∀ {a : Addr} {u : HO}, ¬ (hidC c A).Z a → Rd (upd H1 A o') a u → Rd (upd H1 A o) a u := fun z r => by
    have := ne z
    rcases r with r | ⟨x, r⟩
    · rw [upd_ne this] at r; exact .inl (by rw [upd_ne this]; exact r)
    · rw [upd_ne this] at r; exact .inr ⟨x, by rw [upd_ne this]; exact r⟩
  refine ⟨fun a u z m n r => ?_, fun a C dx fs z m e => ?_, fun a z => ?_⟩
  · obtain ⟨r1, m1⟩ := k.old a u z m n (rd z r)
    exact ⟨rd_upd r1 (ne z), m1⟩
  · rw [upd_ne (ne z)] at e ⊢
    exact k.inst a C dx fs z m (by rw [upd_ne (ne z)]; exact e)
  · by_cases q : a = A
    · subst q; rw [upd_same, upd_same]
    · rw [upd_ne q, upd_ne q, k.hid a z, upd_ne q]
/-- the list is shown -/
theorem hide_done {o : HO} {xs : List D} {vs : List V} (h : H1 A = none) (hz : ¬ c.Z A) (k : Keep (hidC c A) M1 (upd H1 A o) M' H') (m : MR (hidC c A) M' H') (e : H' A = some (.lst vs)) (l : xs.length ≤ sizeLine) (q : DenL (hidC c A) M' H' xs vs) :
    RV c M1 H1 M' H' (.new (.lst xs)) (.ref A) := by
  have hA := (m.hid A (.inr rfl)).1
  have kk := k.unhide h hz
  refine ⟨A, rfl, hA, ⟨fun a u z mm n r => ?_, kk.inst, kk.hid⟩, ⟨fun a ob z => ?_, fun a z => ?_⟩⟩
  · obtain ⟨r1, m1⟩ := kk.old a u z mm n r
    exact ⟨r1, by rw [mput_ne (rd_ne r h)]; exact m1⟩
  · by_cases ea : a = A
    · subst ea
      rw [mput_same] at z
      cases z
      exact ⟨_, e, vs, rfl, l, q.keepG KeepG.put⟩
    · rw [mput_ne ea] at z
      obtain ⟨u, hu, r⟩ := m.at_ a ob z
      exact ⟨u, hu, r.keepG KeepG.put⟩
  · obtain ⟨h1, u, hu⟩ := m.hid a (.inl z)
    exact ⟨by rw [mput_ne (ne_nz z hz)]; exact h1, u, hu⟩
end

/-! ### the slots of a block -/
theorem wipeD_length (ρ : Sd) : ∀ vs : List Nat, (wipeD ρ vs).length = ρ.length
  | [] => rfl
  | v :: vs => by unfold wipeD; rw [List.length_set, wipeD_length ρ vs]
theorem wipeD_some {ρ : Sd} {i : Nat} {x : D} : ∀ {vs : List Nat}, (wipeD ρ vs)[i]? = some (some x) → ρ[i]? = some (some x) ∧ i ∉ vs
  | [], h => ⟨h, by simp⟩
  | v :: vs, h => by
    unfold wipeD at h
    by_cases hi : v = i
    · subst hi
      by_cases hv : v < (wipeD ρ vs).length
      · rw [List.getElem?_set_self hv] at h; cases h
      · rw [List.getElem?_eq_none (by simpa using hv)] at h; cases h
    · rw [List.getElem?_set_ne hi] at h
      obtain ⟨h1, h2⟩ := wipeD_some h
      exact ⟨h1, by simp only [List.mem_cons, not_or]; exact ⟨fun e => hi e.symm, h2⟩⟩
theorem SR.wipe {c : Cn} {ρ : Sd} {σ : L2.St} {M : Mem} {H : Hp} (s : SR c ρ σ M H) (vs : List Nat) : SR c (wipeD ρ vs) (L2.wipe σ vs) M H :=
  ⟨by rw [wipeD_length, wipe_length, s.len], fun i d e => by
    obtain ⟨h1, h2⟩ := wipeD_some e
    obtain ⟨v, hv, q⟩ := s.get i d h1
    exact ⟨v, by rw [wipe_out h2]; exact hv, q⟩, s.mem⟩
theorem SR.keepG {c c' : Cn} {ρ : Sd} {σ : L2.St} {M M' : Mem} {H H' : Hp} (s : SR c ρ σ M H) (k : KeepG c M H c' M' H') (m : MR c' M' H') : SR c' ρ σ M' H' :=
  ⟨s.len, fun i d e => let ⟨v, h, q⟩ := s.get i d e; ⟨v, h, q.keepG k⟩, m⟩
theorem wipe_get_in {σ : L2.St} {i : Nat} : ∀ {vs : List Nat}, i ∈ vs → i < σ.length → (L2.wipe σ vs)[i]? = some none
  | v :: vs, h, hl => by
    unfold L2.wipe
    by_cases hi : v = i
    · subst hi
      rw [List.getElem?_set_self (by rw [wipe_length]; exact hl)]
    · rw [List.getElem?_set_ne hi]
      rcases List.mem_cons.mp h with e | h
      · exact absurd e.symm hi
      · exact wipe_get_in h hl
theorem wipe_ext {σ σ' : L2.St} {vs : List Nat} (hl : σ.length = σ'.length) (h : ∀ i, i ∉ vs → σ[i]? = σ'[i]?) : L2.wipe σ vs = L2.wipe σ' vs := by
  apply List.ext_getElem?
  intro i
  by_cases hi : i ∈ vs
  · by_cases hz : i < σ.length
    · rw [wipe_get_in hi hz, wipe_get_in hi (by omega)]
    · rw [List.getElem?_eq_none (by rw [wipe_length]; omega), List.getElem?_eq_none (by rw [wipe_length]; omega)]
  · rw [wipe_out hi, wipe_out hi]; exact h i hi

/-! ### targets -/
def gNms : List Nat → TGs
  | [] => gNil
  | i :: is => gCons (gName i) (gNms is)
def gT (K : PySem.W.Frag) : Tg → TG
  | .name i => gName i
  | .tup is => gTup K is.length (gNms is)
theorem gNms_run {Q : L2.St → Hp → Prop} {H : Hp} : ∀ {is : List Nat} {vs : List V} {σ : L2.St}, is.length = vs.length → Q ((is.zip vs).foldl (fun r p => r.set p.1 (some p.2)) σ) H → gNms is vs σ H Q
  | [], [], σ, _, q => ⟨rfl, q⟩
  | i :: is, v :: vs, σ, hl, q => ⟨v, vs, rfl, gNms_run (by simpa using hl) q⟩
  | [], _ :: _, _, h, _ => by simp at h
  | _ :: _, [], _, h, _ => by simp at h
theorem SR.sets {c : Cn} {M : Mem} {H : Hp} : ∀ {is : List Nat} {ds : List D} {vs : List V} {ρ : Sd} {σ : L2.St}, SR c ρ σ M H → DenL c M H ds vs → SR c ((is.zip ds).foldl (fun r p => r.set p.1 (some p.2)) ρ) ((is.zip vs).foldl (fun r p => r.set p.1 (some p.2)) σ) M H
  | [], _, _, _, _, s, _ => s
  | i :: is, [], _, _, _, s, q => by simp only [DenL] at q; subst q; exact s
  | i :: is, d :: ds, _, _, _, s, q => by
    simp only [DenL] at q
    obtain ⟨v, r, rfl, q1, q2⟩ := q
    have := SR.sets (is := is) (ds := ds) (vs := r) (s.set (i := i) q1) q2
    exact this
theorem sets_out {v : Nat} : ∀ {is : List Nat} {vs : List V} {σ : L2.St}, v ∉ is → ((is.zip vs).foldl (fun r p => r.set p.1 (some p.2)) σ)[v]? = σ[v]?
  | [], _, _, _ => rfl
  | _ :: _, [], _, _ => rfl
  | i :: is, w :: vs, σ, h => by
    simp only [List.mem_cons, not_or] at h
    rw [List.zip_cons_cons, List.foldl_cons, sets_out h.2, List.getElem?_set_ne (Ne.symm h.1)]
theorem sets_len : ∀ {is : List Nat} {vs : List V} {σ : L2.St}, ((is.zip vs).foldl (fun r p => r.set p.1 (some p.2)) σ).length = σ.length
  | [], _, _ => rfl
  | _ :: _, [], _ => rfl
  | i :: is, w :: vs, σ => by rw [List.zip_cons_cons, List.foldl_cons, sets_len, List.length_set]
def Tg.slots : Tg → List Nat
  | .name i => [i]
  | .tup is => is
/-- the target's run -/
theorem gT_run {c : Cn} {M : Mem} {H : Hp} {K : PySem.W.Frag} {t : Tg} {x : D} {v : V} {ρ : Sd} {σ : L2.St} {Kd : Sd → Prop} {Q : L2.St → Hp → Prop} (hK : c.K = K) (s : SR c ρ σ M H) (q : Den c M H x v) (h : bindT t x ρ Kd)
    (hq : ∀ ρ2 σ2, Kd ρ2 → SR c ρ2 σ2 M H → σ2.length = σ.length → (∀ i, i ∉ t.slots → σ2[i]? = σ[i]?) → Q σ2 H) : gT K t v σ H Q := by
  cases t with
  | name i => exact hq _ _ h (s.set q) (List.length_set ..) fun j hj => List.getElem?_set_ne (fun e => hj (by simp [Tg.slots, e]))
  | tup is =>
    dsimp only [bindT] at h
    cases x <;> try exact h.elim
    obtain ⟨hl, h⟩ := h
    simp only [Den] at q
    obtain ⟨a, vs, rfl, sq, l, r⟩ := q
    have sq' := sq.sq
    rw [hK] at sq'
    refine ⟨a, vs, rfl, sq', by rw [← r.length, hl], gNms_run (by rw [hl, r.length]) ?_⟩
    exact hq _ _ h (s.sets r) sets_len fun j hj => sets_out hj
section
variable {X : Cx} {S : Cs} {T : Tb} {W : WX}
def W0 : WX := fun _ _ _ _ => False
def cS (src : DTK) (t : Tg) (tc : DTT) (te : DTE) (vs : List Nat) : DTE := fun ρ M Q E => src ρ M (fun items live M1 => ∃ W : Nat → List D → Mem → Prop, W 0 [] M1 ∧
      (∀ i acc M', i ≤ items.length → W i acc M' → live M') ∧
      (∀ i x acc M', items[i]? = some x → W i acc M' → bindT t x (wipeD ρ vs) fun ρ2 => tc ρ2 M' (fun k M2 =>
        if k = true then te ρ2 M2 (fun r M3 => W (i + 1) (acc ++ [r.d]) M3) noEX else W (i + 1) acc M2) noEX) ∧
      (∀ acc M', W items.length acc M' → Q (.new (.lst acc)) M')) E
theorem comp_run {src : DTK} {t : Tg} {tc : DTT} {te : DTE} {vs : List Nat} (hK : X.K = S.K) (hv : ∀ i ∈ t.slots, i ∈ vs) {σ : L2.St} {H : Hp} {Q : VK} (h : lE S T W (cS src t tc te vs) σ H Q) :
    tLc (lI S T W src) (gT X.K t) (lT S T W0 tc) (lE S T W0 te) vs σ H Q := by
  obtain ⟨c, ρ, M, Q', E, ok, s, x, t0, q⟩ := h
  refine ⟨c, ρ, M, _, E, ok, s, x, t0, fun items live M1 H1 J hk k1 m1 wd => ?_⟩
  intro A hA
  obtain ⟨Wd, w0, wl, ws, wq⟩ := hk
  have s1 := s.keep k1 m1
  have hz : ¬ c.Z A := m1.nz hA
  obtain ⟨hsz, wd⟩ := wd
  have hs : sizeLine = 16777216 := sizeLine_eq
  have gg : ∀ {M' vs H2}, Keep (hidC c A) M1 (upd H1 A (.lst vs)) M' H2 → KeepG c M1 H1 (hidC c A) M' H2 := fun k => (KeepG.hid1 hA).trans k.g
  have okh : S.ok (hidC c A) := ok
  have hkc : (hidC c A).K = X.K := ok.1.trans hK.symm
  have w : Walk J items.length (fun H2 => ∃ M' vs, Keep (hidC c A) M1 (upd H1 A (.lst vs)) M' H2 ∧ MR (hidC c A) M' H2 ∧ live M')
      (fun i H2 x H3 => ∀ M' vs, Keep (hidC c A) M1 (upd H1 A (.lst vs)) M' H2 → MR (hidC c A) M' H2 → live M' → ∃ d, items[i]? = some d ∧ Keep (hidC c A) M' H2 M' H3 ∧ MR (hidC c A) M' H3 ∧ Den (hidC c A) M' H3 d x) :=
    ⟨fun i H2 hi ⟨M', vs, k, m, l⟩ => (wd _ M' H2 (gg k) m l).1 i hi, fun H2 ⟨M', vs, k, m, l⟩ => (wd _ M' H2 (gg k) m l).2.1, fun i H2 x H3 hi _ y M' vs k m l => (wd _ M' H2 (gg k) m l).2.2 i x H3 hi y⟩
  refine lc_it (n := items.length) (D := A) (H1 := H1) w
    (Pv := fun i H2 => ∃ acc M' vs, i ≤ items.length ∧ Wd i acc M' ∧ Keep (hidC c A) M1 (upd H1 A (.lst vs)) M' H2 ∧ MR (hidC c A) M' H2 ∧ H2 A = some (.lst vs) ∧ DenL (hidC c A) M' H2 acc vs ∧ acc.length ≤ i) ?_ ?_ ?_ ?_
  · exact ⟨[], M1, [], Nat.zero_le _, w0, Keep.refl _ _ _, m1.hid1 hA, upd_same, DenL.nil, Nat.zero_le _⟩
  · intro i H2 hi ⟨acc, M', vs, _, wi, k, m, _, _, _⟩
    exact ⟨M', vs, k, m, wl i acc M' hi wi⟩
  · intro i x H2 H3 hi ⟨acc, M', us, _, wi, k, m, eA, qa, la⟩ y
    obtain ⟨d, hd, k3, m3, dx⟩ := y M' us k m (wl i acc M' (Nat.le_of_lt hi) wi)
    have kk := k.trans k3
    have hb := ws i d acc M' hd wi
    have sb : SR (hidC c A) (wipeD ρ vs) (L2.wipe σ vs) M' H3 := (s1.keepG (gg kk) m3).wipe vs
    refine gT_run hkc sb dx hb fun ρ2 σ2 hb2 s2 hl2 ho2 => ?_
    refine ⟨?_, hidC c A, ρ2, M', _, noEX, okh, s2, fun _ _ _ _ _ z => z.elim, hb2, fun b M2 H4 hb3 k4 m4 => ?_⟩
    · refine (wipe_ext hl2 fun j hj => ho2 j fun z => hj (hv j z)).trans (wipe_ext (wipe_length _ _) fun j hj => wipe_out hj)
    have kk4 := kk.trans k4
    have eA3 : H3 A = some (.lst us) := (k3.hid A (.inr rfl)).trans eA
    have eA4 : H4 A = some (.lst us) := (k4.hid A (.inr rfl)).trans eA3
    have qa4 := DenL.keep (k3.trans k4) _ _ qa
    cases b with
    | false =>
      dsimp only at hb3 ⊢
      rw [if_neg Bool.false_ne_true] at hb3 ⊢
      exact ⟨acc, M2, us, hi, hb3, kk4, m4, eA4, qa4, Nat.le_succ_of_le la⟩
    | true =>
      dsimp only at hb3 ⊢
      rw [if_pos rfl] at hb3 ⊢
      refine ⟨hidC c A, ρ2, M2, _, noEX, okh, s2.keep k4 m4, fun _ _ _ _ _ z => z.elim, hb3, fun r M3 v H5 hr rv => ?_⟩
      obtain ⟨k5, m5, dv⟩ := rv.plain
      have eA5 : H5 A = some (.lst us) := (k5.hid A (.inr rfl)).trans eA4
      have lu : us.length ≤ i := by rw [← qa.length]; exact la
      refine ⟨us, eA5, by omega, acc ++ [r.d], M3, us ++ [v], hi, hr, (kk4.trans k5).over, m5.rew, upd_same, ?_, by rw [List.length_append, List.length_singleton]; omega⟩
      exact DenL.append (DenL.keepG KeepG.rew _ _ (DenL.keep k5 _ _ qa4)) (DenL.cons (Den.keepG KeepG.rew _ _ dv) DenL.nil)
  · intro H2 ⟨acc, M', us, _, wi, k, m, eA, qa, la⟩
    exact q _ _ _ _ (wq acc M' wi) ((hide_done hA hz k m eA (by omega) qa).after k1)
end
end PL
/-! ### the rules of the small forms -/
namespace PL
open PySem PySem.Spec PyProof.Rows L2

theorem plain_ix {b : Expr} (h : notSlice b = true) : PlainIx b := by
  cases b <;> first | (intro o i; rfl) | exact absurd h Bool.false_ne_true
theorem set_it {e : Expr} {env : Env} (h : notSet e = true) : ∀ x, foldedSetIterable e env x = pure x := by
  cases e <;> first | (intro x; rfl) | exact absurd h Bool.false_ne_true
theorem vis_of {sc : Scope} {x : Str} (h : visB sc x = true) : Vis sc x := by
  unfold visB at h
  split at h
  · exact .inl (by assumption)
  · exact .inr (.inl (by assumption))
  · exact .inr (.inr (by assumption))
  · cases h
theorem loc_of {sc : Scope} {x : Str} (h : locB sc x = true) : sc.names.lookup x = some .local := by
  unfold locB at h
  split at h
  · assumption
  · cases h
theorem gl_of {X : Cx} {sc : Scope} {x : Str} (e : X.env.scope = sc) (h : glB sc x = true) : Gl X x := by
  unfold glB at h
  split at h
  · show X.env.scope.names.lookup x = some .globalImplicit
    rw [e]; assumption
  · cases h
theorem dbg_of {x : Str} (h : dbg x = true) : (x == ("__debug__" : Str)) = false := by
  unfold dbg at h
  simpa using h
section
variable {X : Cx} {S : Cs} {T : Tb} {W : WX} {ta tb tc : DTE} {tt tu : DTT} {tr : DTA} {a b e : Expr} {es : List Expr} {pos p : Pos}
theorem r_var {i : Nat} {x : Str} (hN : X.N[i]? = some x) (hv : Vis X.env.scope x) (hd : (x == ("__debug__" : Str)) = false) (hcd : (x == ("__classdict__" : Str)) = false) :
    PE X (.Name x pos) (lE S T W fun ρ M Q _ => match ρ[i]? with | some (some d) => Q (.val d) M | _ => False) := by
  refine PE.imp (pe_var hN hv hd hcd) fun σ H Q ⟨c, ρ, M, Q', E, ok, s, x, t, q⟩ => ?_
  dsimp only at t
  split at t
  · rename_i d e
    obtain ⟨v, hv, dv⟩ := s.get i d e
    exact ⟨v, hv, q _ _ _ _ t (RV.same s.mem dv)⟩
  · exact t.elim
theorem r_con {d : D} {v : V} (h : PE X e (tC v)) (hd : ∀ (c : Cn) (M : Mem) (H : Hp), S.ok c → Den c M H d v) : PE X e (lE S T W fun _ M Q _ => Q (.val d) M) :=
  PE.imp h fun σ H Q ⟨c, ρ, M, Q', E, ok, s, x, t, q⟩ => q _ _ _ _ t (RV.same s.mem (hd c M H ok))
theorem r_op {o : Operator} (hK : X.K = S.K) (ha : PE X a (lE S T W ta)) (hb : PE X b (lE S T W tb)) :
    PE X (.BinOp a o b pos) (lE S T W fun ρ M Q E => ta ρ M (fun x M1 => tb ρ M1 (fun y M2 => opS o x.d y.d M2 fun r => Q r M2) E) E) :=
  PE.imp (pe_op (or_op hK) ha hb) fun σ H Q h => lE_bin (k := kOp o) h
theorem neg_ok : UnR X (unaryOp .USub) (LV1 S fun x M Q => match x with | .int i => Q (.val (.int (-i))) M | _ => False) := by
  intro pins s σ H x v Q I r ⟨c, M, d, Q', ok, m, dv, h, q⟩
  cases d with
  | int i =>
    simp only [Den] at dv
    subst dv
    exact un_neg pins s σ H _ v Q I r ⟨i, rfl, q _ _ _ _ h (RV.same m (by simp only [Den]))⟩
  | _ => exact h.elim
theorem r_neg (ha : PE X a (lE S T W ta)) : PE X (.UnaryOp .USub a pos) (lE S T W fun ρ M Q E => ta ρ M (fun x M1 => match x.d with | .int i => Q (.val (.int (-i))) M1 | _ => False) E) :=
  PE.imp (pe_un neg_ok ha) fun σ H Q h => lE_un (k := fun x M Q => match x with | .int i => Q (.val (.int (-i))) M | _ => False) h
theorem r_cmp {o : CmpOp} (hK : X.K = S.K) (hu : X.A.units + 64 < cLine) (hm : behindInMarks o b = false) (ha : PE X a (lE S T W ta)) (hb : PE X b (lE S T W tb)) :
    PE X (.Compare a [o] [b] pos) (lE S T W fun ρ M Q E => ta ρ M (fun x M1 => tb ρ M1 (fun y M2 => cmpS o x.d y.d M2 fun k => Q (.val (.bl k)) M2) E) E) :=
  PE.imp (pe_cmpR (or_cmp hK hu) ha hb hm) fun σ H Q h => lE_bin (k := kCmp o) h
theorem cmpS_mono {o : CmpOp} {x y : D} {M : Mem} {Q Q' : Bool → Prop} (h : cmpS o x y M Q) (i : ∀ k, Q k → Q' k) : cmpS o x y M Q' := by
  have I2 : ∀ {K K' : Int → Int → Prop}, int2 x y K → (∀ i j, K i j → K' i j) → int2 x y K' := fun {K K'} h i => by
    obtain ⟨a, b, rfl, rfl, h⟩ := int2_of h
    exact i _ _ h
  have eqm : ∀ {Q Q' : Bool → Prop}, eqS x y M Q → (∀ k, Q k → Q' k) → eqS x y M Q' := fun {Q Q'} h i => by
    dsimp only [eqS] at h ⊢
    split at h <;> try exact h.elim
    split at h <;> try exact h.elim
    exact ⟨h.1, h.2.1, i _ h.2.2⟩
  have inm : ∀ {Q Q' : Bool → Prop}, inS x y M Q → (∀ k, Q k → Q' k) → inS x y M Q' := fun {Q Q'} h i => by
    dsimp only [inS] at h ⊢
    split at h
    · split at h <;> first | exact i _ h | exact h.elim
    · split at h
      · exact ⟨h.1, i _ h.2⟩
      · exact h.elim
  have ism : ∀ {Q Q' : Bool → Prop}, isS x y Q → (∀ k, Q k → Q' k) → isS x y Q' := fun {Q Q'} h i => by
    dsimp only [isS] at h ⊢
    split at h <;> first | exact i _ h | exact h.elim
  cases o with
  | Lt => exact I2 h fun _ _ => i _
  | LtE => exact I2 h fun _ _ => i _
  | Gt => exact I2 h fun _ _ => i _
  | GtE => exact I2 h fun _ _ => i _
  | Eq => exact eqm h i
  | NotEq => exact eqm (Q := fun b => Q (!b)) (Q' := fun b => Q' (!b)) h fun k => i _
  | In => exact inm h i
  | NotIn => exact inm (Q := fun b => Q (!b)) (Q' := fun b => Q' (!b)) h fun k => i _
  | Is => exact ism h i
  | IsNot => exact ism (Q := fun b => Q (!b)) (Q' := fun b => Q' (!b)) h fun k => i _
theorem r_chain {o o' : CmpOp} {c : Expr} (hK : X.K = S.K) (hu : X.A.units + 64 < cLine) (hm : behindInMarks o' c = false) (ha : PE X a (lE S T W ta)) (hb : PE X b (lE S T W tb)) (hc : PE X c (lE S T W tc)) :
    PE X (.Compare a [o, o'] [b, c] pos) (lE S T W fun ρ M Q E => ta ρ M (fun x M1 => tb ρ M1 (fun y M2 => cmpS o x.d y.d M2 fun k =>
      if k = true then tc ρ M2 (fun z M3 => cmpS o' y.d z.d M3 fun k' => Q (.val (.bl k')) M3) E else Q (.val (.bl false)) M2) E) E) := by
  refine PE.imp (pe_chain (or_cmp hK hu) (or_cmp hK hu) ha hb hc hm) fun σ H Q ⟨c, ρ, M, Q', E, ok, s, x, t, q⟩ => ⟨c, ρ, M, _, E, ok, s, x, t, fun r M1 v H1 hk rv => ?_⟩
  obtain ⟨k1, m1, d1⟩ := rv.plain
  refine ⟨c, ρ, M1, _, E, ok, s.keep k1 m1, x.after k1, hk, fun r2 M2 w H2 hk2 rv2 => ?_⟩
  obtain ⟨k2, m2, d2⟩ := rv2.plain
  have k12 := k1.trans k2
  refine ⟨c, M2, r.d, r2.d, fun r' M' => ∃ k, r' = .val (.bl k) ∧ M' = M2 ∧ if k = true then tc ρ M2 (fun z M3 => cmpS o' r2.d z.d M3 fun k' => Q' (.val (.bl k')) M3) E else Q' (.val (.bl false)) M2, ok, m2, Den.keep k2 _ _ d1, d2, cmpS_mono hk2 fun k h => ⟨k, rfl, rfl, h⟩, fun r' M' v' H' h3 rv3 => ?_⟩
  obtain ⟨k, rfl, rfl, h3⟩ := h3
  obtain ⟨k3, m3, d3⟩ := rv3
  simp only [Den] at d3
  subst d3
  refine ⟨k, rfl, ?_⟩
  cases k with
  | false =>
    rw [if_neg Bool.false_ne_true] at h3 ⊢
    exact q _ _ _ _ h3 ⟨k12.trans k3, m3, by simp only [R.d, Den]⟩
  | true =>
    rw [if_pos rfl] at h3 ⊢
    refine ⟨c, ρ, M', _, E, ok, s.keep (k12.trans k3) m3, x.after (k12.trans k3), h3, fun r4 M4 w4 H4 hk4 rv4 => ?_⟩
    obtain ⟨k4, m4, d4⟩ := rv4.plain
    exact ⟨c, M4, r2.d, r4.d, _, ok, m4, Den.keep (k3.trans k4) _ _ d2, d4, hk4, fun r' M' v' H' h1 h2 => q r' M' v' H' h1 (h2.after ((k12.trans k3).trans k4))⟩
/-- a truth test behind a value -/
def bT (t : DTE) : DTT := fun ρ M Q E => t ρ M (fun x M1 => truS x.d M1 fun k => Q k M1) E
theorem rt_val (hK : X.K = S.K) (ha : PE X a (lE S T W ta)) (he : ∀ whole, isTrue a X.env whole = (do let v ← whole; standAt a.pos; holding [v] (truthy v))) : PT X a (lT S T W (bT ta)) := by
  refine PT.imp (pt_truth ha he) fun σ H Q ⟨c, ρ, M, Q', E, ok, s, x, t, q⟩ => ⟨c, ρ, M, _, E, ok, s, x, t, fun r M1 v H1 hk rv => ?_⟩
  obtain ⟨k1, m1, d1⟩ := rv.plain
  obtain ⟨k, tv, h⟩ := tru_v (ok.1.trans hK.symm) m1 d1 hk
  exact ⟨k, tv, q _ _ _ h k1 m1⟩
theorem rt_cmp {o : CmpOp} (hK : X.K = S.K) (hu : X.A.units + 64 < cLine) (hm : behindInMarks o b = false) (ha : PE X a (lE S T W ta)) (hb : PE X b (lE S T W tb)) :
    PT X (.Compare a [o] [b] pos) (lT S T W (bT fun ρ M Q E => ta ρ M (fun x M1 => tb ρ M1 (fun y M2 => cmpS o x.d y.d M2 fun k => Q (.val (.bl k)) M2) E) E)) := by
  refine PT.imp (pt_cmpR (or_cmp hK hu) ha hb hm) fun σ H Q ⟨c, ρ, M, Q', E, ok, s, x, t, q⟩ => ⟨c, ρ, M, _, E, ok, s, x, t, fun r M1 v H1 hk rv => ?_⟩
  obtain ⟨k1, m1, d1⟩ := rv.plain
  refine ⟨c, ρ, M1, _, E, ok, s.keep k1 m1, x.after k1, hk, fun r2 M2 w H2 hk2 rv2 => ?_⟩
  obtain ⟨k2, m2, d2⟩ := rv2.plain
  refine ⟨c, M2, r.d, r2.d, fun r' M' => ∃ k, r' = .val (.bl k) ∧ Q' k M', ok, m2, Den.keep k2 _ _ d1, d2, cmpS_mono hk2 fun k h => ⟨k, rfl, h⟩, fun r' M' v' H' ⟨k, e, h1⟩ h2 => ?_⟩
  subst e
  obtain ⟨k3, m3, d3⟩ := h2
  simp only [Den] at d3
  exact ⟨k, d3, q _ _ _ h1 ((k1.trans k2).trans k3) m3⟩
theorem rt_chain {o o' : CmpOp} {c : Expr} (hK : X.K = S.K) (hu : X.A.units + 64 < cLine) (hm : behindInMarks o' c = false) (ha : PE X a (lE S T W ta)) (hb : PE X b (lE S T W tb)) (hc : PE X c (lE S T W tc)) :
    PT X (.Compare a [o, o'] [b, c] pos) (lT S T W (bT fun ρ M Q E => ta ρ M (fun x M1 => tb ρ M1 (fun y M2 => cmpS o x.d y.d M2 fun k =>
      if k = true then tc ρ M2 (fun z M3 => cmpS o' y.d z.d M3 fun k' => Q (.val (.bl k')) M3) E else Q (.val (.bl false)) M2) E) E)) := by
  refine PT.imp (pt_chain (or_cmp hK hu) (or_cmp hK hu) ha hb hc hm) fun σ H Q ⟨c, ρ, M, Q', E, ok, s, x, t, q⟩ => ⟨c, ρ, M, _, E, ok, s, x, t, fun r M1 v H1 hk rv => ?_⟩
  obtain ⟨k1, m1, d1⟩ := rv.plain
  refine ⟨c, ρ, M1, _, E, ok, s.keep k1 m1, x.after k1, hk, fun r2 M2 w H2 hk2 rv2 => ?_⟩
  obtain ⟨k2, m2, d2⟩ := rv2.plain
  have k12 := k1.trans k2
  refine ⟨c, M2, r.d, r2.d, fun r' M' => ∃ k, r' = .val (.bl k) ∧ M' = M2 ∧ if k = true then tc ρ M2 (fun z M3 => cmpS o' r2.d z.d M3 fun k' => Q' k' M3) E else Q' false M2, ok, m2, Den.keep k2 _ _ d1, d2, cmpS_mono hk2 fun k h => ⟨k, rfl, rfl, h⟩, fun r' M' v' H' h3 rv3 => ?_⟩
  obtain ⟨k, rfl, rfl, h3⟩ := h3
  obtain ⟨k3, m3, d3⟩ := rv3
  simp only [Den] at d3
  subst d3
  refine ⟨k, rfl, ?_⟩
  cases k with
  | false =>
    rw [if_neg Bool.false_ne_true] at h3 ⊢
    exact ⟨false, rfl, q _ _ _ h3 (k12.trans k3) m3⟩
  | true =>
    rw [if_pos rfl] at h3 ⊢
    refine ⟨c, ρ, M', _, E, ok, s.keep (k12.trans k3) m3, x.after (k12.trans k3), h3, fun r4 M4 w4 H4 hk4 rv4 => ?_⟩
    obtain ⟨k4, m4, d4⟩ := rv4.plain
    refine ⟨c, M4, r2.d, r4.d, fun r' M' => ∃ k, r' = .val (.bl k) ∧ Q' k M', ok, m4, Den.keep (k3.trans k4) _ _ d2, d4, cmpS_mono hk4 fun k h => ⟨k, rfl, h⟩, fun r' M' v' H' ⟨k, e, h1⟩ h2 => ?_⟩
    subst e
    obtain ⟨k5, m5, d5⟩ := h2
    simp only [Den] at d5
    exact ⟨k, d5, q _ _ _ h1 (((k12.trans k3).trans k4).trans k5) m5⟩
theorem rw_and {rest : List Expr} {t1 t2 : DTT} (ha : PT X a (lT S T W t1)) (hb : PW X (.BoolOp .And (b :: rest) pos) (lT S T W t2)) :
    PW X (.BoolOp .And (a :: b :: rest) pos) (lT S T W fun ρ M Q E => t1 ρ M (fun k M1 => if k = true then t2 ρ M1 Q E else Q false M1) E) := by
  refine ⟨fun wh pins s σ H Q I ⟨c, ρ, M, Q', E, ok, sr, x, t, q⟩ => (pw_and ha hb).run wh pins s σ H Q I ⟨c, ρ, M, _, E, ok, sr, x, t, fun k M1 H1 hk k1 m1 => ?_⟩⟩
  cases k with
  | true => exact ⟨c, ρ, M1, _, E, ok, sr.keep k1 m1, x.after k1, hk, fun r' M' H' h1 h2 h3 => q r' M' H' h1 (k1.trans h2) h3⟩
  | false => exact q _ _ _ hk k1 m1
theorem rw_or {rest : List Expr} {t1 t2 : DTT} (ha : PT X a (lT S T W t1)) (hb : PW X (.BoolOp .Or (b :: rest) pos) (lT S T W t2)) :
    PW X (.BoolOp .Or (a :: b :: rest) pos) (lT S T W fun ρ M Q E => t1 ρ M (fun k M1 => if k = true then Q true M1 else t2 ρ M1 Q E) E) := by
  refine ⟨fun wh pins s σ H Q I ⟨c, ρ, M, Q', E, ok, sr, x, t, q⟩ => (pw_or ha hb).run wh pins s σ H Q I ⟨c, ρ, M, _, E, ok, sr, x, t, fun k M1 H1 hk k1 m1 => ?_⟩⟩
  cases k with
  | true => exact q _ _ _ hk k1 m1
  | false => exact ⟨c, ρ, M1, _, E, ok, sr.keep k1 m1, x.after k1, hk, fun r' M' H' h1 h2 h3 => q r' M' H' h1 (k1.trans h2) h3⟩
theorem rt_not {t1 : DTT} (ha : PT X a (lT S T W t1)) : PT X (.UnaryOp .Not a pos) (lT S T W fun ρ M Q E => t1 ρ M (fun k M1 => Q (!k) M1) E) :=
  PT.imp (pt_not ha) fun σ H Q ⟨c, ρ, M, Q', E, ok, sr, x, t, q⟩ => ⟨c, ρ, M, _, E, ok, sr, x, t, fun k M1 H1 hk k1 m1 => q _ _ _ hk k1 m1⟩
theorem r_and {rest : List Expr} (ha : PE X a (lE S T W ta)) (hb : PE X (.BoolOp .And (b :: rest) pos) (lE S T W tb)) :
    PE X (.BoolOp .And (a :: b :: rest) pos) (lE S T W fun ρ M Q E => ta ρ M (fun x M1 => match x.d with | .bl k => if k = true then tb ρ M1 Q E else Q (.val (.bl false)) M1 | _ => False) E) := by
  refine PE.imp (pe_and ha hb) fun σ H Q ⟨c, ρ, M, Q', E, ok, s, x, t, q⟩ => ⟨c, ρ, M, _, E, ok, s, x, t, fun r M1 v H1 hk rv => ?_⟩
  obtain ⟨k1, m1, d1⟩ := rv.plain
  split at hk
  · rename_i k e
    rw [e] at d1
    simp only [Den] at d1
    subst d1
    refine ⟨k, rfl, ?_⟩
    cases k with
    | true => exact ⟨c, ρ, M1, _, E, ok, s.keep k1 m1, x.after k1, hk, fun r' M' v' H' h1 h2 => q r' M' v' H' h1 (h2.after k1)⟩
    | false => exact q _ _ _ _ hk ⟨k1, m1, by simp only [R.d, Den]⟩
  · exact hk.elim
theorem r_or {rest : List Expr} (ha : PE X a (lE S T W ta)) (hb : PE X (.BoolOp .Or (b :: rest) pos) (lE S T W tb)) :
    PE X (.BoolOp .Or (a :: b :: rest) pos) (lE S T W fun ρ M Q E => ta ρ M (fun x M1 => match x.d with | .bl k => if k = true then Q (.val (.bl true)) M1 else tb ρ M1 Q E | _ => False) E) := by
  refine PE.imp (pe_or ha hb) fun σ H Q ⟨c, ρ, M, Q', E, ok, s, x, t, q⟩ => ⟨c, ρ, M, _, E, ok, s, x, t, fun r M1 v H1 hk rv => ?_⟩
  obtain ⟨k1, m1, d1⟩ := rv.plain
  split at hk
  · rename_i k e
    rw [e] at d1
    simp only [Den] at d1
    subst d1
    refine ⟨k, rfl, ?_⟩
    cases k with
    | false => exact ⟨c, ρ, M1, _, E, ok, s.keep k1 m1, x.after k1, hk, fun r' M' v' H' h1 h2 => q r' M' v' H' h1 (h2.after k1)⟩
    | true => exact q _ _ _ _ hk ⟨k1, m1, by simp only [R.d, Den]⟩
  · exact hk.elim
theorem r_not (hK : X.K = S.K) (ha : PE X a (lE S T W ta)) : PE X (.UnaryOp .Not a pos) (lE S T W fun ρ M Q E => ta ρ M (fun x M1 => truS x.d M1 fun k => Q (.val (.bl (!k))) M1) E) := by
  refine PE.imp (pe_notT ha) fun σ H Q ⟨c, ρ, M, Q', E, ok, s, x, t, q⟩ => ⟨c, ρ, M, _, E, ok, s, x, t, fun r M1 v H1 hk rv => ?_⟩
  obtain ⟨k1, m1, d1⟩ := rv.plain
  obtain ⟨k, tv, h⟩ := tru_v (ok.1.trans hK.symm) m1 d1 hk
  exact ⟨k, tv, q _ _ _ _ h ⟨k1, m1, by simp only [R.d, Den]⟩⟩
theorem r_ite {c : Expr} (hc : PT X c (lT S T W tt)) (ha : PE X a (lE S T W ta)) (hb : PE X b (lE S T W tb)) :
    PE X (.IfExp c a b pos) (lE S T W fun ρ M Q E => tt ρ M (fun k M1 => if k = true then ta ρ M1 Q E else tb ρ M1 Q E) E) := by
  refine PE.imp (pe_ifExp hc ha hb) fun σ H Q ⟨c, ρ, M, Q', E, ok, s, x, t, q⟩ => ⟨c, ρ, M, _, E, ok, s, x, t, fun k M1 H1 hk k1 m1 => ?_⟩
  cases k with
  | true => exact ⟨c, ρ, M1, _, E, ok, s.keep k1 m1, x.after k1, hk, fun r' M' v' H' h1 h2 => q r' M' v' H' h1 (h2.after k1)⟩
  | false => exact ⟨c, ρ, M1, _, E, ok, s.keep k1 m1, x.after k1, hk, fun r' M' v' H' h1 h2 => q r' M' v' H' h1 (h2.after k1)⟩
theorem r_tup {k : Nat} (ha : PA X es (lA S T W es.length tr)) (hl : es.length ≤ 1000) : PE X (.Tuple es k pos) (lE S T W fun ρ M Q E => tr ρ M (fun ds M1 => Q (.val (.tup ds)) M1) E) := by
  refine PE.imp (pe_tup ha) fun σ H Q ⟨c, ρ, M, Q', E, ok, s, x, t, q⟩ => ⟨c, ρ, M, _, E, ok, s, x, t, fun ds M1 vs H1 hn hk k1 m1 d1 => ?_⟩
  have hs : sizeLine = 16777216 := sizeLine_eq
  have l := d1.length
  exact ⟨by omega, fun p hp => q _ _ _ _ hk ((den_tup m1 hp (by omega) d1).after k1)⟩
theorem r_lst (ha : PA X es (lA S T W es.length tr)) (hl : es.length ≤ 1000) : PE X (.List es pos) (lE S T W fun ρ M Q E => tr ρ M (fun ds M1 => Q (.new (.lst ds)) M1) E) := by
  refine PE.imp (pe_lst ha) fun σ H Q ⟨c, ρ, M, Q', E, ok, s, x, t, q⟩ => ⟨c, ρ, M, _, E, ok, s, x, t, fun ds M1 vs H1 hn hk k1 m1 d1 => ?_⟩
  have hs : sizeLine = 16777216 := sizeLine_eq
  have l := d1.length
  exact ⟨by omega, fun p hp => q _ _ _ _ hk ((RV.fresh (o := .lst ds) (u := .lst vs) m1 hp ⟨_, rfl, by omega, d1⟩).after k1)⟩
theorem r_ix (hK : X.K = S.K) (hs : notSlice b = true) (ha : PE X a (lE S T W ta)) (hb : PE X b (lE S T W tb)) :
    PE X (.Subscript a b pos) (lE S T W fun ρ M Q E => ta ρ M (fun x M1 => tb ρ M1 (fun y M2 => ixS x.d y.d M2 fun d => Q (.val d) M2) E) E) :=
  PE.imp (pe_ix (ir_ix hK) ha hb (plain_ix hs)) fun σ H Q h => lE_bin (k := kIx) h
theorem po_n : PO X none (lO S T W fun _ M Q _ => Q none M) := by
  refine ⟨fun pins s σ H Q I ⟨c, ρ, M, Q', E, ok, sr, x, t, q⟩ => ?_⟩
  exact po_none.run pins s σ H Q I (q _ _ _ t (Keep.refl _ _ _) sr.mem)
theorem po_s (ha : PE X a (lE S T W ta)) : PO X (some a) (lO S T W fun ρ M Q E => ta ρ M (fun x M1 => match x.d with | .int i => Q (some i) M1 | _ => False) E) := by
  refine ⟨fun pins s σ H Q I ⟨c, ρ, M, Q', E, ok, sr, x, t, q⟩ => ?_⟩
  refine (po_some ha).run pins s σ H Q I ⟨c, ρ, M, _, E, ok, sr, x, t, fun r M1 v H1 hk rv => ?_⟩
  obtain ⟨k1, m1, d1⟩ := rv.plain
  split at hk
  · rename_i i e
    rw [e] at d1
    simp only [Den] at d1
    exact ⟨i, d1, q _ _ _ hk k1 m1⟩
  · exact hk.elim
theorem r_slice {lo hi : Option Expr} {tl th : Sd → Mem → (Option Int → Mem → Prop) → EX → Prop} {p2 : Pos} (hK : X.K = S.K) (ha : PE X a (lE S T W ta)) (hl : PO X lo (lO S T W tl)) (hh : PO X hi (lO S T W th)) :
    PE X (.Subscript a (.Slice lo hi none p2) pos) (lE S T W fun ρ M Q E => ta ρ M (fun x M1 => tl ρ M1 (fun l M2 => th ρ M2 (fun h M3 => slS x.d l h M3 fun r => Q r M3) E) E) E) := by
  refine PE.imp (pe_slice (sr_sl hK) ha hl hh) fun σ H Q ⟨c, ρ, M, Q', E, ok, s, x, t, q⟩ => ⟨c, ρ, M, _, E, ok, s, x, t, fun r M1 v H1 hk rv => ?_⟩
  obtain ⟨k1, m1, d1⟩ := rv.plain
  refine ⟨c, ρ, M1, _, E, ok, s.keep k1 m1, x.after k1, hk, fun l M2 H2 hk2 k2 m2 => ?_⟩
  refine ⟨c, ρ, M2, _, E, ok, s.keep (k1.trans k2) m2, x.after (k1.trans k2), hk2, fun h M3 H3 hk3 k3 m3 => ?_⟩
  exact ⟨c, M3, r.d, _, ok, m3, Den.keep (k2.trans k3) _ _ d1, hk3, fun r' M' v' H' h1 h2 => q r' M' v' H' h1 (h2.after ((k1.trans k2).trans k3))⟩
theorem boot_fn (f : Fn) : bootBuiltins f.name = some f.val := by cases f <;> decide +kernel
theorem nm_fn (f : Fn) : f.name ≠ "__name__" ∧ (f.name == ("__debug__" : Str)) = false := by cases f <;> decide +kernel
theorem r_fn {f : Fn} (hc : X.calm = true) (hK : X.K = S.K) (hg : Gl X f.name) (hm : X.mg f.name = none) (hn : (e :: es).all notStar = true) (ha : PA X (e :: es) (lA S T W (e :: es).length tr)) :
    PE X (.Call (.Name f.name p) (e :: es) [] pos) (lE S T W fun ρ M Q E => tr ρ M (fun ds M1 => fnS f ds M1 fun r => Q r M1) E) := by
  obtain ⟨n1, n2⟩ := nm_fn f
  have b := boot_fn f
  have h1 : notStar e = true := by simp only [List.all_cons, Bool.and_eq_true] at hn; exact hn.1
  have h2 : es.all notStar = true := by simp only [List.all_cons, Bool.and_eq_true] at hn; exact hn.2
  have cr := cr_fn (S := S) (X := X) (f := f) hc hK
  have fin : ∀ σ H Q, lE S T W (fun ρ M Q E => tr ρ M (fun ds M1 => fnS f ds M1 fun r => Q r M1) E) σ H Q → tCB (LVn S (kFn f)) (lA S T W (e :: es).length tr) σ H Q := fun σ H Q h => lA_fn (k := kFn f) h
  cases f with
  | int => exact PE.imp (pe_callTy cr hg hm b ha n1 n2 (star_cons h1) (star_any h2)) fin
  | str => exact PE.imp (pe_callTy cr hg hm b ha n1 n2 (star_cons h1) (star_any h2)) fin
  | list => exact PE.imp (pe_callTy cr hg hm b ha n1 n2 (star_cons h1) (star_any h2)) fin
  | tuple => exact PE.imp (pe_callTy cr hg hm b ha n1 n2 (star_cons h1) (star_any h2)) fin
  | len => exact PE.imp (pe_callB cr hg hm b ha n1 n2 (star_cons h1) (star_any h2)) fin
  | lenB => exact PE.imp (pe_callB cr hg hm b ha n1 n2 (star_cons h1) (star_any h2)) fin
  | all => exact PE.imp (pe_callB cr hg hm b ha n1 n2 (star_cons h1) (star_any h2)) fin
  | any => exact PE.imp (pe_callB cr hg hm b ha n1 n2 (star_cons h1) (star_any h2)) fin
  | max2 => exact PE.imp (pe_callB cr hg hm b ha n1 n2 (star_cons h1) (star_any h2)) fin
  | min2 => exact PE.imp (pe_callB cr hg hm b ha n1 n2 (star_cons h1) (star_any h2)) fin
  | abs => exact PE.imp (pe_callB cr hg hm b ha n1 n2 (star_cons h1) (star_any h2)) fin
  | sum => exact PE.imp (pe_callB cr hg hm b ha n1 n2 (star_cons h1) (star_any h2)) fin
theorem Mt.pa (m : Mt) : PlainAttrs m.ty := by cases m <;> first | exact PySem.F.plainAttrs_list | exact PySem.F.plainAttrs_str
theorem Mt.slot (m : Mt) : Slot m.ty (mtNm m) m.id_ := by
  cases m <;> first | exact slot_list_append | exact PySem.F.slot_list_pop | exact PySem.F.slot_str_join
theorem Mt.tyof (m : Mt) : typeOf (.builtin m.id_) = pure (.type "method_descriptor") := by
  cases m <;> first | exact type_list_append | exact PySem.F.type_list_pop | exact PySem.F.type_str_join
theorem few_of {args : List Expr} {env : Env} {cpos : Pos} (hs : args.all notStar = true) (hf : args.length < 30) : ((backTo cpos (starEach args env)).all (fun x => !x.1) && (backToKw cpos (keywordEach [] env)).all (fun x => x.1.isSome)
      && decide (args.length + ([] : List Keyword).length + (if ([] : List Keyword).isEmpty then 0 else 1) < 30)) = true := by
  rw [star_all hs]
  have : decide (args.length + ([] : List Keyword).length + (if ([] : List Keyword).isEmpty then 0 else 1) < 30) = true := by
    simp only [List.length_nil, List.isEmpty_nil, if_pos, Nat.add_zero, decide_eq_true_eq]
    exact hf
  rw [this]
  rfl
/-- a method's end, at plain data -/
theorem lm_fn {m : Mt} {n : Nat} {σ : L2.St} {H : Hp} {Q : VK} (hK : X.K = S.K) (h : lE S T W (fun ρ M Q E => ta ρ M (fun x M1 => mtTy m x.d M1 = true ∧ tr ρ M1 (fun ds M2 => mtS m x.d ds M2 Q) E) E) σ H Q) :
    lE S T W ta σ H fun v H1 => tyV X.K m.ty v H1 ∧ lA S T W n tr σ H1 fun vs H2 => LVm S m v vs H2 Q := by
  obtain ⟨c, ρ, M, Q', E, ok, s, x, t, q⟩ := h
  refine ⟨c, ρ, M, _, E, ok, s, x, t, fun r M1 v H1 hk rv => ?_⟩
  obtain ⟨k1, m1, d1⟩ := rv.plain
  refine ⟨mt_ty (ok.1.trans hK.symm) m1 d1 hk.1, c, ρ, M1, _, E, ok, s.keep k1 m1, x.after k1, hk.2, fun ds M2 vs H2 _ hk2 k2 m2 d2 => ?_⟩
  exact ⟨c, M2, r.d, ds, _, ok, m2, Den.keep k2 _ _ d1, d2, hk2, fun r' M' v' H' h1 h2 => q r' M' v' H' h1 (h2.after (k1.trans k2))⟩
theorem r_mt {m : Mt} {apos : Pos} (hK : X.K = S.K) (hb : noSuper a = true) (hl : lineB apos pos = true) (hn : es.all notStar = true) (hf : es.length < 30) (ho : PE X a (lE S T W ta)) (ha : PA X es (lA S T W es.length tr)) (ha0 : es = [] → ∀ ρ M Q E, tr ρ M Q E → Q [] M) :
    PE X (.Call (.Attribute a (mtNm m) apos) es [] pos) (lE S T W fun ρ M Q E => ta ρ M (fun x M1 => mtTy m x.d M1 = true ∧ tr ρ M1 (fun ds M2 => mtS m x.d ds M2 Q) E) E) := by
  cases es with
  | nil =>
    refine PE.imp (pe_bm0 (Mt.pa m) (Mt.slot m) (Mt.tyof m) (mr_mt hK) ho (base_of hb) hl) fun σ H Q h => ?_
    obtain ⟨c, ρ, M, Q', E, ok, s, x, t, q⟩ := lm_fn (n := 0) hK h
    refine ⟨c, ρ, M, Q', E, ok, s, x, t, fun r M' v H' h1 h2 => ?_⟩
    obtain ⟨y1, y2⟩ := q r M' v H' h1 h2
    exact ⟨y1, lA_nil0 (ha0 rfl) y2⟩
  | cons e es =>
    have h1 : notStar e = true := by simp only [List.all_cons, Bool.and_eq_true] at hn; exact hn.1
    have h2 : es.all notStar = true := by simp only [List.all_cons, Bool.and_eq_true] at hn; exact hn.2
    exact PE.imp (pe_bm (Mt.pa m) (Mt.slot m) (Mt.tyof m) (mr_mt hK) ho ha (base_of hb) (few_of hn hf) hl (star_cons h1) (star_any h2)) fun σ H Q h => lm_fn hK h
theorem fld_of {nc : Nat → Bool} {at_ : Nat → List Str} {x : D} {f : Str} {M : Mem} {Q : D → Prop} (h : fldS nc at_ x f M Q) : ∃ k ns xs d, asI M x = some (k, ns, xs) ∧ (ns.zip xs).lookup f = some d ∧ nc k = true ∧ f ∈ at_ k ∧ Q d := by
  unfold fldS at h
  split at h
  · rename_i k ns xs e
    obtain ⟨h1, h⟩ := h
    obtain ⟨d, e2, h⟩ := opt_of h
    rw [Bool.and_eq_true] at h1
    exact ⟨k, ns, xs, d, e, e2, h1.1, by simpa using h1.2, h⟩
  · exact h.elim
theorem lookup_zipD {c : Cn} {M : Mem} {H : Hp} {f : Str} {d : D} : ∀ {ns : List Str} {xs : List D} {vs : List V}, DenL c M H xs vs → (ns.zip xs).lookup f = some d → ∃ v, (ns.zip vs).lookup f = some v ∧ Den c M H d v
  | [], _, _, _, e => by simp at e
  | n :: ns, [], _, _, e => by simp at e
  | n :: ns, x :: xs, _, q, e => by
    simp only [DenL] at q
    obtain ⟨v, r, rfl, h1, h2⟩ := q
    rw [List.zip_cons_cons, List.lookup_cons] at e ⊢
    cases hb : f == n with
    | true => rw [hb] at e; cases e; exact ⟨v, rfl, h1⟩
    | false => rw [hb] at e; exact lookup_zipD h2 e
theorem lookup_mem {α : Type} {f : Str} {d : α} : ∀ {ns : List Str} {xs : List α}, (ns.zip xs).lookup f = some d → f ∈ ns
  | [], _, e => by simp at e
  | n :: ns, [], e => by simp at e
  | n :: ns, x :: xs, e => by
    rw [List.zip_cons_cons, List.lookup_cons] at e
    cases hb : f == n with
    | true => rw [beq_iff_eq.mp hb]; exact List.mem_cons_self
    | false => rw [hb] at e; exact List.mem_cons_of_mem _ (lookup_mem e)
theorem r_fld {f : Str} (hK : X.K = S.K) (hb : noSuper a = true) (hcl : ∀ k, T.nc k = true → ClsOk S.K (S.cA k) (T.at_ k)) (ha : PE X a (lE S T W ta)) :
    PE X (.Attribute a f pos) (lE S T W fun ρ M Q E => ta ρ M (fun x M1 => fldS T.nc T.at_ x.d f M1 fun d => Q (.val d) M1) E) := by
  refine PE.imp (pe_fld ha (base_of hb)) fun σ H Q ⟨c, ρ, M, Q', E, ok, s, x, t, q⟩ => ⟨c, ρ, M, _, E, ok, s, x, t, fun r M1 v H1 hk rv => ?_⟩
  obtain ⟨k1, m1, d1⟩ := rv.plain
  obtain ⟨k, ns, xs, d, e1, e2, hk1, hk2, h⟩ := fld_of hk
  obtain ⟨a0, dx, vs, rfl, hv, r1, l1⟩ := asI_at m1 d1 e1
  obtain ⟨w, hw, dw⟩ := lookup_zipD r1 e2
  have C := hcl k hk1
  rw [ok.2] at hv
  rw [hK]
  exact ⟨a0, _, dx, _, w, rfl, hv, C.cl, C.na f hk2, hw, q _ _ _ _ h ⟨k1, m1, dw⟩⟩
theorem r_tupRev {p2 pos2 : Pos} (hK : X.K = S.K) (hc : X.calm = true) (hg : Gl X "tuple") (hm : X.mg "tuple" = none) (hg2 : Gl X "reversed") (hm2 : X.mg "reversed" = none) (hn : notStar a = true) (ha : PE X a (lE S T W ta)) :
    PE X (.Call (.Name "tuple" p) [.Call (.Name "reversed" p2) [a] [] pos2] [] pos) (lE S T W fun ρ M Q E => ta ρ M (fun x M1 => match asL M1 x.d with | some xs => Q (.val (.tup xs.reverse)) M1 | none => False) E) := by
  refine PE.imp (RT.pe_tupRev hc hg hm hg2 hm2 ha (star_cons hn)) fun σ H Q ⟨c, ρ, M, Q', E, ok, s, x, t, q⟩ => ⟨c, ρ, M, _, E, ok, s, x, t, fun r M1 v H1 hk rv => ?_⟩
  obtain ⟨k1, m1, d1⟩ := rv.plain
  split at hk
  · rename_i xs e
    obtain ⟨b, vs, rfl, rd, r, l⟩ := asL_at (ok.1.trans hK.symm) m1 d1 e
    refine ⟨b, vs, rfl, rd, fun p hp => q _ _ _ _ hk ((den_tup m1 hp (by rw [List.length_reverse]; exact l) ?_).after k1)⟩
    refine DenL.of_get (by rw [List.length_reverse, List.length_reverse, r.length]) fun i x v hx hv => ?_
    have hi : i < xs.length := by
      have := (List.getElem?_eq_some_iff.mp hx).1
      simpa using this
    rw [List.getElem?_reverse hi] at hx
    rw [List.getElem?_reverse (by rw [← r.length]; exact hi), ← r.length] at hv
    obtain ⟨w, hw, dw⟩ := r.get hx
    rw [hv] at hw
    cases hw
    exact dw
  · exact hk.elim
theorem prgA1 {t : TA} (hg : Gl X "range") (hm : X.mg "range" = none) (hn : notStar a = true) (ha : PA X [a] t) : PRg X (.Call (.Name "range" p) [a] [] pos) (fun σ H Q => t σ H fun vs H1 => ∃ n, vs = [.int n] ∧ Q 0 n H1) := by
  intro pins s σ H Q I h
  refine Call_ (ld_blt I hg hm boot_range (PyProof.Rows.callWith_type1 (thn (ha.run pos pins s σ H _ I h) fun us s1 ⟨vs, H1, I1, r1, n, e, q1⟩ => ?_) (star_cons hn) rfl))
  subst e
  cases r1 with
  | cons r rr =>
    cases rr
    obtain ⟨t, rfl⟩ := r
    exact call_range_1 ⟨_, 0, n, _, _, _, H1, rfl, IsRange.new _ _ _ _ _ _ _, I1.kept fun b u e => Heap.get?_push_of_some _ e, q1⟩
theorem prgA2 {t : TA} (hg : Gl X "range") (hm : X.mg "range" = none) (hn : notStar a = true) (hn2 : notStar b = true) (ha : PA X [a, b] t) : PRg X (.Call (.Name "range" p) [a, b] [] pos) (fun σ H Q => t σ H fun vs H1 => ∃ i j, vs = [.int i, .int j] ∧ Q i j H1) := by
  intro pins s σ H Q I h
  refine Call_ (ld_blt I hg hm boot_range (PyProof.Rows.callWith_type1 (thn (ha.run pos pins s σ H _ I h) fun us s1 ⟨vs, H1, I1, r1, i, j, e, q1⟩ => ?_) (star_cons hn) (by rw [star_cons hn2]; rfl)))
  subst e
  cases r1 with
  | cons r rr =>
    cases rr with
    | cons r2 rr =>
      cases rr
      obtain ⟨t, rfl⟩ := r
      obtain ⟨t', rfl⟩ := r2
      exact call_range_2 ⟨_, i, j, _, _, _, H1, rfl, IsRange.new _ _ _ _ _ _ _, I1.kept fun b u e => Heap.get?_push_of_some _ e, q1⟩
theorem den_rg {c : Cn} {M : Mem} {H : Hp} {i j : Int} : DenL c M H (rangeD i j) (rgV i j) := by
  unfold rangeD rgV
  refine DenL.of_get (by rw [List.length_map, List.length_map]) fun k x v hx hv => ?_
  rw [List.getElem?_map] at hx hv
  cases e : (List.range (j - i).toNat)[k]? with
  | none => rw [e] at hx; cases hx
  | some m => rw [e] at hx hv; cases hx; cases hv; simp only [Den]
theorem rg_fin {c : Cn} {M M1 : Mem} {H H1 : Hp} {i j : Int} {Q' : QR} {Q : VK} (m1 : MR c M1 H1) (k1 : Keep c M H M1 H1) (hb : j - i ≤ 16777216) (h : Q' (.val (.tup (rangeD i j))) M1) (q : ∀ r M' v H', Q' r M' → RV c M H M' H' r v → Q v H') (p : Addr) (hp : H1 p = none) : Q (.ref p) (upd H1 p (.tup (rgV i j))) := by
  have hs : sizeLine = 16777216 := sizeLine_eq
  exact q _ _ _ _ h ((den_tup m1 hp (by unfold rangeD; rw [List.length_map, List.length_range]; omega) den_rg).after k1)
theorem r_tupRange1 {p2 pos2 : Pos} (hc : X.calm = true) (hg : Gl X "tuple") (hm : X.mg "tuple" = none) (hg2 : Gl X "range") (hm2 : X.mg "range" = none) (hn : notStar a = true) (ha : PA X [a] (lA S T W 1 tr)) :
    PE X (.Call (.Name "tuple" p) [.Call (.Name "range" p2) [a] [] pos2] [] pos) (lE S T W fun ρ M Q E => tr ρ M (fun ds M1 => rgS ds fun xs => Q (.val (.tup xs)) M1) E) := by
  refine PE.imp (pe_tupRg hc hg hm (prgA1 hg2 hm2 hn ha)) fun σ H Q ⟨c, ρ, M, Q', E, ok, s, x, t, q⟩ => ⟨c, ρ, M, _, E, ok, s, x, t, fun ds M1 vs H1 hl hk k1 m1 d1 => ?_⟩
  rcases rg_of hk with ⟨n, rfl, hb, hk⟩ | ⟨a, b, rfl, _⟩
  · obtain ⟨v, rfl, dv⟩ := d1.one
    simp only [Den] at dv
    subst dv
    exact ⟨n, rfl, ⟨by omega, by omega, by omega, by omega, by omega⟩, rg_fin m1 k1 (by omega) hk q⟩
  · simp at hl
theorem r_tupRange2 {p2 pos2 : Pos} (hc : X.calm = true) (hg : Gl X "tuple") (hm : X.mg "tuple" = none) (hg2 : Gl X "range") (hm2 : X.mg "range" = none) (hn : notStar a = true) (hn2 : notStar b = true) (ha : PA X [a, b] (lA S T W 2 tr)) :
    PE X (.Call (.Name "tuple" p) [.Call (.Name "range" p2) [a, b] [] pos2] [] pos) (lE S T W fun ρ M Q E => tr ρ M (fun ds M1 => rgS ds fun xs => Q (.val (.tup xs)) M1) E) := by
  refine PE.imp (pe_tupRg hc hg hm (prgA2 hg2 hm2 hn hn2 ha)) fun σ H Q ⟨c, ρ, M, Q', E, ok, s, x, t, q⟩ => ⟨c, ρ, M, _, E, ok, s, x, t, fun ds M1 vs H1 hl hk k1 m1 d1 => ?_⟩
  rcases rg_of hk with ⟨n, rfl, _⟩ | ⟨i, j, rfl, hb, hk⟩
  · simp at hl
  · obtain ⟨v, w, rfl, dv, dw⟩ := d1.two
    simp only [Den] at dv dw
    subst dv dw
    exact ⟨i, j, rfl, ⟨by omega, by omega, by omega, by omega, by omega⟩, rg_fin m1 k1 (by omega) hk q⟩

theorem rg_finL {c : Cn} {M M1 : Mem} {H H1 : Hp} {i j : Int} {Q' : QR} {Q : VK} (m1 : MR c M1 H1) (k1 : Keep c M H M1 H1) (hb : j - i ≤ 16777216) (h : Q' (.new (.lst (rangeD i j))) M1) (q : ∀ r M' v H', Q' r M' → RV c M H M' H' r v → Q v H') (p : Addr) (hp : H1 p = none) : Q (.ref p) (upd H1 p (.lst (rgV i j))) := by
  have hs : sizeLine = 16777216 := sizeLine_eq
  exact q _ _ _ _ h ((RV.fresh (o := .lst (rangeD i j)) (u := .lst (rgV i j)) m1 hp ⟨_, rfl, by unfold rangeD; rw [List.length_map, List.length_range]; omega, den_rg⟩).after k1)
theorem r_lstRange1 {p2 pos2 : Pos} (hc : X.calm = true) (hg : Gl X "list") (hm : X.mg "list" = none) (hg2 : Gl X "range") (hm2 : X.mg "range" = none) (hn : notStar a = true) (ha : PA X [a] (lA S T W 1 tr)) :
    PE X (.Call (.Name "list" p) [.Call (.Name "range" p2) [a] [] pos2] [] pos) (lE S T W fun ρ M Q E => tr ρ M (fun ds M1 => rgS ds fun xs => Q (.new (.lst xs)) M1) E) := by
  refine PE.imp (pe_listRg hc hg hm (prgA1 hg2 hm2 hn ha)) fun σ H Q ⟨c, ρ, M, Q', E, ok, s, x, t, q⟩ => ⟨c, ρ, M, _, E, ok, s, x, t, fun ds M1 vs H1 hl hk k1 m1 d1 => ?_⟩
  rcases rg_of hk with ⟨n, rfl, hb, hk⟩ | ⟨a, b, rfl, _⟩
  · obtain ⟨v, rfl, dv⟩ := d1.one
    simp only [Den] at dv
    subst dv
    exact ⟨n, rfl, ⟨by omega, by omega, by omega, by omega, by omega⟩, rg_finL m1 k1 (by omega) hk q⟩
  · simp at hl
theorem r_lstRange2 {p2 pos2 : Pos} (hc : X.calm = true) (hg : Gl X "list") (hm : X.mg "list" = none) (hg2 : Gl X "range") (hm2 : X.mg "range" = none) (hn : notStar a = true) (hn2 : notStar b = true) (ha : PA X [a, b] (lA S T W 2 tr)) :
    PE X (.Call (.Name "list" p) [.Call (.Name "range" p2) [a, b] [] pos2] [] pos) (lE S T W fun ρ M Q E => tr ρ M (fun ds M1 => rgS ds fun xs => Q (.new (.lst xs)) M1) E) := by
  refine PE.imp (pe_listRg hc hg hm (prgA2 hg2 hm2 hn hn2 ha)) fun σ H Q ⟨c, ρ, M, Q', E, ok, s, x, t, q⟩ => ⟨c, ρ, M, _, E, ok, s, x, t, fun ds M1 vs H1 hl hk k1 m1 d1 => ?_⟩
  rcases rg_of hk with ⟨n, rfl, _⟩ | ⟨i, j, rfl, hb, hk⟩
  · simp at hl
  · obtain ⟨v, w, rfl, dv, dw⟩ := d1.two
    simp only [Den] at dv dw
    subst dv dw
    exact ⟨i, j, rfl, ⟨by omega, by omega, by omega, by omega, by omega⟩, rg_finL m1 k1 (by omega) hk q⟩

/-! ### isinstance -/
def tyN : Ty → V
  | .cls _ => .non
  | t => .ty t.name
/-- a class's name in the text gives its object -/
structure TyAt (X : Cx) (S : Cs) (t : Ty) (e : Expr) : Prop where
  run : ∃ v, PE X e (tC v) ∧ ClsV v (S.tv t)
theorem boot_ty (t : Ty) (h : ∀ k, t ≠ .cls k) (hn : t ≠ .none) : bootBuiltins (Str.ofString t.name) = some (.type t.name) ∧ Str.ofString t.name ≠ "__name__" ∧ (Str.ofString t.name == ("__debug__" : Str)) = false := by
  cases t <;> first | exact absurd rfl (h _) | exact absurd rfl hn | decide +kernel
theorem tyAt_b {t : Ty} (h : ∀ k, t ≠ .cls k) (hn : t ≠ .none) (hg : Gl X (Str.ofString t.name)) (hm : X.mg (Str.ofString t.name) = none) : TyAt X S t (.Name (Str.ofString t.name) p) := by
  obtain ⟨b1, b2, b3⟩ := boot_ty t h hn
  have e : S.tv t = .type t.name := by cases t <;> first | rfl | exact absurd rfl (h _)
  exact ⟨.ty t.name, pe_bltn hg hm b1 rfl b2 b3, by rw [e]; exact .ty _⟩
theorem tyAt_c {k : Nat} {x : Str} (hg : Gl X x) (hm : X.mg x = some (.ref (S.cA k))) (hd : (x == ("__debug__" : Str)) = false) : TyAt X S (.cls k) (.Name x p) :=
  ⟨.ref (S.cA k), pe_glob hg hm rfl hd, .own _⟩
theorem r_isi1 {t : Ty} {n : Nat → Bool} (hK : X.K = S.K) (kit : KitOk S n) (hb : t.below n = true) (hcl : ∀ k, n k = true → ClsOk S.K (S.cA k) (T.at_ k)) (hg : Gl X "isinstance") (hm : X.mg "isinstance" = none) (hn : notStar a = true) (hn2 : notStar b = true) (ha : PE X a (lE S T W ta)) (ht : TyAt X S t b) :
    PE X (.Call (.Name "isinstance" p) [a, b] [] pos) (lE S T W fun ρ M Q E => ta ρ M (fun x M1 => match typ M1 x.d with | some u => u.below n = true ∧ Q (.val (.bl ([t].any (subT u)))) M1 | none => False) E) := by
  obtain ⟨v, hv, cv⟩ := ht.run
  refine PE.imp (pe_callB call_isi hg hm (by decide +kernel) (pa_cons ha (pa_cons hv pa_nil (star_cons hn2)) (star_cons hn)) (by decide) (by decide) (star_cons hn) (by rw [star_cons hn2]; rfl)) fun σ H Q ⟨c, ρ, M, Q', E, ok, s, x, t0, q⟩ => ⟨c, ρ, M, _, E, ok, s, x, t0, fun r M1 w H1 hk rv => ?_⟩
  obtain ⟨k1, m1, d1⟩ := rv.plain
  split at hk
  · rename_i u e
    refine ⟨w, v, S.tv u, S.tv t, subT u t, rfl, cv, typ_of ok hK hcl m1 d1 e hk.1, by rw [hK]; exact kit_all kit hk.1 hb, ?_⟩
    have := hk.2
    simp only [List.any_cons, List.any_nil, Bool.or_false] at this
    exact q _ _ _ _ this ⟨k1, m1, by simp only [R.d, Den]⟩
  · exact hk.elim
/-- the classes of a written tuple -/
inductive TyAts (X : Cx) (S : Cs) : List Ty → List Expr → Prop where
  | nil : TyAts X S [] []
  | cons {t : Ty} {e : Expr} {ts : List Ty} {es : List Expr} (h : TyAt X S t e) (hn : notStar e = true) (r : TyAts X S ts es) : TyAts X S (t :: ts) (e :: es)
theorem TyAts.pa {ts : List Ty} (h : TyAts X S ts es) : ∃ vs, (∃ t : TA, PA X es t ∧ ∀ σ H Q, Q vs H → t σ H Q) ∧ Paired ClsV vs (ts.map S.tv) ∧ vs.length = es.length := by
  induction h with
  | nil => exact ⟨[], ⟨_, pa_nil, fun σ H Q h => h⟩, .nil, rfl⟩
  | cons h hn r ih =>
    obtain ⟨vs, ⟨t, ht, hq⟩, cv, l⟩ := ih
    obtain ⟨v, hv, c⟩ := h.run
    exact ⟨v :: vs, ⟨_, pa_cons hv ht (star_cons hn), fun σ H Q h => hq σ H _ h⟩, .cons c cv, by simp [l]⟩
theorem kit_any {n : Nat → Bool} {u : Ty} (kit : KitOk S n) (hu : u.below n = true) : ∀ {ts : List Ty}, ts.all (Ty.below n) = true → PySem.W.kitAny S.K (S.tv u) (ts.map S.tv) = some (ts.any (subT u))
  | [], _ => kitAny_nil
  | t :: ts, h => by
    simp only [List.all_cons, Bool.and_eq_true] at h
    have ih := kit_any kit hu h.2
    rw [List.map_cons, List.any_cons]
    refine kitAny_cons (kit_all kit hu h.1) (fun e => ?_) fun e => ?_
    · rw [e]; exact ih
    · rw [e]; rfl
theorem r_isiN {ts : List Ty} {n : Nat → Bool} {k : Nat} {p2 : Pos} (hK : X.K = S.K) (kit : KitOk S n) (hb : ts.all (Ty.below n) = true) (hcl : ∀ k, n k = true → ClsOk S.K (S.cA k) (T.at_ k)) (hg : Gl X "isinstance") (hm : X.mg "isinstance" = none) (hn : notStar a = true) (hl : es.length ≤ 1000) (ha : PE X a (lE S T W ta)) (ht : TyAts X S ts es) :
    PE X (.Call (.Name "isinstance" p) [a, .Tuple es k p2] [] pos) (lE S T W fun ρ M Q E => ta ρ M (fun x M1 => match typ M1 x.d with | some u => u.below n = true ∧ Q (.val (.bl (ts.any (subT u)))) M1 | none => False) E) := by
  obtain ⟨vs, ⟨t, hv, hq⟩, cv, lv⟩ := ht.pa
  have hs : sizeLine = 16777216 := sizeLine_eq
  refine PE.imp (pe_callB call_isiT hg hm (by decide +kernel) (pa_cons ha (pa_cons (pe_tup hv) pa_nil) (star_cons hn)) (by decide) (by decide) (star_cons hn)) fun σ H Q ⟨c, ρ, M, Q', E, ok, s, x, t0, q⟩ => ⟨c, ρ, M, _, E, ok, s, x, t0, fun r M1 w H1 hk rv => ?_⟩
  obtain ⟨k1, m1, d1⟩ := rv.plain
  split at hk
  · rename_i u e
    refine hq σ H1 _ ⟨by omega, fun p hp => ?_⟩
    have k2 := Keep.new (o := .tup vs) m1 hp
    have m2 := MR.new (o := .tup vs) m1 hp
    refine ⟨w, p, vs, S.tv u, ts.map S.tv, ts.any (subT u), rfl, upd_same, cv, typ_of ok hK hcl m2 (Den.keep k2 _ _ d1) e hk.1, by rw [hK]; exact kit_any kit hk.1 hb, ?_⟩
    exact q _ _ _ _ hk.2 ⟨k1.trans k2, m2, by simp only [R.d, Den]⟩
  · exact hk.elim
end
end PL
/-! ### == and != by an own __eq__ -/
namespace PySem.W
open PySem PySem.Calls PyProof.Rows
theorem ne_bind (self : Value) : bindSpecial (.builtin "object.__ne__") self = pure (.builtin "object.__ne__", [self]) :=
  (Slot.of (T := "object") (name := "__ne__") (owner := "object") (n := "__ne__") (by rw [typeLookup_type, builtinLookup_eq_fast]; kernel_rfl) (by decide +kernel) (by decide +kernel) (by decide +kernel)
    (.inl (by decide +kernel)) (by rw [isSubtype_type]; kernel_rfl)).bind self
theorem ne_plain : plainId "object.__ne__" = true := by decide +kernel
section
variable {prog : Program} {w : World} {A : Around} {E : Value → Shared → Prop} {s : Shared} {K : Frag} {x C L f : Addr} {h₀ : Heap} {m : Str → Option Value} {ox : Obj} {od : Option Obj} {b tb : Value}
theorem ifBlt_K {M : Model} {args : List Value} {Q : Option Value → Shared → Prop} (X : K.In s.heap) (I : InstAt s.heap x ox C od) (hs : findIn K (.ref C) "__ne__" = some (some (.builtin "object.__ne__")))
    (h : wpAny M A (call (.builtin "object.__ne__") (.ref x :: args)) (fun v => Q (some v)) E s) : wpAny M A (callSpecialIfBound? (.ref x) "__ne__" args) Q E s := by
  simp only [callSpecialIfBound?, bindSpecialIfBound?]
  refine wpAny_holding (wpAny_bind (wpAny_bind (wpAny_bind (I.type.here ((looks_findIn X hs).here ?_)))))
  simp only [ne_bind]
  refine wpAny_bind (wpAny_askSetting (wpAny_ite ?_))
  have fin : wpAny M A (call (.builtin "object.__ne__") ([.ref x] ++ args) >>= fun v => pure (some v)) Q E s := wpAny_bind (wpAny_mono h (fun v s' h' => wpAny_pure h') fun _ _ h' => h')
  split
  · exact wpAny_bind (wpAny_pure (wpAny_pure fin))
  · exact wpAny_tryCatch (wpAny_bind (wpAny_pure (wpAny_pure fin)))
theorem objNe_K (hu : A.units < cLine) (X : K.In s.heap) (I : InstAt s.heap x ox C od) (he : findIn K (.ref C) "__eq__" = some (some (.ref f))) (hf : isFn K (.ref f) = true) {Q : Fin → Shared → Prop}
    (h : wpAny (model prog w) A (call (.ref f) [.ref x, b]) (fun v s' => ∃ r, v = .bool r ∧ Q (.done (.ret (.bool (!r)))) s') E s) :
    wpAny (model prog w) A (Builtin.«object.__ne__» ⟨[.ref x, b], []⟩) Q E s := by
  obtain ⟨hp, g, d, t, os⟩ := s
  unfold Builtin.«object.__ne__»
  repeat (first
    | with_reducible refine wpAny_cRoomFor hu ?_
    | (refine wpAny_bind (m := callSpecialIfBound? (.ref x) (Str.ofString "__eq__") [b])
        (ifBound_K X I he hf (wpAny_mono h (fun r s' hr => by
          obtain ⟨b, rfl, hq⟩ := hr
          repeat (first | exact hq | exact wpAny_pure hq | exact wpAny_truthy_bool hq | (refine wpAny_bind (m := truthy (.bool _)) (wpAny_truthy_bool ?_)) | wp_step)) fun _ _ e => e)))
    | wp_step)
theorem cmpNe_K {Q : Value → Shared → Prop} (hu : A.units + 1 < cLine) (FF : Fr h₀ L s.heap m) (X₀ : K.In h₀) (I : InstAt s.heap x ox C od) (hb : Looks (model prog w) s.heap (typeOf b) tb) (hn : notFirst K C tb = true) (ho : Looks (model prog w) s.heap (isInstance (.ref x) (.type "object")) true)
    (he : findIn K (.ref C) "__eq__" = some (some (.ref f))) (hf : isFn K (.ref f) = true) (hne : findIn K (.ref C) "__ne__" = some (some (.builtin "object.__ne__")))
    (h : wpAny (model prog w) A.in1 (call (.ref f) [.ref x, b]) (fun v s' => ∃ r, v = .bool r ∧ Q (.bool (!r)) s') E s) : wpAny (model prog w) A (richCompare .NotEq (.ref x) b) Q E s := by
  have X := X₀.keeps FF.keep
  have one : wpAny (model prog w) A (tryCompare (.ref x) "__ne__" b) (fun r s' => ∃ v, r = some v ∧ Q v s') E s := by
    unfold tryCompare
    refine wpAny_bind (ifBlt_K X I hne (wpAny_call (codeAny_call_builtin ne_plain F.cmpEntry_ne
      (check_slot F.cmpKind_ne F.cmpSplit_ne ho (F.cmpArgs_ne _ _) (objNe_K (A := A.in1) hu X I he hf (wpAny_mono h (fun v s' hv => ?_) fun _ _ e => e))))))
    obtain ⟨r, rfl, hq⟩ := hv
    exact ⟨r, rfl, wpAny_pure ⟨_, rfl, hq⟩⟩
  unfold richCompare
  simp only [oneThing_ref]
  refine wpAny_holding (wpAny_bind (wpAny_cRoomFor (Nat.lt_of_succ_lt hu) ?_))
  refine wpAny_bind (I.type.here (wpAny_bind (hb.here ?_)))
  split
  · rename_i q
    have e : subIn K tb (.ref C) = some false := by
      rcases Bool.or_eq_true_iff.mp hn with e | e
      · rw [beq_iff_eq.mp e] at q; simp at q
      · exact beq_iff_eq.mp e
    refine wpAny_bind ((looks_subIn X e).here ?_)
    simp only [Bool.false_eq_true, if_false]
    refine wpAny_bind (wpAny_mono one (fun r s' z => ?_) fun _ _ e => e)
    obtain ⟨v, rfl, hq⟩ := z
    exact wpAny_pure hq
  · refine wpAny_bind (wpAny_pure ?_)
    simp only [Bool.false_eq_true, if_false]
    refine wpAny_bind (wpAny_mono one (fun r s' z => ?_) fun _ _ e => e)
    obtain ⟨v, rfl, hq⟩ := z
    exact wpAny_pure hq
end
end PySem.W
namespace PL
open PySem PySem.Spec PyProof.Rows L2
/-- the class of a value, looked up -/
theorem looks_ty {X : Cx} {pins : List (Addr × Obj)} {σ : L2.St} {H : Hp} {s : Shared} {M : Model} {x : V} {u t : Value} (I : Inv X pins σ H s) (rx : RelV x u) (ty : TyX X.K H x t) : PySem.W.Looks M s.heap (typeOf u) t := by
  have ob : ∀ {a : Addr} {o : Obj}, s.heap.get? a = some o → PySem.W.Looks M s.heap (typeOf (.ref a)) o.cls := fun e => (PySem.W.Looks.ld e).andThen .now
  cases ty with
  | base b =>
    cases b with
    | non => cases (show u = Value.none from rx); exact PySem.W.Looks.of_pure rfl
    | bl y => cases (show u = Value.bool y from rx); exact PySem.W.Looks.of_pure rfl
    | int i => obtain ⟨t, q⟩ := (show ∃ t, u = Value.int i t from rx); cases q; exact PySem.W.Looks.of_pure rfl
    | str y => obtain ⟨t, q⟩ := (show ∃ t, u = Value.str y t from rx); cases q; exact PySem.W.Looks.of_pure rfl
    | flt y => obtain ⟨t, q⟩ := (show ∃ t, u = Value.float y t from rx); cases q; exact PySem.W.Looks.of_pure rfl
    | @lst a xs ea =>
      cases (show u = Value.ref a from rx)
      obtain ⟨_, _, n, _, h1⟩ := (show ObjOk X.prog X.w H s.heap a (.lst xs) from I.hok a _ ea)
      exact ob h1
    | @frz a o2 xs ea =>
      cases (show u = Value.ref a from rx)
      obtain ⟨_, _, _, n, _, h1⟩ := (show ObjOk X.prog X.w H s.heap a (.frz o2 (.lst xs)) from I.hok a _ ea)
      exact ob h1
    | @tup a xs ea =>
      cases (show u = Value.ref a from rx)
      obtain ⟨_, _, _, o, h1, h2, _⟩ := (show ObjOk X.prog X.w H s.heap a (.tup xs) from I.hok a _ ea)
      rw [← h2]; exact ob h1
    | @dK a kvs ea =>
      cases (show u = Value.ref a from rx)
      obtain ⟨_, _, vs, _, o, es, ep, h1, h2, _⟩ := (show ObjOk X.prog X.w H s.heap a (.dK kvs) from I.hok a _ ea)
      rw [← h2.1]; exact ob h1
    | @dT a kvs ea =>
      cases (show u = Value.ref a from rx)
      obtain ⟨_, _, xs, _, o, es, ep, h1, h2, _⟩ := (show ObjOk X.prog X.w H s.heap a (.dT kvs) from I.hok a _ ea)
      rw [← h2.1]; exact ob h1
    | @ins a C dx fs ea cl ha hn htk hm =>
      cases (show u = Value.ref a from rx)
      obtain ⟨mA, O, _⟩ := ins_get I.hok ea
      obtain ⟨od, J, _⟩ := O.look
      exact J.type
  | byt y => obtain ⟨t, q⟩ := (show ∃ t, u = Value.bytes y t from rx); cases q; exact PySem.W.Looks.of_pure rfl
  | @set a S n ea =>
    cases (show u = Value.ref a from rx)
    obtain ⟨o, _, _, _, e, ex, _⟩ := I.hok a _ ea
    rw [← ex.1]; exact ob e
  | @kList a o e c =>
    cases (show u = Value.ref a from rx)
    rw [← c]; exact ob (I.kIn a o e)
  | @kTuple a o e c =>
    cases (show u = Value.ref a from rx)
    rw [← c]; exact ob (I.kIn a o e)
  | @kDict a o e c =>
    cases (show u = Value.ref a from rx)
    rw [← c]; exact ob (I.kIn a o e)
  | @fTuple a o2 xs ea =>
    cases (show u = Value.ref a from rx)
    obtain ⟨_, _, _, _, o, h1, h2, _⟩ := (show ObjOk X.prog X.w H s.heap a (.frz o2 (.tup xs)) from I.hok a _ ea)
    rw [← h2]; exact ob h1
  | @fDict a o2 kvs ea =>
    cases (show u = Value.ref a from rx)
    obtain ⟨_, _, _, vs, _, o, es, ep, h1, h2, _⟩ := (show ObjOk X.prog X.w H s.heap a (.frz o2 (.dK kvs)) from I.hok a _ ea)
    rw [← h2.1]; exact ob h1
/-- the second operand's class does not come first -/
theorem not_first {K : PySem.W.Frag} {C : Addr} {t : Value} {b : Bool} (h : PySem.W.kitOne K t (.ref C) = some b) (e : b = true → t = .ref C) : PySem.W.notFirst K C t = true := by
  unfold PySem.W.notFirst
  cases b with
  | true => rw [e rfl]; simp
  | false =>
    rw [Bool.or_eq_true]
    right
    unfold PySem.W.kitOne PySem.W.kitCls at h
    split at h
    · cases h
    · simp only at h
      split at h
      · rw [h]; rfl
      · cases h
/-- the callee runs at a deeper place -/
theorem run_sub {X : Cx} {σ : L2.St} {H : Hp} {Q : VK} {pins : List (Addr × Obj)} {s : Shared} {A : Around} {k : Nat} {f : Addr} {fd : FuncData} {ps : List Str} {sp : Sp} {us : List Value} {vs : List V} (F : FnOk X.prog X.w X.K X.mg X.base (L2.CX X.prog X.w) k f fd ps sp) (sb : L2.Sub X k A)
    (I : Inv X pins σ H s) (hb : BindsTo s fd ⟨us, []⟩ (ps.zip us)) (r : Vals vs us) (h : sp vs H Q fun _ _ _ => False) : wpAny (model X.prog X.w) A (call (.ref f) us) (EP X pins σ Q) X.xe s := by
  have e0 : Env0 X.prog X.w X.K X.mg X.base A X.stack s H := by
    have e := I.env0
    exact ⟨by rw [sb.fr]; exact e.frames, e.mod, e.bs, e.bsz, e.funs, e.frf, e.hok, e.bare⟩
  refine wpAny_call (codeAny_mono (F.run A X.stack s H ⟨us, []⟩ us vs Q (fun _ _ _ => False) sb.room e0 hb r h) fun r s' hq => ?_)
  cases r with
  | error e =>
    obtain ⟨_, _, _, _, _, _, _, _, _, _, _, _, z⟩ := hq
    exact z.elim
  | ok fl =>
    cases fl with
    | ret u => exact I.after hq
    | next => exact False.elim hq
    | brk => exact False.elim hq
    | cont => exact False.elim hq
theorem kwArgs_nil' {α : Type} {ps : List Str} {ds : List α} : kwArgs ps ds [] [] = ds := by
  unfold kwArgs
  simp
theorem or_own {X : Cx} {S : Cs} {T : Tb} {neg : Bool} {k j i : Nat} {F : List Form} (hK : X.K = S.K) (en : MtEnt X.prog X.w X.mg X.base S T j (T.mc k) "__eq__" (T.mp k) F (T.mt k)) (hF : (2, []) ∈ F) (hj : j + 1 ≤ i) (hr : Room i X.A) (kit : KitOk S T.nc)
    (hcl : ∀ k, T.nc k = true → ClsOk S.K (S.cA k) (T.at_ k)) (hc : T.nc (T.mc k) = true) (hne : PySem.W.findIn S.K (.ref (S.cA (T.mc k))) "__ne__" = some (some (.builtin "object.__ne__"))) :
    OpR X (compareOp (if neg = true then .NotEq else .Eq)) (LV2 S (kOwn T neg k)) := by
  intro pins s σ H x y v u Q I rx ry ⟨c, M, dx, dy, Q', ok, m, d1, d2, h, q⟩
  unfold kOwn at h
  cases ht : typ M dy with
  | none => rw [ht] at h; exact h.elim
  | some t =>
    rw [ht] at h
    obtain ⟨hb, h⟩ := h
    unfold methS at h
    cases e : asI M dx with
    | none => rw [e] at h; exact h.elim
    | some z =>
      obtain ⟨c', ns, xs⟩ := z
      rw [e] at h
      obtain ⟨⟨rfl, rfl⟩, h⟩ := h
      obtain ⟨a, dxx, vs, rfl, ha, r0, l0⟩ := asI_at m d1 e
      rw [ok.2] at ha
      obtain rfl : v = Value.ref a := rx
      obtain ⟨f, fd, FK, mf, bs⟩ := en.ex
      have b := bs _ hF
      have ty : TyX X.K H y (S.tv t) := typ_of ok hK hcl m d2 ht hb
      have lk := looks_ty (M := model X.prog X.w) I ry ty
      have hs : t.below T.nc = true ∧ (Ty.cls (T.mc k)).below T.nc = true := ⟨hb, by simpa [Ty.below] using hc⟩
      have k1 := kit_all kit hs.1 hs.2
      have nf : PySem.W.notFirst X.K (S.cA (T.mc k)) (S.tv t) = true := by
        rw [hK]
        refine not_first k1 fun hsub => ?_
        cases t <;> simp [subT] at hsub
        rw [hsub]
        rfl
      obtain ⟨mA, J, _⟩ := ins_get I.hok ha
      obtain ⟨od, J, _⟩ := J.look
      obtain ⟨mm, hFr⟩ := I.fr
      have rj : Room (j + 1) X.A := hr.mono hj
      have sb : L2.Sub X (j + 1) X.A := ⟨rj, rfl⟩
      have fnd : PySem.W.findIn X.K (.ref (S.cA (T.mc k))) "__eq__" = some (some (.ref f)) := by rw [hK]; exact mf.at_
      have fn' : PySem.W.isFn X.K (.ref f) = true := by rw [hK]; exact mf.fn
      have run : ∀ A, L2.Sub X j A → wpAny (model X.prog X.w) A (call (.ref f) [.ref a, u]) (EP X pins σ fun v H' => ∃ r : Bool, v = .bl r ∧ Q (.bl (r != neg)) H') X.xe s := fun A sb => by
        refine run_sub (by rw [hK]; exact FK) sb I (by
          have := b.to s [.ref a, u] [] (by rw [← hK]; exact I.kIn) rfl rfl
          simp only [kwArgs_nil'] at this
          exact this) (.cons (show RelV (V.ref a) (Value.ref a) from rfl) (.cons ry .nil)) ?_
        have ln : 2 = (T.mp k).length := by
          have := b.len [dx, dy] [] rfl rfl
          simp only [kwArgs_nil'] at this
          exact this
        refine ⟨c, M, [dx, dy], _, _, ok, m, DenL.cons d1 (DenL.cons d2 DenL.nil), ln, h, fun r M' v H' hr rv => ?_, fun _ _ _ _ _ z => z.elim⟩
        obtain ⟨k1, m1, d3⟩ := rv.plain
        cases hd : r.d with
        | bl b =>
          rw [hd] at hr d3
          simp only [Den] at d3
          subst d3
          exact ⟨b, rfl, q _ _ _ _ hr ⟨k1, m1, by simp only [R.d, Den]⟩⟩
        | _ => rw [hd] at hr; exact hr.elim
      cases neg with
      | false =>
        show wpAny _ _ (richCompare .Eq (.ref a) u) _ _ s
        refine PySem.W.cmp_K (op := .Eq) sb.room.units0 hFr I.ok.mod.kin J lk nf fnd fn' (wpAny_mono (run X.A (sb.mono (Nat.le_succ _))) (fun w s' hq => ?_) fun _ _ e => e)
        obtain ⟨z, H', I', rz, r, ez, hq⟩ := hq
        subst ez
        cases rz
        exact ⟨.bl r, H', I', rfl, by simpa using hq⟩
      | true =>
        show wpAny _ _ (richCompare .NotEq (.ref a) u) _ _ s
        have cl := hcl _ hc
        have ho : PySem.W.Looks (model X.prog X.w) s.heap (isInstance (.ref a) (.type "object")) true := J.type.andThen (PySem.W.looks_subIn I.kIn (by rw [hK]; exact cl.hm))
        refine PySem.W.cmpNe_K (show X.A.units + 1 < cLine from sb.in1.room.units0) hFr I.ok.mod.kin J lk nf ho fnd fn' (by rw [hK]; exact hne) (wpAny_mono (run X.A.in1 sb.in1) (fun w s' hq => ?_) fun _ _ e => e)
        obtain ⟨z, H', I', rz, r, ez, hq⟩ := hq
        subst ez
        cases rz
        exact ⟨r, rfl, .bl (!r), H', I', rfl, by simpa using hq⟩
theorem r_ieq {X : Cx} {S : Cs} {T : Tb} {W : WX} {neg : Bool} {k j i : Nat} {F : List Form} {a b : Expr} {pos : Pos} {ta tb : DTE} (hK : X.K = S.K) (en : MtEnt X.prog X.w X.mg X.base S T j (T.mc k) "__eq__" (T.mp k) F (T.mt k)) (hF : (2, []) ∈ F) (hj : j + 1 ≤ i) (hr : Room i X.A) (kit : KitOk S T.nc)
    (hcl : ∀ k, T.nc k = true → ClsOk S.K (S.cA k) (T.at_ k)) (hc : T.nc (T.mc k) = true) (hne : PySem.W.findIn S.K (.ref (S.cA (T.mc k))) "__ne__" = some (some (.builtin "object.__ne__")))
    (hm : behindInMarks (if neg = true then .NotEq else .Eq) b = false) (ha : PE X a (lE S T W ta)) (hb : PE X b (lE S T W tb)) :
    PE X (.Compare a [if neg = true then .NotEq else .Eq] [b] pos) (lE S T W fun ρ M Q E => ta ρ M (fun x M1 => tb ρ M1 (fun y M2 => kOwn T neg k x.d y.d M2 Q) E) E) :=
  PE.imp (pe_cmpR (or_own hK en hF hj hr kit hcl hc hne) ha hb hm) fun σ H Q h => lE_bin (k := kOwn T neg k) h
end PL
/-! ### the short text tells the text -/
namespace PL
open PySem PySem.Spec PyProof.Rows L2

def bltN : List Str := ["range", "enumerate", "zip", "tuple", "reversed", "isinstance", "len", "int", "str", "all", "any", "list", "max", "min", "abs", "sum", "bool", "dict", "NoneType"]
/-- what stands around a text -/
structure XC (S : Cs) (T : Tb) (K : Ck) (i : Nat) (X : Cx) : Prop where
  N : X.N = K.N
  nd : X.N.Nodup
  calm : X.calm = true
  hK : X.K = S.K
  room : Room i X.A
  blt : ∀ x ∈ bltN, X.mg x = none
  gl : ∀ g x, K.gl.lookup g = some x → ∃ (u : Value) (v : V), X.mg x = some u ∧ RelV v u ∧ ∀ (c : Cn) (M : Mem) (H : Hp), S.ok c → Den c M H (T.gl g) v
  fn : ∀ k x F, K.fn.lookup k = some (x, F) → ∃ j, j ≤ i ∧ FnEnt X.prog X.w X.mg X.base S T j x (T.fp k) F (T.fn k)
  mt : ∀ k x F, K.mt.lookup k = some (x, F) → ∃ j, j ≤ i ∧ MtEnt X.prog X.w X.mg X.base S T j (T.mc k) x (T.mp k) F (T.mt k) ∧ T.nc (T.mc k) = true ∧ x ∉ T.at_ (T.mc k)
  mkr : ∀ k x F, K.mkr.lookup k = some (x, F) → ∃ j, j + 1 ≤ i ∧ MkEnt X.prog X.w X.mg X.base S T j k x (T.kp k) F (T.mak k)
  cls : ∀ k x, K.cl.lookup k = some x → X.mg x = some (.ref (S.cA k)) ∧ T.nc k = true
  clok : ∀ k, T.nc k = true → ClsOk S.K (S.cA k) (T.at_ k)
  kit : KitOk S T.nc
  xr : ∀ k x n, K.xr.lookup k = some (x, n) → ∃ j, j + 1 ≤ i ∧ XrEnt X.prog X.w X.mg X.base S T j k x n
  hc : ∀ k x, K.hc.lookup k = some x → X.mg x = some (.ref (S.cA k))
  xm : ∀ k c, T.xc k = true → T.xc c = true → PySem.W.exmOne S.K (.ref (S.cA k)) (.ref (S.cA c)) = some (T.sub k c)
  xfc : ∀ k, T.xc k = true → XfC S.K (S.cA k) ∧ ∀ n ∈ T.xf k, PySem.W.findIn S.K (.ref (S.cA k)) n = some none
  eqs : ∀ k, K.eq.contains k = true → ∃ (j : Nat) (F : List Form), j + 1 ≤ i ∧ MtEnt X.prog X.w X.mg X.base S T j (T.mc k) "__eq__" (T.mp k) F (T.mt k) ∧ (2, []) ∈ F ∧ T.nc (T.mc k) = true ∧ PySem.W.findIn S.K (.ref (S.cA (T.mc k))) "__ne__" = some (some (.builtin "object.__ne__"))
section
variable {S : Cs} {T : Tb} {K : Ck} {i : Nat} {X : Cx} {W : WX}
theorem XC.units (C : XC S T K i X) : X.A.units + 64 < cLine := C.room.units
theorem XC.blk (C : XC S T K i X) (s : Shared) (H : Hp) (scope : Scope) (cenv : Env) (fp : List Addr) : XC S T K i (X.blk s H scope cenv fp) :=
  ⟨C.N, C.nd, C.calm, C.hK, C.room, C.blt, C.gl, C.fn, C.mt, C.mkr, C.cls, C.clok, C.kit, C.xr, C.hc, C.xm, C.xfc, C.eqs⟩
theorem XC.tr (C : XC S T K i X) (pn : List (Addr × Obj)) (xe : Value → Shared → Prop) : XC S T K i (X.tr pn xe) :=
  ⟨C.N, C.nd, C.calm, C.hK, C.room, C.blt, C.gl, C.fn, C.mt, C.mkr, C.cls, C.clok, C.kit, C.xr, C.hc, C.xm, C.xfc, C.eqs⟩
theorem XC.fnB (C : XC S T K i X) (f : Fn) : X.mg f.name = none := C.blt _ (by cases f <;> decide +kernel)
theorem takes0 {s : Shared} {H : Hp} {scope : Scope} {cenv : Env} {fp : List Addr} : Takes (X.blk s H scope cenv fp) W0 := fun u s' ⟨_, _, _, _, _, _, _, _, _, _, _, _, _, _, _, _, z⟩ => z.elim
theorem ty_ok {sc : Scope} (C : XC S T K i X) (hs : X.env.scope = sc) {t : Ty} {e : Expr} (h : tyB K sc t e = true) : TyAt X S t e ∧ t.below T.nc = true := by
  cases t with
  | cls k =>
    cases e <;> simp only [tyB] at h <;> try (exact absurd h Bool.false_ne_true)
    simp only [Bool.and_eq_true, beq_iff_eq] at h
    obtain ⟨⟨h1, h2⟩, h3⟩ := h
    exact ⟨tyAt_c (gl_of hs h1) (C.cls _ _ h3).1 (dbg_of h2), (C.cls _ _ h3).2⟩
  | none => cases e <;> simp [tyB] at h
  | _ =>
    cases e <;> simp only [tyB] at h <;> try (exact absurd h Bool.false_ne_true)
    simp only [Bool.and_eq_true, beq_iff_eq] at h
    obtain ⟨h1, rfl⟩ := h
    exact ⟨tyAt_b (fun k z => by cases z) (fun z => by cases z) (gl_of hs h1) (C.blt _ (by decide +kernel)), rfl⟩
theorem tys_ok {sc : Scope} (C : XC S T K i X) (hs : X.env.scope = sc) : ∀ {ts : List Ty} {es : List Expr}, tysB K sc ts es = true → TyAts X S ts es ∧ ts.all (Ty.below T.nc) = true
  | [], [], _ => ⟨.nil, rfl⟩
  | t :: ts, e :: es, h => by
    simp only [tysB, Bool.and_eq_true] at h
    obtain ⟨⟨h0, h1⟩, h2⟩ := h
    obtain ⟨a1, a2⟩ := ty_ok C hs h1
    obtain ⟨b1, b2⟩ := tys_ok C hs h2
    exact ⟨.cons a1 h0 b1, by rw [List.all_cons, a2, b2]; rfl⟩
  | [], _ :: _, h => by simp [tysB] at h
  | _ :: _, [], h => by simp [tysB] at h
theorem tg_ok {sc : Scope} {fn : Str → Bool} (C : XC S T K i X) (hs : X.env.scope = sc) (hfn : ∀ x, fn x = true → X.fn x = true) {t : Tg} {e : Expr} (h : tgB K sc fn t e = true) : PG X e (gT X.K t) := by
  have lc : ∀ {x : Str}, (locB sc x || (celB sc x && fn x)) = true → Loc X.env.scope x ∧ (X.fn x = true ∨ X.env.scope.names.lookup x = some .local) := fun {x} h => by
    rw [hs]
    rw [Bool.or_eq_true] at h
    rcases h with h | h
    · have := loc_of h; exact ⟨.inl this, .inr this⟩
    · rw [Bool.and_eq_true] at h
      have h1 := h.1
      unfold celB at h1
      split at h1
      · exact ⟨.inr (by assumption), .inl (hfn _ h.2)⟩
      · exact absurd h1 Bool.false_ne_true
  have nm : ∀ {is : List Nat} {es : List Expr}, tgB.namesB K sc fn is es = true → PGs X es (gNms is) ∧ (assignEach es X.env).length = is.length ∧ (assignEach es X.env).findIdx? (·.1) = none := by
    intro is
    induction is with
    | nil =>
      intro es h
      cases es with
      | nil => exact ⟨pgs_nil, rfl, rfl⟩
      | cons _ _ => simp [tgB.namesB] at h
    | cons j js ih =>
      intro es h
      cases es with
      | nil => simp [tgB.namesB] at h
      | cons e es =>
        cases e <;> simp only [tgB.namesB] at h <;> try (exact absurd h Bool.false_ne_true)
        rw [Bool.and_eq_true, Bool.and_eq_true, beq_iff_eq] at h
        obtain ⟨⟨h1, h2⟩, h3⟩ := h
        obtain ⟨a1, a2, a3⟩ := ih h3
        obtain ⟨l1, l2⟩ := lc h2
        refine ⟨pgs_cons (pg_name C.nd (by rw [C.N]; exact h1) l1 l2) a1, ?_, ?_⟩
        · show (assignEach es X.env).length + 1 = js.length + 1
          rw [a2]
        · show List.findIdx? (·.1) (_ :: assignEach es X.env) = none
          rw [List.findIdx?_cons, a3]
          rfl
  cases t with
  | name j =>
    cases e <;> simp only [tgB] at h <;> try (exact absurd h Bool.false_ne_true)
    rw [Bool.and_eq_true, beq_iff_eq] at h
    obtain ⟨l1, l2⟩ := lc h.2
    exact pg_name C.nd (by rw [C.N]; exact h.1) l1 l2
  | tup is =>
    cases e <;> simp only [tgB] at h <;> try (exact absurd h Bool.false_ne_true)
    obtain ⟨a1, a2, a3⟩ := nm h
    exact pg_tup C.calm a1 a2 a3
end
theorem own_t {t : Tg} {vs : List Nat} (h : ownT t vs = true) : ∀ i ∈ t.slots, i ∈ vs := by
  cases t with
  | name i => intro j hj; simp only [Tg.slots, List.mem_singleton] at hj; subst hj; simpa [ownT] using h
  | tup is => intro j hj; simp only [ownT, List.all_eq_true] at h; simpa using h j hj
theorem con_ok {X : Cx} {S : Cs} {T : Tb} {W : WX} {d : D} {c : Const} {k : Nat} {pos : Pos} (h : conB d c = true) : PE X (.Constant c k pos) (lE S T W fun _ M Q _ => Q (.val d) M) := by
  cases d <;> cases c <;> simp only [conB] at h <;> try (exact absurd h Bool.false_ne_true)
  · exact r_con pe_non fun _ _ _ _ => by simp only [Den]
  · rw [beq_iff_eq] at h; subst h; exact r_con pe_bl fun _ _ _ _ => by simp only [Den]
  · rw [beq_iff_eq] at h; subst h; exact r_con pe_int fun _ _ _ _ => by simp only [Den]
  · rw [beq_iff_eq] at h; subst h; exact r_con pe_str fun _ _ _ _ => by simp only [Den]
theorem pa_c {X : Cx} {S : Cs} {T : Tb} {W : WX} {e : Expr} {es : List Expr} {t : DTE} {u : DTA} (he : PE X e (lE S T W t)) (hr : PA X es (lA S T W es.length u)) (hn : notStar e = true) :
    PA X (e :: es) (lA S T W (e :: es).length fun ρ M Q E => t ρ M (fun x M1 => u ρ M1 (fun ds M2 => Q (x.d :: ds) M2) E) E) := by
  refine PA.imp (pa_cons he hr (star_cons hn)) fun σ H Q ⟨c, ρ, M, Q', E, ok, s, x, t, q⟩ => ⟨c, ρ, M, _, E, ok, s, x, t, fun r M1 v H1 hk rv => ?_⟩
  obtain ⟨k1, m1, d1⟩ := rv.plain
  refine ⟨c, ρ, M1, _, E, ok, s.keep k1 m1, x.after k1, hk, fun ds M2 vs H2 hl hk2 k2 m2 d2 => ?_⟩
  exact q _ _ _ _ (by simp [hl]) hk2 (k1.trans k2) m2 (DenL.cons (Den.keep k2 _ _ d1) d2)
theorem pa_n {X : Cx} {S : Cs} {T : Tb} {W : WX} : PA X [] (lA S T W ([] : List Expr).length fun _ M Q _ => Q [] M) :=
  PA.imp pa_nil fun σ H Q ⟨c, ρ, M, Q', E, ok, s, x, t, q⟩ => q [] M [] H rfl t (Keep.refl _ _ _) s.mem DenL.nil
theorem PK.imp {X : Cx} {e : List Keyword} {t t' : TA} (h : PK X e t) (i : ∀ σ H Q, t' σ H Q → t σ H Q) : PK X e t' := ⟨fun p pins s σ H Q I q => h.run p pins s σ H Q I (i σ H Q q)⟩
theorem pk_c {X : Cx} {S : Cs} {T : Tb} {W : WX} {e : Expr} {es : List Keyword} {t : DTE} {u : DTA} {n : Nat} {nm : Option Str} {kp : Pos} (he : PE X e (lE S T W t)) (hr : PK X es (lA S T W n u)) :
    PK X (⟨nm, e, kp⟩ :: es) (lA S T W (n + 1) fun ρ M Q E => t ρ M (fun x M1 => u ρ M1 (fun ds M2 => Q (x.d :: ds) M2) E) E) := by
  refine PK.imp (pk_cons he hr) fun σ H Q ⟨c, ρ, M, Q', E, ok, s, x, t, q⟩ => ⟨c, ρ, M, _, E, ok, s, x, t, fun r M1 v H1 hk rv => ?_⟩
  obtain ⟨k1, m1, d1⟩ := rv.plain
  refine ⟨c, ρ, M1, _, E, ok, s.keep k1 m1, x.after k1, hk, fun ds M2 vs H2 hl hk2 k2 m2 d2 => ?_⟩
  exact q _ _ _ _ (by simp [hl]) hk2 (k1.trans k2) m2 (DenL.cons (Den.keep k2 _ _ d1) d2)
theorem pk_n {X : Cx} {S : Cs} {T : Tb} {W : WX} : PK X [] (lA S T W 0 fun _ M Q _ => Q [] M) :=
  PK.imp pk_nil fun σ H Q ⟨c, ρ, M, Q', E, ok, s, x, t, q⟩ => q [] M [] H rfl t (Keep.refl _ _ _) s.mem DenL.nil
theorem r_cell {X : Cx} {S : Cs} {T : Tb} {W : WX} {e : Expr} {t : DTE} (he : PE X e (lE S T W t)) : PE X e (lE S T W fun ρ M Q E => t ρ M (fun r M1 => match r with
    | .new o => ∀ p, M1 p = none → Q (.val (.ref p)) (mput M1 p o)
    | .val _ => False) E) := by
  refine PE.imp he fun σ H Q ⟨c, ρ, M, Q', E, ok, s, x, t, q⟩ => ⟨c, ρ, M, _, E, ok, s, x, t, fun r M1 v H1 hk rv => ?_⟩
  cases r with
  | val d => exact hk.elim
  | new o =>
    obtain ⟨p, rfl, hp, k, m⟩ := rv
    exact q _ _ _ _ (hk p hp) ⟨k, m, by simp only [Den]⟩
theorem r_frz {X : Cx} {S : Cs} {T : Tb} {W : WX} {e : Expr} {t : DTE} (he : PE X e (lE S T W t)) : PE X e (lE S T W fun ρ M Q E => t ρ M (fun r M1 => match r with
    | .val (.ref p) => match M1 p with
      | some o => Q (.val o.frz) (mdel M1 p)
      | none => False
    | _ => False) E) := by
  refine PE.imp he fun σ H Q ⟨c, ρ, M, Q', E, ok, s, x, t, q⟩ => ⟨c, ρ, M, _, E, ok, s, x, t, fun r M1 v H1 hk rv => ?_⟩
  split at hk
  · rename_i p
    split at hk
    · rename_i o e
      obtain ⟨k, m, d⟩ := rv
      simp only [Den] at d
      subst d
      exact q _ _ _ _ hk ⟨k.trans (Keep.sub (Sub.del M1 p)), m.sub (Sub.del M1 p), Den.frz m e⟩
    · exact hk.elim
  · exact hk.elim
theorem r_own {X : Cx} {S : Cs} {T : Tb} {W : WX} {e : Expr} {t : DTE} (he : PE X e (lE S T W t)) : PE X e (lE S T W fun ρ M Q E => t ρ M (fun r M1 => match r with
    | .val (.ref p) => match M1 p with
      | some o => Q (.new o) (mdel M1 p)
      | none => False
    | _ => False) E) := by
  refine PE.imp he fun σ H Q ⟨c, ρ, M, Q', E, ok, s, x, t, q⟩ => ⟨c, ρ, M, _, E, ok, s, x, t, fun r M1 v H1 hk rv => ?_⟩
  split at hk
  · rename_i p
    split at hk
    · rename_i o e
      obtain ⟨k, m, d⟩ := rv
      simp only [Den] at d
      subst d
      exact q _ _ _ _ hk ⟨p, rfl, if_pos rfl, by rw [mput_mdel e]; exact k, by rw [mput_mdel e]; exact m⟩
    · exact hk.elim
  · exact hk.elim
theorem form_of {l : List (Nat × Str × List (Nat × List Str))} {k : Nat} {x : Str} {n : Nat} {kw : List Str} (h : formB l k x n kw = true) : ∃ F, l.lookup k = some (x, F) ∧ (n, kw) ∈ F := by
  unfold formB at h
  split at h
  · rename_i y F e
    simp only [Bool.and_eq_true, beq_iff_eq] at h
    obtain ⟨rfl, h⟩ := h
    exact ⟨F, e, by simpa using h⟩
  · cases h

theorem noB {a b : Bool} (h : (a && b) = true) : a = true ∧ b = true := by simpa using h
theorem beqS {x y : Str} (h : (x == y) = true) : x = y := beq_iff_eq.mp h
def cmpE : E → Bool
  | .cmp .. => true
  | .chain .. => true
  | _ => false
theorem val_pl {X : Cx} {W : WX} {S : Cs} {T : Tb} {e : E} {ex : Expr} (hK : X.K = S.K) (p : PE X ex (lE S T W (wpE T e))) (h0 : valB e ex = true) (hc : cmpE e = false) : PT X ex (lT S T W (wpT T (.val e))) ∧ ∀ op xs pos, ex = .BoolOp op xs pos → PW X ex (lT S T W (wpT T (.val e))) := by
  have nb : ∀ op xs pos, ex ≠ .BoolOp op xs pos := fun op xs pos z => by subst z; exact absurd h0 Bool.false_ne_true
  refine ⟨?_, fun op xs pos z => absurd z (nb op xs pos)⟩
  refine rt_val hK p ?_
  cases ex with
  | BoolOp => exact absurd rfl (nb _ _ _)
  | IfExp => exact absurd h0 Bool.false_ne_true
  | UnaryOp op =>
    cases op <;> first | exact absurd h0 Bool.false_ne_true | (intro w; rfl)
  | Compare => cases e <;> first | exact absurd h0 Bool.false_ne_true | exact absurd hc (by simp [cmpE])
  | _ => intro w; rfl
section
variable {S : Cs} {T : Tb} {K : Ck} {i : Nat}
mutual
theorem sndE : ∀ (e : E) {X : Cx} {W : WX} {sc : Scope} {ex : Expr}, XC S T K i X → Takes X W → X.env.scope = sc → chkE K e sc ex = true → PE X ex (lE S T W (wpE T e))
  | .var j, X, W, sc, ex, C, tw, hs, h => by
    unfold chkE at h
    split at h
    · obtain ⟨h, h4⟩ := noB h
      obtain ⟨h, h3⟩ := noB h
      obtain ⟨h1, h2⟩ := noB h
      exact r_var (by rw [C.N]; exact beq_iff_eq.mp h1) (by rw [hs]; exact vis_of h2) (dbg_of h3) (by simpa using h4)
    · exact absurd h Bool.false_ne_true
  | .con d, X, W, sc, ex, C, tw, hs, h => by
    unfold chkE at h
    split at h
    · exact con_ok h
    · exact absurd h Bool.false_ne_true
  | .glob g, X, W, sc, ex, C, tw, hs, h => by
    unfold chkE at h
    split at h
    · obtain ⟨h, h3⟩ := noB h
      obtain ⟨h1, h2⟩ := noB h
      obtain ⟨u, v, hm, r, hd⟩ := C.gl g _ (beq_iff_eq.mp h1)
      exact r_con (pe_glob (gl_of hs h2) hm r (dbg_of h3)) hd
    · exact absurd h Bool.false_ne_true
  | .op o a b, X, W, sc, ex, C, tw, hs, h => by
    unfold chkE at h
    split at h
    · obtain ⟨h, h3⟩ := noB h
      obtain ⟨h1, h2⟩ := noB h
      have e := of_decide_eq_true h1
      subst e
      exact r_op C.hK (sndE a C tw hs h2) (sndE b C tw hs h3)
    · exact absurd h Bool.false_ne_true
  | .neg a, X, W, sc, ex, C, tw, hs, h => by
    unfold chkE at h
    split at h
    · exact r_neg (sndE a C tw hs h)
    · exact absurd h Bool.false_ne_true
  | .cmp o a b, X, W, sc, ex, C, tw, hs, h => by
    unfold chkE at h
    split at h
    · obtain ⟨h, h4⟩ := noB h
      obtain ⟨h, h3⟩ := noB h
      obtain ⟨h1, h2⟩ := noB h
      have e := of_decide_eq_true h1
      subst e
      exact r_cmp C.hK C.units (by simpa [cmpOk] using h2) (sndE a C tw hs h3) (sndE b C tw hs h4)
    · exact absurd h Bool.false_ne_true
  | .chain o o2 a b c, X, W, sc, ex, C, tw, hs, h => by
    unfold chkE at h
    split at h
    · obtain ⟨h, h6⟩ := noB h
      obtain ⟨h, h5⟩ := noB h
      obtain ⟨h, h4⟩ := noB h
      obtain ⟨h, h3⟩ := noB h
      obtain ⟨h1, h2⟩ := noB h
      have e := of_decide_eq_true h1
      have e2 := of_decide_eq_true h2
      subst e e2
      exact r_chain C.hK C.units (by simpa [cmpOk] using h3) (sndE a C tw hs h4) (sndE b C tw hs h5) (sndE c C tw hs h6)
    · exact absurd h Bool.false_ne_true
  | .and a b, X, W, sc, ex, C, tw, hs, h => by
    unfold chkE at h
    split at h
    · rename_i x y r pos
      obtain ⟨h1, h2⟩ := noB h
      refine r_and (sndE a C tw hs h1) ?_
      cases r with
      | nil => exact pe_one (sndE b C tw hs h2)
      | cons z r => exact sndE b C tw hs h2
    · exact absurd h Bool.false_ne_true
  | .or a b, X, W, sc, ex, C, tw, hs, h => by
    unfold chkE at h
    split at h
    · rename_i x y r pos
      obtain ⟨h1, h2⟩ := noB h
      refine r_or (sndE a C tw hs h1) ?_
      cases r with
      | nil => exact pe_one (sndE b C tw hs h2)
      | cons z r => exact sndE b C tw hs h2
    · exact absurd h Bool.false_ne_true
  | .not a, X, W, sc, ex, C, tw, hs, h => by
    unfold chkE at h
    split at h
    · exact r_not C.hK (sndE a C tw hs h)
    · exact absurd h Bool.false_ne_true
  | .ite t a b, X, W, sc, ex, C, tw, hs, h => by
    unfold chkE at h
    split at h
    · obtain ⟨h, h3⟩ := noB h
      obtain ⟨h1, h2⟩ := noB h
      exact r_ite (sndT t C tw hs h1).1 (sndE a C tw hs h2) (sndE b C tw hs h3)
    · exact absurd h Bool.false_ne_true
  | .tup es, X, W, sc, ex, C, tw, hs, h => by
    unfold chkE at h
    split at h
    · obtain ⟨h1, h2⟩ := noB h
      exact r_tup (sndEs es C tw hs h1).1 (of_decide_eq_true h2)
    · exact absurd h Bool.false_ne_true
  | .lst es, X, W, sc, ex, C, tw, hs, h => by
    unfold chkE at h
    split at h
    · obtain ⟨h1, h2⟩ := noB h
      exact r_lst (sndEs es C tw hs h1).1 (of_decide_eq_true h2)
    · exact absurd h Bool.false_ne_true
  | .ix a j, X, W, sc, ex, C, tw, hs, h => by
    unfold chkE at h
    split at h
    · obtain ⟨h, h3⟩ := noB h
      obtain ⟨h1, h2⟩ := noB h
      exact r_ix C.hK h1 (sndE a C tw hs h2) (sndE j C tw hs h3)
    · exact absurd h Bool.false_ne_true
  | .slice a lo hi, X, W, sc, ex, C, tw, hs, h => by
    unfold chkE at h
    split at h
    · obtain ⟨h, h3⟩ := noB h
      obtain ⟨h1, h2⟩ := noB h
      exact r_slice C.hK (sndE a C tw hs h1) (sndEo lo C tw hs h2) (sndEo hi C tw hs h3)
    · exact absurd h Bool.false_ne_true
  | .fn f es, X, W, sc, ex, C, tw, hs, h => by
    unfold chkE at h
    split at h
    · obtain ⟨h, h4⟩ := noB h
      obtain ⟨h, h3⟩ := noB h
      obtain ⟨h1, h2⟩ := noB h
      have e := beqS h1
      subst e
      obtain ⟨a1, a2, _⟩ := sndEs es C tw hs h4
      exact r_fn C.calm C.hK (gl_of hs h2) (C.fnB f) a2 a1
    · exact absurd h Bool.false_ne_true
  | .mt m o es, X, W, sc, ex, C, tw, hs, h => by
    unfold chkE at h
    split at h
    · obtain ⟨h, h6⟩ := noB h
      obtain ⟨h, h5⟩ := noB h
      obtain ⟨h, h4⟩ := noB h
      obtain ⟨h, h3⟩ := noB h
      obtain ⟨h1, h2⟩ := noB h
      have e := beqS h1
      subst e
      obtain ⟨a1, a2, a3⟩ := sndEs es C tw hs h6
      have l := of_decide_eq_true h2
      exact r_mt C.hK h4 h3 a2 (by rw [l]; cases m <;> decide) (sndE o C tw hs h5) a1 a3
    · exact absurd h Bool.false_ne_true
  | .fld o f, X, W, sc, ex, C, tw, hs, h => by
    unfold chkE at h
    split at h
    · obtain ⟨h, h3⟩ := noB h
      obtain ⟨h1, h2⟩ := noB h
      have e := beqS h1
      subst e
      exact r_fld C.hK h2 C.clok (sndE o C tw hs h3)
    · exact absurd h Bool.false_ne_true
  | .isi a ts, X, W, sc, ex, C, tw, hs, h => by
    unfold chkE at h
    split at h
    · obtain ⟨h, h5⟩ := noB h
      obtain ⟨h, h4⟩ := noB h
      obtain ⟨h, h3⟩ := noB h
      obtain ⟨h1, h2⟩ := noB h
      have e := beqS h1
      subst e
      unfold isiB at h5
      split at h5
      · split at h5
        · obtain ⟨t1, t2⟩ := ty_ok C hs h5
          exact r_isi1 C.hK C.kit t2 C.clok (gl_of hs h2) (C.blt _ (by decide +kernel)) h3 rfl (sndE a C tw hs h4) t1
        · exact absurd h5 Bool.false_ne_true
      · obtain ⟨h5, h6⟩ := noB h5
        obtain ⟨t1, t2⟩ := tys_ok C hs h5
        exact r_isiN C.hK C.kit t2 C.clok (gl_of hs h2) (C.blt _ (by decide +kernel)) h3 (of_decide_eq_true h6) (sndE a C tw hs h4) t1
      · exact absurd h5 Bool.false_ne_true
    · exact absurd h Bool.false_ne_true
  | .call k es kw vs, X, W, sc, ex, C, tw, hs, h => by
    unfold chkE at h
    split at h
    · obtain ⟨h, h5⟩ := noB h
      obtain ⟨h, h4⟩ := noB h
      obtain ⟨h, h3⟩ := noB h
      obtain ⟨h1, h2⟩ := noB h
      obtain ⟨F, e, hF⟩ := form_of h1
      obtain ⟨j, hj, en⟩ := C.fn k _ F e
      obtain ⟨a1, a2, a3⟩ := sndEs es C tw hs h4
      obtain ⟨b1, b2, b3⟩ := sndKw vs C tw hs h5
      exact r_call C.hK en hj C.room tw (gl_of hs h2) (dbg_of h3) a1 b1 a3 b3 a2 b2 hF
    · exact absurd h Bool.false_ne_true
  | .make k es kw vs, X, W, sc, ex, C, tw, hs, h => by
    unfold chkE at h
    split at h
    · obtain ⟨h, h5⟩ := noB h
      obtain ⟨h, h4⟩ := noB h
      obtain ⟨h, h3⟩ := noB h
      obtain ⟨h1, h2⟩ := noB h
      obtain ⟨F, e, hF⟩ := form_of h1
      obtain ⟨j, hj, en⟩ := C.mkr k _ F e
      obtain ⟨a1, a2, a3⟩ := sndEs es C tw hs h4
      obtain ⟨b1, b2, b3⟩ := sndKw vs C tw hs h5
      exact r_make C.hK en hj C.room tw (gl_of hs h2) (dbg_of h3) a1 b1 a3 b3 a2 b2 hF
    · exact absurd h Bool.false_ne_true
  | .meth k o es kw vs, X, W, sc, ex, C, tw, hs, h => by
    unfold chkE at h
    split at h
    · obtain ⟨h, h7⟩ := noB h
      obtain ⟨h, h6⟩ := noB h
      obtain ⟨h, h5⟩ := noB h
      obtain ⟨h, h4⟩ := noB h
      obtain ⟨h, h3⟩ := noB h
      obtain ⟨h1, h2⟩ := noB h
      obtain ⟨F, e, hF⟩ := form_of h1
      obtain ⟨j, hj, en, hc, hat⟩ := C.mt k _ F e
      obtain ⟨a1, a2, a3⟩ := sndEs es C tw hs h6
      obtain ⟨b1, b2, b3⟩ := sndKw vs C tw hs h7
      exact r_meth C.hK en (C.clok _ hc).cl hat hj C.room tw h2 h3 (of_decide_eq_true h4) (sndE o C tw hs h5) a1 b1 a3 b3 a2 b2 hF
    · exact absurd h Bool.false_ne_true
  | .comp elt t s cond own, X, W, sc, ex, C, tw, hs, h => by
    unfold chkE at h
    split at h
    · rename_i elt' tg iter ifs scope pos
      obtain ⟨h, h7⟩ := noB h
      obtain ⟨h, h6⟩ := noB h
      obtain ⟨h, h5⟩ := noB h
      obtain ⟨h, h4⟩ := noB h
      obtain ⟨h, h3⟩ := noB h
      obtain ⟨h1, h2⟩ := noB h
      have inn : ∀ (cl : List (Str × Addr)) (A : Addr), (compEnvC scope cl A X.env).scope = inB scope sc := fun cl A => by rw [← hs]; rfl
      exact PE.imp (pe_lc (g := gT X.K t) C.calm C.nd (sndSrc s C tw hs h5) (blkOk_by (by rw [C.N, hs]; exact h1))
        (fun s' H A cl fp => tg_ok (C.blk s' H scope _ fp) (inn cl A) (fun _ z => z) h2)
        (fun s' H A cl fp => sndC cond (C.blk s' H scope _ fp) takes0 (inn cl A) h6)
        (fun s' H A cl fp => sndE elt (C.blk s' H scope _ fp) takes0 (inn cl A) h7) (set_it h4)) fun σ H Q h => comp_run C.hK (own_t h3) h
    · exact absurd h Bool.false_ne_true
  | .tupRev a, X, W, sc, ex, C, tw, hs, h => by
    unfold chkE at h
    split at h
    · obtain ⟨h, h6⟩ := noB h
      obtain ⟨h, h5⟩ := noB h
      obtain ⟨h, h4⟩ := noB h
      obtain ⟨h, h3⟩ := noB h
      obtain ⟨h1, h2⟩ := noB h
      have e1 := beqS h1
      have e2 := beqS h2
      subst e1 e2
      exact r_tupRev C.hK C.calm (gl_of hs h3) (C.blt _ (by decide +kernel)) (gl_of hs h4) (C.blt _ (by decide +kernel)) h5 (sndE a C tw hs h6)
    · exact absurd h Bool.false_ne_true
  | .tupRange es, X, W, sc, ex, C, tw, hs, h => by
    unfold chkE at h
    split at h
    · rename_i x p y p2 es' pos2 pos
      obtain ⟨h, h6⟩ := noB h
      obtain ⟨h, h5⟩ := noB h
      obtain ⟨h, h4⟩ := noB h
      obtain ⟨h, h3⟩ := noB h
      obtain ⟨h1, h2⟩ := noB h
      have e1 := beqS h1
      have e2 := beqS h2
      subst e1 e2
      obtain ⟨a1, a2, a3⟩ := sndEs es C tw hs h6
      match es', h5, a1, a2 with
      | [a], _, a1, a2 =>
        exact r_tupRange1 C.calm (gl_of hs h3) (C.blt _ (by decide +kernel)) (gl_of hs h4) (C.blt _ (by decide +kernel)) (by simpa using a2) a1
      | [a, b], _, a1, a2 =>
        have a2 : notStar a = true ∧ notStar b = true := by simpa using a2
        exact r_tupRange2 C.calm (gl_of hs h3) (C.blt _ (by decide +kernel)) (gl_of hs h4) (C.blt _ (by decide +kernel)) a2.1 a2.2 a1
    · exact absurd h Bool.false_ne_true
  | .ieq neg k a b, X, W, sc, ex, C, tw, hs, h => by
    unfold chkE at h
    split at h
    · obtain ⟨h, h5⟩ := noB h
      obtain ⟨h, h4⟩ := noB h
      obtain ⟨h, h3⟩ := noB h
      obtain ⟨h1, h2⟩ := noB h
      have e := of_decide_eq_true h1
      subst e
      obtain ⟨j, F, hj, en, hF, hc, hne⟩ := C.eqs k h2
      exact r_ieq C.hK en hF hj C.room C.kit C.clok hc hne (by simpa [cmpOk] using h3) (sndE a C tw hs h4) (sndE b C tw hs h5)
    · exact absurd h Bool.false_ne_true
  | .lstRange es, X, W, sc, ex, C, tw, hs, h => by
    unfold chkE at h
    split at h
    · rename_i x p y p2 es' pos2 pos
      obtain ⟨h, h6⟩ := noB h
      obtain ⟨h, h5⟩ := noB h
      obtain ⟨h, h4⟩ := noB h
      obtain ⟨h, h3⟩ := noB h
      obtain ⟨h1, h2⟩ := noB h
      have e1 := beqS h1
      have e2 := beqS h2
      subst e1 e2
      obtain ⟨a1, a2, a3⟩ := sndEs es C tw hs h6
      match es', h5, a1, a2 with
      | [a], _, a1, a2 =>
        exact r_lstRange1 C.calm (gl_of hs h3) (C.blt _ (by decide +kernel)) (gl_of hs h4) (C.blt _ (by decide +kernel)) (by simpa using a2) a1
      | [a, b], _, a1, a2 =>
        have a2 : notStar a = true ∧ notStar b = true := by simpa using a2
        exact r_lstRange2 C.calm (gl_of hs h3) (C.blt _ (by decide +kernel)) (gl_of hs h4) (C.blt _ (by decide +kernel)) a2.1 a2.2 a1
    · exact absurd h Bool.false_ne_true
  | .cell a, X, W, sc, ex, C, tw, hs, h => by
    unfold chkE at h
    exact r_cell (sndE a C tw hs h)
  | .frz a, X, W, sc, ex, C, tw, hs, h => by
    unfold chkE at h
    exact r_frz (sndE a C tw hs h)
  | .own a, X, W, sc, ex, C, tw, hs, h => by
    unfold chkE at h
    exact r_own (sndE a C tw hs h)
theorem sndEs : ∀ (es : Es) {X : Cx} {W : WX} {sc : Scope} {exs : List Expr}, XC S T K i X → Takes X W → X.env.scope = sc → chkEs K es sc exs = true → PA X exs (lA S T W exs.length (wpEs T es)) ∧ exs.all notStar = true ∧ (exs = [] → ∀ ρ M Q E, wpEs T es ρ M Q E → Q [] M)
  | .nil, X, W, sc, exs, C, tw, hs, h => by
    unfold chkEs at h
    split at h
    · exact ⟨pa_n, rfl, fun _ ρ M Q E h => h⟩
    · exact absurd h Bool.false_ne_true
  | .cons e es, X, W, sc, exs, C, tw, hs, h => by
    unfold chkEs at h
    split at h
    · obtain ⟨h, h3⟩ := noB h
      obtain ⟨h1, h2⟩ := noB h
      obtain ⟨a1, a2, _⟩ := sndEs es C tw hs h3
      exact ⟨pa_c (sndE e C tw hs h2) a1 h1, by rw [List.all_cons, h1, a2]; rfl, fun z => by cases z⟩
    · exact absurd h Bool.false_ne_true
theorem sndKw : ∀ (es : Es) {X : Cx} {W : WX} {sc : Scope} {kw : List Str} {ks : List Keyword}, XC S T K i X → Takes X W → X.env.scope = sc → chkKw K kw es sc ks = true → PK X ks (lA S T W kw.length (wpEs T es)) ∧ kwNm kw ks ∧ (ks = [] → ∀ ρ M Q E, wpEs T es ρ M Q E → Q [] M)
  | .nil, X, W, sc, kw, ks, C, tw, hs, h => by
    unfold chkKw at h
    split at h
    · have e : kw = [] := by simpa using h
      subst e
      exact ⟨pk_n, trivial, fun _ ρ M Q E h => h⟩
    · exact absurd h Bool.false_ne_true
  | .cons e es, X, W, sc, kw, ks, C, tw, hs, h => by
    unfold chkKw at h
    split at h
    · split at h
      · exact absurd h Bool.false_ne_true
      · obtain ⟨h, h3⟩ := noB h
        obtain ⟨h1, h2⟩ := noB h
        have e1 := beqS h1
        subst e1
        obtain ⟨a1, a2, _⟩ := sndKw es C tw hs h3
        exact ⟨pk_c (sndE e C tw hs h2) a1, ⟨rfl, a2⟩, fun z => by cases z⟩
    · exact absurd h Bool.false_ne_true
theorem sndEo : ∀ (eo : Eo) {X : Cx} {W : WX} {sc : Scope} {ex : Option Expr}, XC S T K i X → Takes X W → X.env.scope = sc → chkEo K eo sc ex = true → PO X ex (lO S T W (wpEo T eo))
  | .none, X, W, sc, ex, C, tw, hs, h => by
    unfold chkEo at h
    split at h
    · exact po_n
    · exact absurd h Bool.false_ne_true
  | .some e, X, W, sc, ex, C, tw, hs, h => by
    unfold chkEo at h
    split at h
    · exact po_s (sndE e C tw hs h)
    · exact absurd h Bool.false_ne_true
theorem sndC : ∀ (eo : Teo) {X : Cx} {W : WX} {sc : Scope} {ex : List Expr}, XC S T K i X → Takes X W → X.env.scope = sc → chkC K eo sc ex = true → PTs X ex (lT S T W (wpC T eo))
  | .none, X, W, sc, ex, C, tw, hs, h => by
    unfold chkC at h
    split at h
    · exact ⟨fun pins s σ H Q I ⟨c, ρ, M, Q', E, ok, sr, x, t, q⟩ => pts_nil.run pins s σ H Q I (q _ _ _ t (Keep.refl _ _ _) sr.mem)⟩
    · exact absurd h Bool.false_ne_true
  | .some t, X, W, sc, ex, C, tw, hs, h => by
    unfold chkC at h
    split at h
    · exact pts_one (sndT t C tw hs h).1
    · exact absurd h Bool.false_ne_true
theorem sndT : ∀ (t : Te) {X : Cx} {W : WX} {sc : Scope} {ex : Expr}, XC S T K i X → Takes X W → X.env.scope = sc → chkT K t sc ex = true → PT X ex (lT S T W (wpT T t)) ∧ ∀ op xs pos, ex = .BoolOp op xs pos → PW X ex (lT S T W (wpT T t))
  | .val (.cmp o a b), X, W, sc, ex, C, tw, hs, h => by
    unfold chkT at h
    obtain ⟨h0, h⟩ := noB h
    unfold chkE at h
    split at h
    · obtain ⟨h, h4⟩ := noB h
      obtain ⟨h, h3⟩ := noB h
      obtain ⟨h1, h2⟩ := noB h
      have e := of_decide_eq_true h1
      subst e
      exact ⟨rt_cmp C.hK C.units (by simpa [cmpOk] using h2) (sndE a C tw hs h3) (sndE b C tw hs h4), fun _ _ _ z => by cases z⟩
    · exact absurd h Bool.false_ne_true
  | .val (.chain o o2 a b c), X, W, sc, ex, C, tw, hs, h => by
    unfold chkT at h
    obtain ⟨h0, h⟩ := noB h
    unfold chkE at h
    split at h
    · obtain ⟨h, h6⟩ := noB h
      obtain ⟨h, h5⟩ := noB h
      obtain ⟨h, h4⟩ := noB h
      obtain ⟨h, h3⟩ := noB h
      obtain ⟨h1, h2⟩ := noB h
      have e := of_decide_eq_true h1
      have e2 := of_decide_eq_true h2
      subst e e2
      exact ⟨rt_chain C.hK C.units (by simpa [cmpOk] using h3) (sndE a C tw hs h4) (sndE b C tw hs h5) (sndE c C tw hs h6), fun _ _ _ z => by cases z⟩
    · exact absurd h Bool.false_ne_true
  | .val (.var x0), X, W, sc, ex, C, tw, hs, h => by
    unfold chkT at h
    exact val_pl C.hK (sndE (.var x0) C tw hs (noB h).2) (noB h).1 rfl
  | .val (.con x0), X, W, sc, ex, C, tw, hs, h => by
    unfold chkT at h
    exact val_pl C.hK (sndE (.con x0) C tw hs (noB h).2) (noB h).1 rfl
  | .val (.glob x0), X, W, sc, ex, C, tw, hs, h => by
    unfold chkT at h
    exact val_pl C.hK (sndE (.glob x0) C tw hs (noB h).2) (noB h).1 rfl
  | .val (.op x0 x1 x2), X, W, sc, ex, C, tw, hs, h => by
    unfold chkT at h
    exact val_pl C.hK (sndE (.op x0 x1 x2) C tw hs (noB h).2) (noB h).1 rfl
  | .val (.neg x0), X, W, sc, ex, C, tw, hs, h => by
    unfold chkT at h
    exact val_pl C.hK (sndE (.neg x0) C tw hs (noB h).2) (noB h).1 rfl
  | .val (.and x0 x1), X, W, sc, ex, C, tw, hs, h => by
    unfold chkT at h
    exact val_pl C.hK (sndE (.and x0 x1) C tw hs (noB h).2) (noB h).1 rfl
  | .val (.or x0 x1), X, W, sc, ex, C, tw, hs, h => by
    unfold chkT at h
    exact val_pl C.hK (sndE (.or x0 x1) C tw hs (noB h).2) (noB h).1 rfl
  | .val (.not x0), X, W, sc, ex, C, tw, hs, h => by
    unfold chkT at h
    exact val_pl C.hK (sndE (.not x0) C tw hs (noB h).2) (noB h).1 rfl
  | .val (.ite x0 x1 x2), X, W, sc, ex, C, tw, hs, h => by
    unfold chkT at h
    exact val_pl C.hK (sndE (.ite x0 x1 x2) C tw hs (noB h).2) (noB h).1 rfl
  | .val (.tup x0), X, W, sc, ex, C, tw, hs, h => by
    unfold chkT at h
    exact val_pl C.hK (sndE (.tup x0) C tw hs (noB h).2) (noB h).1 rfl
  | .val (.lst x0), X, W, sc, ex, C, tw, hs, h => by
    unfold chkT at h
    exact val_pl C.hK (sndE (.lst x0) C tw hs (noB h).2) (noB h).1 rfl
  | .val (.ix x0 x1), X, W, sc, ex, C, tw, hs, h => by
    unfold chkT at h
    exact val_pl C.hK (sndE (.ix x0 x1) C tw hs (noB h).2) (noB h).1 rfl
  | .val (.slice x0 x1 x2), X, W, sc, ex, C, tw, hs, h => by
    unfold chkT at h
    exact val_pl C.hK (sndE (.slice x0 x1 x2) C tw hs (noB h).2) (noB h).1 rfl
  | .val (.fn x0 x1), X, W, sc, ex, C, tw, hs, h => by
    unfold chkT at h
    exact val_pl C.hK (sndE (.fn x0 x1) C tw hs (noB h).2) (noB h).1 rfl
  | .val (.mt x0 x1 x2), X, W, sc, ex, C, tw, hs, h => by
    unfold chkT at h
    exact val_pl C.hK (sndE (.mt x0 x1 x2) C tw hs (noB h).2) (noB h).1 rfl
  | .val (.fld x0 x1), X, W, sc, ex, C, tw, hs, h => by
    unfold chkT at h
    exact val_pl C.hK (sndE (.fld x0 x1) C tw hs (noB h).2) (noB h).1 rfl
  | .val (.isi x0 x1), X, W, sc, ex, C, tw, hs, h => by
    unfold chkT at h
    exact val_pl C.hK (sndE (.isi x0 x1) C tw hs (noB h).2) (noB h).1 rfl
  | .val (.call x0 x1 x2 x3), X, W, sc, ex, C, tw, hs, h => by
    unfold chkT at h
    exact val_pl C.hK (sndE (.call x0 x1 x2 x3) C tw hs (noB h).2) (noB h).1 rfl
  | .val (.make x0 x1 x2 x3), X, W, sc, ex, C, tw, hs, h => by
    unfold chkT at h
    exact val_pl C.hK (sndE (.make x0 x1 x2 x3) C tw hs (noB h).2) (noB h).1 rfl
  | .val (.meth x0 x1 x2 x3 x4), X, W, sc, ex, C, tw, hs, h => by
    unfold chkT at h
    exact val_pl C.hK (sndE (.meth x0 x1 x2 x3 x4) C tw hs (noB h).2) (noB h).1 rfl
  | .val (.comp x0 x1 x2 x3 x4), X, W, sc, ex, C, tw, hs, h => by
    unfold chkT at h
    exact val_pl C.hK (sndE (.comp x0 x1 x2 x3 x4) C tw hs (noB h).2) (noB h).1 rfl
  | .val (.tupRev x0), X, W, sc, ex, C, tw, hs, h => by
    unfold chkT at h
    exact val_pl C.hK (sndE (.tupRev x0) C tw hs (noB h).2) (noB h).1 rfl
  | .val (.tupRange x0), X, W, sc, ex, C, tw, hs, h => by
    unfold chkT at h
    exact val_pl C.hK (sndE (.tupRange x0) C tw hs (noB h).2) (noB h).1 rfl
  | .val (.ieq x0 x1 x2 x3), X, W, sc, ex, C, tw, hs, h => by
    unfold chkT at h
    exact val_pl C.hK (sndE (.ieq x0 x1 x2 x3) C tw hs (noB h).2) (noB h).1 rfl
  | .val (.lstRange x0), X, W, sc, ex, C, tw, hs, h => by
    unfold chkT at h
    exact val_pl C.hK (sndE (.lstRange x0) C tw hs (noB h).2) (noB h).1 rfl
  | .val (.cell x0), X, W, sc, ex, C, tw, hs, h => by
    unfold chkT at h
    exact val_pl C.hK (sndE (.cell x0) C tw hs (noB h).2) (noB h).1 rfl
  | .val (.frz x0), X, W, sc, ex, C, tw, hs, h => by
    unfold chkT at h
    exact val_pl C.hK (sndE (.frz x0) C tw hs (noB h).2) (noB h).1 rfl
  | .val (.own x0), X, W, sc, ex, C, tw, hs, h => by
    unfold chkT at h
    exact val_pl C.hK (sndE (.own x0) C tw hs (noB h).2) (noB h).1 rfl
  | .and a b, X, W, sc, ex, C, tw, hs, h => by
    unfold chkT at h
    split at h
    · rename_i x y r pos
      obtain ⟨h1, h2⟩ := noB h
      have w : PW X (.BoolOp .And (x :: y :: r) pos) (lT S T W (wpT T (.and a b))) := by
        refine rw_and (sndT a C tw hs h1).1 ?_
        cases r with
        | nil => exact pw_and1 (sndT b C tw hs h2).1
        | cons z r => exact (sndT b C tw hs h2).2 _ _ _ rfl
      exact ⟨w.pt, fun _ _ _ _ => w⟩
    · exact absurd h Bool.false_ne_true
  | .or a b, X, W, sc, ex, C, tw, hs, h => by
    unfold chkT at h
    split at h
    · rename_i x y r pos
      obtain ⟨h1, h2⟩ := noB h
      have w : PW X (.BoolOp .Or (x :: y :: r) pos) (lT S T W (wpT T (.or a b))) := by
        refine rw_or (sndT a C tw hs h1).1 ?_
        cases r with
        | nil => exact pw_or1 (sndT b C tw hs h2).1
        | cons z r => exact (sndT b C tw hs h2).2 _ _ _ rfl
      exact ⟨w.pt, fun _ _ _ _ => w⟩
    · exact absurd h Bool.false_ne_true
  | .not a, X, W, sc, ex, C, tw, hs, h => by
    unfold chkT at h
    split at h
    · exact ⟨rt_not (sndT a C tw hs h).1, fun _ _ _ z => by cases z⟩
    · exact absurd h Bool.false_ne_true
theorem sndSrc : ∀ (s : Src) {X : Cx} {W : WX} {sc : Scope} {ex tx : Expr}, XC S T K i X → Takes X W → X.env.scope = sc → chkSrc K s sc ex tx = true → PI X tx ex (lI S T W (wpSrc T s))
  | .seq a, X, W, sc, ex, tx, C, tw, hs, h => by
    unfold chkSrc at h
    exact r_seq C.hK (sndE a C tw hs h)
  | .range es, X, W, sc, ex, tx, C, tw, hs, h => by
    unfold chkSrc at h
    split at h
    · rename_i x p es' pos
      obtain ⟨h, h4⟩ := noB h
      obtain ⟨h, h3⟩ := noB h
      obtain ⟨h1, h2⟩ := noB h
      have e := beqS h1
      subst e
      obtain ⟨a1, a2, a3⟩ := sndEs es C tw hs h4
      match es', h3, a1, a2 with
      | [a], _, a1, a2 => exact r_range1 (gl_of hs h2) (C.blt _ (by decide +kernel)) (by simpa using a2) a1
      | [a, b], _, a1, a2 =>
        have a2 : notStar a = true ∧ notStar b = true := by simpa using a2
        exact r_range2 (gl_of hs h2) (C.blt _ (by decide +kernel)) a2.1 a2.2 a1
    · exact absurd h Bool.false_ne_true
  | .enum a, X, W, sc, ex, tx, C, tw, hs, h => by
    unfold chkSrc at h
    split at h
    · obtain ⟨h, h4⟩ := noB h
      obtain ⟨h, h3⟩ := noB h
      obtain ⟨h1, h2⟩ := noB h
      have e := beqS h1
      subst e
      exact r_enum C.hK (gl_of hs h2) (C.blt _ (by decide +kernel)) h3 (sndE a C tw hs h4)
    · exact absurd h Bool.false_ne_true
  | .zip a b, X, W, sc, ex, tx, C, tw, hs, h => by
    unfold chkSrc at h
    split at h
    · obtain ⟨h, h6⟩ := noB h
      obtain ⟨h, h5⟩ := noB h
      obtain ⟨h, h4⟩ := noB h
      obtain ⟨h, h3⟩ := noB h
      obtain ⟨h1, h2⟩ := noB h
      have e := beqS h1
      subst e
      exact r_zip C.hK (gl_of hs h2) (C.blt _ (by decide +kernel)) h3 h4 (sndE a C tw hs h5) (sndE b C tw hs h6)
    · exact absurd h Bool.false_ne_true
end
end
end PL
/-! ### statements -/
namespace PL
open PySem PySem.Spec PyProof.Rows L2

structure EndsOK (T : Tb) (c : Cn) (W : WX) (M : Mem) (H : Hp) (DD : DEnds) (D : Ends) : Prop where
  nx : ∀ ρ' σ' M' H', DD.nx ρ' M' → SR c ρ' σ' M' H' → Keep c M H M' H' → D.nx σ' H'
  bk : ∀ ρ' σ' M' H', DD.bk ρ' M' → SR c ρ' σ' M' H' → Keep c M H M' H' → D.bk σ' H'
  ct : ∀ ρ' σ' M' H', DD.ct ρ' M' → SR c ρ' σ' M' H' → Keep c M H M' H' → D.ct σ' H'
  rt : ∀ r M' v H', DD.rt r M' → RV c M H M' H' r v → D.rt v H'
  ex : ∀ k f ρ' σ' M' H' d, DD.ex k f ρ' M' → SR c ρ' σ' M' H' → Keep c M H M' H' → XD T c M' H' d k f → W (.ref (c.cA k)) (some d) σ' H'
abbrev DTS := DEnds → Sd → Mem → Prop
def lS (S : Cs) (T : Tb) (W : WX) (t : DTS) : TS := fun D σ H => ∃ (c : Cn) (ρ : Sd) (M : Mem) (DD : DEnds), S.ok c ∧ SR c ρ σ M H ∧ t DD ρ M ∧ EndsOK T c W M H DD D
theorem PS.imp {X : Cx} {e : Stmt} {t t' : TS} (h : PS X e t) (i : ∀ D σ H, t' D σ H → t D σ H) : PS X e t' := ⟨fun pins s σ H D I q => h.run pins s σ H D I (i D σ H q)⟩
theorem PSs.imp {X : Cx} {e : List Stmt} {t t' : TS} (h : PSs X e t) (i : ∀ D σ H, t' D σ H → t D σ H) : PSs X e t' := ⟨fun pins s σ H D I q => h.run pins s σ H D I (i D σ H q)⟩
section
variable {S : Cs} {T : Tb} {W : WX} {c : Cn} {ρ : Sd} {σ : L2.St} {M M1 : Mem} {H H1 : Hp} {DD : DEnds} {D : Ends}
theorem EndsOK.after (e : EndsOK T c W M H DD D) (k : Keep c M H M1 H1) : EndsOK T c W M1 H1 DD D :=
  ⟨fun ρ' σ' M' H' h s k' => e.nx ρ' σ' M' H' h s (k.trans k'), fun ρ' σ' M' H' h s k' => e.bk ρ' σ' M' H' h s (k.trans k'), fun ρ' σ' M' H' h s k' => e.ct ρ' σ' M' H' h s (k.trans k'), fun r M' v H' h rv => e.rt r M' v H' h (rv.after k),
    fun n f ρ' σ' M' H' d h s k' x => e.ex n f ρ' σ' M' H' d h s (k.trans k') x⟩
theorem EndsOK.xok (e : EndsOK T c W M H DD D) (s : SR c ρ σ M H) : XOK T c W σ M H (DD.at_ ρ) := fun k f M' H' d h kp m x => e.ex k f ρ σ M' H' d h (s.keep kp m) kp x
end
theorem swap_eq {v : Expr} {x : Str} {p : Pos} {l : Nat} {env : Env} (h : setOk v = true) : swapsWith v (some (.Name x p)) l env = pure (swB env.scope x p v) := by
  cases v <;> first | rfl | exact absurd h Bool.false_ne_true
theorem swap_comp {v : Expr} {t : Option Expr} {l : Nat} {env : Env} (h : isComp v = false) : swapsWith v t l env = pure false := by
  cases v <;> first | rfl | exact absurd h (by simp [isComp])
section
variable {S : Cs} {T : Tb} {K : Ck} {i : Nat} {X : Cx} {W : WX} {sc : Scope}
/-- name = [..] on its own line -/
theorem set_lc (C : XC S T K i X) (tw : Takes X W) (hs : X.env.scope = sc) {j : Nat} {y : Str} {py pos spos : Pos} {elt : Expr} {gs : List Comprehension} {scope : Scope} (hy : X.N[j]? = some y) (hl : sc.names.lookup y = some .local) (hw : swB sc y py (.ListComp elt gs scope pos) = true) :
    ∀ e : E, chkE K e sc (.ListComp elt gs scope pos) = true → PS X (.Assign [.Name y py] (.ListComp elt gs scope pos) spos) (tAsg (lE S T W (wpE T e)) (gName j))
  | .comp elt0 t s cond own, h => by
    have hsw : swapsWith (.ListComp elt gs scope pos) (some (.Name y py)) spos.line X.env = pure true := by rw [swap_eq rfl, hs, hw]
    unfold chkE at h
    split at h
    · rename_i elt' tg iter ifs scope pos e
      cases e
      obtain ⟨h, h7⟩ := noB h
      obtain ⟨h, h6⟩ := noB h
      obtain ⟨h, h5⟩ := noB h
      obtain ⟨h, h4⟩ := noB h
      obtain ⟨h, h3⟩ := noB h
      obtain ⟨h1, h2⟩ := noB h
      have inn : ∀ (cl : List (Str × Addr)) (A : Addr), (compEnvC scope cl A X.env).scope = inB scope sc := fun cl A => by rw [← hs]; rfl
      exact PS.imp (ps_setLc (g := gT X.K t) C.calm C.nd hy (by rw [hs]; exact hl) hsw (sndSrc s C tw hs h5) (blkOk_by (by rw [C.N, hs]; exact h1))
        (fun s' H A cl fp => tg_ok (C.blk s' H scope _ fp) (inn cl A) (fun _ z => z) h2)
        (fun s' H A cl fp => sndC cond (C.blk s' H scope _ fp) takes0 (inn cl A) h6)
        (fun s' H A cl fp => sndE elt0 (C.blk s' H scope _ fp) takes0 (inn cl A) h7) (set_it h4)) fun D σ H h => comp_run C.hK (own_t h3) h
    · exact absurd h Bool.false_ne_true
  | .cell a, h => by
    unfold chkE at h
    exact PS.imp (set_lc C tw hs hy hl hw a h) fun D σ H h => by
      obtain ⟨c, ρ, M, Q', E, ok, s, x, t, q⟩ := h
      refine ⟨c, ρ, M, _, E, ok, s, x, t, fun r M1 v H1 hk rv => ?_⟩
      cases r with
      | val d => exact hk.elim
      | new o =>
        obtain ⟨p, rfl, hp, k, m⟩ := rv
        exact q _ _ _ _ (hk p hp) ⟨k, m, by simp only [Den]⟩
  | .frz a, h => by
    unfold chkE at h
    exact PS.imp (set_lc C tw hs hy hl hw a h) fun D σ H h => by
      obtain ⟨c, ρ, M, Q', E, ok, s, x, t, q⟩ := h
      refine ⟨c, ρ, M, _, E, ok, s, x, t, fun r M1 v H1 hk rv => ?_⟩
      split at hk
      · rename_i p
        split at hk
        · rename_i o e
          obtain ⟨k, m, d⟩ := rv
          simp only [Den] at d
          subst d
          exact q _ _ _ _ hk ⟨k.trans (Keep.sub (Sub.del M1 p)), m.sub (Sub.del M1 p), Den.frz m e⟩
        · exact hk.elim
      · exact hk.elim
  | .own a, h => by
    unfold chkE at h
    exact PS.imp (set_lc C tw hs hy hl hw a h) fun D σ H h => by
      obtain ⟨c, ρ, M, Q', E, ok, s, x, t, q⟩ := h
      refine ⟨c, ρ, M, _, E, ok, s, x, t, fun r M1 v H1 hk rv => ?_⟩
      split at hk
      · rename_i p
        split at hk
        · rename_i o e
          obtain ⟨k, m, d⟩ := rv
          simp only [Den] at d
          subst d
          exact q _ _ _ _ hk ⟨p, rfl, if_pos rfl, by rw [mput_mdel e]; exact k, by rw [mput_mdel e]; exact m⟩
        · exact hk.elim
      · exact hk.elim
  | .var _, h => by unfold chkE at h; exact absurd h Bool.false_ne_true
  | .con _, h => by unfold chkE at h; exact absurd h Bool.false_ne_true
  | .glob _, h => by unfold chkE at h; exact absurd h Bool.false_ne_true
  | .op _ _ _, h => by unfold chkE at h; exact absurd h Bool.false_ne_true
  | .neg _, h => by unfold chkE at h; exact absurd h Bool.false_ne_true
  | .cmp _ _ _, h => by unfold chkE at h; exact absurd h Bool.false_ne_true
  | .chain _ _ _ _ _, h => by unfold chkE at h; exact absurd h Bool.false_ne_true
  | .and _ _, h => by unfold chkE at h; exact absurd h Bool.false_ne_true
  | .or _ _, h => by unfold chkE at h; exact absurd h Bool.false_ne_true
  | .not _, h => by unfold chkE at h; exact absurd h Bool.false_ne_true
  | .ite _ _ _, h => by unfold chkE at h; exact absurd h Bool.false_ne_true
  | .tup _, h => by unfold chkE at h; exact absurd h Bool.false_ne_true
  | .lst _, h => by unfold chkE at h; exact absurd h Bool.false_ne_true
  | .ix _ _, h => by unfold chkE at h; exact absurd h Bool.false_ne_true
  | .slice _ _ _, h => by unfold chkE at h; exact absurd h Bool.false_ne_true
  | .fn _ _, h => by unfold chkE at h; exact absurd h Bool.false_ne_true
  | .mt _ _ _, h => by unfold chkE at h; exact absurd h Bool.false_ne_true
  | .fld _ _, h => by unfold chkE at h; exact absurd h Bool.false_ne_true
  | .isi _ _, h => by unfold chkE at h; exact absurd h Bool.false_ne_true
  | .call _ _ _ _, h => by unfold chkE at h; exact absurd h Bool.false_ne_true
  | .make _ _ _ _, h => by unfold chkE at h; exact absurd h Bool.false_ne_true
  | .meth _ _ _ _ _, h => by unfold chkE at h; exact absurd h Bool.false_ne_true
  | .tupRev _, h => by unfold chkE at h; exact absurd h Bool.false_ne_true
  | .tupRange _, h => by unfold chkE at h; exact absurd h Bool.false_ne_true
  | .ieq _ _ _ _, h => by unfold chkE at h; exact absurd h Bool.false_ne_true
  | .lstRange _, h => by unfold chkE at h; exact absurd h Bool.false_ne_true
theorem set_at (C : XC S T K i X) (tw : Takes X W) (hs : X.env.scope = sc) (hfn : ∀ x, X.fn x = true) {j : Nat} {y : Str} {py spos : Pos} {v : Expr} {e : E} (h1 : K.N[j]? = some y) (h2 : (locB sc y || celB sc y) = true) (h3 : setOk v = true) (h : chkE K e sc v = true) :
    PS X (.Assign [.Name y py] v spos) (tAsg (lE S T W (wpE T e)) (gName j)) := by
  have hy : X.N[j]? = some y := by rw [C.N]; exact h1
  have hx : Loc X.env.scope y ∧ (X.fn y = true ∨ X.env.scope.names.lookup y = some .local) := by
    rw [hs]
    rw [Bool.or_eq_true] at h2
    rcases h2 with h2 | h2
    · have := loc_of h2; exact ⟨.inl this, .inr this⟩
    · unfold celB at h2
      split at h2
      · exact ⟨.inr (by assumption), .inl (hfn _)⟩
      · exact absurd h2 Bool.false_ne_true
  cases hw : swB sc y py v with
  | false => exact ps_set C.nd hy hx.1 (sndE e C tw hs h) (by rw [swap_eq h3, hs, hw]) hx.2
  | true =>
    cases v <;> try (exact absurd hw Bool.false_ne_true)
    rename_i elt gs scope pos
    have hl : sc.names.lookup y = some .local := by
      have := hw
      simp only [swB, Bool.and_eq_true, beq_iff_eq] at this
      exact this.1.1.2
    exact set_lc C tw hs hy hl hw e h
end
end PL
/-! ### the rules of statements -/
namespace PL
open PySem PySem.Spec PyProof.Rows L2
def putV (f : Str) (v : V) : List Str → List V → List V
  | [], _ => [v]
  | _, [] => [v]
  | g :: r, x :: xs => if g = f then v :: xs else x :: putV f v r xs
theorem putF_zip {f : Str} {v : V} : ∀ {ns : List Str} {vs : List V}, ns.length = vs.length → putF f v (ns.zip vs) = (putN f ns).zip (putV f v ns vs)
  | [], [], _ => rfl
  | n :: ns, w :: vs, h => by
    show (if n = f then (n, v) :: ns.zip vs else (n, w) :: putF f v (ns.zip vs)) = _
    unfold putN putV
    by_cases e : n = f
    · rw [if_pos e, if_pos e, if_pos e]; rfl
    · rw [if_neg e, if_neg e, if_neg e, putF_zip (by simpa using h)]; rfl
  | [], _ :: _, h => by simp at h
  | _ :: _, [], h => by simp at h
theorem putX_len {f : Str} {d : D} : ∀ {ns : List Str} {xs : List D}, ns.length = xs.length → (putN f ns).length = (putX f d ns xs).length
  | [], [], _ => rfl
  | n :: ns, w :: vs, h => by
    unfold putN putX
    by_cases e : n = f
    · rw [if_pos e, if_pos e]; simpa using h
    · rw [if_neg e, if_neg e, List.length_cons, List.length_cons, putX_len (by simpa using h)]
  | [], _ :: _, h => by simp at h
  | _ :: _, [], h => by simp at h
theorem putX_den {c : Cn} {M : Mem} {H : Hp} {f : Str} {d : D} {v : V} (q : Den c M H d v) : ∀ {ns : List Str} {xs : List D} {vs : List V}, ns.length = xs.length → DenL c M H xs vs → DenL c M H (putX f d ns xs) (putV f v ns vs)
  | [], [], _, _, h => by simp only [DenL] at h; subst h; exact DenL.cons q DenL.nil
  | n :: ns, x :: xs, _, hl, h => by
    simp only [DenL] at h
    obtain ⟨w, r, rfl, h1, h2⟩ := h
    unfold putX putV
    by_cases e : n = f
    · rw [if_pos e, if_pos e]; exact DenL.cons q h2
    · rw [if_neg e, if_neg e]; exact DenL.cons h1 (putX_den q (by simpa using hl) h2)
  | [], _ :: _, _, h, _ => by simp at h
  | _ :: _, [], _, h, _ => by simp at h
section
variable {S : Cs} {T : Tb} {K : Ck} {i : Nat} {X : Cx} {W : WX} {te to ti : DTE} {tt : DTT} {tr : DTA} {e o ie : Expr} {a b : List Stmt} {t u : DTS} {pos p : Pos} {D : Ends} {σ : L2.St} {H : Hp}
theorem s_set {j : Nat} (h : lS S T W (fun DD ρ M => te ρ M (fun r M1 => DD.nx (ρ.set j (some r.d)) M1) (DD.at_ ρ)) D σ H) : tAsg (lE S T W te) (gName j) D σ H := by
  obtain ⟨c, ρ, M, DD, ok, s, t, e⟩ := h
  refine ⟨c, ρ, M, _, DD.at_ ρ, ok, s, e.xok s, t, fun r M1 v H1 hk rv => ?_⟩
  obtain ⟨k1, m1, d1⟩ := rv.plain
  exact e.nx _ _ _ _ hk ((s.keep k1 m1).set d1) k1
theorem s_setT {tg : Tg} (hK : X.K = S.K) (h : lS S T W (fun DD ρ M => te ρ M (fun r M1 => bindT tg r.d ρ fun ρ' => DD.nx ρ' M1) (DD.at_ ρ)) D σ H) : tAsg (lE S T W te) (gT X.K tg) D σ H := by
  obtain ⟨c, ρ, M, DD, ok, s, t, e⟩ := h
  refine ⟨c, ρ, M, _, DD.at_ ρ, ok, s, e.xok s, t, fun r M1 v H1 hk rv => ?_⟩
  obtain ⟨k1, m1, d1⟩ := rv.plain
  exact gT_run (ok.1.trans hK.symm) (s.keep k1 m1) d1 hk fun ρ2 σ2 h2 s2 _ _ => e.nx _ _ _ _ h2 s2 k1
theorem s_par {j k n : Nat} (h : lS S T W (fun DD ρ M => tr ρ M (fun ds M1 => [j, k].length = ds.length ∧ DD.nx (([j, k].zip ds).foldl (fun r p => r.set p.1 (some p.2)) ρ) M1) (DD.at_ ρ)) D σ H) : tPar j k (lA S T W n tr) D σ H := by
  obtain ⟨c, ρ, M, DD, ok, s, t, e⟩ := h
  refine ⟨c, ρ, M, _, DD.at_ ρ, ok, s, e.xok s, t, fun ds M1 vs H1 hn hk k1 m1 d1 => ?_⟩
  obtain ⟨hl, hk⟩ := hk
  match ds, hl, hk, d1 with
  | [d1, d2], _, hk, q =>
    obtain ⟨v, w, rfl, q1, q2⟩ := q.two
    exact ⟨v, w, rfl, e.nx _ _ _ _ hk (((s.keep k1 m1).set q1).set q2) k1⟩
theorem s_par3 {j k l n : Nat} (h : lS S T W (fun DD ρ M => tr ρ M (fun ds M1 => [j, k, l].length = ds.length ∧ DD.nx (([j, k, l].zip ds).foldl (fun r p => r.set p.1 (some p.2)) ρ) M1) (DD.at_ ρ)) D σ H) : tPar3 j k l (lA S T W n tr) D σ H := by
  obtain ⟨c, ρ, M, DD, ok, s, t, e⟩ := h
  refine ⟨c, ρ, M, _, DD.at_ ρ, ok, s, e.xok s, t, fun ds M1 vs H1 hn hk k1 m1 d1 => ?_⟩
  obtain ⟨hl, hk⟩ := hk
  match ds, hl, hk, d1 with
  | [d1, d2, d3], _, hk, q =>
    simp only [DenL] at q
    obtain ⟨u, _, rfl, q1, v, _, rfl, q2, w, _, rfl, q3, rfl⟩ := q
    exact ⟨u, v, w, rfl, e.nx _ _ _ _ hk ((((s.keep k1 m1).set q1).set q2).set q3) k1⟩
theorem s_sub (h : lS S T W (fun DD ρ M => te ρ M (fun r M1 => to ρ M1 (fun x M2 => ti ρ M2 (fun y M3 => setS x.d y.d r.d M3 fun M4 => DD.nx ρ M4) (DD.at_ ρ)) (DD.at_ ρ)) (DD.at_ ρ)) D σ H) :
    tAsg (lE S T W te) (gSub (lE S T W to) (lE S T W ti) rSetL) D σ H := by
  obtain ⟨c, ρ, M, DD, ok, s, t, e⟩ := h
  refine ⟨c, ρ, M, _, DD.at_ ρ, ok, s, e.xok s, t, fun r M1 v H1 hk rv => ?_⟩
  obtain ⟨k1, m1, d1⟩ := rv.plain
  refine ⟨c, ρ, M1, _, DD.at_ ρ, ok, s.keep k1 m1, (e.xok s).after k1, hk, fun r2 M2 v2 H2 hk2 rv2 => ?_⟩
  obtain ⟨k2, m2, d2⟩ := rv2.plain
  have k12 := k1.trans k2
  refine ⟨c, ρ, M2, _, DD.at_ ρ, ok, s.keep k12 m2, (e.xok s).after k12, hk2, fun r3 M3 v3 H3 hk3 rv3 => ?_⟩
  obtain ⟨k3, m3, d3⟩ := rv3.plain
  obtain ⟨p, xs, e1, hp, hk3⟩ := cell_of hk3
  obtain ⟨z, e2, hk3⟩ := int_of hk3
  obtain ⟨j, e3, hk3⟩ := opt_of hk3
  have d2 := Den.keep k3 _ _ d2
  rw [e1] at d2
  rw [e2] at d3
  simp only [Den] at d2 d3
  subst d2 d3
  obtain ⟨vs, hv, l, q⟩ := cell_at m3 hp
  have dv := Den.keep (k2.trans k3) _ _ d1
  have kw := Keep.write (o := .lst (vs.set j v)) (ob' := .lst (xs.set j r.d)) m3 hp
  have mw := MR.write (o := .lst (vs.set j v)) (ob' := .lst (xs.set j r.d)) m3 hp ⟨_, rfl, by rw [List.length_set]; exact l, q.set dv j⟩
  exact ⟨p, vs, z, j, rfl, rfl, hv, by rw [← q.length]; exact e3, e.nx _ _ _ _ hk3 (s.keep ((k12.trans k3).trans kw) mw) ((k12.trans k3).trans kw)⟩
theorem s_fld {f : Str} (hK : X.K = S.K) (hcl : ∀ k, T.nc k = true → ClsOk S.K (S.cA k) (T.at_ k)) (h : lS S T W (fun DD ρ M => te ρ M (fun r M1 => to ρ M1 (fun x M2 => match x.d with
    | .ref p => match M2 p with
      | some (.ins c ns xs) => (T.nc c && (T.at_ c).contains f) = true ∧ ns.length < 1000 ∧ DD.nx ρ (mput M2 p (.ins c (putN f ns) (putX f r.d ns xs)))
      | _ => False
    | _ => False) (DD.at_ ρ)) (DD.at_ ρ)) D σ H) : sFld X.K (lE S T W to) (lE S T W te) f D σ H := by
  obtain ⟨c, ρ, M, DD, ok, s, t, e⟩ := h
  refine ⟨c, ρ, M, _, DD.at_ ρ, ok, s, e.xok s, t, fun r M1 v H1 hk rv => ?_⟩
  obtain ⟨k1, m1, d1⟩ := rv.plain
  refine ⟨c, ρ, M1, _, DD.at_ ρ, ok, s.keep k1 m1, (e.xok s).after k1, hk, fun r2 M2 v2 H2 hk2 rv2 => ?_⟩
  obtain ⟨k2, m2, d2⟩ := rv2.plain
  have k12 := k1.trans k2
  split at hk2
  · rename_i p e1
    split at hk2
    · rename_i cn ns xs e2
      obtain ⟨h1, hn, hk2⟩ := hk2
      rw [Bool.and_eq_true] at h1
      have C := hcl cn h1.1
      rw [e1] at d2
      simp only [Den] at d2
      subst d2
      obtain ⟨u, hu, dx, vs, rfl, l, q⟩ := m2.at_ p _ e2
      have dv := Den.keep k2 _ _ d1
      have lv := q.length
      have ez : putF f v (ns.zip vs) = (putN f ns).zip (putV f v ns vs) := putF_zip (by omega)
      have kw := Keep.write (o := .ins (c.cA cn) dx (putF f v (ns.zip vs))) (ob' := .ins cn (putN f ns) (putX f r.d ns xs)) m2 e2
      have mw := MR.write (o := .ins (c.cA cn) dx (putF f v (ns.zip vs))) (ob' := .ins cn (putN f ns) (putX f r.d ns xs)) m2 e2 ⟨dx, _, by rw [ez], putX_len l, putX_den dv l q⟩
      refine ⟨p, c.cA cn, dx, ns.zip vs, rfl, hu, ?_, ?_, ?_, e.nx _ _ _ _ hk2 (s.keep (k12.trans kw) mw) (k12.trans kw)⟩
      · rw [ok.2, hK]; exact C.cl
      · rw [ok.2, hK]; exact C.na f (by simpa using h1.2)
      · have := List.length_zip (l₁ := ns) (l₂ := vs); omega
    · exact hk2.elim
  · exact hk2.elim
theorem s_expr (h : lS S T W (fun DD ρ M => te ρ M (fun _ M1 => DD.nx ρ M1) (DD.at_ ρ)) D σ H) : tDrop (lE S T W te) D σ H := by
  obtain ⟨c, ρ, M, DD, ok, s, t, e⟩ := h
  refine ⟨c, ρ, M, _, DD.at_ ρ, ok, s, e.xok s, t, fun r M1 v H1 hk rv => ?_⟩
  obtain ⟨k1, m1, d1⟩ := rv.plain
  exact e.nx _ _ _ _ hk (s.keep k1 m1) k1
theorem s_ret (h : lS S T W (fun DD ρ M => te ρ M DD.rt (DD.at_ ρ)) D σ H) : tRet (lE S T W te) D σ H := by
  obtain ⟨c, ρ, M, DD, ok, s, t, e⟩ := h
  exact ⟨c, ρ, M, _, DD.at_ ρ, ok, s, e.xok s, t, fun r M1 v H1 hk rv => e.rt _ _ _ _ hk rv⟩
theorem s_retN (h : lS S T W (fun DD _ M => DD.rt (.val .non) M) D σ H) : tRetN D σ H := by
  obtain ⟨c, ρ, M, DD, ok, s, t, e⟩ := h
  exact e.rt _ _ _ _ t ⟨Keep.refl _ _ _, s.mem, by simp only [Den]⟩
theorem s_ite (h : lS S T W (fun DD ρ M => tt ρ M (fun k M1 => if k = true then t DD ρ M1 else u DD ρ M1) (DD.at_ ρ)) D σ H) : tIfS (lT S T W tt) (lS S T W t) (lS S T W u) D σ H := by
  obtain ⟨c, ρ, M, DD, ok, s, t, e⟩ := h
  refine ⟨c, ρ, M, _, DD.at_ ρ, ok, s, e.xok s, t, fun k M1 H1 hk k1 m1 => ?_⟩
  cases k with
  | true => exact ⟨c, ρ, M1, DD, ok, s.keep k1 m1, hk, e.after k1⟩
  | false => exact ⟨c, ρ, M1, DD, ok, s.keep k1 m1, hk, e.after k1⟩
theorem s_nx (h : lS S T W (fun DD ρ M => DD.nx ρ M) D σ H) : tNext D σ H := by
  obtain ⟨c, ρ, M, DD, ok, s, t, e⟩ := h
  exact e.nx _ _ _ _ t s (Keep.refl _ _ _)
theorem s_bk (h : lS S T W (fun DD ρ M => DD.bk ρ M) D σ H) : tBreak D σ H := by
  obtain ⟨c, ρ, M, DD, ok, s, t, e⟩ := h
  exact e.bk _ _ _ _ t s (Keep.refl _ _ _)
theorem s_ct (h : lS S T W (fun DD ρ M => DD.ct ρ M) D σ H) : tCont D σ H := by
  obtain ⟨c, ρ, M, DD, ok, s, t, e⟩ := h
  exact e.ct _ _ _ _ t s (Keep.refl _ _ _)
theorem s_seq (h : lS S T W (fun DD ρ M => t { DD with nx := u DD } ρ M) D σ H) : tSeq (lS S T W t) (lS S T W u) D σ H := by
  obtain ⟨c, ρ, M, DD, ok, s, t, e⟩ := h
  exact ⟨c, ρ, M, _, ok, s, t, ⟨fun ρ' σ' M' H' h s' k => ⟨c, ρ', M', DD, ok, s', h, e.after k⟩, e.bk, e.ct, e.rt, e.ex⟩⟩
theorem s_for {src : DTK} {tg : Tg} (hK : X.K = S.K) (h : lS S T W (fun DD ρ M => src ρ M (fun items live M1 => ∃ W : Nat → Sd → Mem → Prop, W 0 ρ M1 ∧
      (∀ i ρ' M', i ≤ items.length → W i ρ' M' → live M') ∧
      (∀ i x ρ' M', items[i]? = some x → W i ρ' M' → bindT tg x ρ' fun ρ2 => t { DD with nx := W (i + 1), ct := W (i + 1), bk := DD.nx } ρ2 M') ∧
      (∀ ρ' M', W items.length ρ' M' → DD.nx ρ' M')) (DD.at_ ρ)) D σ H) : tFor (lI S T W src) (gT X.K tg) (lS S T W t) D σ H := by
  obtain ⟨c, ρ, M, DD, ok, s, t0, e⟩ := h
  refine ⟨c, ρ, M, _, DD.at_ ρ, ok, s, e.xok s, t0, fun items live M1 H1 J hk k1 m1 wd => ?_⟩
  obtain ⟨Wd, w0, wl, ws, wq⟩ := hk
  obtain ⟨hsz, wd⟩ := wd
  have s1 := s.keep k1 m1
  have w : Walk J items.length (fun H2 => ∃ M', Keep c M1 H1 M' H2 ∧ MR c M' H2 ∧ live M')
      (fun i H2 x H3 => ∀ M', Keep c M1 H1 M' H2 → MR c M' H2 → live M' → ∃ d, items[i]? = some d ∧ Keep c M' H2 M' H3 ∧ MR c M' H3 ∧ Den c M' H3 d x) :=
    ⟨fun i H2 hi ⟨M', k, m, l⟩ => (wd _ M' H2 k.g m l).1 i hi, fun H2 ⟨M', k, m, l⟩ => (wd _ M' H2 k.g m l).2.1, fun i H2 x H3 hi _ y M' k m l => (wd _ M' H2 k.g m l).2.2 i x H3 hi y⟩
  refine for_it w (fun i σ2 H2 => ∃ ρ' M', i ≤ items.length ∧ Wd i ρ' M' ∧ SR c ρ' σ2 M' H2 ∧ Keep c M1 H1 M' H2) ⟨ρ, M1, Nat.zero_le _, w0, s1, Keep.refl _ _ _⟩ ?_ ?_ ?_
  · rintro i σ2 H2 hi ⟨ρ', M', _, wi, sr, k⟩
    exact ⟨M', k, sr.mem, wl i ρ' M' hi wi⟩
  · rintro i x σ2 H2 H3 hi ⟨ρ', M', _, wi, sr, k⟩ y
    obtain ⟨d, hd, k3, m3, dx⟩ := y M' k sr.mem (wl i ρ' M' (Nat.le_of_lt hi) wi)
    refine gT_run (ok.1.trans hK.symm) (sr.keep k3 m3) dx (ws i d ρ' M' hd wi) fun ρ2 σ3 h2 s2 _ _ => ?_
    have ka := k.trans k3
    exact ⟨c, ρ2, M', _, ok, s2, h2, ⟨fun ρ4 σ4 M4 H4 h s' k' => ⟨ρ4, M4, hi, h, s', ka.trans k'⟩, fun ρ4 σ4 M4 H4 h s' k' => e.nx _ _ _ _ h s' (k1.trans (ka.trans k')), fun ρ4 σ4 M4 H4 h s' k' => ⟨ρ4, M4, hi, h, s', ka.trans k'⟩,
      fun r M4 v H4 h rv => e.rt _ _ _ _ h (rv.after (k1.trans ka)), fun n f ρ4 σ4 M4 H4 d h s' k' xd => e.ex n f ρ4 σ4 M4 H4 d h s' (k1.trans (ka.trans k')) xd⟩⟩
  · rintro σ2 H2 ⟨ρ', M', _, wi, sr, k⟩
    exact e.nx _ _ _ _ (wq ρ' M' wi) sr (k1.trans k)
theorem s_while (h : lS S T W (fun DD ρ M => ∃ W : Nat → Sd → Mem → Prop, (∃ m, W m ρ M) ∧ ∀ m ρ' M', W m ρ' M' →
      tt ρ' M' (fun k M1 => if k = true then t { DD with nx := fun ρ2 M2 => ∃ m', m' < m ∧ W m' ρ2 M2, ct := fun ρ2 M2 => ∃ m', m' < m ∧ W m' ρ2 M2, bk := DD.nx } ρ' M1 else DD.nx ρ' M1) (DD.at_ ρ')) D σ H) :
    tWhile (lT S T W tt) (lS S T W t) D σ H := by
  obtain ⟨c, ρ, M, DD, ok, s, ⟨Wd, ⟨m0, w0⟩, hw⟩, e⟩ := h
  refine ⟨fun m σ2 H2 => ∃ ρ' M', Wd m ρ' M' ∧ SR c ρ' σ2 M' H2 ∧ Keep c M H M' H2, ⟨m0, ρ, M, w0, s, Keep.refl _ _ _⟩, ?_⟩
  rintro m σ2 H2 ⟨ρ', M', wm, sr, k⟩
  refine ⟨c, ρ', M', _, DD.at_ ρ', ok, sr, (e.after k).xok sr, hw m ρ' M' wm, fun b M3 H3 hb k3 m3 => ?_⟩
  have ka := k.trans k3
  cases b with
  | false => exact e.nx _ _ _ _ hb (sr.keep k3 m3) ka
  | true =>
    refine ⟨fun σ4 H4 => ∃ m', m' < m ∧ ∃ ρ2 M2, Wd m' ρ2 M2 ∧ SR c ρ2 σ4 M2 H4 ∧ Keep c M H M2 H4, fun σ4 H4 h => h, ?_⟩
    exact ⟨c, ρ', M3, _, ok, sr.keep k3 m3, hb, ⟨fun ρ4 σ4 M4 H4 ⟨m', hm, h⟩ s' k' => ⟨m', hm, ρ4, M4, h, s', ka.trans k'⟩, fun ρ4 σ4 M4 H4 h s' k' => e.nx _ _ _ _ h s' (ka.trans k'), fun ρ4 σ4 M4 H4 ⟨m', hm, h⟩ s' k' => ⟨m', hm, ρ4, M4, h, s', ka.trans k'⟩,
      fun r M4 v H4 h rv => e.rt _ _ _ _ h (rv.after ka), fun n f ρ4 σ4 M4 H4 d h s' k' xd => e.ex n f ρ4 σ4 M4 H4 d h s' (ka.trans k') xd⟩⟩
theorem s_frz {j : Nat} (h : lS S T W (fun DD ρ M => match ρ[j]? with
    | some (some (.ref p)) => match M p with
      | some o => t DD (ρ.set j (some o.frz)) (mdel M p)
      | none => False
    | _ => False) D σ H) : lS S T W t D σ H := by
  obtain ⟨c, ρ, M, DD, ok, s, h, e⟩ := h
  split at h
  · rename_i p e1
    split at h
    · rename_i o e2
      obtain ⟨v, hv, q⟩ := s.get j _ e1
      simp only [Den] at q
      subst q
      have k : Keep c M H (mdel M p) H := Keep.sub (Sub.del M p)
      have m := s.mem.sub (Sub.del M p)
      have s2 := (s.keep k m).set (i := j) (Den.frz s.mem e2)
      have es : σ.set j (some (.ref p)) = σ := by
        apply List.ext_getElem?
        intro n
        by_cases z : j = n
        · subst z
          have := (List.getElem?_eq_some_iff.mp hv).1
          rw [List.getElem?_set_self this, hv]
        · rw [List.getElem?_set_ne z]
      rw [es] at s2
      exact ⟨c, _, _, DD, ok, s2, h, e.after k⟩
    · exact h.elim
  · exact h.elim
theorem iadd_ok : PIp X .Add (LV2 S fun x y M Q => augS .Add x y M fun r => Q r M) := by
  intro pins s σ H x y v u Q I rx ry ⟨c, M, dx, dy, Q', ok, m, d1, d2, h, q⟩
  dsimp only [augS] at h
  split at h
  · split at h
    · simp only [Den] at d1 d2
      subst d1 d2
      exact ip_add pins s σ H _ _ v u Q I rx ry ⟨_, _, rfl, rfl, q _ _ _ _ h (RV.same m (by simp only [Den]))⟩
    · exact h.elim
  · exact h.elim
theorem isub_ok : PIp X .Sub (LV2 S fun x y M Q => augS .Sub x y M fun r => Q r M) := by
  intro pins s σ H x y v u Q I rx ry ⟨c, M, dx, dy, Q', ok, m, d1, d2, h, q⟩
  obtain ⟨i, j, rfl, rfl, h⟩ := int2_of (show int2 dx dy _ from h)
  simp only [Den] at d1 d2
  subst d1 d2
  exact ip_sub pins s σ H _ _ v u Q I rx ry ⟨_, _, rfl, rfl, q _ _ _ _ h (RV.same m (by simp only [Den]))⟩
theorem s_aug {j : Nat} {op : Operator} (h : lS S T W (fun DD ρ M => match ρ[j]? with
    | some (some d) => te ρ M (fun r M1 => augS op d r.d M1 fun z => DD.nx (ρ.set j (some z.d)) M1) (DD.at_ ρ)
    | _ => False) D σ H) : tAug j (lE S T W te) (LV2 S fun x y M Q => augS op x y M fun r => Q r M) D σ H := by
  obtain ⟨c, ρ, M, DD, ok, s, h, e⟩ := h
  split at h
  · rename_i d e1
    obtain ⟨v, hv, q⟩ := s.get j _ e1
    refine ⟨v, hv, c, ρ, M, _, DD.at_ ρ, ok, s, e.xok s, h, fun r M1 w H1 hk rv => ?_⟩
    obtain ⟨k1, m1, d1⟩ := rv.plain
    refine ⟨c, M1, d, r.d, fun r' M' => DD.nx (ρ.set j (some r'.d)) M', ok, m1, Den.keep k1 _ _ q, d1, hk, fun r' M' v' H' h1 h2 => ?_⟩
    obtain ⟨k2, m2, d2⟩ := h2.plain
    exact e.nx _ _ _ _ h1 ((s.keep (k1.trans k2) m2).set d2) (k1.trans k2)
  · exact h.elim
end
end PL
/-! ### except clauses, each with a name or without -/
namespace PL
open PySem PySem.Spec PyProof.Rows L2
abbrev SuT := Addr → Value → Option Addr → TS
/-- where the exception stands in the suite: slot i, or nowhere -/
def inSu (o : Option Nat) (ts : SuT) (a : Addr) (cls : Value) (d : Option Addr) : TS := fun D σ H => match o with
  | none => ts a cls d D σ H
  | some i => ts a cls d { nx := fun σ' H' => D.nx (σ'.set i none) H', rt := D.rt, bk := fun σ' H' => D.bk (σ'.set i none) H', ct := fun σ' H' => D.ct (σ'.set i none) H' } (σ.set i (some (.ref a))) H
def wA (K : PySem.W.Frag) (Wout : WX) (D : Ends) : List (Value × Option Nat × SuT) → WX
  | [] => Wout
  | (c, o, ts) :: r => fun cls d σ H => ∃ b, PySem.W.exmOne K cls c = some b ∧ (b = true → ∀ a, H a = none → inSu o ts a cls d D σ H) ∧ (b = false → wA K Wout D r cls d σ H)
/-- the clause's own name -/
def nmOk (X : Cx) (o : Option Nat) (n : Option Str) : Prop := match o, n with
  | none, none => True
  | some i, some n => X.N[i]? = some n ∧ X.env.kindOf n = some .local
  | _, _ => False
inductive HA (X : Cx) : List ExceptHandler → List (Value × Option Nat × SuT) → Prop
  | nil : HA X [] []
  | cons {x : Str} {c : Value} {o : Option Nat} {n : Option Str} {ts : SuT} {st0 : Stmt} {sts : List Stmt} {p1 p2 : Pos} {hs : List ExceptHandler} {l : List (Value × Option Nat × SuT)} (nm : Names X x c) (no : nmOk X o n)
      (su : ∀ (a : Addr) (oe : Obj) (cls : Value) (d : Option Addr) (pn : List (Addr × Obj)), Zc cls d oe → (∃ vs, oe.data = .fields vs) → PSs (X.suite a ((a, oe) :: pn)) (st0 :: sts) (ts a cls d)) (r : HA X hs l) :
      HA X (.ExceptHandler (some (.Name x p1)) n (st0 :: sts) p2 :: hs) ((c, o, ts) :: l)
section
variable {X : Cx} {body : List Stmt} {h0 : ExceptHandler} {hs : List ExceptHandler} {l : List (Value × Option Nat × SuT)} {pos : Pos} {tb : WX → TS} {Wout : WX}
theorem ps_tryA (hst : X.stack = X.env :: X.outer) (hfm : X.env.frame = some X.env.locals) (nd : X.N.Nodup) (tk : Takes X Wout)
    (hb : ∀ (W : WX) (pn : List (Addr × Obj)) (xe : Value → Shared → Prop), Takes (X.tr pn xe) W → PassesOwn (model X.prog X.w) X.A X.env xe → PSs (X.tr pn xe) body (tb W))
    (hh : HA X (h0 :: hs) l) : PS X (.Try body (h0 :: hs) [] [] pos) (fun D σ H => tb (wA X.K Wout D l) D σ H) := by
  refine ⟨fun pins s σ H D I h => ?_⟩
  have ok := I.ok
  have fr0 : X.A.frames = some (X.env :: X.outer) := by rw [ok.frames, hst]
  have run := hb (wA X.K Wout D l) (X.pn ++ pins) (fun e z1 => wpAny (model X.prog X.w) X.A (noteFrame e X.env) (fun _ z2 => wpAny (model X.prog X.w) X.A (setFlight e none) (fun _ z3 => wpAny (model X.prog X.w) X.A (handleBy e X.env (h0 :: hs)) (SP X pins D) X.xe z3) X.xe z2) X.xe z1)
    (fun u s' xx => by
      obtain ⟨a, B, sI, pins', σ', H', cls, d, rfl, J', nb, up, sky, na, os, ag, w⟩ := xx
      have J : Inv X pins σ' H' sI := J'.ofTry ok
      have sk : Sky B (X.env :: X.outer) a (Zc cls d) X.env.locals s'.heap := by rw [← hst]; exact sky
      show wpAny (model X.prog X.w) X.A (noteFrame (.ref a) X.env) _ _ _
      refine Sky.land Zc.steady fr0 hfm sk fun g3 fl up3 => ?_
      have J3 : Inv X pins σ' H' { s' with heap := g3 } := J.landed nb fl.1 (up.trans up3) os ag
      obtain ⟨oe3, vs3, he3, hz3, hd3⟩ := fl.there
      have nfr : a ∉ frs (X.env :: X.outer) := fun hm => by
        obtain ⟨_, o', e', hnf⟩ := fl.2.2.1.mem hm
        rw [he3] at e'; cases e'
        exact hnf _ hd3
      have nL : a ≠ X.env.locals := fun z => nfr (List.mem_filterMap.mpr ⟨X.env, List.mem_cons_self, by rw [hfm, z]⟩)
      have nF : a ∉ X.fs := fun hm => by
        obtain ⟨e, he, q⟩ := List.mem_filterMap.mp hm
        exact nfr (List.mem_filterMap.mpr ⟨e, List.mem_cons_of_mem _ he, q⟩)
      have S3 := J3.suite he3 hd3 na nL nF
      have go : ∀ {hs' : List ExceptHandler} {l' : List (Value × Option Nat × SuT)}, HA X hs' l' → wA X.K Wout D l' cls d σ' H' → wpAny (model X.prog X.w) X.A (handleBy (.ref a) X.env hs') (SP X pins D) X.xe { s' with heap := g3 } := by
        intro hs' l' hk
        induction hk with
        | nil =>
          intro w
          refine wpAny_handleBy_nil ?_
          have fl' := fl
          obtain ⟨k1, k2, k3, oe, vs, T, oT, ts', he, hz, hd, h1, hr⟩ := fl'
          unfold PySem.passOn
          refine wpAny_bind (wpAny_field he hd h1 ?_)
          rw [if_neg (show ¬ ((Value.ref T == Value.none) = true) from by simp)]
          have on : wpAny (model X.prog X.w) X.A (setFlight (.ref a) X.env.frame) (fun _ z4 => wpAny (model X.prog X.w) X.A (throw (.ref a) : Sem Flow) (SP X pins D) X.xe z4) X.xe { s' with heap := g3 } := by
            rw [hfm]
            refine HandSPX.setFlight_upZ fl fun g4 hh4 up4 => wpAny_throw (tk _ _ ?_)
            exact ⟨a, B, sI, pins, σ', H', cls, d, rfl, J, nb, (up.trans up3).trans up4, .inr (.inr (by rw [hst]; exact hh4)), na, os, ag, w⟩
          first
            | exact wpAny_bind (wpAny_pure (wpAny_bind on))
            | exact wpAny_bind on
        | @cons x c o n ts st0 sts p1 p2 hs2 l2 nm no su r ih =>
          intro w
          obtain ⟨b, hb1, hyes, hno⟩ := w
          refine wpAny_handleBy_cons (codeAny_handlers_test ?_) (by intro q; cases q)
          have LT : PySem.W.Looks (model X.prog X.w) g3 (typeOf (.ref a)) cls := fun A Q E s k q => wpAny_typeOf_ref (k _ _ he3) (by rw [hz3.1]; exact q)
          have LM := PySem.W.exm_one (M := model X.prog X.w) (J3.kIn) LT hb1
          have test : ∀ {Q : Value → Shared → Prop} {E : Value → Shared → Prop}, Q c { s' with heap := g3 } → wpAny (model X.prog X.w) (X.A.mark (some (.ref a))) (eval (.Name x p1) X.env) Q E { s' with heap := g3 } := fun {Q E} q => by
            obtain ⟨hg, hdbg, hm | ⟨hm, hv, hnn⟩⟩ := nm
            · exact ld_glob (X := X.suite a ((a, oe3) :: (X.pn ++ pins))) S3 hg hm q hdbg
            · exact ld_blt (X := X.suite a ((a, oe3) :: (X.pn ++ pins))) S3 hg hm hv q hnn hdbg
          refine test (LM.here ?_)
          cases b with
          | false =>
            show wpAny _ X.A (handleBy (.ref a) X.env hs2) _ _ _
            exact ih (hno rfl)
          | true =>
            cases o with
            | none =>
              cases n with
              | some n => exact no.elim
              | none =>
                refine codeAny_handlers_suite ?_
                refine HandSPX.lands_againZ fl fun g4 fl4 up4 => ?_
                have J4 : Inv X pins σ' H' { s' with heap := g4 } := J.landed nb fl4.1 ((up.trans up3).trans up4) os ag
                obtain ⟨oe4, vs4, he4, hz4, hd4⟩ := fl4.there
                have S4 := J4.suite he4 hd4 na nL nF
                refine wpAny_mono ((su a oe4 cls d (X.pn ++ pins) hz4 ⟨_, hd4⟩).run [] _ _ H' _ S4 (hyes rfl a na)) (fun f z6 hsp => ?_) (fun _ _ z => False.elim z)
                cases f with
                | ret u => obtain ⟨v6, σ6, H6, S6, r6, q6⟩ := hsp; exact ⟨_, _, _, S6.unsuite ok, r6, q6⟩
                | next => obtain ⟨σ6, H6, S6, q6⟩ := hsp; exact ⟨_, _, S6.unsuite ok, q6⟩
                | brk => obtain ⟨σ6, H6, S6, q6⟩ := hsp; exact ⟨_, _, S6.unsuite ok, q6⟩
                | cont => obtain ⟨σ6, H6, S6, q6⟩ := hsp; exact ⟨_, _, S6.unsuite ok, q6⟩
            | some i =>
              cases n with
              | none => exact no.elim
              | some n =>
                obtain ⟨hi, hln⟩ := no
                refine codeAny_handlers_suite_as ?_
                refine HandSPX.lands_againZ fl fun g4 fl4 up4 => ?_
                have J4 : Inv X pins σ' H' { s' with heap := g4 } := J.landed nb fl4.1 ((up.trans up3).trans up4) os ag
                obtain ⟨oe4, vs4, he4, hz4, hd4⟩ := fl4.there
                have S4 := J4.suite he4 hd4 na nL nF
                refine store_ok (X := X.suite a ((a, oe4) :: (X.pn ++ pins))) (v := .ref a) S4 nd hi (.inl hln) rfl (fun s5 S5 => ?_) (.inr hln)
                refine wpAny_mono ((su a oe4 cls d (X.pn ++ pins) hz4 ⟨_, hd4⟩).run [] s5 _ H' _ S5 (hyes rfl a na)) (fun f z6 hsp => ?_) (fun _ _ z => False.elim z)
                have out : ∀ {σ6 : L2.St} {H6 : Hp} {Q : Shared → Prop}, Inv (X.suite a ((a, oe4) :: (X.pn ++ pins))) [] σ6 H6 z6 → (∀ s7, Inv X pins (σ6.set i none) H6 s7 → Q s7) → wpAny (model X.prog X.w) X.A (do bindName X.env n .none; unbindBehindTheSuite X.env n p2) (fun _ s7 => Q s7) X.xe z6 :=
                  fun {σ6 H6 Q} S6 hq => gone_ok (S6.unsuite ok) nd hi hln hq
                cases f with
                | ret u => obtain ⟨v6, σ6, H6, S6, r6, q6⟩ := hsp; exact out S6 fun s7 J7 => ⟨_, _, _, J7, r6, q6⟩
                | next => obtain ⟨σ6, H6, S6, q6⟩ := hsp; exact out S6 fun s7 J7 => ⟨_, _, J7, q6⟩
                | brk => obtain ⟨σ6, H6, S6, q6⟩ := hsp; exact out S6 fun s7 J7 => ⟨_, _, J7, q6⟩
                | cont => obtain ⟨σ6, H6, S6, q6⟩ := hsp; exact out S6 fun s7 J7 => ⟨_, _, J7, q6⟩
      exact go hh w) PassesOwn.looking
  refine wpAny_Try_except (wpAny_mono (run.run [] s σ H D (I.toTry _) h) (fun f s1 hsp => ?_) fun e s1 he => he)
  cases f with
  | ret u => obtain ⟨v, σ', H', J', r, q⟩ := hsp; exact ⟨v, σ', H', J'.ofTry ok, r, q⟩
  | next => obtain ⟨σ', H', J', q⟩ := hsp; exact wpAny_execs_nil ⟨σ', H', J'.ofTry ok, q⟩
  | brk => obtain ⟨σ', H', J', q⟩ := hsp; exact ⟨σ', H', J'.ofTry ok, q⟩
  | cont => obtain ⟨σ', H', J', q⟩ := hsp; exact ⟨σ', H', J'.ofTry ok, q⟩
end

theorem zip_rev {α : Type} : ∀ {xs : List Str} {ys : List α}, xs.length = ys.length → (xs.zip ys).reverse = xs.reverse.zip ys.reverse
  | [], [], _ => rfl
  | x :: xs, y :: ys, h => by
    have hl : xs.length = ys.length := by simpa using h
    rw [List.zip_cons_cons, List.reverse_cons, List.reverse_cons, List.reverse_cons, zip_rev hl, List.zip_append (by simp [hl])]
    rfl
  | [], _ :: _, h => by simp at h
  | _ :: _, [], h => by simp at h
theorem den_rev {c : Cn} {M : Mem} {H : Hp} {ds : List D} {vs : List V} (q : DenL c M H ds vs) : DenL c M H ds.reverse vs.reverse := by
  refine DenL.of_get (by rw [List.length_reverse, List.length_reverse, q.length]) fun i x v hx hv => ?_
  have hi : i < ds.length := by
    have := (List.getElem?_eq_some_iff.mp hx).1
    simpa using this
  rw [List.getElem?_reverse hi] at hx
  rw [List.getElem?_reverse (by rw [← q.length]; exact hi), ← q.length] at hv
  obtain ⟨w, hw, dw⟩ := q.get hx
  rw [hv] at hw
  cases hw
  exact dw
section
variable {S : Cs} {T : Tb} {X : Cx} {W : WX}
/-- raise C(..) -/
theorem r_raise {j k n i : Nat} {x : Str} {e : Expr} {es : List Expr} {tr : DTA} {p pos pos2 : Pos} (hK : X.K = S.K) (hcalm : X.calm = true) (en : XrEnt X.prog X.w X.mg X.base S T j k x n) (hr : Room i X.A) (hj : j + 1 ≤ i) (tk : Takes X W) (hg : Gl X x) (hd : (x == ("__debug__" : Str)) = false) (hs : (e :: es).all notStar = true) (hn : (e :: es).length = n) (hn2 : n ≤ 100)
    (ha : PA X (e :: es) (lA S T W (e :: es).length tr)) : PS X (.Raise (some (.Call (.Name x p) (e :: es) [] pos)) none pos2) (lS S T W fun DD ρ M => tr ρ M (fun ds M1 => DD.ex k ds.reverse ρ M1) (DD.at_ ρ)) := by
  obtain ⟨fI, fd, ps, names, O, fi, ti, F, b, mx, xf, ln, xc, hno⟩ := en.ex
  have O' := O
  have hno' := hno
  rw [← hK] at O fi ti F b
  have h1 : notStar e = true := by simp only [List.all_cons, Bool.and_eq_true] at hs; exact hs.1
  have h2 : es.all notStar = true := by simp only [List.all_cons, Bool.and_eq_true] at hs; exact hs.2
  have m := pmk_oex (ds := []) (dvs := []) (pos := pos) (p := p) O fi ti F (hr.mono hj) b .nil (fun _ _ _ _ _ _ _ z => by
    obtain ⟨_, _, _, _, _, _, _, _, _, _, _, _, z⟩ := z
    exact z.elim) hg mx ha hd (star_cons h1) (star_any h2)
  refine PS.imp (ps_raise hcalm tk m) fun D σ H h => ?_
  obtain ⟨c, ρ, M, DD, ok, s, t, ee⟩ := h
  refine ⟨c, ρ, M, _, DD.at_ ρ, ok, s, ee.xok s, t, fun ds M1 vs H1 hl hk k1 m1 d1 => ?_⟩
  have lv := d1.length
  refine ⟨by omega, fun a ha1 => ?_⟩
  rw [List.append_nil]
  refine ⟨a, S.cA k, vs, rfl, by omega, by rw [hK]; exact O', by rw [hK]; exact hno', upd_same, fun dx H2 hdx nda h2a h2d h2r => ⟨rfl, dx, _, h2a, h2d, ?_, ?_⟩⟩
  · rw [upd_ne nda] at hdx; exact hdx
  · rw [upd_ne nda] at hdx
    have eH : upd (del H2 a) dx (.xd (names.zip vs).reverse) = upd H1 dx (.xd (names.zip vs).reverse) := by
      funext z
      by_cases e1 : z = dx
      · subst e1; rw [upd_same, upd_same]
      · rw [upd_ne e1, upd_ne e1]
        by_cases e2 : z = a
        · subst e2; rw [del_same, ha1]
        · rw [del_ne e2, h2r z e2 e1, upd_ne e2]
    rw [eH]
    have kn := Keep.new (o := .xd (names.zip vs).reverse) m1 hdx
    have mn := MR.new (o := .xd (names.zip vs).reverse) m1 hdx
    have := ee.ex k ds.reverse ρ σ M1 _ dx hk (s.keep (k1.trans kn) mn) (k1.trans kn) ⟨xc, vs.reverse, by rw [upd_same, xf, zip_rev (by omega)], den_rev (d1.keep kn)⟩
    rw [ok.2] at this
    exact this

/-! ### suites -/
def conV : D → V
  | .bl b => .bl b
  | .int i => .int i
  | .str x => .str x
  | _ => .non
def tPart (K : PySem.W.Frag) (i : Option Nat) (p : Part) (a : Addr) (cls : Value) (d : Option Addr) : TE := match p with
  | .con x => tC (conV x)
  | .var j => tVar j
  | .fld f => fun σ H Q => ∃ (C : Addr) (j : Nat), i = some j ∧ XfC K C ∧ PySem.W.findIn K (.ref C) f = some none ∧ tXf a cls d C f (tVar j) σ H Q
def tParts (K : PySem.W.Frag) (i : Option Nat) (a : Addr) (cls : Value) (d : Option Addr) : List Part → TA
  | [] => tNil
  | p :: ps => tCons (tPart K i p a cls d) (tParts K i a cls d ps)
def suT (K : PySem.W.Frag) (i : Option Nat) (su : Su) : SuT := fun a cls d => match su with
  | .ret p => tRet (tPart K i p a cls d)
  | .retT ps => tRet (tTup (tParts K i a cls d ps))
theorem conB_v {x : D} {c : Const} (h : conB x c = true) : (x = .non ∨ (∃ b, x = .bl b) ∨ (∃ i, x = .int i) ∨ ∃ s, x = .str s) := by
  cases x <;> cases c <;> simp only [conB] at h <;> first | (exact absurd h Bool.false_ne_true) | exact .inl rfl | exact .inr (.inl ⟨_, rfl⟩) | exact .inr (.inr (.inl ⟨_, rfl⟩)) | exact .inr (.inr (.inr ⟨_, rfl⟩))
theorem noB' {a b : Bool} (h : (a && b) = true) : a = true ∧ b = true := by simpa using h
theorem pe_part {K : Ck} {sc : Scope} {i : Option Nat} {p : Part} {e : Expr} {a : Addr} {oe : Obj} {cls : Value} {d : Option Addr} {pn : List (Addr × Obj)} (hN : X.N = K.N) (hs : X.env.scope = sc) (hz : Zc cls d oe) (hf : ∃ vs, oe.data = .fields vs) (h : chkPart K sc i p e = true) :
    PE (X.suite a ((a, oe) :: pn)) e (tPart X.K i p a cls d) := by
  have vr : ∀ {j : Nat} {x : Str} {pos : Pos}, (K.N[j]? == some x && visB sc x && dbg x && !(x == ("__classdict__" : Str))) = true → PE (X.suite a ((a, oe) :: pn)) (.Name x pos) (tVar j) := fun {j x pos} h => by
    obtain ⟨h, h4⟩ := noB' h
    obtain ⟨h, h3⟩ := noB' h
    obtain ⟨h1, h2⟩ := noB' h
    exact pe_var (by show X.N[j]? = _; rw [hN]; exact beq_iff_eq.mp h1) (by show Vis X.env.scope x; rw [hs]; exact vis_of h2) (dbg_of h3) (by simpa using h4)
  cases p with
  | con x =>
    simp only [chkPart] at h
    split at h
    · rename_i c k pos
      cases x <;> cases c <;> simp only [conB] at h <;> try (exact absurd h Bool.false_ne_true)
      · exact pe_non
      · rw [beq_iff_eq] at h; subst h; exact pe_bl
      · rw [beq_iff_eq] at h; subst h; exact pe_int
      · rw [beq_iff_eq] at h; subst h; exact pe_str
    · exact absurd h Bool.false_ne_true
  | var j =>
    simp only [chkPart] at h
    split at h
    · exact vr (noB' h).1
    · exact absurd h Bool.false_ne_true
  | fld f =>
    simp only [chkPart] at h
    split at h
    · rename_i x p1 f' p2
      obtain ⟨h1, h2⟩ := noB' h
      have ef : f = f' := beq_iff_eq.mp h1
      subst ef
      split at h2
      · rename_i j
        refine ⟨fun pins s σ H Q I hq => ?_⟩
        obtain ⟨C, j', e1, xc, hno, hq⟩ := hq
        cases e1
        exact (pe_xf xc hno hz hf (vr h2) rfl).run pins s σ H Q I hq
      · exact absurd h2 Bool.false_ne_true
    · exact absurd h Bool.false_ne_true
theorem pe_parts {K : Ck} {sc : Scope} {i : Option Nat} {a : Addr} {oe : Obj} {cls : Value} {d : Option Addr} {pn : List (Addr × Obj)} (hN : X.N = K.N) (hs : X.env.scope = sc) (hz : Zc cls d oe) (hf : ∃ vs, oe.data = .fields vs) : ∀ {ps : List Part} {es : List Expr}, chkParts K sc i ps es = true →
    PA (X.suite a ((a, oe) :: pn)) es (tParts X.K i a cls d ps) ∧ ps.length = es.length
  | [], [], _ => ⟨pa_nil, rfl⟩
  | p :: ps, e :: es, h => by
    simp only [chkParts] at h
    obtain ⟨h, h3⟩ := noB' h
    obtain ⟨h1, h2⟩ := noB' h
    obtain ⟨a1, a2⟩ := pe_parts hN hs hz hf h3
    exact ⟨pa_cons (pe_part hN hs hz hf h2) a1 (star_cons h1), by simp [a2]⟩
  | [], _ :: _, h => by simp [chkParts] at h
  | _ :: _, [], h => by simp [chkParts] at h
theorem ps_su {K : Ck} {sc : Scope} {i : Option Nat} {su : Su} {sts : List Stmt} {a : Addr} {oe : Obj} {cls : Value} {d : Option Addr} {pn : List (Addr × Obj)} (hN : X.N = K.N) (hs : X.env.scope = sc) (hz : Zc cls d oe) (hf : ∃ vs, oe.data = .fields vs) (h : chkSu K sc i su sts = true) :
    PSs (X.suite a ((a, oe) :: pn)) sts (suT X.K i su a cls d) := by
  cases su with
  | ret p =>
    simp only [chkSu] at h
    split at h
    · exact pss_one (ps_ret (pe_part hN hs hz hf h))
    · exact absurd h Bool.false_ne_true
  | retT ps =>
    simp only [chkSu] at h
    split at h
    · exact pss_one (ps_ret (pe_tup (pe_parts hN hs hz hf (noB' h).1).1))
    · exact absurd h Bool.false_ne_true
end

section
variable {S : Cs} {T : Tb} {W : WX} {K : Ck} {sc : Scope} {c : Cn} {ρ : Sd} {σ σ2 : L2.St} {M : Mem} {H : Hp} {k : Nat} {f : List D} {d a : Addr} {i : Option Nat}
theorem part_run {p : Part} {e : Expr} {Kd : D → Prop} {Q : VK} (h : chkPart K sc i p e = true) (ok : S.ok c) (s : SR c ρ σ M H) (hσ : ∀ j, i ≠ some j → σ2[j]? = σ[j]?) (hi : ∀ j, i = some j → σ2[j]? = some (some (.ref a))) (xd : XD T c M H d k f)
    (xc : XfC S.K (S.cA k)) (xn : ∀ n ∈ T.xf k, PySem.W.findIn S.K (.ref (S.cA k)) n = some none) (hp : partS T k f p ρ Kd) (hq : ∀ x v, Kd x → Den c M H x v → Q v H) : tPart S.K i p a (.ref (c.cA k)) (some d) σ2 H Q := by
  cases p with
  | con x =>
    simp only [chkPart] at h
    split at h
    · refine hq x _ hp ?_
      rcases conB_v h with rfl | ⟨b, rfl⟩ | ⟨n, rfl⟩ | ⟨z, rfl⟩ <;> simp only [Den, conV]
    · exact absurd h Bool.false_ne_true
  | var j =>
    simp only [chkPart] at h
    split at h
    · have hne : i ≠ some j := by
        have := (noB' h).2
        intro z
        subst z
        simp at this
      dsimp only [partS] at hp
      split at hp
      · rename_i x e1
        obtain ⟨v, hv, dv⟩ := s.get j x e1
        exact ⟨v, by rw [hσ j hne]; exact hv, hq x v hp dv⟩
      · exact hp.elim
    · exact absurd h Bool.false_ne_true
  | fld n =>
    simp only [chkPart] at h
    split at h
    · have h2 := (noB' h).2
      split at h2
      · rename_i j
        obtain ⟨x, e1, hp⟩ := opt_of (show optS _ Kd from hp)
        obtain ⟨_, vs, hd, dl⟩ := xd
        obtain ⟨v, hv, dv⟩ := lookup_zipD dl e1
        exact ⟨S.cA k, j, rfl, xc, xn n (lookup_mem e1), .ref a, hi j rfl, rfl, by rw [ok.2], d, _, v, rfl, hd, hv, hq x v hp dv⟩
      · exact absurd h2 Bool.false_ne_true
    · exact absurd h Bool.false_ne_true
theorem parts_run (ok : S.ok c) (s : SR c ρ σ M H) (hσ : ∀ j, i ≠ some j → σ2[j]? = σ[j]?) (hi : ∀ j, i = some j → σ2[j]? = some (some (.ref a))) (xd : XD T c M H d k f)
    (xc : XfC S.K (S.cA k)) (xn : ∀ n ∈ T.xf k, PySem.W.findIn S.K (.ref (S.cA k)) n = some none) : ∀ {ps : List Part} {es : List Expr} {Kd : List D → Prop} {Q : List V → Hp → Prop}, chkParts K sc i ps es = true → partsS T k f ps ρ Kd →
      (∀ xs vs, xs.length = ps.length → Kd xs → DenL c M H xs vs → Q vs H) → tParts S.K i a (.ref (c.cA k)) (some d) ps σ2 H Q
  | [], [], _, _, _, hp, hq => hq [] [] rfl hp DenL.nil
  | p :: ps, e :: es, Kd, Q, h, hp, hq => by
    simp only [chkParts] at h
    obtain ⟨h, h3⟩ := noB' h
    obtain ⟨h1, h2⟩ := noB' h
    refine part_run h2 ok s hσ hi xd xc xn hp fun x v hx dv => ?_
    exact parts_run ok s hσ hi xd xc xn h3 hx fun xs vs hl hk dl => hq (x :: xs) (v :: vs) (by simp [hl]) hk (DenL.cons dv dl)
  | [], _ :: _, _, _, h, _, _ => by simp [chkParts] at h
  | _ :: _, [], _, _, h, _, _ => by simp [chkParts] at h
theorem su_run {su : Su} {sts : List Stmt} {DD : DEnds} {D : Ends} (h : chkSu K sc i su sts = true) (ok : S.ok c) (s : SR c ρ σ M H) (hσ : ∀ j, i ≠ some j → σ2[j]? = σ[j]?) (hi : ∀ j, i = some j → σ2[j]? = some (some (.ref a))) (xd : XD T c M H d k f)
    (xc : XfC S.K (S.cA k)) (xn : ∀ n ∈ T.xf k, PySem.W.findIn S.K (.ref (S.cA k)) n = some none) (hp : suS T k f su DD ρ M) (hq : ∀ r M' v H', DD.rt r M' → RV c M H M' H' r v → D.rt v H') : suT S.K i su a (.ref (c.cA k)) (some d) D σ2 H := by
  cases su with
  | ret p =>
    simp only [chkSu] at h
    split at h
    · exact part_run h ok s hσ hi xd xc xn hp fun x v hx dv => hq _ _ _ _ hx (RV.same s.mem dv)
    · exact absurd h Bool.false_ne_true
  | retT ps =>
    simp only [chkSu] at h
    split at h
    · obtain ⟨h1, h2⟩ := noB' h
      have h2 := of_decide_eq_true h2
      have hs : sizeLine = 16777216 := sizeLine_eq
      refine parts_run ok s hσ hi xd xc xn h1 hp fun xs vs hl hk dl => ?_
      have hlen : ∀ {ps : List Part} {es : List Expr}, chkParts K sc i ps es = true → ps.length = es.length := fun {ps} => by
        induction ps with
        | nil => intro es h; cases es with | nil => rfl | cons _ _ => simp [chkParts] at h
        | cons p ps ih => intro es h; cases es with | nil => simp [chkParts] at h | cons e es => simp only [chkParts] at h; simp [ih (noB' h).2]
      have := hlen h1
      have lv := dl.length
      exact ⟨by omega, fun p hp' => hq _ _ _ _ hk (den_tup s.mem hp' (by omega) dl)⟩
    · exact absurd h Bool.false_ne_true
def hdL (S : Cs) (hs : List Hd) : List (Value × Option Nat × SuT) := hs.map fun h => (.ref (S.cA h.c), h.i, suT S.K h.i h.su)
theorem hd_run {DD : DEnds} {D : Ends} {W : WX} (ok : S.ok c) (s : SR c ρ σ M H) (xd : XD T c M H d k f) (xc : XfC S.K (S.cA k)) (xn : ∀ n ∈ T.xf k, PySem.W.findIn S.K (.ref (S.cA k)) n = some none)
    (xm : ∀ k c, T.xc k = true → T.xc c = true → PySem.W.exmOne S.K (.ref (S.cA k)) (.ref (S.cA c)) = some (T.sub k c)) (hx : DD.ex k f ρ M → W (.ref (c.cA k)) (some d) σ H) (hq : ∀ r M' v H', DD.rt r M' → RV c M H M' H' r v → D.rt v H') :
    ∀ {hds : List Hd} {hs : List ExceptHandler}, chkHd K sc hds hs = true → hdS T k f hds DD ρ M → wA S.K W D (hdL S hds) (.ref (c.cA k)) (some d) σ H
  | [], [], _, hp => hx hp
  | h :: hds, .ExceptHandler (some (.Name x p1)) n (st0 :: sts) p2 :: hs, hc, hp => by
    simp only [chkHd] at hc
    obtain ⟨hc, c6⟩ := noB' hc
    obtain ⟨hc, c5⟩ := noB' hc
    obtain ⟨hp1, hp⟩ := hp
    obtain ⟨hp1, hp2⟩ := noB' hp1
    refine ⟨T.sub k h.c, by rw [ok.2]; exact xm k h.c xd.1 hp1, fun hb a ha => ?_, fun hb => ?_⟩
    · rw [hb, if_pos rfl] at hp
      show inSu h.i (suT S.K h.i h.su) a _ _ D σ H
      generalize h.i = o at hp2 c5
      cases o with
      | none => exact su_run c5 ok s (fun _ _ => rfl) (fun j z => by cases z) xd xc xn hp hq
      | some j =>
        have hj : j < ρ.length := by simpa using hp2
        rw [s.len] at hj
        refine su_run c5 ok s (fun j' hne => ?_) (fun j' e => ?_) xd xc xn hp hq
        · rw [List.getElem?_set_ne (fun z => hne (by rw [z]))]
        · cases e; exact List.getElem?_set_self hj
    · rw [hb, if_neg Bool.false_ne_true] at hp
      exact hd_run ok s xd xc xn xm hx hq c6 hp
  | [], _ :: _, h, _ => by simp [chkHd] at h
  | _ :: _, [], h, _ => by simp [chkHd] at h
end
end PL
/-! ### the short text tells a def's text -/
namespace PL
open PySem PySem.Spec PyProof.Rows L2
theorem par_eq {x y : Str} {px py pt pt2 : Pos} {kt k2 : Nat} {a b : Expr} {env : Env} (hx : env.scope.names.lookup x = some .local) (hy : env.scope.names.lookup y = some .local) (h : parB env.scope x y px py a b = true) :
    swappedStores [.Tuple [.Name x px, .Name y py] kt pt] (.Tuple [a, b] k2 pt2) env = pure (some [x, y]) := by
  unfold parB at h
  obtain ⟨h, h7⟩ := noB h
  obtain ⟨h, h6⟩ := noB h
  obtain ⟨h, h5⟩ := noB h
  obtain ⟨h, h4⟩ := noB h
  obtain ⟨h, h3⟩ := noB h
  obtain ⟨h1, h2⟩ := noB h
  have kx : env.kindOf x = some .local := hx
  have ky : env.kindOf y = some .local := hy
  have hbk : (env.blockKind != .function) = false := by
    have : (env.blockKind == .function) = true := h3
    rw [bne, this]; rfl
  have st : ([a, b].any fun | .Starred .. => true | _ => false) = false := by
    simp only [List.any_cons, List.any_nil, Bool.or_false, Bool.or_eq_false_iff]
    constructor
    · cases a <;> first | rfl | exact absurd h1 Bool.false_ne_true
    · cases b <;> first | rfl | exact absurd h2 Bool.false_ne_true
  have xy : (x == y) = false := by simpa using h4
  have yx : (y == x) = false := by
    rw [beq_eq_false_iff_ne] at xy ⊢
    exact fun e => xy e.symm
  have nt : ∀ {z : Bool}, (!z) = true → z = false := fun {z} h => by cases z <;> first | rfl | cases h
  have f1 : [a, b].all (foldedForSure 8) = false := nt h6
  have f2 : [a, b].all (constantsAlone 8) = false := nt h7
  have h5' : py.line = px.line := by simpa using h5
  unfold swappedStores
  simp only [hbk, st, f1, f2, List.length_cons, List.length_nil]
  rw [if_neg (by decide)]
  rw [if_neg (by rw [Bool.not_eq_true]; exact st)]
  simp [List.filterMap_cons, kx, ky, Expr.pos, h5', yx, List.eraseDups_cons]
theorem par_eq3 {x y z : Str} {px py pz pt pt2 : Pos} {kt k2 : Nat} {a b c : Expr} {env : Env} (hx : env.scope.names.lookup x = some .local) (hy : env.scope.names.lookup y = some .local) (hz : env.scope.names.lookup z = some .local) (h : parB3 env.scope x y z px py pz a b c = true) :
    swappedStores [.Tuple [.Name x px, .Name y py, .Name z pz] kt pt] (.Tuple [a, b, c] k2 pt2) env = pure (some [x, y, z]) := by
  unfold parB3 at h
  obtain ⟨h, h11⟩ := noB h
  obtain ⟨h, h10⟩ := noB h
  obtain ⟨h, h9⟩ := noB h
  obtain ⟨h, h8⟩ := noB h
  obtain ⟨h, h7⟩ := noB h
  obtain ⟨h, h6⟩ := noB h
  obtain ⟨h, h5⟩ := noB h
  obtain ⟨h, h4⟩ := noB h
  obtain ⟨h, h3⟩ := noB h
  obtain ⟨h1, h2⟩ := noB h
  have kx : env.kindOf x = some .local := hx
  have ky : env.kindOf y = some .local := hy
  have kz : env.kindOf z = some .local := hz
  have hbk : (env.blockKind != .function) = false := by
    have : (env.blockKind == .function) = true := h4
    rw [bne, this]; rfl
  have st : ([a, b, c].any fun | .Starred .. => true | _ => false) = false := by
    simp only [List.any_cons, List.any_nil, Bool.or_false, Bool.or_eq_false_iff]
    refine ⟨?_, ?_, ?_⟩
    · cases a <;> first | rfl | exact absurd h1 Bool.false_ne_true
    · cases b <;> first | rfl | exact absurd h2 Bool.false_ne_true
    · cases c <;> first | rfl | exact absurd h3 Bool.false_ne_true
  have sym : ∀ {u v : Str}, (!(u == v)) = true → (v == u) = false := fun {u v} h => by
    have : (u == v) = false := by simpa using h
    rw [beq_eq_false_iff_ne] at this ⊢
    exact fun e => this e.symm
  have yx := sym h5
  have zx := sym h6
  have zy := sym h7
  have nt : ∀ {z : Bool}, (!z) = true → z = false := fun {z} h => by cases z <;> first | rfl | cases h
  have f1 : [a, b, c].all (foldedForSure 8) = false := nt h10
  have f2 : [a, b, c].all (constantsAlone 8) = false := nt h11
  have h8' : py.line = px.line := by simpa using h8
  have h9' : pz.line = px.line := by simpa using h9
  unfold swappedStores
  simp only [hbk, st, f1, f2, List.length_cons, List.length_nil]
  rw [if_neg (by decide)]
  rw [if_neg (by rw [Bool.not_eq_true]; exact st)]
  simp [List.filterMap_cons, kx, ky, kz, Expr.pos, h8', h9', yx, zx, zy, List.eraseDups_cons]
section
variable {S : Cs} {T : Tb} {K : Ck} {i : Nat} {X : Cx} {W : WX} {sc : Scope}
theorem aug_ok {o : Operator} (h : (decide (o = .Add) || decide (o = .Sub)) = true) : PIp X o (LV2 S fun x y M Q => augS o x y M fun r => Q r M) := by
  rw [Bool.or_eq_true, decide_eq_true_eq, decide_eq_true_eq] at h
  rcases h with rfl | rfl
  · exact iadd_ok
  · exact isub_ok
theorem tup_sw {es : List Expr} {k : Nat} {p1 : Pos} {v : Expr} {l : Nat} {env : Env} (h : tupV es v = true) : swapsWithSole [.Tuple es k p1] v l env = pure false ∧ swappedStores [.Tuple es k p1] v env = pure none := by
  cases v <;> first | exact ⟨rfl, rfl⟩ | exact absurd h Bool.false_ne_true | skip
  refine ⟨rfl, ?_⟩
  have h' : (!(es.length == 2 || es.length == 3) || _ != es.length) = true := h
  unfold swappedStores
  simp only [h', Bool.true_or]
  rfl
theorem ha_ok (C : XC S T K i X) (hs : X.env.scope = sc) : ∀ {hds : List Hd} {hl : List ExceptHandler}, chkHd K sc hds hl = true → HA X hl (hdL S hds)
  | [], [], _ => .nil
  | h :: hds, .ExceptHandler (some (.Name x p1)) n (st0 :: sts) p2 :: hl, hc => by
    simp only [chkHd] at hc
    obtain ⟨hc, c6⟩ := noB hc
    obtain ⟨hc, c5⟩ := noB hc
    obtain ⟨hc, c4⟩ := noB hc
    obtain ⟨hc, c3⟩ := noB hc
    obtain ⟨c1, c2⟩ := noB hc
    refine .cons ⟨gl_of hs c2, dbg_of c3, .inl (C.hc _ _ (beq_iff_eq.mp c1))⟩ ?_ (fun a oe cls d pn hz hf => by rw [← C.hK]; exact ps_su C.N hs hz hf c5) (ha_ok C hs c6)
    revert c4
    generalize h.i = o
    intro c4
    cases o with
    | none => cases n with
      | none => trivial
      | some n => exact absurd c4 Bool.false_ne_true
    | some j => cases n with
      | none => exact absurd c4 Bool.false_ne_true
      | some n =>
        obtain ⟨g1, g2⟩ := noB c4
        have hl := loc_of g2
        rw [← hs] at hl
        exact ⟨by rw [C.N]; exact beq_iff_eq.mp g1, hl⟩
  | [], _ :: _, h => by simp [chkHd] at h
  | _ :: _, [], h => by simp [chkHd] at h
mutual
theorem sndS : ∀ (s : PL.S) {X : Cx} {W : WX} {sc : Scope} {st : Stmt}, XC S T K i X → Takes X W → PassesOwn (model X.prog X.w) X.A X.env X.xe → X.env.scope = sc → (∀ x, X.fn x = true) → X.stack = X.env :: X.outer → X.env.frame = some X.env.locals → chkS K sc s st = true → PS X st (lS S T W (wpS T s))
  | .set j e, X, W, sc, st, C, tw, hp, hs, hfn, hst, hfm, h => by
    unfold chkS at h
    split at h
    · obtain ⟨h, h4⟩ := noB h
      obtain ⟨h, h3⟩ := noB h
      obtain ⟨h1, h2⟩ := noB h
      exact PS.imp (set_at C tw hs hfn (beq_iff_eq.mp h1) h2 h3 h4) fun D σ H h => s_set h
    · exact absurd h Bool.false_ne_true
  | .setT t e, X, W, sc, st, C, tw, hp, hs, hfn, hst, hfm, h => by
    unfold chkS at h
    split at h
    · obtain ⟨h, h3⟩ := noB h
      obtain ⟨h1, h2⟩ := noB h
      obtain ⟨s1, s2⟩ := tup_sw h1
      exact PS.imp (ps_asg (sndE e C tw hs h3) (tg_ok C hs (fun x _ => hfn x) h2) s1 s2) fun D σ H h => s_setT C.hK h
    · exact absurd h Bool.false_ne_true
  | .par is es, X, W, sc, st, C, tw, hp, hs, hfn, hst, hfm, h => by
    unfold chkS at h
    split at h
    · rename_i x px y py kt pt a b k2 pt2 pos
      obtain ⟨h, h3⟩ := noB h
      obtain ⟨h1, h2⟩ := noB h
      split at h1
      · rename_i j k hh
        obtain ⟨h1, g5⟩ := noB h1
        obtain ⟨h1, g4⟩ := noB h1
        obtain ⟨h1, g3⟩ := noB h1
        obtain ⟨g1, g2⟩ := noB h1
        have lx := loc_of g3
        have ly := loc_of g4
        rw [← hs] at lx ly h2
        have hne : j ≠ k := by
          have : (j == k) = false := by simpa using g5
          exact beq_eq_false_iff_ne.mp this
        exact PS.imp (ps_par C.calm C.nd (by rw [C.N]; exact beq_iff_eq.mp g1) (by rw [C.N]; exact beq_iff_eq.mp g2) hne lx ly (sndEs es C tw hs h3).1 (par_eq lx ly h2)) fun D σ H h => s_par h
      · exact absurd h1 Bool.false_ne_true
    · rename_i x px y py z pz kt pt a b c k2 pt2 pos
      obtain ⟨h, h3⟩ := noB h
      obtain ⟨h1, h2⟩ := noB h
      split at h1
      · rename_i j k l hh
        obtain ⟨h1, g9⟩ := noB h1
        obtain ⟨h1, g8⟩ := noB h1
        obtain ⟨h1, g7⟩ := noB h1
        obtain ⟨h1, g6⟩ := noB h1
        obtain ⟨h1, g5⟩ := noB h1
        obtain ⟨h1, g4⟩ := noB h1
        obtain ⟨h1, g3⟩ := noB h1
        obtain ⟨g1, g2⟩ := noB h1
        have lx := loc_of g4
        have ly := loc_of g5
        have lz := loc_of g6
        rw [← hs] at lx ly lz h2
        have ne : ∀ {u v : Nat}, (!(u == v)) = true → u ≠ v := fun {u v} h => by
          have : (u == v) = false := by simpa using h
          exact beq_eq_false_iff_ne.mp this
        exact PS.imp (ps_par3 C.calm C.nd (by rw [C.N]; exact beq_iff_eq.mp g1) (by rw [C.N]; exact beq_iff_eq.mp g2) (by rw [C.N]; exact beq_iff_eq.mp g3) (ne g7) (ne g8) (ne g9) lx ly lz (sndEs es C tw hs h3).1 (par_eq3 lx ly lz h2)) fun D σ H h => s_par3 h
      · exact absurd h1 Bool.false_ne_true
    · exact absurd h Bool.false_ne_true
  | .sub o j e, X, W, sc, st, C, tw, hp, hs, hfn, hst, hfm, h => by
    unfold chkS at h
    split at h
    · rename_i o' i' p1 v pos
      obtain ⟨h, h5⟩ := noB h
      obtain ⟨h, h4⟩ := noB h
      obtain ⟨h, h3⟩ := noB h
      obtain ⟨h1, h2⟩ := noB h
      have nc : isComp v = false := by simpa using h1
      refine PS.imp (ps_asg (sndE e C tw hs h3) (pg_sub (sndE o C tw hs h4) (sndE j C tw hs h5) set_list ?_) (swap_comp (t := some (.Subscript o' i' p1)) (l := pos.line) (env := X.env) nc) ?_) fun D σ H h => s_sub h
      · intro v
        cases i' <;> first | rfl | exact absurd h2 Bool.false_ne_true
      · cases v <;> rfl
    · exact absurd h Bool.false_ne_true
  | .fld o f e, X, W, sc, st, C, tw, hp, hs, hfn, hst, hfm, h => by
    unfold chkS at h
    split at h
    · obtain ⟨h, h4⟩ := noB h
      obtain ⟨h, h3⟩ := noB h
      obtain ⟨h1, h2⟩ := noB h
      have e0 := beqS h2
      subst e0
      exact PS.imp (ps_fld (sndE o C tw hs h4) (sndE e C tw hs h3) (swap_comp (by simpa using h1))) fun D σ H h => s_fld C.hK C.clok h
    · exact absurd h Bool.false_ne_true
  | .aug j o e, X, W, sc, st, C, tw, hp, hs, hfn, hst, hfm, h => by
    unfold chkS at h
    split at h
    · rename_i x p1 o' v pos
      obtain ⟨h, h5⟩ := noB h
      obtain ⟨h, h4⟩ := noB h
      obtain ⟨h, h3⟩ := noB h
      obtain ⟨h1, h2⟩ := noB h
      have e0 := of_decide_eq_true h3
      subst e0
      have lx : Loc X.env.scope x := by
        rw [hs]
        rw [Bool.or_eq_true] at h2
        rcases h2 with h2 | h2
        · exact .inl (loc_of h2)
        · unfold celB at h2
          split at h2
          · exact .inr (by assumption)
          · exact absurd h2 Bool.false_ne_true
      exact PS.imp (ps_aug C.nd (by rw [C.N]; exact beq_iff_eq.mp h1) lx (sndE e C tw hs h5) (aug_ok h4) (.inl (hfn x))) fun D σ H h => s_aug h
    · exact absurd h Bool.false_ne_true
  | .expr e, X, W, sc, st, C, tw, hp, hs, hfn, hst, hfm, h => by
    unfold chkS at h
    split at h
    · obtain ⟨h1, h2⟩ := noB h
      exact PS.imp (ps_expr (sndE e C tw hs h2) (swap_comp (by simpa using h1))) fun D σ H h => s_expr h
    · exact absurd h Bool.false_ne_true
  | .ret e, X, W, sc, st, C, tw, hp, hs, hfn, hst, hfm, h => by
    unfold chkS at h
    split at h
    · exact PS.imp (ps_ret (sndE e C tw hs h)) fun D σ H h => s_ret h
    · exact absurd h Bool.false_ne_true
  | .retN, X, W, sc, st, C, tw, hp, hs, hfn, hst, hfm, h => by
    unfold chkS at h
    split at h
    · exact PS.imp ps_retN fun D σ H h => s_retN h
    · exact absurd h Bool.false_ne_true
  | .ite t a b, X, W, sc, st, C, tw, hp, hs, hfn, hst, hfm, h => by
    unfold chkS at h
    split at h
    · obtain ⟨h, h3⟩ := noB h
      obtain ⟨h1, h2⟩ := noB h
      exact PS.imp (ps_if (sndT t C tw hs h1).1 (sndSs a C tw hp hs hfn hst hfm h2) (sndSs b C tw hp hs hfn hst hfm h3)) fun D σ H h => s_ite h
    · exact absurd h Bool.false_ne_true
  | .for_ t s b, X, W, sc, st, C, tw, hp, hs, hfn, hst, hfm, h => by
    unfold chkS at h
    split at h
    · obtain ⟨h, h4⟩ := noB h
      obtain ⟨h, h3⟩ := noB h
      obtain ⟨h1, h2⟩ := noB h
      exact PS.imp (ps_for hp C.calm (sndSrc s C tw hs h3) (tg_ok C hs (fun x _ => hfn x) h1) (sndSs b C tw hp hs hfn hst hfm h4) (set_it h2)) fun D σ H h => s_for C.hK h
    · exact absurd h Bool.false_ne_true
  | .while_ t b, X, W, sc, st, C, tw, hp, hs, hfn, hst, hfm, h => by
    unfold chkS at h
    split at h
    · obtain ⟨h1, h2⟩ := noB h
      exact PS.imp (ps_while hp (sndT t C tw hs h1).1 (sndSs b C tw hp hs hfn hst hfm h2)) fun D σ H h => s_while h
    · exact absurd h Bool.false_ne_true
  | .brk, X, W, sc, st, C, tw, hp, hs, hfn, hst, hfm, h => by
    unfold chkS at h
    split at h
    · exact PS.imp ps_break fun D σ H h => s_bk h
    · exact absurd h Bool.false_ne_true
  | .cont, X, W, sc, st, C, tw, hp, hs, hfn, hst, hfm, h => by
    unfold chkS at h
    split at h
    · exact PS.imp ps_continue fun D σ H h => s_ct h
    · exact absurd h Bool.false_ne_true
  | .pass, X, W, sc, st, C, tw, hp, hs, hfn, hst, hfm, h => by
    unfold chkS at h
    split at h
    · exact PS.imp ps_pass fun D σ H h => s_nx h
    · exact absurd h Bool.false_ne_true
  | .never, X, W, sc, st, C, tw, hp, hs, hfn, hst, hfm, h => PS.imp ps_never fun D σ H ⟨_, _, _, _, _, _, z, _⟩ => z
  | .raise_ k es, X, W, sc, st, C, tw, hp, hs, hfn, hst, hfm, h => by
    unfold chkS at h
    split at h
    · rename_i x p e' es' pos pos2
      obtain ⟨h, h5⟩ := noB h
      obtain ⟨h, h4⟩ := noB h
      obtain ⟨h, h3⟩ := noB h
      obtain ⟨h1, h2⟩ := noB h
      obtain ⟨j, hj, en⟩ := C.xr k _ _ (beq_iff_eq.mp h1)
      obtain ⟨a1, a2, _⟩ := sndEs es C tw hs h5
      exact r_raise C.hK C.calm en C.room hj tw (gl_of hs h2) (dbg_of h3) a2 rfl (of_decide_eq_true h4) a1
    · exact absurd h Bool.false_ne_true
  | .try_ b hds, X, W, sc, st, C, tw, hp, hs, hfn, hst, hfm, h => by
    unfold chkS at h
    split at h
    · rename_i b' h' hs' pos
      obtain ⟨h1, h2⟩ := noB h
      refine PS.imp (ps_tryA hst hfm C.nd tw (tb := fun W' => lS S T W' (wpSs T b)) (fun W' pn xe tk' hp' => sndSs b (C.tr pn xe) tk' hp' hs hfn hst hfm h1) (ha_ok C hs h2)) fun D σ H h => ?_
      obtain ⟨c, ρ, M, DD, ok, s, t, e⟩ := h
      refine ⟨c, ρ, M, _, ok, s, t, ⟨e.nx, e.bk, e.ct, e.rt, fun k f ρ' σ' M' H' d hx sr kk xd => ?_⟩⟩
      obtain ⟨xc, xn⟩ := C.xfc k xd.1
      rw [C.hK]
      exact hd_run ok sr xd xc xn C.xm (fun q => e.ex k f ρ' σ' M' H' d q sr kk xd) (fun r M'' v H'' q rv => e.rt r M'' v H'' q (rv.after kk)) h2 hx
    · exact absurd h Bool.false_ne_true
theorem sndSs : ∀ (ss : Ss) {X : Cx} {W : WX} {sc : Scope} {sts : List Stmt}, XC S T K i X → Takes X W → PassesOwn (model X.prog X.w) X.A X.env X.xe → X.env.scope = sc → (∀ x, X.fn x = true) → X.stack = X.env :: X.outer → X.env.frame = some X.env.locals → chkSs K sc ss sts = true → PSs X sts (lS S T W (wpSs T ss))
  | .nil, X, W, sc, sts, C, tw, hp, hs, hfn, hst, hfm, h => by
    unfold chkSs at h
    split at h
    · exact PSs.imp pss_nil fun D σ H h => s_nx h
    · exact absurd h Bool.false_ne_true
  | .cons s ss, X, W, sc, sts, C, tw, hp, hs, hfn, hst, hfm, h => by
    unfold chkSs at h
    split at h
    · obtain ⟨h1, h2⟩ := noB h
      exact PSs.imp (pss_cons (sndS s C tw hp hs hfn hst hfm h1) (sndSs ss C tw hp hs hfn hst hfm h2)) fun D σ H h => s_seq h
    · exact absurd h Bool.false_ne_true
  | .frz j ss, X, W, sc, sts, C, tw, hp, hs, hfn, hst, hfm, h => by
    unfold chkSs at h
    exact PSs.imp (sndSs ss C tw hp hs hfn hst hfm h) fun D σ H h => s_frz (j := j) h
end
end
end PL
/-! ### a def by its short text; the law -/
namespace PL
open PySem PySem.Spec PyProof.Rows L2
def startD (N : List Str) (ds : List D) : Sd := ds.map some ++ List.replicate (N.length - ds.length) none
theorem start_sr {c : Cn} {M : Mem} {H : Hp} {N : List Str} {ds : List D} {vs : List V} (m : MR c M H) (q : DenL c M H ds vs) : SR c (startD N ds) (L2.start N vs) M H := by
  have hl := q.length
  refine ⟨by unfold startD L2.start; rw [List.length_append, List.length_append, List.length_map, List.length_map, List.length_replicate, List.length_replicate, hl], fun i d e => ?_, m⟩
  unfold startD at e
  by_cases hi : i < ds.length
  · rw [List.getElem?_append_left (by simpa using hi), List.getElem?_map] at e
    cases e1 : ds[i]? with
    | none => rw [e1] at e; cases e
    | some x =>
      rw [e1] at e
      cases e
      obtain ⟨v, hv, dv⟩ := q.get e1
      refine ⟨v, ?_, dv⟩
      unfold L2.start
      rw [List.getElem?_append_left (by rw [List.length_map, ← hl]; exact hi), List.getElem?_map, hv]
      rfl
  · rw [List.getElem?_append_right (by simpa using hi), List.getElem?_replicate] at e
    split at e <;> cases e
/-- what stands around the defs -/
structure Ent (P : Program) (w : World) (mg : Str → Option Value) (base : Heap) (S : Cs) (T : Tb) (K : Ck) (i : Nat) : Prop where
  blt : ∀ x ∈ bltN, mg x = none
  gl : ∀ g x, K.gl.lookup g = some x → ∃ (u : Value) (v : V), mg x = some u ∧ RelV v u ∧ ∀ (c : Cn) (M : Mem) (H : Hp), S.ok c → Den c M H (T.gl g) v
  fn : ∀ k x F, K.fn.lookup k = some (x, F) → ∃ j, j ≤ i ∧ FnEnt P w mg base S T j x (T.fp k) F (T.fn k)
  mt : ∀ k x F, K.mt.lookup k = some (x, F) → ∃ j, j ≤ i ∧ MtEnt P w mg base S T j (T.mc k) x (T.mp k) F (T.mt k) ∧ T.nc (T.mc k) = true ∧ x ∉ T.at_ (T.mc k)
  mkr : ∀ k x F, K.mkr.lookup k = some (x, F) → ∃ j, j + 1 ≤ i ∧ MkEnt P w mg base S T j k x (T.kp k) F (T.mak k)
  cls : ∀ k x, K.cl.lookup k = some x → mg x = some (.ref (S.cA k)) ∧ T.nc k = true
  clok : ∀ k, T.nc k = true → ClsOk S.K (S.cA k) (T.at_ k)
  kit : KitOk S T.nc
  xr : ∀ k x n, K.xr.lookup k = some (x, n) → ∃ j, j + 1 ≤ i ∧ XrEnt P w mg base S T j k x n
  hc : ∀ k x, K.hc.lookup k = some x → mg x = some (.ref (S.cA k))
  xm : ∀ k c, T.xc k = true → T.xc c = true → PySem.W.exmOne S.K (.ref (S.cA k)) (.ref (S.cA c)) = some (T.sub k c)
  xfc : ∀ k, T.xc k = true → XfC S.K (S.cA k) ∧ ∀ n ∈ T.xf k, PySem.W.findIn S.K (.ref (S.cA k)) n = some none
  eqs : ∀ k, K.eq.contains k = true → ∃ (j : Nat) (F : List Form), j + 1 ≤ i ∧ MtEnt P w mg base S T j (T.mc k) "__eq__" (T.mp k) F (T.mt k) ∧ (2, []) ∈ F ∧ T.nc (T.mc k) = true ∧ PySem.W.findIn S.K (.ref (S.cA (T.mc k))) "__ne__" = some (some (.builtin "object.__ne__"))
/-- the promise by the short text -/
def SpOk (T : Tb) (N : List Str) (body : Ss) (n : Nat) (sp : DSp) : Prop := ∀ ds M Q E, ds.length = n → sp ds M Q E → wpSs T body { nx := fun _ M' => Q (.val .non) M', rt := Q, ex := fun k f _ M' => E k f M' } (startD N ds) M
theorem def_ok {P : Program} {w : World} {mg : Str → Option Value} {base : Heap} {S : Cs} {T : Tb} {K : Ck} {i : Nat} {x qual : Str} {st : Stmt} {f : Addr} {fd : FuncData} {ps : List Str} {body : Ss} {sp : DSp} (E1 : Ent P w mg base S T K i) (F : L2.Fun S.K x qual st f fd) (Sc : FnScope K.N ps (defScope st))
    (hc : chkSs K (defScope st) body (defBody st) = true) (h : SpOk T K.N body ps.length sp) : FnOk P w S.K mg base (L2.CX P w) (i + 1) f fd ps (lSp S T ps.length sp) := by
  refine F.okX Sc (fun vs H Q E q => ?_) (fun cdv A outer s H vs Q E hr q => ?_)
  · obtain ⟨c, M, ds, Q', E', ok, m, dl, hl, _⟩ := q
    rw [← dl.length, hl]
  · obtain ⟨c, M, ds, Q', E', ok, m, dl, hl, hs, hq, hx⟩ := q
    have C : XC S T K i (cxOf (L2.CX P w) P w S.K mg base K.N qual (defScope st) f cdv A outer s H E) := ⟨rfl, Sc.nd, rfl, rfl, hr, E1.blt, E1.gl, E1.fn, E1.mt, E1.mkr, E1.cls, E1.clok, E1.kit, E1.xr, E1.hc, E1.xm, E1.xfc, E1.eqs⟩
    have tk : Takes (cxOf (L2.CX P w) P w S.K mg base K.N qual (defScope st) f cdv A outer s H E) (fun cls d _ H' => E cls d H') := takes_of rfl rfl rfl rfl
    refine ⟨_, sndSs body C tk (passes_of rfl) rfl (fun _ => rfl) rfl rfl hc, ?_⟩
    refine ⟨c, startD K.N ds, M, _, ok, start_sr m dl, h ds M Q' E' hl hs, ?_⟩
    exact ⟨fun ρ' σ' M' H' z sr k => hq _ _ _ _ z ⟨k, sr.mem, by simp only [Den]⟩, fun _ _ _ _ z => z.elim, fun _ _ _ _ z => z.elim, hq, fun k f ρ' σ' M' H' d z sr kk xd => hx k f M' H' d z kk sr.mem xd⟩
/-- the law's promise -/
def lawSp : DSp := fun ds M Q _ => ∃ ns : List Int, ds = [.lst (ns.map D.int)] ∧ ns.length ≤ 63 ∧ (M = fun _ => none) ∧ ∀ M', Q (.val (.bl true)) M'
def lawSpV (K : PySem.W.Frag) : Sp := fun vs H Q _ => ∃ (a : Addr) (ns : List Int), vs = [.ref a] ∧ SqL K H a (ns.map V.int) ∧ ns.length ≤ 63 ∧ ∀ H', Q (.bl true) H'
theorem den_ints {c : Cn} {M : Mem} {H : Hp} : ∀ ns : List Int, DenL c M H (ns.map D.int) (ns.map V.int)
  | [] => DenL.nil
  | n :: ns => DenL.cons (by simp only [Den]) (den_ints ns)
theorem law_sp {S : Cs} {T : Tb} {vs : List V} {H : Hp} {Q : VK} {E : XK} (h : lawSpV S.K vs H Q E) : lSp S T 1 lawSp vs H Q E := by
  obtain ⟨a, ns, rfl, sq, hl, k⟩ := h
  have hs : sizeLine = 16777216 := sizeLine_eq
  refine ⟨⟨S.K, S.cA, fun _ => False⟩, fun _ => none, [.lst (ns.map D.int)], fun r _ => r.d = .bl true, noEX, ⟨rfl, rfl⟩, (⟨fun _ _ z => (nomatch z), fun _ (z : False) => z.elim⟩), DenL.cons ?_ DenL.nil, rfl, ⟨ns, rfl, hl, rfl, fun _ => rfl⟩, fun r M' v H' e rv => ?_, fun _ _ _ _ _ z => z.elim⟩
  · simp only [Den]
    refine ⟨a, _, rfl, ?_, by rw [List.length_map]; omega, den_ints ns⟩
    rcases sq with sq | sq
    · exact .inl ⟨fun z => z, rfl, sq⟩
    · exact .inr sq
  · obtain ⟨_, _, d⟩ := rv.plain
    rw [e] at d
    simp only [Den] at d
    subst d
    exact k H'
theorem law_ok {P : Program} {w : World} {mg : Str → Option Value} {base : Heap} {S : Cs} {T : Tb} {f : Addr} {fd : FuncData} {k : Nat} (h : FnOk P w S.K mg base (L2.CX P w) k f fd ["script"] (lSp S T 1 lawSp)) : FnOk P w S.K mg base (L2.CX P w) k f fd ["script"] (lawSpV S.K) :=
  h.imp fun _ _ _ _ q => law_sp q
theorem walk {l : PySem.W.OpenLaw} {q : Program} {loose : List Str} {XP : (Str → Option Value) → Heap → Prop} {YP : World → Heap → Prop} {d : DefRec} {K : Params → PySem.W.Frag} {k : Nat} (hn : l.most = some 63) (hdf : d.params.defaults = []) (hr : Room k callerA)
    (hY : ∀ (w : World) (h : Heap), YP w h → (K w.params).In h)
    (F : ∀ (w : World) (mg : Str → Option Value) (fa : Addr) (h : Heap), (K w.params).In h → h.Ns mainGlobals mg → mg d.name = some (.ref fa) →
      ∃ fd : FuncData, (∀ (s : Shared) (u : Value), BindsTo s fd ⟨[u], []⟩ [("script", u)]) ∧ ∀ base : Heap, (K w.params).In base → base.Ns mainGlobals mg → FnOk l.prog w (K w.params) mg base (L2.CX l.prog w) k fa fd ["script"] (lawSpV (K w.params))) :
    PySem.W.WalkO q loose XP YP l.row.toRowW d [] (fun f vs => PySem.call f vs) :=
  L2.walk_of (n := 63) (k := k) (x := "script") (CX := fun w => L2.CX l.prog w) (sp := fun w => lawSpV (K w.params)) hn (by decide) hdf hr hY F (fun _ _ a ns hl _ hS => ⟨a, ns, rfl, hS, hl, fun _ => rfl⟩) fun w H s e s' z => by
    obtain ⟨_, _, _, _, _, _, _, _, _, _, _, _, z⟩ := z
    exact z
end PL
/-! ### tables, put together -/
namespace PL
open PySem PySem.Spec PyProof.Rows L2
inductive AllE (P : Nat → Str → List Form → Prop) : List (Nat × Str × List Form) → Prop where
  | nil : AllE P []
  | cons {k : Nat} {x : Str} {F : List Form} {l : List (Nat × Str × List Form)} (h : P k x F) (t : AllE P l) : AllE P ((k, x, F) :: l)
theorem AllE.get {P : Nat → Str → List Form → Prop} : ∀ {l : List (Nat × Str × List Form)}, AllE P l → ∀ k x F, l.lookup k = some (x, F) → P k x F
  | [], _, k, x, F, e => by simp at e
  | (k', x', F') :: l, .cons h t, k, x, F, e => by
    rw [List.lookup_cons] at e
    cases hb : k == k' with
    | true => rw [hb] at e; cases e; rw [beq_iff_eq.mp hb]; exact h
    | false => rw [hb] at e; exact AllE.get t k x F e
inductive AllG (P : Nat → Str → Prop) : List (Nat × Str) → Prop where
  | nil : AllG P []
  | cons {k : Nat} {x : Str} {l : List (Nat × Str)} (h : P k x) (t : AllG P l) : AllG P ((k, x) :: l)
theorem AllG.get {P : Nat → Str → Prop} : ∀ {l : List (Nat × Str)}, AllG P l → ∀ k x, l.lookup k = some x → P k x
  | [], _, k, x, e => by simp at e
  | (k', x') :: l, .cons h t, k, x, e => by
    rw [List.lookup_cons] at e
    cases hb : k == k' with
    | true => rw [hb] at e; cases e; rw [beq_iff_eq.mp hb]; exact h
    | false => rw [hb] at e; exact AllG.get t k x e
inductive AllF (P : Form → Prop) : List Form → Prop where
  | nil : AllF P []
  | cons {g : Form} {l : List Form} (h : P g) (t : AllF P l) : AllF P (g :: l)
theorem AllF.all {P : Form → Prop} : ∀ {l : List Form}, AllF P l → ∀ g ∈ l, P g
  | [], _, g, h => by simp at h
  | g' :: l, .cons h t, g, hm => by
    rcases List.mem_cons.mp hm with rfl | hm
    · exact h
    · exact AllF.all t g hm
/-- one def's promise, another one -/
def Tb.at1 (T : Tb) (k : Nat) (sp : DSp) : Tb := { T with fn := fun j => if j = k then sp else T.fn j }
theorem fn_false {P : Program} {w : World} {K : PySem.W.Frag} {mg : Str → Option Value} {base : Heap} {CX : CXT} {k n : Nat} {f : Addr} {fd : FuncData} {ps : List Str} {S : Cs} {T : Tb} {sp : DSp} (h : ∀ ds M Q E, sp ds M Q E → False) : FnOk P w K mg base CX k f fd ps (lSp S T n sp) :=
  ⟨fun _ _ _ _ ⟨_, _, _, _, _, _, _, _, _, z, _⟩ => (h _ _ _ _ z).elim, fun _ _ _ _ _ _ _ _ _ _ _ _ _ ⟨_, _, _, _, _, _, _, _, _, z, _⟩ => (h _ _ _ _ z).elim⟩
theorem den_w {c : Cn} {M : Mem} {H : Hp} {q : Addr} {od : Option Addr} {its : Array Value} {n : Nat} {sl : Array (Option Value)} {vs : List V} {xs : List D} (h : c.K.lookup q = some ⟨.type "tuple", od, .seq its n, sl⟩) (hz : its.size ≤ 1000) (r : Vals vs its.toList) (d : DenL c M H xs vs) : Den c M H (.tup xs) (.ref q) := by
  have hs : sizeLine = 16777216 := sizeLine_eq
  have l1 := d.length
  have l2 := r.length
  have l3 : its.toList.length = its.size := Array.length_toList
  simp only [Den]
  exact ⟨q, vs, rfl, .inr ⟨_, its, n, h, rfl, rfl, by omega, r⟩, by omega, d⟩

theorem kit_ct {K : PySem.W.Frag} {C : Addr} {T : String} {b : Bool} (h : PySem.W.mroIn K C (.type T) = some b) (hm : PySem.W.kitMeta T = true) : PySem.W.kitOne K (.ref C) (.type T) = some b := by
  unfold PySem.W.kitOne PySem.W.kitCls
  have e : (Value.ref C == Value.type T) = false := rfl
  rw [e, if_neg Bool.false_ne_true]
  show (if PySem.W.kitMeta T = true then PySem.W.subIn K (.ref C) (.type T) else none) = _
  rw [if_pos hm]
  exact h
def allTy (T : String) : Bool := match fastBuiltinMro T with
  | some l => l.all fun v => match v with | .type _ => true | _ => false
  | none => false
theorem kit_tc {K : PySem.W.Frag} {C : Addr} {T : String} (i : PySem.W.isClsIn K C = true) (ty : PySem.W.typeIn K (.ref C) = some (.type "type")) (h : allTy T = true) : PySem.W.kitOne K (.type T) (.ref C) = some false := by
  unfold PySem.W.kitOne PySem.W.kitCls
  have e : (Value.type T == Value.ref C) = false := rfl
  rw [e, if_neg Bool.false_ne_true]
  have i' : (PySem.W.clsIn K C).isSome = true := i
  show (if ((PySem.W.clsIn K C).isSome && PySem.W.typeIn K (.ref C) == some (.type "type")) = true then PySem.W.subIn K (.type T) (.ref C) else none) = _
  rw [i', ty, if_pos (by rfl)]
  show (fastBuiltinMro T).map (·.contains (Value.ref C)) = _
  unfold allTy at h
  cases e1 : fastBuiltinMro T with
  | none => rw [e1] at h; cases h
  | some l =>
    rw [e1] at h
    show some (l.contains (Value.ref C)) = _
    congr 1
    rw [Bool.eq_false_iff]
    intro hc
    have hm : Value.ref C ∈ l := by simpa using hc
    have := List.all_eq_true.mp h _ hm
    cases this
theorem kit_cc {K : PySem.W.Frag} {C C' : Addr} (i : PySem.W.isClsIn K C' = true) (ty : PySem.W.typeIn K (.ref C') = some (.type "type")) (m : PySem.W.mroIn K C (.ref C') = some false) (ms : PySem.W.mroIn K C (.ref C) = some true) : PySem.W.kitOne K (.ref C) (.ref C') = some false := by
  have ne : C ≠ C' := fun e => by subst e; rw [m] at ms; cases ms
  unfold PySem.W.kitOne PySem.W.kitCls
  have e : (Value.ref C == Value.ref C') = false := by
    rw [beq_eq_false_iff_ne]
    exact fun z => ne (by cases z; rfl)
  rw [e, if_neg Bool.false_ne_true]
  have i' : (PySem.W.clsIn K C').isSome = true := i
  show (if ((PySem.W.clsIn K C').isSome && PySem.W.typeIn K (.ref C') == some (.type "type")) = true then PySem.W.subIn K (.ref C) (.ref C') else none) = _
  rw [i', ty, if_pos (by rfl)]
  exact m
theorem kit_cs {K : PySem.W.Frag} {C : Addr} : PySem.W.kitOne K (.ref C) (.ref C) = some true := by
  unfold PySem.W.kitOne
  rw [beq_self_eq_true, if_pos rfl]

inductive AllX (P : Nat → Str → Nat → Prop) : List (Nat × Str × Nat) → Prop where
  | nil : AllX P []
  | cons {k : Nat} {x : Str} {n : Nat} {l : List (Nat × Str × Nat)} (h : P k x n) (t : AllX P l) : AllX P ((k, x, n) :: l)
theorem AllX.get {P : Nat → Str → Nat → Prop} : ∀ {l : List (Nat × Str × Nat)}, AllX P l → ∀ k x n, l.lookup k = some (x, n) → P k x n
  | [], _, k, x, n, e => by simp at e
  | (k', x', n') :: l, .cons h t, k, x, n, e => by
    rw [List.lookup_cons] at e
    cases hb : k == k' with
    | true => rw [hb] at e; cases e; rw [beq_iff_eq.mp hb]; exact h
    | false => rw [hb] at e; exact AllX.get t k x n e
end PL
/-! ### plain lemmas -/
namespace PL
open PySem PySem.Spec PyProof.Rows L2
theorem kw_nil {α : Type} {ps : List Str} {ds vs : List α} : kwArgs ps ds [] vs = ds := by
  unfold kwArgs
  simp
theorem Rd_val {d : D} : R.d (.val d) = d := rfl
theorem Rd_new {o : Ob} : R.d (.new o) = o.frz := rfl
theorem frz_lst {xs : List D} : Ob.frz (.lst xs) = .lst xs := rfl
theorem frz_ins {c : Nat} {ns : List Str} {xs : List D} : Ob.frz (.ins c ns xs) = .ins c ns xs := rfl
/-! ### what the operations are on known data -/
section
variable {M : Mem} {Q : R → Prop} {B : Bool → Prop} {i j : Int} {a b : Str} {xs ys : List D} {n : Nat} {d e : D}
theorem o_add : opS .Add (.int i) (.int j) M Q = Q (.val (.int (i + j))) := rfl
theorem o_adds : opS .Add (.str a) (.str b) M Q = (a.length + b.length ≤ sizeLine ∧ Q (.val (.str (a ++ b)))) := rfl
theorem o_addt : opS .Add (.tup xs) (.tup ys) M Q = (xs.length + ys.length ≤ sizeLine ∧ Q (.val (.tup (xs ++ ys)))) := rfl
theorem o_addl : opS .Add (.lst xs) (.lst ys) M Q = (xs.length + ys.length ≤ sizeLine ∧ Q (.new (.lst (xs ++ ys)))) := rfl
theorem o_sub : opS .Sub (.int i) (.int j) M Q = Q (.val (.int (i - j))) := rfl
theorem o_mul : opS .Mult (.int i) (.int j) M Q = (i.natAbs.log2 + j.natAbs.log2 < 1000000 ∧ Q (.val (.int (i * j)))) := rfl
theorem o_mult : opS .Mult (.tup xs) (.int i) M Q = ((xs ≠ [] ∧ 1 ≤ i ∧ i ≤ 1000 ∧ xs.length ≤ 1000) ∧ Q (.val (.tup (List.replicate i.toNat xs).flatten))) := rfl
theorem o_mull : opS .Mult (.lst xs) (.int i) M Q = ((0 ≤ i ∧ i ≤ 1000 ∧ xs.length ≤ 1000) ∧ Q (.new (.lst (List.replicate i.toNat xs).flatten))) := rfl
theorem o_muls : opS .Mult (.str a) (.int i) M Q = ((1 ≤ i ∧ i ≤ 1000 ∧ 1 ≤ a.length ∧ a.length ≤ 1000) ∧ Q (.val (.str ⟨(List.replicate i.toNat a.cps).foldl (· ++ ·) #[]⟩))) := rfl
theorem o_div : opS .FloorDiv (.int i) (.int j) M Q = ((0 < j ∧ j.natAbs.log2 < 9000) ∧ Q (.val (.int (i / j)))) := rfl
theorem o_mod : opS .Mod (.int i) (.int j) M Q = (0 < j ∧ Q (.val (.int (i % j)))) := rfl
theorem o_pow : opS .Pow (.int i) (.int j) M Q = ((0 ≤ j ∧ j ≤ 1000000 ∧ i.natAbs < 2 ^ 64) ∧ Q (.val (.int (i ^ j.toNat)))) := rfl
theorem c_lt : cmpS .Lt (.int i) (.int j) M B = B (decide (i < j)) := rfl
theorem c_le : cmpS .LtE (.int i) (.int j) M B = B (decide (i ≤ j)) := rfl
theorem c_gt : cmpS .Gt (.int i) (.int j) M B = B (decide (j < i)) := rfl
theorem c_ge : cmpS .GtE (.int i) (.int j) M B = B (decide (j ≤ i)) := rfl
theorem c_eq : cmpS .Eq d e M B = eqS d e M B := rfl
theorem c_ne : cmpS .NotEq d e M B = eqS d e M fun k => B (!k) := rfl
theorem c_in : cmpS .In d e M B = inS d e M B := rfl
theorem c_ni : cmpS .NotIn d e M B = inS d e M fun k => B (!k) := rfl
theorem c_is : cmpS .Is d .non M B = B (isNon d) := rfl
theorem c_isn : cmpS .IsNot d .non M B = B (!isNon d) := rfl
theorem sh_int : SeqAt.shaped (.int i) = true := rfl
theorem sh_bool {k : Bool} : SeqAt.shaped (.bool k) = true := rfl
theorem sh_none : SeqAt.shaped .none = true := rfl
theorem e_int : eqS (.int i) (.int j) M B = B (decide (i = j)) := by
  show (_ ∧ _ ∧ B (PyData.eqv (.int i) (.int j))) = _
  rw [sh_int, sh_int]
  have : PyData.eqv (.int i) (.int j) = decide (i = j) := by
    by_cases h : i = j <;> simp [PyData.eqv, h]
  rw [this]
  simp
theorem e_str : eqS (.str a) (.str b) M B = (SeqAt.shaped (.str a) = true ∧ SeqAt.shaped (.str b) = true ∧ B (a == b)) := rfl
theorem e_bool {k l : Bool} : eqS (.bl k) (.bl l) M B = B (k == l) := by
  show (_ ∧ _ ∧ B (PyData.eqv (.bool k) (.bool l))) = _
  rw [sh_bool, sh_bool]
  have : PyData.eqv (.bool k) (.bool l) = (k == l) := by
    cases k <;> cases l <;> rfl
  rw [this]
  simp
theorem t_bl {k : Bool} : truS (.bl k) M B = B k := rfl
theorem t_int : truS (.int i) M B = B (i != 0) := rfl
theorem t_lst : truS (.lst xs) M B = B (!xs.isEmpty) := rfl
theorem t_tup : truS (.tup xs) M B = B (!xs.isEmpty) := rfl
theorem t_non : truS .non M B = B false := rfl
theorem f_lent : fnS .len [.tup xs] M Q = Q (.val (.int xs.length)) := rfl
theorem f_lenl : fnS .len [.lst xs] M Q = Q (.val (.int xs.length)) := rfl
theorem f_lens : fnS .len [.str a] M Q = (a.length ≤ sizeLine ∧ Q (.val (.int a.length))) := rfl
theorem f_lbt : fnS .lenB [.tup xs] M Q = (xs.length ≤ sizeLine → Q (.val (.int xs.length))) := rfl
theorem f_lbl : fnS .lenB [.lst xs] M Q = (xs.length ≤ sizeLine → Q (.val (.int xs.length))) := rfl
theorem f_lbs : fnS .lenB [.str a] M Q = (a.length ≤ sizeLine ∧ Q (.val (.int a.length))) := rfl
theorem f_inti : fnS .int [.int i] M Q = Q (.val (.int i)) := rfl
theorem f_tupl : fnS .tuple [.lst xs] M Q = Q (.val (.tup xs)) := rfl
theorem f_tupt : fnS .tuple [.tup xs] M Q = Q (.val (.tup xs)) := rfl
theorem f_lstt : fnS .list [.tup xs] M Q = Q (.new (.lst xs)) := rfl
theorem f_lstl : fnS .list [.lst xs] M Q = Q (.new (.lst xs)) := rfl
theorem f_stri : fnS .str [.int i] M Q = (i.natAbs.log2 < 1920 ∧ Q (.val (.str (toString i)))) := rfl
theorem y_non : typ M .non = some .none := rfl
theorem y_bl {k : Bool} : typ M (.bl k) = some .bool := rfl
theorem y_int : typ M (.int i) = some .int := rfl
theorem y_str : typ M (.str a) = some .str := rfl
theorem y_tup : typ M (.tup xs) = some .tuple := rfl
theorem y_lst : typ M (.lst xs) = some .list := rfl
theorem y_ins {c : Nat} {ns : List Str} : typ M (.ins c ns xs) = some (.cls c) := rfl
theorem rg_1 {K : List D → Prop} : rgS [.int i] K = ((-(2 ^ 62) ≤ i ∧ i ≤ 16777216) ∧ K (rangeD 0 i)) := rfl
theorem rg_2 {K : List D → Prop} : rgS [.int i, .int j] K = ((-(2 ^ 62) ≤ i ∧ i < 2 ^ 62 ∧ -(2 ^ 62) ≤ j ∧ j < 2 ^ 62 ∧ j - i ≤ 16777216) ∧ K (rangeD i j)) := rfl
theorem sq_tup {K : List D → (Mem → Prop) → Prop} : seqS (.tup xs) M K = K xs fun _ => True := rfl
theorem sq_lst {K : List D → (Mem → Prop) → Prop} : seqS (.lst xs) M K = K xs fun _ => True := rfl
theorem zp_tup {K : List D → (Mem → Prop) → Prop} : zipS (.tup xs) (.tup ys) M K = K (zipD xs ys) fun _ => True := rfl
theorem en_lst {K : List D → Prop} : optS (asS M (.lst xs)) K = K xs := rfl
theorem en_tup {K : List D → Prop} : optS (asS M (.tup xs)) K = K xs := rfl
theorem aL_lst : asL M (.lst xs) = some xs := rfl
theorem ix_t {K : D → Prop} (h : atI xs i = some d) : ixS (.tup xs) (.int i) M K = K d := by
  simp only [ixS, asS, h]
theorem ix_l {K : D → Prop} (h : atI xs i = some d) : ixS (.lst xs) (.int i) M K = K d := by
  simp only [ixS, asS, asL, h]
theorem sl_t {lo hi : Option Int} : slS (.tup xs) lo hi M Q = Q (.val (.tup (cutD xs lo hi))) := rfl
theorem sl_s {lo hi : Option Int} : slS (.str a) lo hi M Q = (a.length ≤ sizeLine ∧ Q (.val (.str (cutS a lo hi)))) := rfl
theorem at_nat {α : Type} {l : List α} {k : Nat} {x : α} (h : l[k]? = some x) : atI l (k : Int) = some x := by
  have hk := (List.getElem?_eq_some_iff.mp h).1
  unfold atI ixN
  rw [if_pos (by omega), if_pos (by omega)]
  show l[(k : Int).toNat]? = some x
  rw [Int.toNat_natCast]
  exact h
theorem at_int {α : Type} {l : List α} {x : α} (h0 : 0 ≤ i) (h : l[i.toNat]? = some x) : atI l i = some x := by
  have := at_nat h
  rwa [Int.toNat_of_nonneg h0] at this
end
/-! live lists -/
section
variable {M : Mem} {p : Addr} {xs : List D} {i : Int} {j : Nat} {d v : D}
theorem ix_c {K : D → Prop} (hM : M p = some (.lst xs)) (h : atI xs i = some d) : ixS (.ref p) (.int i) M K = K d := by simp only [ixS, asS, asL, hM, h]
theorem set_c {K : Mem → Prop} (hM : M p = some (.lst xs)) (h : ixN xs.length i = some j) : setS (.ref p) (.int i) v M K = K (mput M p (.lst (xs.set j v))) := by simp only [setS, cellS, intS, optS, hM, h]
theorem len_c {K : R → Prop} (hM : M p = some (.lst xs)) : fnS .len [.ref p] M K = K (.val (.int xs.length)) := by simp only [fnS, one, asS, asL, hM]
theorem app_c {Q : QR} (hM : M p = some (.lst xs)) : mtS .append (.ref p) [d] M Q = (xs.length < sizeLine ∧ Q (.val .non) (mput M p (.lst (xs ++ [d])))) := by simp only [mtS, one, cellS, hM]
theorem pat_c {Q : QR} (hM : M p = some (.lst xs)) (h : ixN xs.length i = some j) (hv : xs[j]? = some v) : mtS .popAt (.ref p) [.int i] M Q = Q (.val v) (mput M p (.lst (xs.eraseIdx j))) := by simp only [mtS, one, cellS, intS, optS, hM, h, hv]
theorem ty_c {m : Mt} (hM : M p = some (.lst xs)) (hm : m ≠ .join) : mtTy m (.ref p) M = true := by cases m <;> first | exact absurd rfl hm | simp only [mtTy, asL, hM, Option.isSome_some]
end
theorem log_n {n : Int} (h0 : 0 < n) (h1 : n < 2 ^ 64) : n.natAbs.log2 < 9000 := by
  by_cases z : n.natAbs = 0
  · rw [z]; decide
  · have : n.natAbs < 2 ^ 64 := by omega
    have := (Nat.log2_lt z).mpr this
    omega
theorem sq_c {M : Mem} {p : Addr} {xs : List D} {K : List D → (Mem → Prop) → Prop} (hM : M p = some (.lst xs)) : seqS (.ref p) M K = K xs fun M' => M' p = some (.lst xs) := by simp only [seqS, hM]
theorem tup_c {M : Mem} {p : Addr} {xs : List D} {Q : R → Prop} (hM : M p = some (.lst xs)) : fnS .tuple [.ref p] M Q = Q (.val (.tup xs)) := by simp only [fnS, one, asS, asL, hM]
theorem enum_get {xs : List D} {i : Nat} {x : D} (h : (enumD xs)[i]? = some x) : ∃ y, xs[i]? = some y ∧ x = .tup [.int (i : Nat), y] := by
  unfold enumD at h
  rw [List.getElem?_map] at h
  by_cases hi : i < xs.length
  · rw [List.getElem?_range hi] at h
    cases h
    exact ⟨xs[i], List.getElem?_eq_getElem hi, by simp [List.getD, hi]⟩
  · rw [List.getElem?_eq_none (by simpa using hi)] at h
    cases h
theorem map_get {α : Type} {f : α → D} {l : List α} {i : Nat} {x : D} (h : (l.map f)[i]? = some x) : ∃ y, l[i]? = some y ∧ x = f y := by
  rw [List.getElem?_map] at h
  cases e : l[i]? with
  | none => rw [e] at h; cases h
  | some c => rw [e] at h; cases h; exact ⟨c, rfl, rfl⟩
theorem drop_get {α : Type} {xs : List α} {i : Nat} {x : α} (hx : xs[i]? = some x) : xs.drop i = x :: xs.drop (i + 1) := by
  have hlt : i < xs.length := (List.getElem?_eq_some_iff.mp hx).1
  rw [List.drop_eq_getElem_cons hlt]
  rw [List.getElem?_eq_getElem hlt] at hx
  cases hx; rfl
theorem take_get {α : Type} {xs : List α} {i : Nat} {x : α} (hx : xs[i]? = some x) : xs.take (i + 1) = xs.take i ++ [x] := by
  rw [List.take_succ, hx]; rfl
theorem zip_get {xs ys : List D} {i : Nat} {x : D} (h : (zipD xs ys)[i]? = some x) : ∃ u v, xs[i]? = some u ∧ ys[i]? = some v ∧ x = .tup [u, v] := by
  unfold zipD at h
  rw [List.getElem?_map] at h
  cases e : (xs.zip ys)[i]? with
  | none => rw [e] at h; cases h
  | some p =>
    rw [e] at h
    cases h
    obtain ⟨h1, h2⟩ := List.getElem?_zip_eq_some.mp e
    exact ⟨p.1, p.2, h1, h2, rfl⟩
theorem wpSs_cons {T : Tb} {s : PL.S} {ss : Ss} {D : DEnds} {ρ : Sd} {M : Mem} : wpSs T (.cons s ss) D ρ M = wpS T s { D with nx := wpSs T ss D } ρ M := rfl
theorem wpSs_nil {T : Tb} {D : DEnds} {ρ : Sd} {M : Mem} : wpSs T .nil D ρ M = D.nx ρ M := rfl
mutual
def pureD : D → Bool
  | .non => true | .bl _ => true | .int _ => true | .str _ => true
  | .tup xs => pureL xs
  | .lst xs => pureL xs
  | _ => false
def pureL : List D → Bool
  | [] => true
  | x :: xs => pureD x && pureL xs
end
theorem pureL_get {xs : List D} {i : Nat} {x : D} (h : pureL xs = true) (e : xs[i]? = some x) : pureD x = true := by
  induction xs generalizing i with
  | nil => simp at e
  | cons y ys ih =>
    simp only [pureL, Bool.and_eq_true] at h
    cases i with
    | zero => simp at e; subst e; exact h.1
    | succ j => exact ih h.2 (by simpa using e)
theorem pureL_of {xs : List D} (h : ∀ x ∈ xs, pureD x = true) : pureL xs = true := by
  induction xs with
  | nil => rfl
  | cons y ys ih =>
    simp only [pureL, Bool.and_eq_true]
    exact ⟨h y List.mem_cons_self, ih fun x hx => h x (List.mem_cons_of_mem _ hx)⟩
theorem pureL_mem {xs : List D} (h : pureL xs = true) : ∀ x ∈ xs, pureD x = true := fun x hx => by
  obtain ⟨i, hi, e⟩ := List.mem_iff_getElem.mp hx
  exact pureL_get (i := i) h (by rw [List.getElem?_eq_getElem hi, e])
/-! walks -/
theorem rg_len {a b : Int} : (rangeD a b).length = (b - a).toNat := by unfold rangeD; rw [List.length_map, List.length_range]
theorem rg_get {a b : Int} {i : Nat} {x : D} (h : (rangeD a b)[i]? = some x) : i < (b - a).toNat ∧ x = .int (a + i) := by
  unfold rangeD at h
  rw [List.getElem?_map] at h
  by_cases hi : i < (b - a).toNat
  · rw [List.getElem?_range hi] at h
    cases h
    exact ⟨hi, rfl⟩
  · rw [List.getElem?_eq_none (by simpa using hi)] at h
    cases h
theorem take_fm {f : D → Option D} {items : List D} {i : Nat} {x : D} (h : items[i]? = some x) : (items.take (i + 1)).filterMap f = (items.take i).filterMap f ++ (f x).toList := by
  have hlt := (List.getElem?_eq_some_iff.mp h).1
  rw [List.take_succ, h, List.filterMap_append]
  cases e : f x <;> simp [e]
/-- a comprehension that changes nothing -/
theorem comp_fm {tc : Sd → Mem → (Bool → Mem → Prop) → Prop} {te : Sd → Mem → QR → Prop} {t : Tg} {ρ : Sd} {M : Mem} {Q : QR} {items : List D} {live : Mem → Prop} (f : D → Option D) (hl : live M)
    (hs : ∀ (i : Nat) (x : D) (acc : List D) (K : List D → Mem → Prop), items[i]? = some x → K (acc ++ (f x).toList) M → bindT t x ρ fun ρ2 => tc ρ2 M (fun k M2 => if k = true then te ρ2 M2 (fun r M3 => K (acc ++ [r.d]) M3) else K acc M2))
    (hq : Q (.new (.lst (items.filterMap f))) M) : compS tc te t ρ M Q items live := by
  refine ⟨fun i acc M' => M' = M ∧ acc = (items.take i).filterMap f, ⟨rfl, by simp⟩, fun _ _ _ _ h => by rw [h.1]; exact hl, ?_, ?_⟩
  · rintro i x acc M' hx ⟨rfl, rfl⟩
    have := hs i x ((items.take i).filterMap f) (fun a M3 => M3 = M' ∧ a = (items.take (i + 1)).filterMap f) hx ⟨rfl, (take_fm hx).symm⟩
    exact this
  · rintro acc M' ⟨rfl, rfl⟩
    rw [List.take_length]
    exact hq
/-! ### the pool of a law: numbers drawn from it -/
def PoolV (l : List Int) : Prop := ∃ s r, l = s :: r ∧ 0 ≤ s ∧ s < 2305843009213693951 ∧ (∀ x ∈ r, 0 < x) ∧ r.length ≤ 63
def PoolAt (M : Mem) (p : Addr) : Prop := ∃ l : List Int, M p = some (.lst (l.map .int)) ∧ PoolV l
/-- the pool may have changed, all else stands (more may stand) -/
structure Step (p : Addr) (M M' : Mem) : Prop where
  pool : PoolAt M' p
  rest : ∀ a o, a ≠ p → M a = some o → M' a = some o
theorem Step.trans {p : Addr} {M M' M'' : Mem} (a : Step p M M') (b : Step p M' M'') : Step p M M'' := ⟨b.pool, fun x o h e => b.rest x o h (a.rest x o h e)⟩
theorem Step.refl {p : Addr} {M : Mem} (h : PoolAt M p) : Step p M M := ⟨h, fun _ _ _ h => h⟩
theorem Step.put {p : Addr} {M : Mem} {l : List Int} (h : PoolV l) : Step p M (mput M p (.lst (l.map .int))) := ⟨⟨l, mput_same, h⟩, fun _ _ hne e => by rw [mput_ne hne]; exact e⟩
theorem PoolAt.ne {M : Mem} {p q : Addr} (h : PoolAt M p) (e : M q = none) : q ≠ p := fun z => by
  obtain ⟨l, hl, _⟩ := h
  rw [← z, e] at hl
  cases hl
theorem PoolAt.put {M : Mem} {p q : Addr} {o : Ob} (h : PoolAt M p) (n : q ≠ p) : PoolAt (mput M q o) p := by
  obtain ⟨l, hl, v⟩ := h
  exact ⟨l, by rw [mput_ne (Ne.symm n)]; exact hl, v⟩
theorem log_small {s : Int} (h0 : 0 ≤ s) (h1 : s < 2305843009213693951) : s.natAbs.log2 ≤ 61 := by
  by_cases z : s.natAbs = 0
  · rw [z]; decide
  · have : s.natAbs < 2 ^ 61 := by omega
    have := (Nat.log2_lt z).mpr this
    omega
/-- a draw below n -/
def sp_draw : DSp := fun ds M Q _ => ∃ p n, ds = [.ref p, .int n] ∧ 0 < n ∧ n < 2 ^ 64 ∧ PoolAt M p ∧ ∀ r M', 0 ≤ r → r < n → Step p M M' → Q (.val (.int r)) M'
end PL
/-! ### more plain lemmas: comprehensions over mapped lists, drawn lists -/
namespace PL
open PySem PySem.Spec PyProof.Rows L2
theorem sl_l {xs : List D} {lo hi : Option Int} {M : Mem} {Q : R → Prop} : slS (.lst xs) lo hi M Q = Q (.new (.lst (cutD xs lo hi))) := rfl
theorem cutD_pre {xs : List D} {i : Nat} (h : i ≤ xs.length) : cutD xs none (some (i : Int)) = xs.take i := by
  unfold cutD
  rw [HT.sIx_nat, HT.sIx_none]
  simp only [Nat.sub_zero, List.drop_zero]
  congr 1
  omega
/-- a comprehension that changes nothing, over a mapped list -/
theorem comp_mp {α : Type} {tc : Sd → Mem → (Bool → Mem → Prop) → Prop} {te : Sd → Mem → QR → Prop} {t : Tg} {ρ : Sd} {M : Mem} {Q : QR} {items : List D} {live : Mem → Prop} {l : List α} (g : α → D) (h : α → D) (e : items = l.map g) (hl : live M)
    (hs : ∀ (i : Nat) (a : α) (acc : List D) (K : List D → Mem → Prop), l[i]? = some a → K (acc ++ [h a]) M → bindT t (g a) ρ fun ρ2 => tc ρ2 M (fun k M2 => if k = true then te ρ2 M2 (fun r M3 => K (acc ++ [r.d]) M3) else K acc M2))
    (hq : Q (.new (.lst (l.map h))) M) : compS tc te t ρ M Q items live := by
  subst e
  refine ⟨fun i acc M' => M' = M ∧ acc = (l.take i).map h, ⟨rfl, rfl⟩, fun _ _ _ _ h => by rw [h.1]; exact hl, ?_, ?_⟩
  · rintro i x acc M' hx ⟨rfl, rfl⟩
    obtain ⟨a, ha, rfl⟩ := map_get hx
    refine hs i a ((l.take i).map h) (fun a M3 => M3 = M' ∧ a = (l.take (i + 1)).map h) ha ⟨rfl, ?_⟩
    rw [take_get ha, List.map_append]; rfl
  · rintro acc M' ⟨rfl, rfl⟩
    rw [List.length_map, List.take_length]
    exact hq
/-- one with a test -/
theorem comp_flt {α : Type} {tc : Sd → Mem → (Bool → Mem → Prop) → Prop} {te : Sd → Mem → QR → Prop} {t : Tg} {ρ : Sd} {M : Mem} {Q : QR} {items : List D} {live : Mem → Prop} {l : List α} (g : α → D) (P : α → Bool) (h : α → D) (e : items = l.map g) (hl : live M)
    (hs : ∀ (i : Nat) (a : α) (acc : List D) (K : List D → Mem → Prop), l[i]? = some a → (if P a = true then K (acc ++ [h a]) M else K acc M) → bindT t (g a) ρ fun ρ2 => tc ρ2 M (fun k M2 => if k = true then te ρ2 M2 (fun r M3 => K (acc ++ [r.d]) M3) else K acc M2))
    (hq : Q (.new (.lst ((l.filter P).map h))) M) : compS tc te t ρ M Q items live := by
  subst e
  refine ⟨fun i acc M' => M' = M ∧ acc = ((l.take i).filter P).map h, ⟨rfl, rfl⟩, fun _ _ _ _ h => by rw [h.1]; exact hl, ?_, ?_⟩
  · rintro i x acc M' hx ⟨rfl, rfl⟩
    obtain ⟨a, ha, rfl⟩ := map_get hx
    refine hs i a (((l.take i).filter P).map h) (fun a M3 => M3 = M' ∧ a = ((l.take (i + 1)).filter P).map h) ha ?_
    rw [take_get ha, List.filter_append, List.map_append]
    by_cases hp : P a = true
    · rw [if_pos hp]; exact ⟨rfl, by simp [hp]⟩
    · rw [if_neg hp]; exact ⟨rfl, by simp [hp]⟩
  · rintro acc M' ⟨rfl, rfl⟩
    rw [List.length_map, List.take_length]
    exact hq
/-- a comprehension that draws -/
theorem comp_pool {α : Type} {te : Sd → Mem → QR → Prop} {t : Tg} {ρ : Sd} {M : Mem} {Q : QR} {items : List D} {p : Addr} (f : α → D) (P : Nat → α → Prop) (live : Mem → Prop) (hp : PoolAt M p) (hl : ∀ M', Step p M M' → live M')
    (hs : ∀ (i : Nat) (x : D) (M' : Mem) (K : D → Mem → Prop), items[i]? = some x → Step p M M' → (∀ a M'', P i a → Step p M' M'' → K (f a) M'') → bindT t x ρ fun ρ2 => te ρ2 M' (fun r M3 => K r.d M3))
    (hq : ∀ (l : List α) M', l.length = items.length → (∀ i a, l[i]? = some a → P i a) → Step p M M' → Q (.new (.lst (l.map f))) M') : compS (fun ρ2 M2 K => K true M2) te t ρ M Q items live := by
  refine ⟨fun i acc M' => ∃ l : List α, acc = l.map f ∧ l.length = i ∧ (∀ i a, l[i]? = some a → P i a) ∧ Step p M M', ⟨[], rfl, rfl, by simp, Step.refl hp⟩, fun _ _ _ _ ⟨_, _, _, _, h⟩ => hl _ h, ?_, ?_⟩
  · rintro i x acc M' hx ⟨l, rfl, rfl, hl, s⟩
    have := hs l.length x M' (fun d M3 => ∃ l' : List α, l.map f ++ [d] = l'.map f ∧ l'.length = l.length + 1 ∧ (∀ i a, l'[i]? = some a → P i a) ∧ Step p M M3) hx s fun a M'' pa s2 => ⟨l ++ [a], by simp, by simp, fun i b hb => ?_, s.trans s2⟩
    · exact this
    · by_cases e : i < l.length
      · rw [List.getElem?_append_left e] at hb; exact hl i b hb
      · have ei : i = l.length := by
          have := (List.getElem?_eq_some_iff.mp hb).1
          rw [List.length_append, List.length_singleton] at this
          omega
        subst ei
        rw [List.getElem?_append_right (by omega), Nat.sub_self] at hb
        simp at hb; subst hb; exact pa
  · rintro acc M' ⟨l, rfl, h1, h2, s⟩
    exact hq l M' h1 h2 s
theorem asBs_map {α : Type} (P : α → Bool) : ∀ l : List α, asBs (l.map fun a => D.bl (P a)) = some (l.map P)
  | [] => rfl
  | a :: l => by simp only [List.map_cons, asBs, asBs_map P l]
theorem f_anyb {α : Type} {P : α → Bool} {l : List α} {M : Mem} {Q : R → Prop} : fnS .any [.lst (l.map fun a => D.bl (P a))] M Q = Q (.val (.bl (l.any P))) := by
  simp only [fnS, one, asL, asBs_map]
  simp [List.any_map]
theorem f_allb {α : Type} {P : α → Bool} {l : List α} {M : Mem} {Q : R → Prop} : fnS .all [.lst (l.map fun a => D.bl (P a))] M Q = Q (.val (.bl (l.all P))) := by
  simp only [fnS, one, asL, asBs_map]
  simp [List.all_map]
theorem any_ints {w : Int} {ws : List Int} : (ws.map D.int).all flatD = true ∧ ((ws.map D.int).any fun z => eqF z (.int w)) = ws.contains w := by
  refine ⟨by simp [flatD], ?_⟩
  induction ws with
  | nil => rfl
  | cons a ws ih =>
    rw [List.map_cons, List.any_cons, ih, List.contains_cons]
    show ((a == w) || _) = ((w == a) || _)
    rw [show (a == w) = (w == a) by rw [Bool.eq_iff_iff, beq_iff_eq, beq_iff_eq]; exact eq_comm]
theorem in_intsT {w : Int} {ws : List Int} {M : Mem} {B : Bool → Prop} : inS (.int w) (.tup (ws.map D.int)) M B = B (ws.contains w) := by
  simp only [inS, asS, any_ints.2, flatD, and_self, true_and]
  rw [(any_ints (w := w) (ws := ws)).1]
  simp
theorem zipD_map {α β : Type} {f : α → D} {g : β → D} {l : List α} {m : List β} : zipD (l.map f) (m.map g) = (l.zip m).map fun p => .tup [f p.1, g p.2] := by
  unfold zipD
  rw [List.zip_map, List.map_map]
  rfl
theorem enumD_map {α : Type} {f : α → D} {l : List α} {i : Nat} {x : D} (h : (enumD (l.map f))[i]? = some x) : ∃ a, l[i]? = some a ∧ x = .tup [.int (i : Nat), f a] := by
  obtain ⟨u, hu, rfl⟩ := enum_get h
  obtain ⟨a, ha, rfl⟩ := map_get hu
  exact ⟨a, ha, rfl⟩
theorem enumD_length {xs : List D} : (enumD xs).length = xs.length := by unfold enumD; simp
/-- more may stand -/
def Ext (M M' : Mem) : Prop := ∀ a o, M a = some o → M' a = some o
theorem Ext.refl {M : Mem} : Ext M M := fun _ _ h => h
theorem Ext.trans {M M' M'' : Mem} (a : Ext M M') (b : Ext M' M'') : Ext M M'' := fun x o h => b x o (a x o h)
theorem Ext.made {M M3 : Mem} {q : Addr} {o : Ob} (h : M q = none) (r : ∀ a o', a ≠ q → mput M q o a = some o' → M3 a = some o') : Ext M (mdel M3 q) := fun a o' e => by
  have na : a ≠ q := fun z => by rw [z, h] at e; cases e
  unfold mdel
  rw [if_neg na]
  exact r a o' na (by rw [mput_ne na]; exact e)
theorem Step.ext {p : Addr} {M M' : Mem} (h : PoolAt M p) (e : Ext M M') : Step p M M' := ⟨by obtain ⟨l, h1, h2⟩ := h; exact ⟨l, e _ _ h1, h2⟩, fun a o _ h => e a o h⟩
end PL
namespace PL
open PySem PySem.Spec PyProof.Rows L2
def top (i : Nat) : Stmt := PySem.Challenge.pw_rightfulhands_k04_finds_and_claims.main.body.getD i (.Pass ⟨0, 0, 0, 0⟩)
abbrev s_law_draw : Stmt := (top 21)
def N_law_draw : List Str := ["pool", "many", "drawn"]
def ir_law_draw : Ss :=
  (.cons (.ite (.val (.cmp .Gt (.fn .len (.cons (.var 0) .nil)) (.con (.int 1))))
   (.cons (.set 2 (.op .Mod (.fn .int (.cons (.ix (.var 0) (.con (.int 1))) .nil)) (.var 1)))
   (.cons (.sub (.var 0) (.con (.int 1)) (.op .FloorDiv (.ix (.var 0) (.con (.int 1))) (.var 1)))
   (.cons (.ite (.val (.cmp .Eq (.ix (.var 0) (.con (.int 1))) (.con (.int 0))))
    (.cons (.expr (.mt .popAt (.var 0) (.cons (.con (.int 1)) .nil)))
    .nil)
    .nil)
   (.cons (.ret (.var 2))
   .nil))))
   .nil)
  (.cons (.sub (.var 0) (.con (.int 0)) (.op .Mod (.fn .int (.cons (.op .Add (.op .Mult (.ix (.var 0) (.con (.int 0))) (.ix (.var 0) (.con (.int 0)))) (.con (.int 40014))) .nil)) (.con (.int 2305843009213693951))))
  (.cons (.ret (.op .Mod (.fn .int (.cons (.op .FloorDiv (.ix (.var 0) (.con (.int 0))) (.con (.int 4194304))) .nil)) (.var 1)))
  .nil)))
def K_law_draw : Ck := { N := N_law_draw, gl := [], fn := [], mt := [], mkr := [], cl := [], xr := [], hc := [] }
theorem ck_law_draw : chkSs K_law_draw (defScope s_law_draw) ir_law_draw (defBody s_law_draw) = true := by decide +kernel
theorem sc_law_draw : FnScope N_law_draw ["pool", "many"] (defScope s_law_draw) := ⟨rfl, rfl, rfl, by decide +kernel, rfl, by decide +kernel, by decide +kernel⟩
abbrev s_law_pool : Stmt := (top 20)
def N_law_pool : List Str := ["script", "seed", "cell", "turn"]
def ir_law_pool : Ss :=
  (.cons (.set 1 (.op .Add (.con (.int 88172645463325252)) (.fn .len (.cons (.var 0) .nil))))
  (.cons (.for_ (.name 2) (.seq (.var 0))
   (.cons (.set 1 (.op .Mod (.fn .int (.cons (.op .Add (.op .Add (.op .Mult (.var 1) (.var 1)) (.var 2)) (.con (.int 40014))) .nil)) (.con (.int 2305843009213693951))))
   .nil))
  (.cons (.for_ (.name 3) (.range (.cons (.con (.int 2)) .nil))
   (.cons (.set 1 (.op .Mod (.fn .int (.cons (.op .Add (.op .Mult (.var 1) (.var 1)) (.con (.int 40014))) .nil)) (.con (.int 2305843009213693951))))
   .nil))
  (.cons (.ret (.op .Add (.lst (.cons (.var 1) .nil)) (.comp (.var 2) (.name 2) (.seq (.var 0)) (.some (.val (.cmp .GtE (.var 2) (.con (.int 1000000000000000000))))) [("cell", 2)])))
  .nil))))
def K_law_pool : Ck := { N := N_law_pool, gl := [], fn := [], mt := [], mkr := [], cl := [], xr := [], hc := [] }
theorem ck_law_pool : chkSs K_law_pool (defScope s_law_pool) ir_law_pool (defBody s_law_pool) = true := by decide +kernel
theorem sc_law_pool : FnScope N_law_pool ["script"] (defScope s_law_pool) := ⟨rfl, rfl, rfl, by decide +kernel, rfl, by decide +kernel, by decide +kernel⟩
abbrev s_law_same : Stmt := (top 24)
def N_law_same : List Str := ["told", "due", "k"]
def ir_law_same : Ss :=
  (.cons (.ite (.val (.isi (.var 1) [.tuple]))
   (.cons (.ite (.or (.not (.val (.isi (.var 0) [.tuple]))) (.val (.cmp .NotEq (.fn .len (.cons (.var 0) .nil)) (.fn .len (.cons (.var 1) .nil)))))
    (.cons (.ret (.con (.bl false)))
    .nil)
    .nil)
   (.cons (.ret (.not (.comp (.var 2) (.name 2) (.range (.cons (.fn .lenB (.cons (.var 1) .nil)) .nil)) (.some (.not (.val (.call 9 (.cons (.ix (.var 0) (.var 2)) (.cons (.ix (.var 1) (.var 2)) .nil)) [] .nil)))) [("k", 2)])))
   .nil))
   .nil)
  (.cons (.ite (.val (.isi (.var 1) [.list]))
   (.cons (.ite (.or (.not (.val (.isi (.var 0) [.list]))) (.val (.cmp .NotEq (.fn .len (.cons (.var 0) .nil)) (.fn .len (.cons (.var 1) .nil)))))
    (.cons (.ret (.con (.bl false)))
    .nil)
    .nil)
   (.cons (.ret (.not (.comp (.var 2) (.name 2) (.range (.cons (.fn .lenB (.cons (.var 1) .nil)) .nil)) (.some (.not (.val (.call 9 (.cons (.ix (.var 0) (.var 2)) (.cons (.ix (.var 1) (.var 2)) .nil)) [] .nil)))) [("k", 2)])))
   .nil))
   .nil)
  (.cons (.ite (.val (.isi (.var 1) [.bool]))
   (.cons (.ret (.and (.isi (.var 0) [.bool]) (.cmp .Eq (.var 0) (.var 1))))
   .nil)
   .nil)
  (.cons (.ite (.val (.isi (.var 1) [.int]))
   (.cons (.ret (.and (.isi (.var 0) [.int]) (.and (.not (.isi (.var 0) [.bool])) (.cmp .Eq (.var 0) (.var 1)))))
   .nil)
   .nil)
  (.cons (.ite (.val (.isi (.var 1) [.str]))
   (.cons (.ret (.and (.isi (.var 0) [.str]) (.cmp .Eq (.var 0) (.var 1))))
   .nil)
   .nil)
  (.cons (.ret (.and (.cmp .Is (.var 1) (.con .non)) (.cmp .Is (.var 0) (.con .non))))
  .nil))))))
def K_law_same : Ck := { N := N_law_same, gl := [], fn := [(9, "_law_same", [(2, [])])], mt := [], mkr := [], cl := [], xr := [], hc := [] }
theorem ck_law_same : chkSs K_law_same (defScope s_law_same) ir_law_same (defBody s_law_same) = true := by decide +kernel
theorem sc_law_same : FnScope N_law_same ["told", "due"] (defScope s_law_same) := ⟨rfl, rfl, rfl, by decide +kernel, rfl, by decide +kernel, by decide +kernel⟩
abbrev s_Claim___eq__ : Stmt := (inClass (top 18) 1)
def N_Claim___eq__ : List Str := ["self", "other"]
def ir_Claim___eq__ : Ss :=
  (.cons (.ite (.not (.val (.isi (.var 1) [.cls 19])))
   (.cons (.ret (.con (.bl false)))
   .nil)
   .nil)
  (.cons (.ret (.and (.cmp .Eq (.fld (.var 0) "name") (.fld (.var 1) "name")) (.and (.cmp .Eq (.fld (.var 0) "marks") (.fld (.var 1) "marks")) (.cmp .Eq (.fld (.var 0) "day") (.fld (.var 1) "day")))))
  .nil))
def K_Claim___eq__ : Ck := { N := N_Claim___eq__, gl := [], fn := [], mt := [], mkr := [], cl := [(19, "Claim")], xr := [], hc := [] }
theorem ck_Claim___eq__ : chkSs K_Claim___eq__ (defScope s_Claim___eq__) ir_Claim___eq__ (defBody s_Claim___eq__) = true := by decide +kernel
theorem sc_Claim___eq__ : FnScope N_Claim___eq__ ["self", "other"] (defScope s_Claim___eq__) := ⟨rfl, rfl, rfl, by decide +kernel, rfl, by decide +kernel, by decide +kernel⟩
abbrev s_Find___eq__ : Stmt := (inClass (top 17) 1)
def N_Find___eq__ : List Str := ["self", "other"]
def ir_Find___eq__ : Ss :=
  (.cons (.ret (.and (.isi (.var 1) [.cls 18]) (.and (.cmp .Eq (.fld (.var 0) "name") (.fld (.var 1) "name")) (.cmp .Eq (.fld (.var 0) "marks") (.fld (.var 1) "marks")))))
  .nil)
def K_Find___eq__ : Ck := { N := N_Find___eq__, gl := [], fn := [], mt := [], mkr := [], cl := [(18, "Find")], xr := [], hc := [] }
theorem ck_Find___eq__ : chkSs K_Find___eq__ (defScope s_Find___eq__) ir_Find___eq__ (defBody s_Find___eq__) = true := by decide +kernel
theorem sc_Find___eq__ : FnScope N_Find___eq__ ["self", "other"] (defScope s_Find___eq__) := ⟨rfl, rfl, rfl, by decide +kernel, rfl, by decide +kernel, by decide +kernel⟩
abbrev s_is_integer : Stmt := (top 7)
def N_is_integer : List Str := ["value"]
def ir_is_integer : Ss :=
  (.cons (.ret (.and (.isi (.var 0) [.int]) (.not (.isi (.var 0) [.bool]))))
  .nil)
def K_is_integer : Ck := { N := N_is_integer, gl := [], fn := [], mt := [], mkr := [], cl := [], xr := [], hc := [] }
theorem ck_is_integer : chkSs K_is_integer (defScope s_is_integer) ir_is_integer (defBody s_is_integer) = true := by decide +kernel
theorem sc_is_integer : FnScope N_is_integer ["value"] (defScope s_is_integer) := ⟨rfl, rfl, rfl, by decide +kernel, rfl, by decide +kernel, by decide +kernel⟩
abbrev s_is_from_to : Stmt := (top 8)
def N_is_from_to : List Str := ["value", "least", "most"]
def ir_is_from_to : Ss :=
  (.cons (.ret (.and (.call 0 (.cons (.var 0) .nil) [] .nil) (.chain .LtE .LtE (.var 1) (.var 0) (.var 2))))
  .nil)
def K_is_from_to : Ck := { N := N_is_from_to, gl := [], fn := [(0, "is_integer", [(1, [])])], mt := [], mkr := [], cl := [], xr := [], hc := [] }
theorem ck_is_from_to : chkSs K_is_from_to (defScope s_is_from_to) ir_is_from_to (defBody s_is_from_to) = true := by decide +kernel
theorem sc_is_from_to : FnScope N_is_from_to ["value", "least", "most"] (defScope s_is_from_to) := ⟨rfl, rfl, rfl, by decide +kernel, rfl, by decide +kernel, by decide +kernel⟩
abbrev s_is_word : Stmt := (top 10)
def N_is_word : List Str := ["value", "sign"]
def ir_is_word : Ss :=
  (.cons (.ite (.or (.not (.val (.isi (.var 0) [.str]))) (.not (.val (.chain .LtE .LtE (.con (.int 1)) (.fn .len (.cons (.var 0) .nil)) (.glob 0)))))
   (.cons (.ret (.con (.bl false)))
   .nil)
   .nil)
  (.cons (.ret (.fn .all (.cons (.comp (.cmp .In (.var 1) (.glob 1)) (.name 1) (.seq (.var 0)) .none [("sign", 1)]) .nil)))
  .nil))
def K_is_word : Ck := { N := N_is_word, gl := [(1, "LETTERS"), (0, "MOST_WORD")], fn := [], mt := [], mkr := [], cl := [], xr := [], hc := [] }
theorem ck_is_word : chkSs K_is_word (defScope s_is_word) ir_is_word (defBody s_is_word) = true := by decide +kernel
theorem sc_is_word : FnScope N_is_word ["value"] (defScope s_is_word) := ⟨rfl, rfl, rfl, by decide +kernel, rfl, by decide +kernel, by decide +kernel⟩
abbrev s_is_sequence : Stmt := (top 9)
def N_is_sequence : List Str := ["value"]
def ir_is_sequence : Ss :=
  (.cons (.ret (.isi (.var 0) [.tuple, .list]))
  .nil)
def K_is_sequence : Ck := { N := N_is_sequence, gl := [], fn := [], mt := [], mkr := [], cl := [], xr := [], hc := [] }
theorem ck_is_sequence : chkSs K_is_sequence (defScope s_is_sequence) ir_is_sequence (defBody s_is_sequence) = true := by decide +kernel
theorem sc_is_sequence : FnScope N_is_sequence ["value"] (defScope s_is_sequence) := ⟨rfl, rfl, rfl, by decide +kernel, rfl, by decide +kernel, by decide +kernel⟩
abbrev s_rises : Stmt := (top 11)
def N_rises : List Str := ["value", "bound", "least", "one"]
def ir_rises : Ss :=
  (.cons (.set 2 (.con (.int 0)))
  (.cons (.for_ (.name 3) (.seq (.var 0))
   (.cons (.ite (.not (.val (.call 1 (.cons (.var 3) (.cons (.var 2) (.cons (.op .Sub (.var 1) (.con (.int 1))) .nil))) [] .nil)))
    (.cons (.ret (.con (.bl false)))
    .nil)
    .nil)
   (.cons (.set 2 (.op .Add (.var 3) (.con (.int 1))))
   .nil)))
  (.cons (.ret (.con (.bl true)))
  .nil)))
def K_rises : Ck := { N := N_rises, gl := [], fn := [(1, "is_from_to", [(3, [])])], mt := [], mkr := [], cl := [], xr := [], hc := [] }
theorem ck_rises : chkSs K_rises (defScope s_rises) ir_rises (defBody s_rises) = true := by decide +kernel
theorem sc_rises : FnScope N_rises ["value", "bound"] (defScope s_rises) := ⟨rfl, rfl, rfl, by decide +kernel, rfl, by decide +kernel, by decide +kernel⟩
abbrev s_marks_from : Stmt := (top 16)
def N_marks_from : List Str := ["value", "values"]
def ir_marks_from : Ss :=
  (.cons (.ite (.or (.not (.val (.call 4 (.cons (.var 0) .nil) [] .nil))) (.not (.val (.chain .LtE .LtE (.con (.int 1)) (.fn .len (.cons (.var 0) .nil)) (.glob 4)))))
   (.cons (.raise_ 3 (.cons (.var 0) .nil))
   .nil)
   .nil)
  (.cons (.for_ (.name 1) (.seq (.var 0))
   (.cons (.ite (.or (.not (.val (.call 4 (.cons (.var 1) .nil) [] .nil))) (.or (.val (.cmp .Eq (.fn .len (.cons (.var 1) .nil)) (.con (.int 0)))) (.not (.val (.call 2 (.cons (.var 1) (.cons (.glob 3) .nil)) [] .nil)))))
    (.cons (.raise_ 3 (.cons (.var 0) .nil))
    .nil)
    .nil)
   .nil))
  (.cons (.ret (.fn .tuple (.cons (.comp (.fn .tuple (.cons (.var 1) .nil)) (.name 1) (.seq (.var 0)) .none [("values", 1)]) .nil)))
  .nil)))
def K_marks_from : Ck := { N := N_marks_from, gl := [(4, "MOST_FEATURES"), (3, "MOST_VALUES")], fn := [(4, "is_sequence", [(1, [])]), (2, "rises", [(2, [])])], mt := [], mkr := [], cl := [], xr := [(3, "InvalidMarks", 1)], hc := [] }
theorem ck_marks_from : chkSs K_marks_from (defScope s_marks_from) ir_marks_from (defBody s_marks_from) = true := by decide +kernel
theorem sc_marks_from : FnScope N_marks_from ["value"] (defScope s_marks_from) := ⟨rfl, rfl, rfl, by decide +kernel, rfl, by decide +kernel, by decide +kernel⟩
abbrev s_Claim_init : Stmt := (inClass (top 18) 0)
def N_Claim_init : List Str := ["self", "name", "marks", "day"]
def ir_Claim_init : Ss :=
  (.cons (.ite (.not (.val (.call 3 (.cons (.var 1) .nil) [] .nil)))
   (.cons (.raise_ 4 (.cons (.con (.str "name")) .nil))
   .nil)
   .nil)
  (.cons (.fld (.var 0) "marks" (.call 26 (.cons (.var 2) .nil) [] .nil))
  (.cons (.ite (.not (.val (.call 1 (.cons (.var 3) (.cons (.con (.int 0)) (.cons (.glob 7) .nil))) [] .nil)))
   (.cons (.raise_ 4 (.cons (.con (.str "day")) .nil))
   .nil)
   .nil)
  (.cons (.fld (.var 0) "name" (.var 1))
  (.cons (.fld (.var 0) "day" (.var 3))
  .nil)))))
def K_Claim_init : Ck := { N := N_Claim_init, gl := [(7, "MOST_DAY")], fn := [(1, "is_from_to", [(3, [])]), (3, "is_word", [(1, [])]), (26, "marks_from", [(1, [])])], mt := [], mkr := [], cl := [], xr := [(4, "InvalidThing", 1)], hc := [] }
theorem ck_Claim_init : chkSs K_Claim_init (defScope s_Claim_init) ir_Claim_init (defBody s_Claim_init) = true := by decide +kernel
theorem sc_Claim_init : FnScope N_Claim_init ["self", "name", "marks", "day"] (defScope s_Claim_init) := ⟨rfl, rfl, rfl, by decide +kernel, rfl, by decide +kernel, by decide +kernel⟩
abbrev s_Find_init : Stmt := (inClass (top 17) 0)
def N_Find_init : List Str := ["self", "name", "marks"]
def ir_Find_init : Ss :=
  (.cons (.ite (.not (.val (.call 3 (.cons (.var 1) .nil) [] .nil)))
   (.cons (.raise_ 4 (.cons (.con (.str "name")) .nil))
   .nil)
   .nil)
  (.cons (.fld (.var 0) "name" (.var 1))
  (.cons (.fld (.var 0) "marks" (.call 26 (.cons (.var 2) .nil) [] .nil))
  .nil)))
def K_Find_init : Ck := { N := N_Find_init, gl := [], fn := [(3, "is_word", [(1, [])]), (26, "marks_from", [(1, [])])], mt := [], mkr := [], cl := [], xr := [(4, "InvalidThing", 1)], hc := [] }
theorem ck_Find_init : chkSs K_Find_init (defScope s_Find_init) ir_Find_init (defBody s_Find_init) = true := by decide +kernel
theorem sc_Find_init : FnScope N_Find_init ["self", "name", "marks"] (defScope s_Find_init) := ⟨rfl, rfl, rfl, by decide +kernel, rfl, by decide +kernel, by decide +kernel⟩
abbrev s_law_unlike : Stmt := (top 30)
def N_law_unlike : List Str := ["pool", "name", "marks", "day", "other", "at", "row", "near", "told", "one", "two", "k"]
def ir_law_unlike : Ss :=
  (.cons (.set 5 (.call 8 (.cons (.var 0) (.cons (.fn .len (.cons (.var 2) .nil)) .nil)) [] .nil))
  (.cons (.set 6 (.slice (.op .Add (.fn .tuple (.cons (.comp (.var 11) (.name 11) (.range (.cons (.con (.int 8)) .nil)) (.some (.val (.cmp .NotIn (.var 11) (.ix (.var 2) (.var 5))))) [("k", 11)]) .nil)) (.tup (.cons (.con (.int 0)) .nil))) .none (.some (.con (.int 1)))))
  (.cons (.ite (.val (.cmp .Eq (.fn .len (.cons (.ix (.var 2) (.var 5)) .nil)) (.con (.int 8))))
   (.cons (.set 6 (.tup (.cons (.con (.int 3)) .nil)))
   .nil)
   .nil)
  (.cons (.set 7 (.op .Add (.op .Add (.slice (.var 2) .none (.some (.var 5))) (.tup (.cons (.var 6) .nil))) (.slice (.var 2) (.some (.op .Add (.var 5) (.con (.int 1)))) .none)))
  (.cons (.par [9, 10] (.cons (.make 18 (.cons (.var 1) (.cons (.var 2) .nil)) [] .nil) (.cons (.make 19 (.cons (.var 1) (.cons (.var 2) (.cons (.var 3) .nil))) [] .nil) .nil)))
  (.cons (.set 8 (.lst (.cons (.ieq false 13 (.var 9) (.make 18 (.cons (.var 4) (.cons (.var 2) .nil)) [] .nil)) (.cons (.ieq false 13 (.var 9) (.make 18 (.cons (.var 1) (.cons (.var 7) .nil)) [] .nil)) (.cons (.ieq false 13 (.var 9) (.make 18 (.cons (.var 1) (.cons (.ite (.val (.cmp .Lt (.fn .len (.cons (.var 2) .nil)) (.con (.int 6)))) (.op .Add (.var 2) (.tup (.cons (.tup (.cons (.con (.int 0)) .nil)) .nil))) (.var 7)) .nil)) [] .nil)) .nil)))))
  (.cons (.set 8 (.op .Add (.var 8) (.lst (.cons (.ieq false 14 (.var 10) (.make 19 (.cons (.var 4) (.cons (.var 2) (.cons (.var 3) .nil))) [] .nil)) (.cons (.ieq false 14 (.var 10) (.make 19 (.cons (.var 1) (.cons (.var 7) (.cons (.var 3) .nil))) [] .nil)) (.cons (.ieq false 14 (.var 10) (.make 19 (.cons (.var 1) (.cons (.var 2) (.cons (.op .Sub (.con (.int 999)) (.var 3)) .nil))) [] .nil)) (.cons (.ieq false 13 (.var 9) (.var 10)) .nil)))))))
  (.cons (.set 8 (.op .Add (.var 8) (.lst (.cons (.ieq false 14 (.var 10) (.var 9)) (.cons (.ieq false 13 (.var 9) (.var 1)) (.cons (.ieq false 14 (.var 10) (.tup (.cons (.var 1) (.cons (.var 2) (.cons (.var 3) .nil))))) (.cons (.ieq false 13 (.var 9) (.con .non)) (.cons (.ieq true 13 (.var 9) (.make 18 (.cons (.var 1) (.cons (.var 2) .nil)) [] .nil)) .nil))))))))
  (.cons (.set 8 (.op .Add (.var 8) (.lst (.cons (.ieq true 14 (.var 10) (.make 19 (.cons (.var 1) (.cons (.var 2) (.cons (.var 3) .nil))) [] .nil)) .nil))))
  (.cons (.ret (.and (.call 9 (.cons (.var 8) (.cons (.comp (.con (.bl false)) (.name 11) (.range (.cons (.con (.int 13)) .nil)) .none [("k", 11)]) .nil)) [] .nil) (.call 9 (.cons (.ieq true 13 (.var 9) (.make 18 (.cons (.var 1) (.cons (.var 7) .nil)) [] .nil)) (.cons (.con (.bl true)) .nil)) [] .nil)))
  .nil))))))))))
def K_law_unlike : Ck := { N := N_law_unlike, gl := [], fn := [(8, "_law_draw", [(2, [])]), (9, "_law_same", [(2, [])])], mt := [], mkr := [(19, "Claim", [(4, []), (1, ["day", "name", "marks"])]), (18, "Find", [(3, []), (1, ["marks", "name"])])], cl := [], xr := [], hc := [], eq := [14, 13] }
theorem ck_law_unlike : chkSs K_law_unlike (defScope s_law_unlike) ir_law_unlike (defBody s_law_unlike) = true := by decide +kernel
theorem sc_law_unlike : FnScope N_law_unlike ["pool", "name", "marks", "day", "other"] (defScope s_law_unlike) := ⟨rfl, rfl, rfl, by decide +kernel, rfl, by decide +kernel, by decide +kernel⟩
abbrev s_law_values : Stmt := (top 23)
def N_law_values : List Str := ["pool", "many", "way", "powers", "code", "picked", "k"]
def ir_law_values : Ss :=
  (.cons (.set 3 (.tup (.cons (.con (.int 1)) (.cons (.con (.int 2)) (.cons (.con (.int 4)) (.cons (.con (.int 8)) (.cons (.con (.int 16)) (.cons (.con (.int 32)) (.cons (.con (.int 64)) (.cons (.con (.int 128)) (.cons (.con (.int 256)) .nil)))))))))))
  (.cons (.ite (.val (.cmp .Gt (.var 2) (.con (.int 4))))
   (.cons (.set 2 (.call 8 (.cons (.var 0) (.cons (.con (.int 5)) .nil)) [] .nil))
   .nil)
   .nil)
  (.cons (.ite (.val (.cmp .Eq (.var 2) (.con (.int 0))))
   (.cons (.ret (.tup (.cons (.call 8 (.cons (.var 0) (.cons (.var 1) .nil)) [] .nil) .nil)))
   .nil)
   .nil)
  (.cons (.ite (.val (.cmp .Eq (.var 2) (.con (.int 1))))
   (.cons (.set 5 (.comp (.call 8 (.cons (.var 0) (.cons (.var 1) .nil)) [] .nil) (.name 6) (.range (.cons (.con (.int 3)) .nil)) .none [("k", 6)]))
   (.cons (.ret (.fn .tuple (.cons (.comp (.var 6) (.name 6) (.range (.cons (.var 1) .nil)) (.some (.val (.cmp .In (.var 6) (.var 5)))) [("k", 6)]) .nil)))
   .nil))
   .nil)
  (.cons (.set 4 (.op .Sub (.ix (.var 3) (.var 1)) (.con (.int 1))))
  (.cons (.ite (.val (.cmp .Eq (.var 2) (.con (.int 2))))
   (.cons (.set 4 (.op .Add (.con (.int 1)) (.call 8 (.cons (.var 0) (.cons (.var 4) .nil)) [] .nil)))
   .nil)
   .nil)
  (.cons (.ite (.val (.cmp .Eq (.var 2) (.con (.int 3))))
   (.cons (.set 4 (.op .Sub (.var 4) (.ix (.var 3) (.call 8 (.cons (.var 0) (.cons (.var 1) .nil)) [] .nil))))
   .nil)
   .nil)
  (.cons (.ret (.fn .tuple (.cons (.comp (.var 6) (.name 6) (.range (.cons (.var 1) .nil)) (.some (.val (.cmp .Eq (.op .Mod (.fn .int (.cons (.op .FloorDiv (.var 4) (.ix (.var 3) (.var 6))) .nil)) (.con (.int 2))) (.con (.int 1))))) [("k", 6)]) .nil)))
  .nil))))))))
def K_law_values : Ck := { N := N_law_values, gl := [], fn := [(8, "_law_draw", [(2, [])])], mt := [], mkr := [], cl := [], xr := [], hc := [] }
theorem ck_law_values : chkSs K_law_values (defScope s_law_values) ir_law_values (defBody s_law_values) = true := by decide +kernel
theorem sc_law_values : FnScope N_law_values ["pool", "many", "way"] (defScope s_law_values) := ⟨rfl, rfl, rfl, by decide +kernel, rfl, by decide +kernel, by decide +kernel⟩
abbrev s_law_words : Stmt := (top 22)
def N_law_words : List Str := ["pool", "many", "letters", "alike", "size", "word", "at", "shift", "words", "k", "new", "turn", "j"]
def ir_law_words : Ss :=
  (.cons (.set 2 (.con (.str "abcdefghijklmnopqrstuvwxyz")))
  (.cons (.set 3 (.call 8 (.cons (.var 0) (.cons (.con (.int 2)) .nil)) [] .nil))
  (.cons (.set 4 (.op .Add (.con (.int 1)) (.call 8 (.cons (.var 0) (.cons (.con (.int 12)) .nil)) [] .nil)))
  (.cons (.set 5 (.mt .join (.con (.str "")) (.cons (.comp (.ix (.var 2) (.call 8 (.cons (.var 0) (.cons (.con (.int 26)) .nil)) [] .nil)) (.name 9) (.range (.cons (.var 4) .nil)) .none [("k", 9)]) .nil)))
  (.cons (.set 6 (.call 8 (.cons (.var 0) (.cons (.var 4) .nil)) [] .nil))
  (.cons (.set 7 (.call 8 (.cons (.var 0) (.cons (.con (.int 26)) .nil)) [] .nil))
  (.cons (.set 8 (.cell (.lst .nil)))
  (.cons (.for_ (.name 9) (.range (.cons (.var 1) .nil))
   (.cons (.ite (.val (.cmp .Eq (.var 3) (.con (.int 0))))
    (.cons (.set 4 (.op .Add (.con (.int 1)) (.call 8 (.cons (.var 0) (.cons (.con (.int 12)) .nil)) [] .nil)))
    (.cons (.set 5 (.mt .join (.con (.str "")) (.cons (.comp (.ix (.var 2) (.call 8 (.cons (.var 0) (.cons (.con (.int 26)) .nil)) [] .nil)) (.name 12) (.range (.cons (.var 4) .nil)) .none [("j", 12)]) .nil)))
    (.cons (.set 6 (.call 8 (.cons (.var 0) (.cons (.var 4) .nil)) [] .nil))
    .nil)))
    .nil)
   (.cons (.set 10 (.var 5))
   (.cons (.for_ (.name 11) (.range (.cons (.con (.int 26)) .nil))
    (.cons (.set 10 (.op .Add (.op .Add (.slice (.var 5) .none (.some (.var 6))) (.ix (.var 2) (.op .Mod (.fn .int (.cons (.op .Add (.op .Add (.var 7) (.op .Mult (.con (.int 7)) (.var 9))) (.var 11)) .nil)) (.con (.int 26))))) (.slice (.var 5) (.some (.op .Add (.var 6) (.con (.int 1)))) .none)))
    (.cons (.ite (.val (.cmp .NotIn (.var 10) (.var 8)))
     (.cons (.brk)
     .nil)
     .nil)
    .nil)))
   (.cons (.expr (.mt .append (.var 8) (.cons (.var 10) .nil)))
   .nil)))))
  (.cons (.ret (.frz (.var 8)))
  .nil)))))))))
def K_law_words : Ck := { N := N_law_words, gl := [], fn := [(8, "_law_draw", [(2, [])])], mt := [], mkr := [], cl := [], xr := [], hc := [] }
theorem ck_law_words : chkSs K_law_words (defScope s_law_words) ir_law_words (defBody s_law_words) = true := by decide +kernel
theorem sc_law_words : FnScope N_law_words ["pool", "many"] (defScope s_law_words) := ⟨rfl, rfl, rfl, by decide +kernel, rfl, by decide +kernel, by decide +kernel⟩
abbrev s_law_bad_day : Stmt := (top 28)
def N_law_bad_day : List Str := ["pool", "rows"]
def ir_law_bad_day : Ss :=
  (.cons (.set 1 (.tup (.cons (.neg (.con (.int 1))) (.cons (.con (.int 1000)) (.cons (.con (.bl true)) (.cons (.con (.bl false)) (.cons (.con .non) (.cons (.con (.str "7")) (.cons (.tup (.cons (.con (.int 7)) .nil)) (.cons (.op .Pow (.con (.int 10)) (.con (.int 28))) (.cons (.op .Add (.con (.int 1000)) (.call 8 (.cons (.var 0) (.cons (.con (.int 9000)) .nil)) [] .nil)) (.cons (.lst (.cons (.con (.int 0)) .nil)) .nil))))))))))))
  (.cons (.ret (.ix (.var 1) (.call 8 (.cons (.var 0) (.cons (.fn .len (.cons (.var 1) .nil)) .nil)) [] .nil)))
  .nil))
def K_law_bad_day : Ck := { N := N_law_bad_day, gl := [], fn := [(8, "_law_draw", [(2, [])])], mt := [], mkr := [], cl := [], xr := [], hc := [] }
theorem ck_law_bad_day : chkSs K_law_bad_day (defScope s_law_bad_day) ir_law_bad_day (defBody s_law_bad_day) = true := by decide +kernel
theorem sc_law_bad_day : FnScope N_law_bad_day ["pool"] (defScope s_law_bad_day) := ⟨rfl, rfl, rfl, by decide +kernel, rfl, by decide +kernel, by decide +kernel⟩
abbrev s_law_bad_marks : Stmt := (top 27)
def N_law_bad_marks : List Str := ["pool", "marks", "at", "row", "last", "one", "rows", "k"]
def ir_law_bad_marks : Ss :=
  (.cons (.set 2 (.call 8 (.cons (.var 0) (.cons (.fn .len (.cons (.var 1) .nil)) .nil)) [] .nil))
  (.cons (.set 3 (.ix (.var 1) (.var 2)))
  (.cons (.set 4 (.ix (.var 3) (.op .Sub (.fn .len (.cons (.var 3) .nil)) (.con (.int 1)))))
  (.cons (.set 5 (.ix (.tup (.cons (.op .Add (.var 3) (.tup (.cons (.con (.int 8)) .nil))) (.cons (.tup .nil) (.cons (.op .Add (.tup (.cons (.neg (.con (.int 1))) .nil)) (.var 3)) (.cons (.op .Add (.var 3) (.tup (.cons (.var 4) .nil))) (.cons (.op .Add (.var 3) (.tup (.cons (.con (.int 0)) .nil))) (.cons (.op .Add (.slice (.var 3) .none (.some (.neg (.con (.int 1))))) (.tup (.cons (.con (.bl true)) .nil))) (.cons (.op .Add (.slice (.var 3) .none (.some (.neg (.con (.int 1))))) (.tup (.cons (.fn .str (.cons (.var 4) .nil)) .nil))) (.cons (.con .non) (.cons (.var 4) (.cons (.con (.str "0")) (.cons (.tup (.cons (.var 3) .nil)) (.cons (.op .Add (.slice (.var 3) .none (.some (.neg (.con (.int 1))))) (.tup (.cons (.op .Pow (.con (.int 10)) (.con (.int 28))) .nil))) (.cons (.op .Add (.fn .list (.cons (.var 3) .nil)) (.lst (.cons (.var 4) .nil))) (.cons (.op .Add (.slice (.var 3) .none (.some (.neg (.con (.int 1))))) (.tup (.cons (.con (.int 8)) .nil))) (.cons (.lst (.cons (.con .non) .nil)) .nil)))))))))))))))) (.call 8 (.cons (.var 0) (.cons (.con (.int 15)) .nil)) [] .nil)))
  (.cons (.set 6 (.comp (.op .Add (.op .Add (.slice (.var 1) .none (.some (.var 2))) (.tup (.cons (.var 5) .nil))) (.slice (.var 1) (.some (.op .Add (.var 2) (.con (.int 1)))) .none)) (.name 7) (.range (.cons (.con (.int 6)) .nil)) .none [("k", 7)]))
  (.cons (.set 6 (.op .Add (.var 6) (.lst (.cons (.tup .nil) (.cons (.lst .nil) (.cons (.con .non) (.cons (.con (.int 5)) (.cons (.con (.str "01")) (.cons (.op .Add (.slice (.op .Add (.var 1) (.op .Mult (.tup (.cons (.tup (.cons (.con (.int 0)) .nil)) (.cons (.tup (.cons (.con (.int 1)) .nil)) .nil))) (.con (.int 3)))) .none (.some (.con (.int 6)))) (.tup (.cons (.tup (.cons (.con (.int 0)) .nil)) .nil))) (.cons (.op .Mult (.lst (.cons (.tup (.cons (.con (.int 0)) .nil)) .nil)) (.con (.int 7))) (.cons (.ix (.ix (.var 1) (.var 2)) (.con (.int 0))) .nil)))))))))))
  (.cons (.ret (.ix (.var 6) (.call 8 (.cons (.var 0) (.cons (.fn .len (.cons (.var 6) .nil)) .nil)) [] .nil)))
  .nil)))))))
def K_law_bad_marks : Ck := { N := N_law_bad_marks, gl := [], fn := [(8, "_law_draw", [(2, [])])], mt := [], mkr := [], cl := [], xr := [], hc := [] }
theorem ck_law_bad_marks : chkSs K_law_bad_marks (defScope s_law_bad_marks) ir_law_bad_marks (defBody s_law_bad_marks) = true := by decide +kernel
theorem sc_law_bad_marks : FnScope N_law_bad_marks ["pool", "marks"] (defScope s_law_bad_marks) := ⟨rfl, rfl, rfl, by decide +kernel, rfl, by decide +kernel, by decide +kernel⟩
abbrev s_law_bad_name : Stmt := (top 26)
def N_law_bad_name : List Str := ["pool", "name", "rows"]
def ir_law_bad_name : Ss :=
  (.cons (.set 2 (.tup (.cons (.con (.str "")) (.cons (.op .Add (.var 1) (.con (.str "abcdefghijklm"))) (.cons (.op .Add (.slice (.var 1) .none (.some (.neg (.con (.int 1))))) (.con (.str "A"))) (.cons (.op .Add (.slice (.var 1) .none (.some (.neg (.con (.int 1))))) (.con (.str "1"))) (.cons (.op .Add (.slice (.var 1) .none (.some (.neg (.con (.int 1))))) (.con (.str " "))) (.cons (.op .Add (.slice (.var 1) .none (.some (.neg (.con (.int 1))))) (.con (.str "-"))) (.cons (.con .non) (.cons (.con (.int 5)) (.cons (.con (.bl true)) (.cons (.tup (.cons (.var 1) .nil)) (.cons (.lst (.cons (.var 1) .nil)) (.cons (.op .Add (.slice (.var 1) (.some (.con (.int 1))) .none) (.con (.str "_"))) (.cons (.con (.str "abcdefghijklm")) .nil)))))))))))))))
  (.cons (.ret (.ix (.var 2) (.call 8 (.cons (.var 0) (.cons (.fn .len (.cons (.var 2) .nil)) .nil)) [] .nil)))
  .nil))
def K_law_bad_name : Ck := { N := N_law_bad_name, gl := [], fn := [(8, "_law_draw", [(2, [])])], mt := [], mkr := [], cl := [], xr := [], hc := [] }
theorem ck_law_bad_name : chkSs K_law_bad_name (defScope s_law_bad_name) ir_law_bad_name (defBody s_law_bad_name) = true := by decide +kernel
theorem sc_law_bad_name : FnScope N_law_bad_name ["pool", "name"] (defScope s_law_bad_name) := ⟨rfl, rfl, rfl, by decide +kernel, rfl, by decide +kernel, by decide +kernel⟩
abbrev s_law_refused : Stmt := (top 25)
def N_law_refused : List Str := ["which", "name", "marks", "day", "e"]
def ir_law_refused : Ss :=
  (.cons (.try_
   (.cons (.ite (.val (.cmp .Eq (.var 0) (.con (.int 0))))
    (.cons (.expr (.make 18 (.cons (.var 1) (.cons (.var 2) .nil)) [] .nil))
    .nil)
    (.cons (.expr (.make 19 (.cons (.var 1) (.cons (.var 2) (.cons (.var 3) .nil))) [] .nil))
    .nil))
   .nil)
   [{ c := 4, i := (some 4), su := .retT [.con (.str "thing"), .fld "part"] }, { c := 3, i := (some 4), su := .retT [.con (.str "marks"), .fld "value"] }])
  (.cons (.ret (.tup (.cons (.con (.str "none")) .nil)))
  .nil))
def K_law_refused : Ck := { N := N_law_refused, gl := [], fn := [], mt := [], mkr := [(19, "Claim", [(4, []), (1, ["day", "name", "marks"])]), (18, "Find", [(3, []), (1, ["marks", "name"])])], cl := [], xr := [], hc := [(3, "InvalidMarks"), (4, "InvalidThing")] }
theorem ck_law_refused : chkSs K_law_refused (defScope s_law_refused) ir_law_refused (defBody s_law_refused) = true := by decide +kernel
theorem sc_law_refused : FnScope N_law_refused ["which", "name", "marks", "day"] (defScope s_law_refused) := ⟨rfl, rfl, rfl, by decide +kernel, rfl, by decide +kernel, by decide +kernel⟩
abbrev s_law_wrong_ones : Stmt := (top 29)
def N_law_wrong_ones : List Str := ["pool", "name", "marks", "day", "bad"]
def ir_law_wrong_ones : Ss :=
  (.cons (.set 4 (.call 27 (.cons (.var 0) (.cons (.var 1) .nil)) [] .nil))
  (.cons (.ite (.not (.val (.call 9 (.cons (.call 20 (.cons (.call 8 (.cons (.var 0) (.cons (.con (.int 2)) .nil)) [] .nil) (.cons (.var 4) (.cons (.var 2) (.cons (.var 3) .nil)))) [] .nil) (.cons (.tup (.cons (.con (.str "thing")) (.cons (.con (.str "name")) .nil))) .nil)) [] .nil)))
   (.cons (.ret (.con (.bl false)))
   .nil)
   .nil)
  (.cons (.ite (.not (.val (.call 9 (.cons (.call 20 (.cons (.call 8 (.cons (.var 0) (.cons (.con (.int 2)) .nil)) [] .nil) (.cons (.var 4) (.cons (.call 29 (.cons (.var 0) (.cons (.var 2) .nil)) [] .nil) (.cons (.call 28 (.cons (.var 0) .nil) [] .nil) .nil)))) [] .nil) (.cons (.tup (.cons (.con (.str "thing")) (.cons (.con (.str "name")) .nil))) .nil)) [] .nil)))
   (.cons (.ret (.con (.bl false)))
   .nil)
   .nil)
  (.cons (.set 4 (.call 29 (.cons (.var 0) (.cons (.var 2) .nil)) [] .nil))
  (.cons (.ite (.not (.val (.call 9 (.cons (.call 20 (.cons (.con (.int 0)) (.cons (.var 1) (.cons (.var 4) (.cons (.con (.int 0)) .nil)))) [] .nil) (.cons (.tup (.cons (.con (.str "marks")) (.cons (.var 4) .nil))) .nil)) [] .nil)))
   (.cons (.ret (.con (.bl false)))
   .nil)
   .nil)
  (.cons (.ite (.not (.val (.call 9 (.cons (.call 20 (.cons (.con (.int 1)) (.cons (.var 1) (.cons (.var 4) (.cons (.ix (.tup (.cons (.var 3) (.cons (.call 28 (.cons (.var 0) .nil) [] .nil) .nil))) (.call 8 (.cons (.var 0) (.cons (.con (.int 2)) .nil)) [] .nil)) .nil)))) [] .nil) (.cons (.tup (.cons (.con (.str "marks")) (.cons (.var 4) .nil))) .nil)) [] .nil)))
   (.cons (.ret (.con (.bl false)))
   .nil)
   .nil)
  (.cons (.ret (.call 9 (.cons (.call 20 (.cons (.con (.int 1)) (.cons (.var 1) (.cons (.var 2) (.cons (.call 28 (.cons (.var 0) .nil) [] .nil) .nil)))) [] .nil) (.cons (.tup (.cons (.con (.str "thing")) (.cons (.con (.str "day")) .nil))) .nil)) [] .nil))
  .nil)))))))
def K_law_wrong_ones : Ck := { N := N_law_wrong_ones, gl := [], fn := [(28, "_law_bad_day", [(1, [])]), (29, "_law_bad_marks", [(2, [])]), (27, "_law_bad_name", [(2, [])]), (8, "_law_draw", [(2, [])]), (20, "_law_refused", [(4, [])]), (9, "_law_same", [(2, [])])], mt := [], mkr := [], cl := [], xr := [], hc := [] }
theorem ck_law_wrong_ones : chkSs K_law_wrong_ones (defScope s_law_wrong_ones) ir_law_wrong_ones (defBody s_law_wrong_ones) = true := by decide +kernel
theorem sc_law_wrong_ones : FnScope N_law_wrong_ones ["pool", "name", "marks", "day"] (defScope s_law_wrong_ones) := ⟨rfl, rfl, rfl, by decide +kernel, rfl, by decide +kernel, by decide +kernel⟩
abbrev s_law : Stmt := (top 31)
def N_law : List Str := ["script", "pool", "words", "marks", "day", "rows", "one", "two", "turn", "name", "other", "row", "k"]
def ir_law : Ss :=
  (.cons (.set 1 (.cell (.call 16 (.cons (.var 0) .nil) [] .nil)))
  (.cons (.set 2 (.call 12 (.cons (.var 1) (.cons (.con (.int 2)) .nil)) [] .nil))
  (.cons (.par [9, 10] (.cons (.ix (.var 2) (.con (.int 0))) (.cons (.ix (.var 2) (.con (.int 1))) .nil)))
  (.cons (.set 3 (.fn .tuple (.cons (.comp (.call 13 (.cons (.var 1) (.cons (.op .Add (.con (.int 2)) (.call 8 (.cons (.var 1) (.cons (.con (.int 7)) .nil)) [] .nil)) (.cons (.con (.int 5)) .nil))) [] .nil) (.name 12) (.range (.cons (.op .Add (.con (.int 1)) (.call 8 (.cons (.var 1) (.cons (.con (.int 6)) .nil)) [] .nil)) .nil)) .none [("k", 12)]) .nil)))
  (.cons (.set 4 (.ix (.tup (.cons (.con (.int 0)) (.cons (.con (.int 999)) (.cons (.call 8 (.cons (.var 1) (.cons (.con (.int 1000)) .nil)) [] .nil) .nil)))) (.call 8 (.cons (.var 1) (.cons (.con (.int 3)) .nil)) [] .nil)))
  (.cons (.set 5 (.cell (.comp (.cell (.fn .list (.cons (.var 11) .nil))) (.name 11) (.seq (.var 3)) .none [("row", 11)])))
  (.cons (.set 6 (.make 18 (.cons (.var 9) (.cons (.var 5) .nil)) [] .nil))
  (.cons (.set 7 (.make 19 (.cons (.var 9) (.cons (.var 5) (.cons (.var 4) .nil))) [] .nil))
  (.cons (.expr (.mt .append (.ix (.var 5) (.con (.int 0))) (.cons (.con (.int 8)) .nil)))
  (.cons (.expr (.mt .append (.var 5) (.cons (.lst .nil) .nil)))
  (.cons (.ite (.or (.not (.val (.call 9 (.cons (.tup (.cons (.fld (.var 6) "name") (.cons (.fld (.var 6) "marks") .nil))) (.cons (.tup (.cons (.var 9) (.cons (.var 3) .nil))) .nil)) [] .nil))) (.not (.val (.call 9 (.cons (.tup (.cons (.fld (.var 7) "name") (.cons (.fld (.var 7) "marks") (.cons (.fld (.var 7) "day") .nil)))) (.cons (.tup (.cons (.var 9) (.cons (.var 3) (.cons (.var 4) .nil)))) .nil)) [] .nil))))
   (.cons (.ret (.con (.bl false)))
   .nil)
   .nil)
  (.cons (.ite (.not (.val (.call 9 (.cons (.lst (.cons (.ieq false 13 (.var 6) (.make 18 .nil ["marks", "name"] (.cons (.var 3) (.cons (.var 9) .nil)))) (.cons (.ieq false 14 (.var 7) (.make 19 .nil ["day", "name", "marks"] (.cons (.var 4) (.cons (.var 9) (.cons (.var 3) .nil))))) .nil))) (.cons (.lst (.cons (.con (.bl true)) (.cons (.con (.bl true)) .nil))) .nil)) [] .nil)))
   (.cons (.ret (.con (.bl false)))
   .nil)
   .nil)
  (.cons (.ite (.not (.val (.call 30 (.cons (.var 1) (.cons (.var 9) (.cons (.var 3) (.cons (.var 4) (.cons (.var 10) .nil))))) [] .nil)))
   (.cons (.ret (.con (.bl false)))
   .nil)
   .nil)
  (.cons (.for_ (.name 8) (.range (.cons (.con (.int 3)) .nil))
   (.cons (.ite (.not (.val (.call 23 (.cons (.var 1) (.cons (.var 9) (.cons (.var 3) (.cons (.var 4) .nil)))) [] .nil)))
    (.cons (.ret (.con (.bl false)))
    .nil)
    .nil)
   .nil))
  (.cons (.ret (.call 9 (.cons (.tup (.cons (.fld (.var 7) "name") (.cons (.fld (.var 7) "marks") (.cons (.fld (.var 7) "day") (.cons (.fld (.var 6) "marks") .nil))))) (.cons (.tup (.cons (.var 9) (.cons (.var 3) (.cons (.var 4) (.cons (.var 3) .nil))))) .nil)) [] .nil))
  .nil)))))))))))))))
def K_law : Ck := { N := N_law, gl := [], fn := [(8, "_law_draw", [(2, [])]), (16, "_law_pool", [(1, [])]), (9, "_law_same", [(2, [])]), (30, "_law_unlike", [(5, [])]), (13, "_law_values", [(3, [])]), (12, "_law_words", [(2, [])]), (23, "_law_wrong_ones", [(4, [])])], mt := [], mkr := [(19, "Claim", [(4, []), (1, ["day", "name", "marks"])]), (18, "Find", [(3, []), (1, ["marks", "name"])])], cl := [], xr := [], hc := [], eq := [14, 13] }
theorem ck_law : chkSs K_law (defScope s_law) ir_law (defBody s_law) = true := by decide +kernel
theorem sc_law : FnScope N_law ["script"] (defScope s_law) := ⟨rfl, rfl, rfl, by decide +kernel, rfl, by decide +kernel, by decide +kernel⟩
abbrev s_InvalidMarks_init : Stmt := (inClass (top 2) 0)
theorem sc_InvalidMarks_init : FnScope ["self", "value"] ["self", "value"] (defScope s_InvalidMarks_init) := ⟨rfl, rfl, rfl, by decide +kernel, rfl, by decide +kernel, by decide +kernel⟩
abbrev s_InvalidThing_init : Stmt := (inClass (top 3) 0)
theorem sc_InvalidThing_init : FnScope ["self", "part"] ["self", "part"] (defScope s_InvalidThing_init) := ⟨rfl, rfl, rfl, by decide +kernel, rfl, by decide +kernel, by decide +kernel⟩end PL
namespace PL
open PySem PySem.Spec PyProof.Rows L2
def isInt : D → Bool
  | .int _ => true
  | _ => false
def inFT (d : D) (a b : Int) : Bool := match d with
  | .int i => decide (a ≤ i) && decide (i ≤ b)
  | _ => false
def sp_is_integer : DSp := fun ds M Q _ => ∃ d, ds = [d] ∧ pureD d = true ∧ Q (.val (.bl (isInt d))) M
theorem ok_is_integer {T : Tb} : SpOk T N_is_integer ir_is_integer 1 sp_is_integer := by
  rintro ds M Q E hl ⟨d, rfl, hp, hq⟩
  show wpSs T ir_is_integer _ [some d] M
  unfold ir_is_integer
  cases d <;> first | (simp [pureD] at hp; done) | (simp only [wpSs, wpS, wpE, wpEs, wpEo, wpC, wpT, wpSrc, Rd_val, Rd_new, frz_lst, frz_ins, List.getElem?_cons_zero, List.getElem?_cons_succ, List.set_cons_zero, List.set_cons_succ, kw_nil, bindT, wipeD, List.map_cons, List.map_nil, List.zip_cons_cons, List.zip_nil_right, List.zip_nil_left, List.foldl_cons, List.foldl_nil, o_add, o_adds, o_addt, o_addl, o_sub, o_mul, o_mult, o_mull, o_muls, o_div, o_mod, o_pow, c_lt, c_le, c_gt, c_ge, c_eq, c_ne, c_in, c_ni, c_is, c_isn, e_int, e_str, e_bool, t_bl, t_int, t_lst, t_tup, t_non, f_lent, f_lenl, f_lens, f_lbt, f_lbl, f_lbs, f_inti, f_tupl, f_tupt, f_lstt, f_lstl, f_stri, y_non, y_bl, y_int, y_str, y_tup, y_lst, y_ins, rg_1, rg_2, sq_tup, sq_lst, zp_tup, en_lst, en_tup, aL_lst, sl_t, sl_s, Ty.below, List.any_cons, List.any_nil, subT, Bool.or_false, Bool.not_true, Bool.not_false, true_and, and_true, reduceCtorEq, decide_false, decide_true, Bool.false_eq_true, if_false, if_true, Bool.not_eq_true', Bool.not_not]; exact hq)
def sp_is_from_to : DSp := fun ds M Q _ => ∃ d a b, ds = [d, .int a, .int b] ∧ pureD d = true ∧ Q (.val (.bl (inFT d a b))) M
theorem ok_is_from_to {T : Tb} (h0 : T.fn 0 = sp_is_integer) : SpOk T N_is_from_to ir_is_from_to 3 sp_is_from_to := by
  rintro ds M Q E hl ⟨d, a, b, rfl, hp, hq⟩
  show wpSs T ir_is_from_to _ [some d, some (.int a), some (.int b)] M
  unfold ir_is_from_to
  simp only [wpSs, wpS, wpE, wpEs, wpEo, wpC, wpT, wpSrc, Rd_val, Rd_new, frz_lst, frz_ins, List.getElem?_cons_zero, List.getElem?_cons_succ, List.set_cons_zero, List.set_cons_succ, kw_nil, bindT, wipeD, List.map_cons, List.map_nil, List.zip_cons_cons, List.zip_nil_right, List.zip_nil_left, List.foldl_cons, List.foldl_nil, o_add, o_adds, o_addt, o_addl, o_sub, o_mul, o_mult, o_mull, o_muls, o_div, o_mod, o_pow, c_lt, c_le, c_gt, c_ge, c_eq, c_ne, c_in, c_ni, c_is, c_isn, e_int, e_str, e_bool, t_bl, t_int, t_lst, t_tup, t_non, f_lent, f_lenl, f_lens, f_lbt, f_lbl, f_lbs, f_inti, f_tupl, f_tupt, f_lstt, f_lstl, f_stri, y_non, y_bl, y_int, y_str, y_tup, y_lst, y_ins, rg_1, rg_2, sq_tup, sq_lst, zp_tup, en_lst, en_tup, aL_lst, sl_t, sl_s, Ty.below, List.any_cons, List.any_nil, subT, Bool.or_false, Bool.not_true, Bool.not_false, true_and, and_true, reduceCtorEq, decide_false, decide_true, Bool.false_eq_true, if_false, if_true, Bool.not_eq_true', Bool.not_not]
  rw [h0]
  refine ⟨d, rfl, hp, ?_⟩
  cases d <;> first | exact hq | skip
  rename_i i
  simp only [wpSs, wpS, wpE, wpEs, wpEo, wpC, wpT, wpSrc, Rd_val, Rd_new, frz_lst, frz_ins, List.getElem?_cons_zero, List.getElem?_cons_succ, List.set_cons_zero, List.set_cons_succ, kw_nil, bindT, wipeD, List.map_cons, List.map_nil, List.zip_cons_cons, List.zip_nil_right, List.zip_nil_left, List.foldl_cons, List.foldl_nil, o_add, o_adds, o_addt, o_addl, o_sub, o_mul, o_mult, o_mull, o_muls, o_div, o_mod, o_pow, c_lt, c_le, c_gt, c_ge, c_eq, c_ne, c_in, c_ni, c_is, c_isn, e_int, e_str, e_bool, t_bl, t_int, t_lst, t_tup, t_non, f_lent, f_lenl, f_lens, f_lbt, f_lbl, f_lbs, f_inti, f_tupl, f_tupt, f_lstt, f_lstl, f_stri, y_non, y_bl, y_int, y_str, y_tup, y_lst, y_ins, rg_1, rg_2, sq_tup, sq_lst, zp_tup, en_lst, en_tup, aL_lst, sl_t, sl_s, Ty.below, List.any_cons, List.any_nil, subT, Bool.or_false, Bool.not_true, Bool.not_false, true_and, and_true, reduceCtorEq, decide_false, decide_true, Bool.false_eq_true, if_false, if_true, Bool.not_eq_true', Bool.not_not]
  simp only [isInt, if_true, inFT] at hq ⊢
  split
  · rename_i h; rw [h, Bool.true_and] at hq; exact hq
  · rename_i h; rw [Bool.not_eq_true] at h; rw [h, Bool.false_and] at hq; exact hq
def isSeq : D → Bool
  | .tup _ => true
  | .lst _ => true
  | _ => false
def featD (f : Str × Int × Int) : D := .tup [.str f.1, .int f.2.1, .int f.2.2]
def kindsD (fs : List (Str × Int × Int)) : D := .ins 0 ["features"] [.tup (fs.map featD)]
/-! words -/
def wordOk (x : Str) : Bool := decide (1 ≤ x.length) && decide (x.length ≤ 12) && x.cps.toList.all fun c => decide (97 ≤ c) && decide (c ≤ 122)
abbrev sp_law_draw : DSp := sp_draw
theorem ok_law_draw {T : Tb} : SpOk T N_law_draw ir_law_draw 2 sp_law_draw := by
  rintro ds M Q E hl ⟨p, n, rfl, h0, h1, ⟨l, hM, s, r, rfl, hs0, hs1, hr, hl2⟩, hq⟩
  show wpSs T ir_law_draw _ [some (.ref p), some (.int n), none] M
  unfold ir_law_draw
  simp only [wpSs, wpS, wpE, wpEs, wpEo, wpC, wpT, wpSrc, Rd_val, Rd_new, frz_lst, frz_ins, List.getElem?_cons_zero, List.getElem?_cons_succ, List.set_cons_zero, List.set_cons_succ, kw_nil, bindT, wipeD, List.map_cons, List.map_nil, List.zip_cons_cons, List.zip_nil_right, List.zip_nil_left, List.foldl_cons, List.foldl_nil, o_add, o_adds, o_addt, o_addl, o_sub, o_mul, o_mult, o_mull, o_muls, o_div, o_mod, o_pow, c_lt, c_le, c_gt, c_ge, c_eq, c_ne, c_in, c_ni, c_is, c_isn, e_int, e_str, e_bool, t_bl, t_int, t_lst, t_tup, t_non, f_lent, f_lenl, f_lens, f_lbt, f_lbl, f_lbs, f_inti, f_tupl, f_tupt, f_lstt, f_lstl, f_stri, y_non, y_bl, y_int, y_str, y_tup, y_lst, y_ins, rg_1, rg_2, sq_tup, sq_lst, zp_tup, en_lst, en_tup, aL_lst, sl_t, sl_s, Ty.below, List.any_cons, List.any_nil, subT, Bool.or_false, Bool.not_true, Bool.not_false, true_and, and_true, reduceCtorEq, decide_false, decide_true, Bool.false_eq_true, if_false, if_true, Bool.not_eq_true', Bool.not_not]
  rw [len_c hM]
  simp only [wpSs, wpS, wpE, wpEs, wpEo, wpC, wpT, wpSrc, Rd_val, Rd_new, frz_lst, frz_ins, List.getElem?_cons_zero, List.getElem?_cons_succ, List.set_cons_zero, List.set_cons_succ, kw_nil, bindT, wipeD, List.map_cons, List.map_nil, List.zip_cons_cons, List.zip_nil_right, List.zip_nil_left, List.foldl_cons, List.foldl_nil, o_add, o_adds, o_addt, o_addl, o_sub, o_mul, o_mult, o_mull, o_muls, o_div, o_mod, o_pow, c_lt, c_le, c_gt, c_ge, c_eq, c_ne, c_in, c_ni, c_is, c_isn, e_int, e_str, e_bool, t_bl, t_int, t_lst, t_tup, t_non, f_lent, f_lenl, f_lens, f_lbt, f_lbl, f_lbs, f_inti, f_tupl, f_tupt, f_lstt, f_lstl, f_stri, y_non, y_bl, y_int, y_str, y_tup, y_lst, y_ins, rg_1, rg_2, sq_tup, sq_lst, zp_tup, en_lst, en_tup, aL_lst, sl_t, sl_s, Ty.below, List.any_cons, List.any_nil, subT, Bool.or_false, Bool.not_true, Bool.not_false, true_and, and_true, reduceCtorEq, decide_false, decide_true, Bool.false_eq_true, if_false, if_true, Bool.not_eq_true', Bool.not_not]
  have hlog := log_n h0 h1
  cases r with
  | nil =>
    rw [if_neg (by simp)]
    rw [ix_c (i := 0) hM (at_int (by decide) rfl), ix_c (i := 0) hM (at_int (by decide) rfl)]
    have hm0 : ∀ x : Int, 0 ≤ x % 2305843009213693951 := fun x => Int.emod_nonneg _ (by decide)
    have hm1 : ∀ x : Int, x % 2305843009213693951 < 2305843009213693951 := fun x => Int.emod_lt_of_pos _ (by decide)
    simp only [wpSs, wpS, wpE, wpEs, wpEo, wpC, wpT, wpSrc, Rd_val, Rd_new, frz_lst, frz_ins, List.getElem?_cons_zero, List.getElem?_cons_succ, List.set_cons_zero, List.set_cons_succ, kw_nil, bindT, wipeD, List.map_cons, List.map_nil, List.zip_cons_cons, List.zip_nil_right, List.zip_nil_left, List.foldl_cons, List.foldl_nil, o_add, o_adds, o_addt, o_addl, o_sub, o_mul, o_mult, o_mull, o_muls, o_div, o_mod, o_pow, c_lt, c_le, c_gt, c_ge, c_eq, c_ne, c_in, c_ni, c_is, c_isn, e_int, e_str, e_bool, t_bl, t_int, t_lst, t_tup, t_non, f_lent, f_lenl, f_lens, f_lbt, f_lbl, f_lbs, f_inti, f_tupl, f_tupt, f_lstt, f_lstl, f_stri, y_non, y_bl, y_int, y_str, y_tup, y_lst, y_ins, rg_1, rg_2, sq_tup, sq_lst, zp_tup, en_lst, en_tup, aL_lst, sl_t, sl_s, Ty.below, List.any_cons, List.any_nil, subT, Bool.or_false, Bool.not_true, Bool.not_false, true_and, and_true, reduceCtorEq, decide_false, decide_true, Bool.false_eq_true, if_false, if_true, Bool.not_eq_true', Bool.not_not]
    refine ⟨by have := log_small hs0 hs1; omega, by decide, ?_⟩
    rw [set_c hM (j := 0) rfl]
    simp only [List.map_cons, List.map_nil, List.set_cons_zero]
    have hM2 : mput M p (.lst [.int ((s * s + 40014) % 2305843009213693951)]) p = some (.lst [.int ((s * s + 40014) % 2305843009213693951)]) := mput_same
    rw [ix_c (i := 0) hM2 (at_int (by decide) rfl)]
    simp only [wpSs, wpS, wpE, wpEs, wpEo, wpC, wpT, wpSrc, Rd_val, Rd_new, frz_lst, frz_ins, List.getElem?_cons_zero, List.getElem?_cons_succ, List.set_cons_zero, List.set_cons_succ, kw_nil, bindT, wipeD, List.map_cons, List.map_nil, List.zip_cons_cons, List.zip_nil_right, List.zip_nil_left, List.foldl_cons, List.foldl_nil, o_add, o_adds, o_addt, o_addl, o_sub, o_mul, o_mult, o_mull, o_muls, o_div, o_mod, o_pow, c_lt, c_le, c_gt, c_ge, c_eq, c_ne, c_in, c_ni, c_is, c_isn, e_int, e_str, e_bool, t_bl, t_int, t_lst, t_tup, t_non, f_lent, f_lenl, f_lens, f_lbt, f_lbl, f_lbs, f_inti, f_tupl, f_tupt, f_lstt, f_lstl, f_stri, y_non, y_bl, y_int, y_str, y_tup, y_lst, y_ins, rg_1, rg_2, sq_tup, sq_lst, zp_tup, en_lst, en_tup, aL_lst, sl_t, sl_s, Ty.below, List.any_cons, List.any_nil, subT, Bool.or_false, Bool.not_true, Bool.not_false, true_and, and_true, reduceCtorEq, decide_false, decide_true, Bool.false_eq_true, if_false, if_true, Bool.not_eq_true', Bool.not_not]
    refine ⟨⟨by decide, by decide⟩, h0, ?_⟩
    exact hq _ _ (Int.emod_nonneg _ (by omega)) (Int.emod_lt_of_pos _ h0) (Step.put (l := [(s * s + 40014) % 2305843009213693951]) ⟨_, [], rfl, hm0 _, hm1 _, by simp, by simp⟩)
  | cons z r =>
    rw [if_pos (by simp; omega)]
    have hz : 0 < z := hr z List.mem_cons_self
    rw [ix_c (i := 1) hM (at_int (by decide) rfl)]
    simp only [wpSs, wpS, wpE, wpEs, wpEo, wpC, wpT, wpSrc, Rd_val, Rd_new, frz_lst, frz_ins, List.getElem?_cons_zero, List.getElem?_cons_succ, List.set_cons_zero, List.set_cons_succ, kw_nil, bindT, wipeD, List.map_cons, List.map_nil, List.zip_cons_cons, List.zip_nil_right, List.zip_nil_left, List.foldl_cons, List.foldl_nil, o_add, o_adds, o_addt, o_addl, o_sub, o_mul, o_mult, o_mull, o_muls, o_div, o_mod, o_pow, c_lt, c_le, c_gt, c_ge, c_eq, c_ne, c_in, c_ni, c_is, c_isn, e_int, e_str, e_bool, t_bl, t_int, t_lst, t_tup, t_non, f_lent, f_lenl, f_lens, f_lbt, f_lbl, f_lbs, f_inti, f_tupl, f_tupt, f_lstt, f_lstl, f_stri, y_non, y_bl, y_int, y_str, y_tup, y_lst, y_ins, rg_1, rg_2, sq_tup, sq_lst, zp_tup, en_lst, en_tup, aL_lst, sl_t, sl_s, Ty.below, List.any_cons, List.any_nil, subT, Bool.or_false, Bool.not_true, Bool.not_false, true_and, and_true, reduceCtorEq, decide_false, decide_true, Bool.false_eq_true, if_false, if_true, Bool.not_eq_true', Bool.not_not]
    refine ⟨h0, ?_⟩
    rw [ix_c (i := 1) hM (at_int (by decide) rfl)]
    simp only [wpSs, wpS, wpE, wpEs, wpEo, wpC, wpT, wpSrc, Rd_val, Rd_new, frz_lst, frz_ins, List.getElem?_cons_zero, List.getElem?_cons_succ, List.set_cons_zero, List.set_cons_succ, kw_nil, bindT, wipeD, List.map_cons, List.map_nil, List.zip_cons_cons, List.zip_nil_right, List.zip_nil_left, List.foldl_cons, List.foldl_nil, o_add, o_adds, o_addt, o_addl, o_sub, o_mul, o_mult, o_mull, o_muls, o_div, o_mod, o_pow, c_lt, c_le, c_gt, c_ge, c_eq, c_ne, c_in, c_ni, c_is, c_isn, e_int, e_str, e_bool, t_bl, t_int, t_lst, t_tup, t_non, f_lent, f_lenl, f_lens, f_lbt, f_lbl, f_lbs, f_inti, f_tupl, f_tupt, f_lstt, f_lstl, f_stri, y_non, y_bl, y_int, y_str, y_tup, y_lst, y_ins, rg_1, rg_2, sq_tup, sq_lst, zp_tup, en_lst, en_tup, aL_lst, sl_t, sl_s, Ty.below, List.any_cons, List.any_nil, subT, Bool.or_false, Bool.not_true, Bool.not_false, true_and, and_true, reduceCtorEq, decide_false, decide_true, Bool.false_eq_true, if_false, if_true, Bool.not_eq_true', Bool.not_not]
    refine ⟨⟨h0, hlog⟩, ?_⟩
    rw [set_c hM (j := 1) (by simp [ixN]; omega)]
    simp only [List.map_cons, List.map_nil, List.set_cons_zero, List.set_cons_succ]
    have hM2 : mput M p (.lst (.int s :: .int (z / n) :: r.map D.int)) p = some (.lst (.int s :: .int (z / n) :: r.map D.int)) := mput_same
    rw [ix_c (i := 1) hM2 (at_int (by decide) rfl)]
    simp only [wpSs, wpS, wpE, wpEs, wpEo, wpC, wpT, wpSrc, Rd_val, Rd_new, frz_lst, frz_ins, List.getElem?_cons_zero, List.getElem?_cons_succ, List.set_cons_zero, List.set_cons_succ, kw_nil, bindT, wipeD, List.map_cons, List.map_nil, List.zip_cons_cons, List.zip_nil_right, List.zip_nil_left, List.foldl_cons, List.foldl_nil, o_add, o_adds, o_addt, o_addl, o_sub, o_mul, o_mult, o_mull, o_muls, o_div, o_mod, o_pow, c_lt, c_le, c_gt, c_ge, c_eq, c_ne, c_in, c_ni, c_is, c_isn, e_int, e_str, e_bool, t_bl, t_int, t_lst, t_tup, t_non, f_lent, f_lenl, f_lens, f_lbt, f_lbl, f_lbs, f_inti, f_tupl, f_tupt, f_lstt, f_lstl, f_stri, y_non, y_bl, y_int, y_str, y_tup, y_lst, y_ins, rg_1, rg_2, sq_tup, sq_lst, zp_tup, en_lst, en_tup, aL_lst, sl_t, sl_s, Ty.below, List.any_cons, List.any_nil, subT, Bool.or_false, Bool.not_true, Bool.not_false, true_and, and_true, reduceCtorEq, decide_false, decide_true, Bool.false_eq_true, if_false, if_true, Bool.not_eq_true', Bool.not_not]
    have r0 : 0 ≤ z % n := Int.emod_nonneg _ (by omega)
    have r1 : z % n < n := Int.emod_lt_of_pos _ h0
    by_cases e : z / n = 0
    · rw [if_pos (by simpa using e)]
      refine ⟨ty_c hM2 (by simp), ?_⟩
      rw [pat_c (i := 1) hM2 (j := 1) (v := .int (z / n)) (by simp [ixN]; omega) rfl, mput_mput]
      exact hq _ _ r0 r1 (Step.put (l := s :: r) ⟨s, r, rfl, hs0, hs1, fun x hx => hr x (List.mem_cons_of_mem _ hx), by simp at hl2; omega⟩)
    · rw [if_neg (by simpa using e)]
      have : 0 ≤ z / n := Int.ediv_nonneg (by omega) (by omega)
      exact hq _ _ r0 r1 (Step.put (l := s :: (z / n) :: r) ⟨s, _, rfl, hs0, hs1, fun x hx => by
        rcases List.mem_cons.mp hx with rfl | hx
        · omega
        · exact hr x (List.mem_cons_of_mem _ hx), hl2⟩)
/-! the pool's making -/
def sp_law_pool : DSp := fun ds M Q _ => ∃ ns : List Int, ds = [.lst (ns.map .int)] ∧ ns.length ≤ 63 ∧ ∀ l, PoolV l → Q (.new (.lst (l.map .int))) M
theorem ok_law_pool {T : Tb} : SpOk T N_law_pool ir_law_pool 1 sp_law_pool := by
  rintro ds M Q E hl ⟨ns, rfl, hn, hq⟩
  show wpSs T ir_law_pool _ [some (.lst (ns.map .int)), none, none, none] M
  unfold ir_law_pool
  have hm0 : ∀ x : Int, 0 ≤ x % 2305843009213693951 := fun x => Int.emod_nonneg _ (by decide)
  have hm1 : ∀ x : Int, x % 2305843009213693951 < 2305843009213693951 := fun x => Int.emod_lt_of_pos _ (by decide)
  simp only [wpSs, wpS, wpE, wpEs, wpEo, wpC, wpT, wpSrc, Rd_val, Rd_new, frz_lst, frz_ins, List.getElem?_cons_zero, List.getElem?_cons_succ, List.set_cons_zero, List.set_cons_succ, kw_nil, bindT, wipeD, List.map_cons, List.map_nil, List.zip_cons_cons, List.zip_nil_right, List.zip_nil_left, List.foldl_cons, List.foldl_nil, o_add, o_adds, o_addt, o_addl, o_sub, o_mul, o_mult, o_mull, o_muls, o_div, o_mod, o_pow, c_lt, c_le, c_gt, c_ge, c_eq, c_ne, c_in, c_ni, c_is, c_isn, e_int, e_str, e_bool, t_bl, t_int, t_lst, t_tup, t_non, f_lent, f_lenl, f_lens, f_lbt, f_lbl, f_lbs, f_inti, f_tupl, f_tupt, f_lstt, f_lstl, f_stri, y_non, y_bl, y_int, y_str, y_tup, y_lst, y_ins, rg_1, rg_2, sq_tup, sq_lst, zp_tup, en_lst, en_tup, aL_lst, sl_t, sl_s, Ty.below, List.any_cons, List.any_nil, subT, Bool.or_false, Bool.not_true, Bool.not_false, true_and, and_true, reduceCtorEq, decide_false, decide_true, Bool.false_eq_true, if_false, if_true, Bool.not_eq_true', Bool.not_not]
  refine ⟨fun i ρ M' => M' = M ∧ ∃ s y, ρ = [some (.lst (ns.map .int)), some (.int s), y, none] ∧ 0 ≤ s ∧ s < 2305843009213693951, ⟨rfl, _, none, rfl, by omega, by simp; omega⟩, fun _ _ _ _ _ => trivial, ?_, ?_⟩
  · rintro i x ρ M' hx ⟨rfl, s, y, rfl, s0, s1⟩
    obtain ⟨c, hc, rfl⟩ : ∃ c, ns[i]? = some c ∧ x = .int c := by
      rw [List.getElem?_map] at hx
      cases e : ns[i]? with
      | none => rw [e] at hx; cases hx
      | some c => rw [e] at hx; cases hx; exact ⟨c, rfl, rfl⟩
    simp only [wpSs, wpS, wpE, wpEs, wpEo, wpC, wpT, wpSrc, Rd_val, Rd_new, frz_lst, frz_ins, List.getElem?_cons_zero, List.getElem?_cons_succ, List.set_cons_zero, List.set_cons_succ, kw_nil, bindT, wipeD, List.map_cons, List.map_nil, List.zip_cons_cons, List.zip_nil_right, List.zip_nil_left, List.foldl_cons, List.foldl_nil, o_add, o_adds, o_addt, o_addl, o_sub, o_mul, o_mult, o_mull, o_muls, o_div, o_mod, o_pow, c_lt, c_le, c_gt, c_ge, c_eq, c_ne, c_in, c_ni, c_is, c_isn, e_int, e_str, e_bool, t_bl, t_int, t_lst, t_tup, t_non, f_lent, f_lenl, f_lens, f_lbt, f_lbl, f_lbs, f_inti, f_tupl, f_tupt, f_lstt, f_lstl, f_stri, y_non, y_bl, y_int, y_str, y_tup, y_lst, y_ins, rg_1, rg_2, sq_tup, sq_lst, zp_tup, en_lst, en_tup, aL_lst, sl_t, sl_s, Ty.below, List.any_cons, List.any_nil, subT, Bool.or_false, Bool.not_true, Bool.not_false, true_and, and_true, reduceCtorEq, decide_false, decide_true, Bool.false_eq_true, if_false, if_true, Bool.not_eq_true', Bool.not_not]
    exact ⟨by have := log_small s0 s1; omega, by decide, _, _, rfl, hm0 _, hm1 _⟩
  · rintro ρ M' ⟨rfl, s, y, rfl, s0, s1⟩
    refine ⟨⟨by decide, by decide⟩, ?_⟩
    refine ⟨fun i ρ M2 => M2 = M' ∧ ∃ s z, ρ = [some (.lst (ns.map .int)), some (.int s), y, z] ∧ 0 ≤ s ∧ s < 2305843009213693951, ⟨rfl, _, none, rfl, s0, s1⟩, fun _ _ _ _ _ => trivial, ?_, ?_⟩
    · rintro i x ρ M2 hx ⟨rfl, s, z, rfl, s0, s1⟩
      simp only [wpSs, wpS, wpE, wpEs, wpEo, wpC, wpT, wpSrc, Rd_val, Rd_new, frz_lst, frz_ins, List.getElem?_cons_zero, List.getElem?_cons_succ, List.set_cons_zero, List.set_cons_succ, kw_nil, bindT, wipeD, List.map_cons, List.map_nil, List.zip_cons_cons, List.zip_nil_right, List.zip_nil_left, List.foldl_cons, List.foldl_nil, o_add, o_adds, o_addt, o_addl, o_sub, o_mul, o_mult, o_mull, o_muls, o_div, o_mod, o_pow, c_lt, c_le, c_gt, c_ge, c_eq, c_ne, c_in, c_ni, c_is, c_isn, e_int, e_str, e_bool, t_bl, t_int, t_lst, t_tup, t_non, f_lent, f_lenl, f_lens, f_lbt, f_lbl, f_lbs, f_inti, f_tupl, f_tupt, f_lstt, f_lstl, f_stri, y_non, y_bl, y_int, y_str, y_tup, y_lst, y_ins, rg_1, rg_2, sq_tup, sq_lst, zp_tup, en_lst, en_tup, aL_lst, sl_t, sl_s, Ty.below, List.any_cons, List.any_nil, subT, Bool.or_false, Bool.not_true, Bool.not_false, true_and, and_true, reduceCtorEq, decide_false, decide_true, Bool.false_eq_true, if_false, if_true, Bool.not_eq_true', Bool.not_not]
      exact ⟨by have := log_small s0 s1; omega, by decide, _, _, rfl, hm0 _, hm1 _⟩
    · rintro ρ M2 ⟨rfl, s, z, rfl, s0, s1⟩
      simp only [wpSs, wpS, wpE, wpEs, wpEo, wpC, wpT, wpSrc, Rd_val, Rd_new, frz_lst, frz_ins, List.getElem?_cons_zero, List.getElem?_cons_succ, List.set_cons_zero, List.set_cons_succ, kw_nil, bindT, wipeD, List.map_cons, List.map_nil, List.zip_cons_cons, List.zip_nil_right, List.zip_nil_left, List.foldl_cons, List.foldl_nil, o_add, o_adds, o_addt, o_addl, o_sub, o_mul, o_mult, o_mull, o_muls, o_div, o_mod, o_pow, c_lt, c_le, c_gt, c_ge, c_eq, c_ne, c_in, c_ni, c_is, c_isn, e_int, e_str, e_bool, t_bl, t_int, t_lst, t_tup, t_non, f_lent, f_lenl, f_lens, f_lbt, f_lbl, f_lbs, f_inti, f_tupl, f_tupt, f_lstt, f_lstl, f_stri, y_non, y_bl, y_int, y_str, y_tup, y_lst, y_ins, rg_1, rg_2, sq_tup, sq_lst, zp_tup, en_lst, en_tup, aL_lst, sl_t, sl_s, Ty.below, List.any_cons, List.any_nil, subT, Bool.or_false, Bool.not_true, Bool.not_false, true_and, and_true, reduceCtorEq, decide_false, decide_true, Bool.false_eq_true, if_false, if_true, Bool.not_eq_true', Bool.not_not]
      refine comp_fm (fun d => match d with | .int c => if 1000000000000000000 ≤ c then some (.int c) else none | _ => none) trivial ?_ ?_
      · intro i x acc K hx hK
        obtain ⟨c, hc, rfl⟩ : ∃ c, ns[i]? = some c ∧ x = .int c := by
          rw [List.getElem?_map] at hx
          cases e : ns[i]? with
          | none => rw [e] at hx; cases hx
          | some c => rw [e] at hx; cases hx; exact ⟨c, rfl, rfl⟩
        simp only [wpSs, wpS, wpE, wpEs, wpEo, wpC, wpT, wpSrc, Rd_val, Rd_new, frz_lst, frz_ins, List.getElem?_cons_zero, List.getElem?_cons_succ, List.set_cons_zero, List.set_cons_succ, kw_nil, bindT, wipeD, List.map_cons, List.map_nil, List.zip_cons_cons, List.zip_nil_right, List.zip_nil_left, List.foldl_cons, List.foldl_nil, o_add, o_adds, o_addt, o_addl, o_sub, o_mul, o_mult, o_mull, o_muls, o_div, o_mod, o_pow, c_lt, c_le, c_gt, c_ge, c_eq, c_ne, c_in, c_ni, c_is, c_isn, e_int, e_str, e_bool, t_bl, t_int, t_lst, t_tup, t_non, f_lent, f_lenl, f_lens, f_lbt, f_lbl, f_lbs, f_inti, f_tupl, f_tupt, f_lstt, f_lstl, f_stri, y_non, y_bl, y_int, y_str, y_tup, y_lst, y_ins, rg_1, rg_2, sq_tup, sq_lst, zp_tup, en_lst, en_tup, aL_lst, sl_t, sl_s, Ty.below, List.any_cons, List.any_nil, subT, Bool.or_false, Bool.not_true, Bool.not_false, true_and, and_true, reduceCtorEq, decide_false, decide_true, Bool.false_eq_true, if_false, if_true, Bool.not_eq_true', Bool.not_not]
        by_cases h : 1000000000000000000 ≤ c
        · simp [h] at hK ⊢; exact hK
        · simp [h] at hK ⊢; exact hK
      · have e : ∀ l : List Int, (l.map D.int).filterMap (fun d => match d with | .int c => if 1000000000000000000 ≤ c then some (D.int c) else none | _ => none) = (l.filter fun c => decide (1000000000000000000 ≤ c)).map D.int := by
          intro l
          induction l with
          | nil => rfl
          | cons c l ih =>
            rw [List.map_cons, List.filterMap_cons, List.filter_cons]
            by_cases h : 1000000000000000000 ≤ c
            · simp only [h, if_true, decide_true]; rw [ih]; rfl
            · simp only [h, if_false, decide_false, Bool.false_eq_true]; rw [ih]
        rw [e]
        simp only [wpSs, wpS, wpE, wpEs, wpEo, wpC, wpT, wpSrc, Rd_val, Rd_new, frz_lst, frz_ins, List.getElem?_cons_zero, List.getElem?_cons_succ, List.set_cons_zero, List.set_cons_succ, kw_nil, bindT, wipeD, List.map_cons, List.map_nil, List.zip_cons_cons, List.zip_nil_right, List.zip_nil_left, List.foldl_cons, List.foldl_nil, o_add, o_adds, o_addt, o_addl, o_sub, o_mul, o_mult, o_mull, o_muls, o_div, o_mod, o_pow, c_lt, c_le, c_gt, c_ge, c_eq, c_ne, c_in, c_ni, c_is, c_isn, e_int, e_str, e_bool, t_bl, t_int, t_lst, t_tup, t_non, f_lent, f_lenl, f_lens, f_lbt, f_lbl, f_lbs, f_inti, f_tupl, f_tupt, f_lstt, f_lstl, f_stri, y_non, y_bl, y_int, y_str, y_tup, y_lst, y_ins, rg_1, rg_2, sq_tup, sq_lst, zp_tup, en_lst, en_tup, aL_lst, sl_t, sl_s, Ty.below, List.any_cons, List.any_nil, subT, Bool.or_false, Bool.not_true, Bool.not_false, true_and, and_true, reduceCtorEq, decide_false, decide_true, Bool.false_eq_true, if_false, if_true, Bool.not_eq_true', Bool.not_not]
        have hs : sizeLine = 16777216 := sizeLine_eq
        have hf : (ns.filter fun c => decide (1000000000000000000 ≤ c)).length ≤ 63 := Nat.le_trans (List.length_filter_le _ _) hn
        refine ⟨by simp; omega, ?_⟩
        refine hq (s :: ns.filter fun c => decide (1000000000000000000 ≤ c)) ⟨s, _, rfl, s0, s1, fun x hx => ?_, hf⟩
        have := (List.mem_filter.mp hx).2
        simp at this
        omega
/-! the same -/
mutual
def sokD : D → Bool
  | .non => true | .bl _ => true | .int _ => true
  | .str x => SeqAt.shaped (.str x)
  | .tup xs => decide (xs.length ≤ 16777216) && sokL xs
  | .lst xs => decide (xs.length ≤ 16777216) && sokL xs
  | _ => false
def sokL : List D → Bool
  | [] => true
  | x :: xs => sokD x && sokL xs
end
mutual
def depD : D → Nat
  | .tup xs => depL xs + 1
  | .lst xs => depL xs + 1
  | _ => 0
def depL : List D → Nat
  | [] => 0
  | x :: xs => max (depD x) (depL xs)
end
theorem sokL_get {xs : List D} {i : Nat} {x : D} (h : sokL xs = true) (e : xs[i]? = some x) : sokD x = true := by
  induction xs generalizing i with
  | nil => simp at e
  | cons y ys ih =>
    simp only [sokL, Bool.and_eq_true] at h
    cases i with
    | zero => simp at e; subst e; exact h.1
    | succ j => exact ih h.2 (by simpa using e)
theorem depL_get {xs : List D} {i : Nat} {x : D} (e : xs[i]? = some x) : depD x ≤ depL xs := by
  induction xs generalizing i with
  | nil => simp at e
  | cons y ys ih =>
    simp only [depL]
    cases i with
    | zero => simp at e; subst e; omega
    | succ j => have := ih (i := j) (by simpa using e); omega
def sp_law_same (n : Nat) : DSp := fun ds M Q _ => ∃ d, ds = [d, d] ∧ sokD d = true ∧ depD d < n ∧ Q (.val (.bl true)) M
theorem no_law_same {ds : List D} {M : Mem} {Q : QR} {E : EX} : sp_law_same 0 ds M Q E → False := fun ⟨_, _, _, h, _⟩ => absurd h (Nat.not_lt_zero _)
theorem ok_law_same {T : Tb} (n : Nat) (h9 : T.fn 9 = sp_law_same n) : SpOk T N_law_same ir_law_same 2 (sp_law_same (n + 1)) := by
  rintro ds M Q E hl ⟨d, rfl, hs, hd, hq⟩
  show wpSs T ir_law_same _ [some d, some d, none] M
  unfold ir_law_same
  cases d with
  | non => simp only [wpSs, wpS, wpE, wpEs, wpEo, wpC, wpT, wpSrc, Rd_val, Rd_new, frz_lst, frz_ins, List.getElem?_cons_zero, List.getElem?_cons_succ, List.set_cons_zero, List.set_cons_succ, kw_nil, bindT, wipeD, List.map_cons, List.map_nil, List.zip_cons_cons, List.zip_nil_right, List.zip_nil_left, List.foldl_cons, List.foldl_nil, o_add, o_adds, o_addt, o_addl, o_sub, o_mul, o_mult, o_mull, o_muls, o_div, o_mod, o_pow, c_lt, c_le, c_gt, c_ge, c_eq, c_ne, c_in, c_ni, c_is, c_isn, e_int, e_str, e_bool, t_bl, t_int, t_lst, t_tup, t_non, f_lent, f_lenl, f_lens, f_lbt, f_lbl, f_lbs, f_inti, f_tupl, f_tupt, f_lstt, f_lstl, f_stri, y_non, y_bl, y_int, y_str, y_tup, y_lst, y_ins, rg_1, rg_2, sq_tup, sq_lst, zp_tup, en_lst, en_tup, aL_lst, sl_t, sl_s, Ty.below, List.any_cons, List.any_nil, subT, Bool.or_false, Bool.not_true, Bool.not_false, true_and, and_true, reduceCtorEq, decide_false, decide_true, Bool.false_eq_true, if_false, if_true, Bool.not_eq_true', Bool.not_not]; exact hq
  | bl b =>
    simp only [wpSs, wpS, wpE, wpEs, wpEo, wpC, wpT, wpSrc, Rd_val, Rd_new, frz_lst, frz_ins, List.getElem?_cons_zero, List.getElem?_cons_succ, List.set_cons_zero, List.set_cons_succ, kw_nil, bindT, wipeD, List.map_cons, List.map_nil, List.zip_cons_cons, List.zip_nil_right, List.zip_nil_left, List.foldl_cons, List.foldl_nil, o_add, o_adds, o_addt, o_addl, o_sub, o_mul, o_mult, o_mull, o_muls, o_div, o_mod, o_pow, c_lt, c_le, c_gt, c_ge, c_eq, c_ne, c_in, c_ni, c_is, c_isn, e_int, e_str, e_bool, t_bl, t_int, t_lst, t_tup, t_non, f_lent, f_lenl, f_lens, f_lbt, f_lbl, f_lbs, f_inti, f_tupl, f_tupt, f_lstt, f_lstl, f_stri, y_non, y_bl, y_int, y_str, y_tup, y_lst, y_ins, rg_1, rg_2, sq_tup, sq_lst, zp_tup, en_lst, en_tup, aL_lst, sl_t, sl_s, Ty.below, List.any_cons, List.any_nil, subT, Bool.or_false, Bool.not_true, Bool.not_false, true_and, and_true, reduceCtorEq, decide_false, decide_true, Bool.false_eq_true, if_false, if_true, Bool.not_eq_true', Bool.not_not]
    have : (b == b) = true := by simp
    rw [this]
    exact hq
  | int i =>
    simp only [wpSs, wpS, wpE, wpEs, wpEo, wpC, wpT, wpSrc, Rd_val, Rd_new, frz_lst, frz_ins, List.getElem?_cons_zero, List.getElem?_cons_succ, List.set_cons_zero, List.set_cons_succ, kw_nil, bindT, wipeD, List.map_cons, List.map_nil, List.zip_cons_cons, List.zip_nil_right, List.zip_nil_left, List.foldl_cons, List.foldl_nil, o_add, o_adds, o_addt, o_addl, o_sub, o_mul, o_mult, o_mull, o_muls, o_div, o_mod, o_pow, c_lt, c_le, c_gt, c_ge, c_eq, c_ne, c_in, c_ni, c_is, c_isn, e_int, e_str, e_bool, t_bl, t_int, t_lst, t_tup, t_non, f_lent, f_lenl, f_lens, f_lbt, f_lbl, f_lbs, f_inti, f_tupl, f_tupt, f_lstt, f_lstl, f_stri, y_non, y_bl, y_int, y_str, y_tup, y_lst, y_ins, rg_1, rg_2, sq_tup, sq_lst, zp_tup, en_lst, en_tup, aL_lst, sl_t, sl_s, Ty.below, List.any_cons, List.any_nil, subT, Bool.or_false, Bool.not_true, Bool.not_false, true_and, and_true, reduceCtorEq, decide_false, decide_true, Bool.false_eq_true, if_false, if_true, Bool.not_eq_true', Bool.not_not]
    exact hq
  | str x =>
    simp only [wpSs, wpS, wpE, wpEs, wpEo, wpC, wpT, wpSrc, Rd_val, Rd_new, frz_lst, frz_ins, List.getElem?_cons_zero, List.getElem?_cons_succ, List.set_cons_zero, List.set_cons_succ, kw_nil, bindT, wipeD, List.map_cons, List.map_nil, List.zip_cons_cons, List.zip_nil_right, List.zip_nil_left, List.foldl_cons, List.foldl_nil, o_add, o_adds, o_addt, o_addl, o_sub, o_mul, o_mult, o_mull, o_muls, o_div, o_mod, o_pow, c_lt, c_le, c_gt, c_ge, c_eq, c_ne, c_in, c_ni, c_is, c_isn, e_int, e_str, e_bool, t_bl, t_int, t_lst, t_tup, t_non, f_lent, f_lenl, f_lens, f_lbt, f_lbl, f_lbs, f_inti, f_tupl, f_tupt, f_lstt, f_lstl, f_stri, y_non, y_bl, y_int, y_str, y_tup, y_lst, y_ins, rg_1, rg_2, sq_tup, sq_lst, zp_tup, en_lst, en_tup, aL_lst, sl_t, sl_s, Ty.below, List.any_cons, List.any_nil, subT, Bool.or_false, Bool.not_true, Bool.not_false, true_and, and_true, reduceCtorEq, decide_false, decide_true, Bool.false_eq_true, if_false, if_true, Bool.not_eq_true', Bool.not_not]
    have : (x == x) = true := by simp
    rw [this]
    have h : SeqAt.shaped (.str x) = true := hs
    exact ⟨h, h, hq⟩
  | tup xs =>
    simp only [sokD, Bool.and_eq_true, decide_eq_true_eq] at hs
    simp only [wpSs, wpS, wpE, wpEs, wpEo, wpC, wpT, wpSrc, Rd_val, Rd_new, frz_lst, frz_ins, List.getElem?_cons_zero, List.getElem?_cons_succ, List.set_cons_zero, List.set_cons_succ, kw_nil, bindT, wipeD, List.map_cons, List.map_nil, List.zip_cons_cons, List.zip_nil_right, List.zip_nil_left, List.foldl_cons, List.foldl_nil, o_add, o_adds, o_addt, o_addl, o_sub, o_mul, o_mult, o_mull, o_muls, o_div, o_mod, o_pow, c_lt, c_le, c_gt, c_ge, c_eq, c_ne, c_in, c_ni, c_is, c_isn, e_int, e_str, e_bool, t_bl, t_int, t_lst, t_tup, t_non, f_lent, f_lenl, f_lens, f_lbt, f_lbl, f_lbs, f_inti, f_tupl, f_tupt, f_lstt, f_lstl, f_stri, y_non, y_bl, y_int, y_str, y_tup, y_lst, y_ins, rg_1, rg_2, sq_tup, sq_lst, zp_tup, en_lst, en_tup, aL_lst, sl_t, sl_s, Ty.below, List.any_cons, List.any_nil, subT, Bool.or_false, Bool.not_true, Bool.not_false, true_and, and_true, reduceCtorEq, decide_false, decide_true, Bool.false_eq_true, if_false, if_true, Bool.not_eq_true', Bool.not_not]
    intro _
    refine ⟨⟨by omega, by omega⟩, ?_⟩
    refine comp_fm (fun _ => none) trivial ?_ ?_
    · intro i x acc K hx hK
      obtain ⟨hi, rfl⟩ := rg_get hx
      have hi' : i < xs.length := by omega
      have g : xs[i]? = some xs[i] := List.getElem?_eq_getElem hi'
      simp only [wpSs, wpS, wpE, wpEs, wpEo, wpC, wpT, wpSrc, Rd_val, Rd_new, frz_lst, frz_ins, List.getElem?_cons_zero, List.getElem?_cons_succ, List.set_cons_zero, List.set_cons_succ, kw_nil, bindT, wipeD, List.map_cons, List.map_nil, List.zip_cons_cons, List.zip_nil_right, List.zip_nil_left, List.foldl_cons, List.foldl_nil, o_add, o_adds, o_addt, o_addl, o_sub, o_mul, o_mult, o_mull, o_muls, o_div, o_mod, o_pow, c_lt, c_le, c_gt, c_ge, c_eq, c_ne, c_in, c_ni, c_is, c_isn, e_int, e_str, e_bool, t_bl, t_int, t_lst, t_tup, t_non, f_lent, f_lenl, f_lens, f_lbt, f_lbl, f_lbs, f_inti, f_tupl, f_tupt, f_lstt, f_lstl, f_stri, y_non, y_bl, y_int, y_str, y_tup, y_lst, y_ins, rg_1, rg_2, sq_tup, sq_lst, zp_tup, en_lst, en_tup, aL_lst, sl_t, sl_s, Ty.below, List.any_cons, List.any_nil, subT, Bool.or_false, Bool.not_true, Bool.not_false, true_and, and_true, reduceCtorEq, decide_false, decide_true, Bool.false_eq_true, if_false, if_true, Bool.not_eq_true', Bool.not_not]
      have e : (0 + (i : Int)) = ((i : Nat) : Int) := by omega
      rw [e, ix_t (at_nat g), ix_t (at_nat g), h9]
      refine ⟨xs[i], rfl, sokL_get hs.2 g, ?_, ?_⟩
      · have := depL_get g
        simp only [depD] at hd
        omega
      · simp only [wpSs, wpS, wpE, wpEs, wpEo, wpC, wpT, wpSrc, Rd_val, Rd_new, frz_lst, frz_ins, List.getElem?_cons_zero, List.getElem?_cons_succ, List.set_cons_zero, List.set_cons_succ, kw_nil, bindT, wipeD, List.map_cons, List.map_nil, List.zip_cons_cons, List.zip_nil_right, List.zip_nil_left, List.foldl_cons, List.foldl_nil, o_add, o_adds, o_addt, o_addl, o_sub, o_mul, o_mult, o_mull, o_muls, o_div, o_mod, o_pow, c_lt, c_le, c_gt, c_ge, c_eq, c_ne, c_in, c_ni, c_is, c_isn, e_int, e_str, e_bool, t_bl, t_int, t_lst, t_tup, t_non, f_lent, f_lenl, f_lens, f_lbt, f_lbl, f_lbs, f_inti, f_tupl, f_tupt, f_lstt, f_lstl, f_stri, y_non, y_bl, y_int, y_str, y_tup, y_lst, y_ins, rg_1, rg_2, sq_tup, sq_lst, zp_tup, en_lst, en_tup, aL_lst, sl_t, sl_s, Ty.below, List.any_cons, List.any_nil, subT, Bool.or_false, Bool.not_true, Bool.not_false, true_and, and_true, reduceCtorEq, decide_false, decide_true, Bool.false_eq_true, if_false, if_true, Bool.not_eq_true', Bool.not_not]
        simpa using hK
    · rw [show (rangeD 0 (xs.length : Nat)).filterMap (fun _ => (none : Option D)) = [] by simp]
      simp only [wpSs, wpS, wpE, wpEs, wpEo, wpC, wpT, wpSrc, Rd_val, Rd_new, frz_lst, frz_ins, List.getElem?_cons_zero, List.getElem?_cons_succ, List.set_cons_zero, List.set_cons_succ, kw_nil, bindT, wipeD, List.map_cons, List.map_nil, List.zip_cons_cons, List.zip_nil_right, List.zip_nil_left, List.foldl_cons, List.foldl_nil, o_add, o_adds, o_addt, o_addl, o_sub, o_mul, o_mult, o_mull, o_muls, o_div, o_mod, o_pow, c_lt, c_le, c_gt, c_ge, c_eq, c_ne, c_in, c_ni, c_is, c_isn, e_int, e_str, e_bool, t_bl, t_int, t_lst, t_tup, t_non, f_lent, f_lenl, f_lens, f_lbt, f_lbl, f_lbs, f_inti, f_tupl, f_tupt, f_lstt, f_lstl, f_stri, y_non, y_bl, y_int, y_str, y_tup, y_lst, y_ins, rg_1, rg_2, sq_tup, sq_lst, zp_tup, en_lst, en_tup, aL_lst, sl_t, sl_s, Ty.below, List.any_cons, List.any_nil, subT, Bool.or_false, Bool.not_true, Bool.not_false, true_and, and_true, reduceCtorEq, decide_false, decide_true, Bool.false_eq_true, if_false, if_true, Bool.not_eq_true', Bool.not_not]
      exact hq
  | lst xs =>
    simp only [sokD, Bool.and_eq_true, decide_eq_true_eq] at hs
    simp only [wpSs, wpS, wpE, wpEs, wpEo, wpC, wpT, wpSrc, Rd_val, Rd_new, frz_lst, frz_ins, List.getElem?_cons_zero, List.getElem?_cons_succ, List.set_cons_zero, List.set_cons_succ, kw_nil, bindT, wipeD, List.map_cons, List.map_nil, List.zip_cons_cons, List.zip_nil_right, List.zip_nil_left, List.foldl_cons, List.foldl_nil, o_add, o_adds, o_addt, o_addl, o_sub, o_mul, o_mult, o_mull, o_muls, o_div, o_mod, o_pow, c_lt, c_le, c_gt, c_ge, c_eq, c_ne, c_in, c_ni, c_is, c_isn, e_int, e_str, e_bool, t_bl, t_int, t_lst, t_tup, t_non, f_lent, f_lenl, f_lens, f_lbt, f_lbl, f_lbs, f_inti, f_tupl, f_tupt, f_lstt, f_lstl, f_stri, y_non, y_bl, y_int, y_str, y_tup, y_lst, y_ins, rg_1, rg_2, sq_tup, sq_lst, zp_tup, en_lst, en_tup, aL_lst, sl_t, sl_s, Ty.below, List.any_cons, List.any_nil, subT, Bool.or_false, Bool.not_true, Bool.not_false, true_and, and_true, reduceCtorEq, decide_false, decide_true, Bool.false_eq_true, if_false, if_true, Bool.not_eq_true', Bool.not_not]
    intro _
    refine ⟨⟨by omega, by omega⟩, ?_⟩
    refine comp_fm (fun _ => none) trivial ?_ ?_
    · intro i x acc K hx hK
      obtain ⟨hi, rfl⟩ := rg_get hx
      have hi' : i < xs.length := by omega
      have g : xs[i]? = some xs[i] := List.getElem?_eq_getElem hi'
      simp only [wpSs, wpS, wpE, wpEs, wpEo, wpC, wpT, wpSrc, Rd_val, Rd_new, frz_lst, frz_ins, List.getElem?_cons_zero, List.getElem?_cons_succ, List.set_cons_zero, List.set_cons_succ, kw_nil, bindT, wipeD, List.map_cons, List.map_nil, List.zip_cons_cons, List.zip_nil_right, List.zip_nil_left, List.foldl_cons, List.foldl_nil, o_add, o_adds, o_addt, o_addl, o_sub, o_mul, o_mult, o_mull, o_muls, o_div, o_mod, o_pow, c_lt, c_le, c_gt, c_ge, c_eq, c_ne, c_in, c_ni, c_is, c_isn, e_int, e_str, e_bool, t_bl, t_int, t_lst, t_tup, t_non, f_lent, f_lenl, f_lens, f_lbt, f_lbl, f_lbs, f_inti, f_tupl, f_tupt, f_lstt, f_lstl, f_stri, y_non, y_bl, y_int, y_str, y_tup, y_lst, y_ins, rg_1, rg_2, sq_tup, sq_lst, zp_tup, en_lst, en_tup, aL_lst, sl_t, sl_s, Ty.below, List.any_cons, List.any_nil, subT, Bool.or_false, Bool.not_true, Bool.not_false, true_and, and_true, reduceCtorEq, decide_false, decide_true, Bool.false_eq_true, if_false, if_true, Bool.not_eq_true', Bool.not_not]
      have e : (0 + (i : Int)) = ((i : Nat) : Int) := by omega
      rw [e, ix_l (at_nat g), ix_l (at_nat g), h9]
      refine ⟨xs[i], rfl, sokL_get hs.2 g, ?_, ?_⟩
      · have := depL_get g
        simp only [depD] at hd
        omega
      · simp only [wpSs, wpS, wpE, wpEs, wpEo, wpC, wpT, wpSrc, Rd_val, Rd_new, frz_lst, frz_ins, List.getElem?_cons_zero, List.getElem?_cons_succ, List.set_cons_zero, List.set_cons_succ, kw_nil, bindT, wipeD, List.map_cons, List.map_nil, List.zip_cons_cons, List.zip_nil_right, List.zip_nil_left, List.foldl_cons, List.foldl_nil, o_add, o_adds, o_addt, o_addl, o_sub, o_mul, o_mult, o_mull, o_muls, o_div, o_mod, o_pow, c_lt, c_le, c_gt, c_ge, c_eq, c_ne, c_in, c_ni, c_is, c_isn, e_int, e_str, e_bool, t_bl, t_int, t_lst, t_tup, t_non, f_lent, f_lenl, f_lens, f_lbt, f_lbl, f_lbs, f_inti, f_tupl, f_tupt, f_lstt, f_lstl, f_stri, y_non, y_bl, y_int, y_str, y_tup, y_lst, y_ins, rg_1, rg_2, sq_tup, sq_lst, zp_tup, en_lst, en_tup, aL_lst, sl_t, sl_s, Ty.below, List.any_cons, List.any_nil, subT, Bool.or_false, Bool.not_true, Bool.not_false, true_and, and_true, reduceCtorEq, decide_false, decide_true, Bool.false_eq_true, if_false, if_true, Bool.not_eq_true', Bool.not_not]
        simpa using hK
    · rw [show (rangeD 0 (xs.length : Nat)).filterMap (fun _ => (none : Option D)) = [] by simp]
      simp only [wpSs, wpS, wpE, wpEs, wpEo, wpC, wpT, wpSrc, Rd_val, Rd_new, frz_lst, frz_ins, List.getElem?_cons_zero, List.getElem?_cons_succ, List.set_cons_zero, List.set_cons_succ, kw_nil, bindT, wipeD, List.map_cons, List.map_nil, List.zip_cons_cons, List.zip_nil_right, List.zip_nil_left, List.foldl_cons, List.foldl_nil, o_add, o_adds, o_addt, o_addl, o_sub, o_mul, o_mult, o_mull, o_muls, o_div, o_mod, o_pow, c_lt, c_le, c_gt, c_ge, c_eq, c_ne, c_in, c_ni, c_is, c_isn, e_int, e_str, e_bool, t_bl, t_int, t_lst, t_tup, t_non, f_lent, f_lenl, f_lens, f_lbt, f_lbl, f_lbs, f_inti, f_tupl, f_tupt, f_lstt, f_lstl, f_stri, y_non, y_bl, y_int, y_str, y_tup, y_lst, y_ins, rg_1, rg_2, sq_tup, sq_lst, zp_tup, en_lst, en_tup, aL_lst, sl_t, sl_s, Ty.below, List.any_cons, List.any_nil, subT, Bool.or_false, Bool.not_true, Bool.not_false, true_and, and_true, reduceCtorEq, decide_false, decide_true, Bool.false_eq_true, if_false, if_true, Bool.not_eq_true', Bool.not_not]
      exact hq
  | _ => simp [sokD] at hs
/-! words, features -/
theorem f_all {xs : List D} {bs : List Bool} {M : Mem} {Q : R → Prop} (h : asBs xs = some bs) : fnS .all [.lst xs] M Q = Q (.val (.bl (bs.all id))) := by simp only [fnS, one, asL, h]
theorem asBs_true {α : Type} : ∀ l : List α, asBs (l.map fun _ => D.bl true) = some (l.map fun _ => true)
  | [] => rfl
  | _ :: l => by simp only [List.map_cons, asBs, asBs_true l]
theorem all_true {α : Type} (l : List α) : (l.map fun _ => true).all id = true := by simp
def featOk (f : Str × Int × Int) : Prop := wordOk f.1 = true ∧ 2 ≤ f.2.1 ∧ f.2.1 ≤ 8 ∧ 0 ≤ f.2.2 ∧ f.2.2 ≤ 9
theorem pure_feat (f : Str × Int × Int) : pureD (featD f) = true := rfl
theorem pure_feats (fs : List (Str × Int × Int)) : pureL (fs.map featD) = true := pureL_of fun x hx => by
  obtain ⟨f, _, rfl⟩ := List.mem_map.mp hx
  rfl
theorem in_strs {w : Str} {ws : List Str} {M : Mem} {B : Bool → Prop} : inS (.str w) (.lst (ws.map D.str)) M B = B (ws.contains w) := by
  have h1 : (ws.map D.str).all flatD = true := by simp [flatD]
  have h2 : ((ws.map D.str).any fun z => eqF z (.str w)) = ws.contains w := by
    induction ws with
    | nil => rfl
    | cons a ws ih =>
      have h1' : (ws.map D.str).all flatD = true := by simp [flatD]
      rw [List.map_cons, List.any_cons, ih h1', List.contains_cons]
      show ((a == w) || _) = ((w == a) || _)
      rw [show (a == w) = (w == a) by rw [Bool.eq_iff_iff, beq_iff_eq, beq_iff_eq]; exact eq_comm]
  simp only [inS, asS, asL, h1, h2, flatD, and_self, true_and]
def one1 (c : Nat) : Str := ⟨#[c]⟩
theorem str_ext {a b : Str} (h : a.cps.toList = b.cps.toList) : a = b := by
  cases a; cases b
  simp only [Str.mk.injEq]
  exact Array.toList_inj.mp h
theorem app_cps (a b : Str) : (a ++ b).cps.toList = a.cps.toList ++ b.cps.toList := by
  show (a.cps ++ b.cps).toList = _
  simp
theorem join_one : ∀ cs : List Nat, (Str.join "" (cs.map one1)).cps.toList = cs
  | [] => rfl
  | [c] => rfl
  | c :: d :: cs => by
    have ih := join_one (d :: cs)
    show ((one1 c ++ ("" : Str) ++ Str.join "" ((d :: cs).map one1)).cps.toList) = _
    rw [app_cps, app_cps, ih]
    rfl
theorem joinT_one (cs : List Nat) : (Txt.join "" (cs.map one1)).cps.toList = cs := by
  have : Txt.join "" (cs.map one1) = Str.join "" (cs.map one1) := StrLaws.glued_eq_join _ _
  rw [this, join_one]
theorem asSs_str : ∀ ss : List Str, asSs (ss.map D.str) = some ss
  | [] => rfl
  | s :: ss => by simp only [List.map_cons, asSs, asSs_str ss]
theorem join_c {cs : List Nat} {M : Mem} {Q : QR} : mtS .join (.str "") [.lst ((cs.map one1).map D.str)] M Q = (((cs.map one1).map Str.length).sum + (cs.map one1).length * ("" : Str).length ≤ 16777216 ∧ Q (.val (.str (Txt.join "" (cs.map one1)))) M) := by
  simp only [mtS, one, strS, optS, asS, asL, asSs_str]
theorem sum_one : ∀ cs : List Nat, ((cs.map one1).map Str.length).sum = cs.length
  | [] => rfl
  | c :: cs => by
    have := sum_one cs
    simp only [List.map_cons, List.sum_cons, List.length_cons] at this ⊢
    rw [this]
    show 1 + _ = _
    omega
theorem in_strs_c {w : Str} {ws : List Str} {M : Mem} {q : Addr} {B : Bool → Prop} (hM : M q = some (.lst (ws.map D.str))) : inS (.str w) (.ref q) M B = B (ws.contains w) := by
  rw [← in_strs (w := w) (ws := ws) (M := M) (B := B)]
  simp only [inS, asS, asL, hM]
abbrev letS : Str := "abcdefghijklmnopqrstuvwxyz"
theorem let_at : ∀ r : Fin 26, atI letS.cps.toList (r.val : Int) = some (97 + r.val) := by decide +kernel
theorem let_ix {r : Int} {M : Mem} {K : D → Prop} (h0 : 0 ≤ r) (h1 : r < 26) : ixS (.str letS) (.int r) M K = (letS.length ≤ sizeLine ∧ K (.str (one1 (97 + r.toNat)))) := by
  have h := let_at ⟨r.toNat, by omega⟩
  simp only [Int.toNat_of_nonneg h0] at h
  simp only [ixS, h]
  rfl
theorem let_len : letS.length ≤ sizeLine := by rw [sizeLine_eq]; decide
theorem cut_pre {w : Str} {a : Int} (h0 : 0 ≤ a) (h1 : a ≤ w.length) : (cutS w none (some a)).cps.toList = w.cps.toList.take a.toNat := by
  unfold cutS
  have e : HT.sIx w.length w.length (some a) = a.toNat := by
    have := HT.sIx_nat w.length w.length a.toNat
    rw [Int.toNat_of_nonneg h0] at this
    rw [this]; omega
  rw [e, HT.sIx_none]
  simp
theorem cut_post {w : Str} {a : Int} (h0 : 0 ≤ a) (h1 : a ≤ w.length) : (cutS w (some a) none).cps.toList = w.cps.toList.drop a.toNat := by
  unfold cutS
  have e : HT.sIx w.length 0 (some a) = a.toNat := by
    have := HT.sIx_nat w.length 0 a.toNat
    rw [Int.toNat_of_nonneg h0] at this
    rw [this]; omega
  rw [e, HT.sIx_none]
  have hl : w.cps.toList.length = w.length := Array.length_toList
  rw [List.take_of_length_le (by rw [List.length_drop, hl]; exact Nat.le_refl _)]
theorem len_cps (w : Str) : w.length = w.cps.toList.length := Array.length_toList.symm
theorem nodup_sub {α : Type} [DecidableEq α] : ∀ (l m : List α), l.Nodup → (∀ x ∈ l, x ∈ m) → l.length ≤ m.length
  | [], _, _, _ => Nat.zero_le _
  | x :: l, m, h, hs => by
    have hx := hs x List.mem_cons_self
    have ih := nodup_sub l (m.erase x) (List.nodup_cons.mp h).2 fun y hy => by
      have ne : y ≠ x := fun e => (List.nodup_cons.mp h).1 (e ▸ hy)
      exact (List.mem_erase_of_ne ne).mpr (hs y (List.mem_cons_of_mem _ hy))
    rw [List.length_erase_of_mem hx] at ih
    have := List.length_pos_of_mem hx
    rw [List.length_cons]
    omega
/-- the word with another letter at a place -/
def cand (w : Str) (a s : Int) : Str := cutS w none (some a) ++ one1 (97 + (s % 26).toNat) ++ cutS w (some (a + 1)) none
theorem cand_cps {w : Str} {a s : Int} (h0 : 0 ≤ a) (h1 : a < w.length) : (cand w a s).cps.toList = w.cps.toList.take a.toNat ++ (97 + (s % 26).toNat) :: w.cps.toList.drop (a.toNat + 1) := by
  unfold cand
  rw [app_cps, app_cps, cut_pre h0 (by omega), cut_post (by omega) (by omega), show (a + 1).toNat = a.toNat + 1 by omega]
  simp [one1]
theorem cand_ok {w : Str} {a s : Int} (h0 : 0 ≤ a) (h1 : a < w.length) (hw : wordOk w = true) : wordOk (cand w a s) = true := by
  have hc := cand_cps (s := s) h0 h1
  have hl := len_cps w
  simp only [wordOk, Bool.and_eq_true, decide_eq_true_eq, List.all_eq_true] at hw ⊢
  obtain ⟨⟨w1, w2⟩, w3⟩ := hw
  have hlen : (cand w a s).length = w.length := by
    rw [len_cps, hc, List.length_append, List.length_take, List.length_cons, List.length_drop]
    omega
  refine ⟨⟨by omega, by omega⟩, fun c hcm => ?_⟩
  rw [hc] at hcm
  rcases List.mem_append.mp hcm with h | h
  · exact w3 c (List.mem_of_mem_take h)
  · rcases List.mem_cons.mp h with rfl | h
    · have : 0 ≤ s % 26 := Int.emod_nonneg _ (by decide)
      have : s % 26 < 26 := Int.emod_lt_of_pos _ (by decide)
      omega
    · exact w3 c (List.mem_of_mem_drop h)
theorem cand_inj {w : Str} {a s t : Int} (h0 : 0 ≤ a) (h1 : a < w.length) (e : cand w a s = cand w a t) : s % 26 = t % 26 := by
  have e1 := cand_cps (s := s) h0 h1
  have e2 := cand_cps (s := t) h0 h1
  rw [e] at e1
  rw [e1] at e2
  have := List.append_cancel_left e2
  have := (List.cons.inj this).1
  have : 0 ≤ s % 26 := Int.emod_nonneg _ (by decide)
  have : 0 ≤ t % 26 := Int.emod_nonneg _ (by decide)
  omega
theorem cand_all {w : Str} {a s : Int} {ws : List Str} (h0 : 0 ≤ a) (h1 : a < w.length) (h : ∀ t : Nat, t < 26 → cand w a (s + t) ∈ ws) : 26 ≤ ws.length := by
  have := nodup_sub ((List.range 26).map fun t : Nat => cand w a (s + t)) ws ?_ ?_
  · simpa using this
  · rw [List.nodup_iff_pairwise_ne, List.pairwise_map]
    refine List.Pairwise.imp_of_mem ?_ List.pairwise_lt_range
    intro x y hx hy hlt e
    have := cand_inj h0 h1 e
    have := List.mem_range.mp hx
    have := List.mem_range.mp hy
    omega
  · intro x hx
    obtain ⟨t, ht, rfl⟩ := List.mem_map.mp hx
    exact h t (List.mem_range.mp ht)
/-- a list of n drawn letters -/
theorem comp_letters {T : Tb} (h8 : T.fn 8 = sp_draw) {p : Addr} {j : Nat} {nm : Str} {n : Int} {ρ : Sd} {M : Mem} {Q : QR} {X : EX} (hp : PoolAt M p) (e0 : ρ[0]? = some (some (.ref p))) (e2 : ρ[2]? = some (some (.str letS))) (e4 : ρ[4]? = some (some (.int n))) (hj : 2 < j) (hn : 0 ≤ n) (hn2 : n ≤ 1000)
    (hq : ∀ (cs : List Nat) M', cs.length = n.toNat → (∀ c ∈ cs, 97 ≤ c ∧ c ≤ 122) → Step p M M' → Q (.new (.lst ((cs.map one1).map D.str))) M') :
    wpE T (.comp (.ix (.var 2) (.call 8 (.cons (.var 0) (.cons (.con (.int 26)) .nil)) [] .nil)) (.name j) (.range (.cons (.var 4) .nil)) .none [(nm, j)]) ρ M Q X := by
  simp only [wpSs_nil, wpS, wpE, wpEs, wpEo, wpC, wpT, wpSrc, Rd_val, Rd_new, frz_lst, frz_ins, List.getElem?_cons_zero, List.getElem?_cons_succ, List.set_cons_zero, List.set_cons_succ, kw_nil, bindT, wipeD, List.map_cons, List.map_nil, List.zip_cons_cons, List.zip_nil_right, List.zip_nil_left, List.foldl_cons, List.foldl_nil, o_add, o_adds, o_addt, o_addl, o_sub, o_mul, o_mult, o_mull, o_muls, o_div, o_mod, o_pow, c_lt, c_le, c_gt, c_ge, c_eq, c_ne, c_in, c_ni, c_is, c_isn, e_int, e_str, e_bool, t_bl, t_int, t_lst, t_tup, t_non, f_lent, f_lenl, f_lens, f_lbt, f_lbl, f_lbs, f_inti, f_tupl, f_tupt, f_lstt, f_lstl, f_stri, y_non, y_bl, y_int, y_str, y_tup, y_lst, y_ins, rg_1, rg_2, sq_tup, sq_lst, zp_tup, en_lst, en_tup, aL_lst, sl_t, sl_s, Ty.below, List.any_cons, List.any_nil, subT, Bool.or_false, Bool.not_true, Bool.not_false, true_and, and_true, reduceCtorEq, decide_false, decide_true, Bool.false_eq_true, if_false, if_true, Bool.not_eq_true', Bool.not_not]
  rw [e4]
  simp only [wpSs_nil, wpS, wpE, wpEs, wpEo, wpC, wpT, wpSrc, Rd_val, Rd_new, frz_lst, frz_ins, List.getElem?_cons_zero, List.getElem?_cons_succ, List.set_cons_zero, List.set_cons_succ, kw_nil, bindT, wipeD, List.map_cons, List.map_nil, List.zip_cons_cons, List.zip_nil_right, List.zip_nil_left, List.foldl_cons, List.foldl_nil, o_add, o_adds, o_addt, o_addl, o_sub, o_mul, o_mult, o_mull, o_muls, o_div, o_mod, o_pow, c_lt, c_le, c_gt, c_ge, c_eq, c_ne, c_in, c_ni, c_is, c_isn, e_int, e_str, e_bool, t_bl, t_int, t_lst, t_tup, t_non, f_lent, f_lenl, f_lens, f_lbt, f_lbl, f_lbs, f_inti, f_tupl, f_tupt, f_lstt, f_lstl, f_stri, y_non, y_bl, y_int, y_str, y_tup, y_lst, y_ins, rg_1, rg_2, sq_tup, sq_lst, zp_tup, en_lst, en_tup, aL_lst, sl_t, sl_s, Ty.below, List.any_cons, List.any_nil, subT, Bool.or_false, Bool.not_true, Bool.not_false, true_and, and_true, reduceCtorEq, decide_false, decide_true, Bool.false_eq_true, if_false, if_true, Bool.not_eq_true', Bool.not_not]
  refine ⟨⟨by omega, by omega⟩, ?_⟩
  refine ⟨fun i acc M' => ∃ cs : List Nat, acc = (cs.map one1).map D.str ∧ cs.length = i ∧ (∀ c ∈ cs, 97 ≤ c ∧ c ≤ 122) ∧ Step p M M', ⟨[], rfl, rfl, by simp, Step.refl hp⟩, fun _ _ _ _ _ => trivial, ?_, ?_⟩
  · rintro i x acc M' hx ⟨cs, rfl, rfl, hc, s1⟩
    have f0 : ((ρ.set j none).set j (some x))[0]? = some (some (.ref p)) := by rw [List.getElem?_set_ne (by omega), List.getElem?_set_ne (by omega)]; exact e0
    have f2 : ((ρ.set j none).set j (some x))[2]? = some (some (.str letS)) := by rw [List.getElem?_set_ne (by omega), List.getElem?_set_ne (by omega)]; exact e2
    simp only [wpSs_nil, wpS, wpE, wpEs, wpEo, wpC, wpT, wpSrc, Rd_val, Rd_new, frz_lst, frz_ins, List.getElem?_cons_zero, List.getElem?_cons_succ, List.set_cons_zero, List.set_cons_succ, kw_nil, bindT, wipeD, List.map_cons, List.map_nil, List.zip_cons_cons, List.zip_nil_right, List.zip_nil_left, List.foldl_cons, List.foldl_nil, o_add, o_adds, o_addt, o_addl, o_sub, o_mul, o_mult, o_mull, o_muls, o_div, o_mod, o_pow, c_lt, c_le, c_gt, c_ge, c_eq, c_ne, c_in, c_ni, c_is, c_isn, e_int, e_str, e_bool, t_bl, t_int, t_lst, t_tup, t_non, f_lent, f_lenl, f_lens, f_lbt, f_lbl, f_lbs, f_inti, f_tupl, f_tupt, f_lstt, f_lstl, f_stri, y_non, y_bl, y_int, y_str, y_tup, y_lst, y_ins, rg_1, rg_2, sq_tup, sq_lst, zp_tup, en_lst, en_tup, aL_lst, sl_t, sl_s, Ty.below, List.any_cons, List.any_nil, subT, Bool.or_false, Bool.not_true, Bool.not_false, true_and, and_true, reduceCtorEq, decide_false, decide_true, Bool.false_eq_true, if_false, if_true, Bool.not_eq_true', Bool.not_not]
    rw [f2]
    simp only [wpSs_nil, wpS, wpE, wpEs, wpEo, wpC, wpT, wpSrc, Rd_val, Rd_new, frz_lst, frz_ins, List.getElem?_cons_zero, List.getElem?_cons_succ, List.set_cons_zero, List.set_cons_succ, kw_nil, bindT, wipeD, List.map_cons, List.map_nil, List.zip_cons_cons, List.zip_nil_right, List.zip_nil_left, List.foldl_cons, List.foldl_nil, o_add, o_adds, o_addt, o_addl, o_sub, o_mul, o_mult, o_mull, o_muls, o_div, o_mod, o_pow, c_lt, c_le, c_gt, c_ge, c_eq, c_ne, c_in, c_ni, c_is, c_isn, e_int, e_str, e_bool, t_bl, t_int, t_lst, t_tup, t_non, f_lent, f_lenl, f_lens, f_lbt, f_lbl, f_lbs, f_inti, f_tupl, f_tupt, f_lstt, f_lstl, f_stri, y_non, y_bl, y_int, y_str, y_tup, y_lst, y_ins, rg_1, rg_2, sq_tup, sq_lst, zp_tup, en_lst, en_tup, aL_lst, sl_t, sl_s, Ty.below, List.any_cons, List.any_nil, subT, Bool.or_false, Bool.not_true, Bool.not_false, true_and, and_true, reduceCtorEq, decide_false, decide_true, Bool.false_eq_true, if_false, if_true, Bool.not_eq_true', Bool.not_not]
    rw [f0]
    simp only [wpSs_nil, wpS, wpE, wpEs, wpEo, wpC, wpT, wpSrc, Rd_val, Rd_new, frz_lst, frz_ins, List.getElem?_cons_zero, List.getElem?_cons_succ, List.set_cons_zero, List.set_cons_succ, kw_nil, bindT, wipeD, List.map_cons, List.map_nil, List.zip_cons_cons, List.zip_nil_right, List.zip_nil_left, List.foldl_cons, List.foldl_nil, o_add, o_adds, o_addt, o_addl, o_sub, o_mul, o_mult, o_mull, o_muls, o_div, o_mod, o_pow, c_lt, c_le, c_gt, c_ge, c_eq, c_ne, c_in, c_ni, c_is, c_isn, e_int, e_str, e_bool, t_bl, t_int, t_lst, t_tup, t_non, f_lent, f_lenl, f_lens, f_lbt, f_lbl, f_lbs, f_inti, f_tupl, f_tupt, f_lstt, f_lstl, f_stri, y_non, y_bl, y_int, y_str, y_tup, y_lst, y_ins, rg_1, rg_2, sq_tup, sq_lst, zp_tup, en_lst, en_tup, aL_lst, sl_t, sl_s, Ty.below, List.any_cons, List.any_nil, subT, Bool.or_false, Bool.not_true, Bool.not_false, true_and, and_true, reduceCtorEq, decide_false, decide_true, Bool.false_eq_true, if_false, if_true, Bool.not_eq_true', Bool.not_not]
    rw [h8]
    refine ⟨p, 26, rfl, by decide, by decide, s1.pool, fun r M'' r0 r1 s2 => ?_⟩
    simp only [wpSs_nil, wpS, wpE, wpEs, wpEo, wpC, wpT, wpSrc, Rd_val, Rd_new, frz_lst, frz_ins, List.getElem?_cons_zero, List.getElem?_cons_succ, List.set_cons_zero, List.set_cons_succ, kw_nil, bindT, wipeD, List.map_cons, List.map_nil, List.zip_cons_cons, List.zip_nil_right, List.zip_nil_left, List.foldl_cons, List.foldl_nil, o_add, o_adds, o_addt, o_addl, o_sub, o_mul, o_mult, o_mull, o_muls, o_div, o_mod, o_pow, c_lt, c_le, c_gt, c_ge, c_eq, c_ne, c_in, c_ni, c_is, c_isn, e_int, e_str, e_bool, t_bl, t_int, t_lst, t_tup, t_non, f_lent, f_lenl, f_lens, f_lbt, f_lbl, f_lbs, f_inti, f_tupl, f_tupt, f_lstt, f_lstl, f_stri, y_non, y_bl, y_int, y_str, y_tup, y_lst, y_ins, rg_1, rg_2, sq_tup, sq_lst, zp_tup, en_lst, en_tup, aL_lst, sl_t, sl_s, Ty.below, List.any_cons, List.any_nil, subT, Bool.or_false, Bool.not_true, Bool.not_false, true_and, and_true, reduceCtorEq, decide_false, decide_true, Bool.false_eq_true, if_false, if_true, Bool.not_eq_true', Bool.not_not]
    rw [let_ix r0 r1]
    refine ⟨let_len, cs ++ [97 + r.toNat], by simp, by simp, fun c hcm => ?_, s1.trans s2⟩
    rcases List.mem_append.mp hcm with h | h
    · exact hc c h
    · rw [List.mem_singleton] at h; subst h; omega
  · rintro acc M' ⟨cs, rfl, hl, hc, s1⟩
    exact hq cs M' (by rw [hl, rg_len]; omega) hc s1
theorem word_ok {cs : List Nat} (h1 : 1 ≤ cs.length) (h2 : cs.length ≤ 12) (hc : ∀ c ∈ cs, 97 ≤ c ∧ c ≤ 122) : wordOk (Txt.join "" (cs.map one1)) = true ∧ (Txt.join "" (cs.map one1)).length = cs.length := by
  have e := joinT_one cs
  have l : (Txt.join "" (cs.map one1)).length = cs.length := by rw [len_cps, e]
  refine ⟨?_, l⟩
  simp only [wordOk, Bool.and_eq_true, decide_eq_true_eq, List.all_eq_true, l, e]
  exact ⟨⟨h1, h2⟩, hc⟩
def sp_law_words : DSp := fun ds M Q _ => ∃ (p : Addr) (n : Int), ds = [.ref p, .int n] ∧ 0 ≤ n ∧ n ≤ 12 ∧ PoolAt M p ∧
  ∀ (ws : List Str) M', (ws.length : Int) = n → ws.Nodup → (∀ w ∈ ws, wordOk w = true) → Step p M M' → Q (.val (.lst (ws.map .str))) M'
def wtail : Ss := (.cons (.set 10 (.var 5))
   (.cons (.for_ (.name 11) (.range (.cons (.con (.int 26)) .nil))
    (.cons (.set 10 (.op .Add (.op .Add (.slice (.var 5) .none (.some (.var 6))) (.ix (.var 2) (.op .Mod (.fn .int (.cons (.op .Add (.op .Add (.var 7) (.op .Mult (.con (.int 7)) (.var 9))) (.var 11)) .nil)) (.con (.int 26))))) (.slice (.var 5) (.some (.op .Add (.var 6) (.con (.int 1)))) .none)))
    (.cons (.ite (.val (.cmp .NotIn (.var 10) (.var 8)))
     (.cons (.brk)
     .nil)
     .nil)
    .nil)))
   (.cons (.expr (.mt .append (.var 8) (.cons (.var 10) .nil)))
   .nil)))
theorem ok_wtail {T : Tb} {D0 : DEnds} {p q : Addr} {n alike a shift : Int} {w : Str} {i : Nat} {ws : List Str} {M : Mem} {sz nw tn j : Option D} (wk : wordOk w = true) (a0 : 0 ≤ a) (a1 : a < w.length) (hl : ws.length < 26) (f0 : 0 ≤ shift) (f1 : shift < 26) (hi : i < 12) (hM : M q = some (.lst (ws.map D.str)))
    (hnx : ∀ (w' : Str) tn', wordOk w' = true → w' ∉ ws → D0.nx [some (.ref p), some (.int n), some (.str letS), some (.int alike), sz, some (.str w), some (.int a), some (.int shift), some (.ref q), some (.int (i : Nat)), some (.str w'), tn', j] (mput M q (.lst ((ws ++ [w']).map D.str)))) :
    wpSs T wtail D0 [some (.ref p), some (.int n), some (.str letS), some (.int alike), sz, some (.str w), some (.int a), some (.int shift), some (.ref q), some (.int (i : Nat)), nw, tn, j] M := by
  have hs : sizeLine = 16777216 := sizeLine_eq
  have lw : w.length ≤ 12 := by
    simp only [wordOk, Bool.and_eq_true, decide_eq_true_eq] at wk
    exact wk.1.2
  have lc := len_cps w
  have cl : ∀ {lo hi : Option Int}, (cutS w lo hi).length ≤ w.length := fun {lo hi} => by
    rw [len_cps (cutS w lo hi), lc]
    unfold cutS
    simp only [List.length_take, List.length_drop]
    omega
  unfold wtail
  (rw [wpSs_cons]; simp only [wpSs_nil, wpS, wpE, wpEs, wpEo, wpC, wpT, wpSrc, Rd_val, Rd_new, frz_lst, frz_ins, List.getElem?_cons_zero, List.getElem?_cons_succ, List.set_cons_zero, List.set_cons_succ, kw_nil, bindT, wipeD, List.map_cons, List.map_nil, List.zip_cons_cons, List.zip_nil_right, List.zip_nil_left, List.foldl_cons, List.foldl_nil, o_add, o_adds, o_addt, o_addl, o_sub, o_mul, o_mult, o_mull, o_muls, o_div, o_mod, o_pow, c_lt, c_le, c_gt, c_ge, c_eq, c_ne, c_in, c_ni, c_is, c_isn, e_int, e_str, e_bool, t_bl, t_int, t_lst, t_tup, t_non, f_lent, f_lenl, f_lens, f_lbt, f_lbl, f_lbs, f_inti, f_tupl, f_tupt, f_lstt, f_lstl, f_stri, y_non, y_bl, y_int, y_str, y_tup, y_lst, y_ins, rg_1, rg_2, sq_tup, sq_lst, zp_tup, en_lst, en_tup, aL_lst, sl_t, sl_s, Ty.below, List.any_cons, List.any_nil, subT, Bool.or_false, Bool.not_true, Bool.not_false, true_and, and_true, reduceCtorEq, decide_false, decide_true, Bool.false_eq_true, if_false, if_true, Bool.not_eq_true', Bool.not_not])
  (rw [wpSs_cons]; simp only [wpSs_nil, wpS, wpE, wpEs, wpEo, wpC, wpT, wpSrc, Rd_val, Rd_new, frz_lst, frz_ins, List.getElem?_cons_zero, List.getElem?_cons_succ, List.set_cons_zero, List.set_cons_succ, kw_nil, bindT, wipeD, List.map_cons, List.map_nil, List.zip_cons_cons, List.zip_nil_right, List.zip_nil_left, List.foldl_cons, List.foldl_nil, o_add, o_adds, o_addt, o_addl, o_sub, o_mul, o_mult, o_mull, o_muls, o_div, o_mod, o_pow, c_lt, c_le, c_gt, c_ge, c_eq, c_ne, c_in, c_ni, c_is, c_isn, e_int, e_str, e_bool, t_bl, t_int, t_lst, t_tup, t_non, f_lent, f_lenl, f_lens, f_lbt, f_lbl, f_lbs, f_inti, f_tupl, f_tupt, f_lstt, f_lstl, f_stri, y_non, y_bl, y_int, y_str, y_tup, y_lst, y_ins, rg_1, rg_2, sq_tup, sq_lst, zp_tup, en_lst, en_tup, aL_lst, sl_t, sl_s, Ty.below, List.any_cons, List.any_nil, subT, Bool.or_false, Bool.not_true, Bool.not_false, true_and, and_true, reduceCtorEq, decide_false, decide_true, Bool.false_eq_true, if_false, if_true, Bool.not_eq_true', Bool.not_not])
  refine ⟨⟨by decide, by decide⟩, ?_⟩
  refine ⟨fun t ρ M2 => M2 = M ∧ ∃ (nw tn : Option D), ρ = [some (.ref p), some (.int n), some (.str letS), some (.int alike), sz, some (.str w), some (.int a), some (.int shift), some (.ref q), some (.int (i : Nat)), nw, tn, j] ∧ ∀ s : Nat, s < t → cand w a (shift + 7 * i + s) ∈ ws, ⟨rfl, _, _, rfl, by omega⟩, fun _ _ _ _ _ => trivial, ?_, ?_⟩
  · rintro t x ρ M2 hx ⟨rfl, nw, tn, rfl, hc⟩
    obtain ⟨ht, rfl⟩ := rg_get hx
    simp only [wpSs_nil, wpS, wpE, wpEs, wpEo, wpC, wpT, wpSrc, Rd_val, Rd_new, frz_lst, frz_ins, List.getElem?_cons_zero, List.getElem?_cons_succ, List.set_cons_zero, List.set_cons_succ, kw_nil, bindT, wipeD, List.map_cons, List.map_nil, List.zip_cons_cons, List.zip_nil_right, List.zip_nil_left, List.foldl_cons, List.foldl_nil, o_add, o_adds, o_addt, o_addl, o_sub, o_mul, o_mult, o_mull, o_muls, o_div, o_mod, o_pow, c_lt, c_le, c_gt, c_ge, c_eq, c_ne, c_in, c_ni, c_is, c_isn, e_int, e_str, e_bool, t_bl, t_int, t_lst, t_tup, t_non, f_lent, f_lenl, f_lens, f_lbt, f_lbl, f_lbs, f_inti, f_tupl, f_tupt, f_lstt, f_lstl, f_stri, y_non, y_bl, y_int, y_str, y_tup, y_lst, y_ins, rg_1, rg_2, sq_tup, sq_lst, zp_tup, en_lst, en_tup, aL_lst, sl_t, sl_s, Ty.below, List.any_cons, List.any_nil, subT, Bool.or_false, Bool.not_true, Bool.not_false, true_and, and_true, reduceCtorEq, decide_false, decide_true, Bool.false_eq_true, if_false, if_true, Bool.not_eq_true', Bool.not_not]
    (rw [wpSs_cons]; simp only [wpSs_nil, wpS, wpE, wpEs, wpEo, wpC, wpT, wpSrc, Rd_val, Rd_new, frz_lst, frz_ins, List.getElem?_cons_zero, List.getElem?_cons_succ, List.set_cons_zero, List.set_cons_succ, kw_nil, bindT, wipeD, List.map_cons, List.map_nil, List.zip_cons_cons, List.zip_nil_right, List.zip_nil_left, List.foldl_cons, List.foldl_nil, o_add, o_adds, o_addt, o_addl, o_sub, o_mul, o_mult, o_mull, o_muls, o_div, o_mod, o_pow, c_lt, c_le, c_gt, c_ge, c_eq, c_ne, c_in, c_ni, c_is, c_isn, e_int, e_str, e_bool, t_bl, t_int, t_lst, t_tup, t_non, f_lent, f_lenl, f_lens, f_lbt, f_lbl, f_lbs, f_inti, f_tupl, f_tupt, f_lstt, f_lstl, f_stri, y_non, y_bl, y_int, y_str, y_tup, y_lst, y_ins, rg_1, rg_2, sq_tup, sq_lst, zp_tup, en_lst, en_tup, aL_lst, sl_t, sl_s, Ty.below, List.any_cons, List.any_nil, subT, Bool.or_false, Bool.not_true, Bool.not_false, true_and, and_true, reduceCtorEq, decide_false, decide_true, Bool.false_eq_true, if_false, if_true, Bool.not_eq_true', Bool.not_not])
    have m0 : 0 ≤ (shift + 7 * i + (0 + t)) % 26 := Int.emod_nonneg _ (by decide)
    have m1 : (shift + 7 * i + (0 + t)) % 26 < 26 := Int.emod_lt_of_pos _ (by decide)
    refine ⟨by omega, ?_⟩
    have lg : (7 : Int).natAbs.log2 + ((i : Nat) : Int).natAbs.log2 < 1000000 := by
      have := log_small (s := (i : Nat)) (by omega) (by omega)
      have : (7 : Int).natAbs.log2 = 2 := by decide
      omega
    refine ⟨lg, by decide, ?_⟩
    rw [let_ix m0 m1]
    refine ⟨let_len, ?_⟩
    simp only [wpSs_nil, wpS, wpE, wpEs, wpEo, wpC, wpT, wpSrc, Rd_val, Rd_new, frz_lst, frz_ins, List.getElem?_cons_zero, List.getElem?_cons_succ, List.set_cons_zero, List.set_cons_succ, kw_nil, bindT, wipeD, List.map_cons, List.map_nil, List.zip_cons_cons, List.zip_nil_right, List.zip_nil_left, List.foldl_cons, List.foldl_nil, o_add, o_adds, o_addt, o_addl, o_sub, o_mul, o_mult, o_mull, o_muls, o_div, o_mod, o_pow, c_lt, c_le, c_gt, c_ge, c_eq, c_ne, c_in, c_ni, c_is, c_isn, e_int, e_str, e_bool, t_bl, t_int, t_lst, t_tup, t_non, f_lent, f_lenl, f_lens, f_lbt, f_lbl, f_lbs, f_inti, f_tupl, f_tupt, f_lstt, f_lstl, f_stri, y_non, y_bl, y_int, y_str, y_tup, y_lst, y_ins, rg_1, rg_2, sq_tup, sq_lst, zp_tup, en_lst, en_tup, aL_lst, sl_t, sl_s, Ty.below, List.any_cons, List.any_nil, subT, Bool.or_false, Bool.not_true, Bool.not_false, true_and, and_true, reduceCtorEq, decide_false, decide_true, Bool.false_eq_true, if_false, if_true, Bool.not_eq_true', Bool.not_not]
    have l1 : (one1 (97 + ((shift + 7 * i + (0 + t)) % 26).toNat)).length = 1 := rfl
    have c1 := cl (lo := none) (hi := some a)
    have c2 := cl (lo := some (a + 1)) (hi := none)
    refine ⟨by omega, by omega, ?_⟩
    have la : ∀ x y : Str, (x ++ y).length = x.length + y.length := fun x y => by rw [len_cps, app_cps, List.length_append, ← len_cps, ← len_cps]
    refine ⟨by rw [la]; omega, ?_⟩
    have ec : cutS w none (some a) ++ one1 (97 + ((shift + 7 * i + (0 + t)) % 26).toNat) ++ cutS w (some (a + 1)) none = cand w a (shift + 7 * i + t) := by
      unfold cand
      rw [show (0 + (t : Int)) = t by omega]
    rw [ec]
    (rw [wpSs_cons]; simp only [wpSs_nil, wpS, wpE, wpEs, wpEo, wpC, wpT, wpSrc, Rd_val, Rd_new, frz_lst, frz_ins, List.getElem?_cons_zero, List.getElem?_cons_succ, List.set_cons_zero, List.set_cons_succ, kw_nil, bindT, wipeD, List.map_cons, List.map_nil, List.zip_cons_cons, List.zip_nil_right, List.zip_nil_left, List.foldl_cons, List.foldl_nil, o_add, o_adds, o_addt, o_addl, o_sub, o_mul, o_mult, o_mull, o_muls, o_div, o_mod, o_pow, c_lt, c_le, c_gt, c_ge, c_eq, c_ne, c_in, c_ni, c_is, c_isn, e_int, e_str, e_bool, t_bl, t_int, t_lst, t_tup, t_non, f_lent, f_lenl, f_lens, f_lbt, f_lbl, f_lbs, f_inti, f_tupl, f_tupt, f_lstt, f_lstl, f_stri, y_non, y_bl, y_int, y_str, y_tup, y_lst, y_ins, rg_1, rg_2, sq_tup, sq_lst, zp_tup, en_lst, en_tup, aL_lst, sl_t, sl_s, Ty.below, List.any_cons, List.any_nil, subT, Bool.or_false, Bool.not_true, Bool.not_false, true_and, and_true, reduceCtorEq, decide_false, decide_true, Bool.false_eq_true, if_false, if_true, Bool.not_eq_true', Bool.not_not])
    rw [in_strs_c hM]
    cases h : ws.contains (cand w a (shift + 7 * i + t)) with
    | true =>
      simp only [wpSs_nil, wpS, wpE, wpEs, wpEo, wpC, wpT, wpSrc, Rd_val, Rd_new, frz_lst, frz_ins, List.getElem?_cons_zero, List.getElem?_cons_succ, List.set_cons_zero, List.set_cons_succ, kw_nil, bindT, wipeD, List.map_cons, List.map_nil, List.zip_cons_cons, List.zip_nil_right, List.zip_nil_left, List.foldl_cons, List.foldl_nil, o_add, o_adds, o_addt, o_addl, o_sub, o_mul, o_mult, o_mull, o_muls, o_div, o_mod, o_pow, c_lt, c_le, c_gt, c_ge, c_eq, c_ne, c_in, c_ni, c_is, c_isn, e_int, e_str, e_bool, t_bl, t_int, t_lst, t_tup, t_non, f_lent, f_lenl, f_lens, f_lbt, f_lbl, f_lbs, f_inti, f_tupl, f_tupt, f_lstt, f_lstl, f_stri, y_non, y_bl, y_int, y_str, y_tup, y_lst, y_ins, rg_1, rg_2, sq_tup, sq_lst, zp_tup, en_lst, en_tup, aL_lst, sl_t, sl_s, Ty.below, List.any_cons, List.any_nil, subT, Bool.or_false, Bool.not_true, Bool.not_false, true_and, and_true, reduceCtorEq, decide_false, decide_true, Bool.false_eq_true, if_false, if_true, Bool.not_eq_true', Bool.not_not]
      refine ⟨_, _, rfl, fun s hs' => ?_⟩
      by_cases e : s = t
      · subst e; simpa using h
      · exact hc s (by omega)
    | false =>
      simp only [wpSs_nil, wpS, wpE, wpEs, wpEo, wpC, wpT, wpSrc, Rd_val, Rd_new, frz_lst, frz_ins, List.getElem?_cons_zero, List.getElem?_cons_succ, List.set_cons_zero, List.set_cons_succ, kw_nil, bindT, wipeD, List.map_cons, List.map_nil, List.zip_cons_cons, List.zip_nil_right, List.zip_nil_left, List.foldl_cons, List.foldl_nil, o_add, o_adds, o_addt, o_addl, o_sub, o_mul, o_mult, o_mull, o_muls, o_div, o_mod, o_pow, c_lt, c_le, c_gt, c_ge, c_eq, c_ne, c_in, c_ni, c_is, c_isn, e_int, e_str, e_bool, t_bl, t_int, t_lst, t_tup, t_non, f_lent, f_lenl, f_lens, f_lbt, f_lbl, f_lbs, f_inti, f_tupl, f_tupt, f_lstt, f_lstl, f_stri, y_non, y_bl, y_int, y_str, y_tup, y_lst, y_ins, rg_1, rg_2, sq_tup, sq_lst, zp_tup, en_lst, en_tup, aL_lst, sl_t, sl_s, Ty.below, List.any_cons, List.any_nil, subT, Bool.or_false, Bool.not_true, Bool.not_false, true_and, and_true, reduceCtorEq, decide_false, decide_true, Bool.false_eq_true, if_false, if_true, Bool.not_eq_true', Bool.not_not]
      (rw [wpSs_cons]; simp only [wpSs_nil, wpS, wpE, wpEs, wpEo, wpC, wpT, wpSrc, Rd_val, Rd_new, frz_lst, frz_ins, List.getElem?_cons_zero, List.getElem?_cons_succ, List.set_cons_zero, List.set_cons_succ, kw_nil, bindT, wipeD, List.map_cons, List.map_nil, List.zip_cons_cons, List.zip_nil_right, List.zip_nil_left, List.foldl_cons, List.foldl_nil, o_add, o_adds, o_addt, o_addl, o_sub, o_mul, o_mult, o_mull, o_muls, o_div, o_mod, o_pow, c_lt, c_le, c_gt, c_ge, c_eq, c_ne, c_in, c_ni, c_is, c_isn, e_int, e_str, e_bool, t_bl, t_int, t_lst, t_tup, t_non, f_lent, f_lenl, f_lens, f_lbt, f_lbl, f_lbs, f_inti, f_tupl, f_tupt, f_lstt, f_lstl, f_stri, y_non, y_bl, y_int, y_str, y_tup, y_lst, y_ins, rg_1, rg_2, sq_tup, sq_lst, zp_tup, en_lst, en_tup, aL_lst, sl_t, sl_s, Ty.below, List.any_cons, List.any_nil, subT, Bool.or_false, Bool.not_true, Bool.not_false, true_and, and_true, reduceCtorEq, decide_false, decide_true, Bool.false_eq_true, if_false, if_true, Bool.not_eq_true', Bool.not_not])
      (rw [wpSs_cons]; simp only [wpSs_nil, wpS, wpE, wpEs, wpEo, wpC, wpT, wpSrc, Rd_val, Rd_new, frz_lst, frz_ins, List.getElem?_cons_zero, List.getElem?_cons_succ, List.set_cons_zero, List.set_cons_succ, kw_nil, bindT, wipeD, List.map_cons, List.map_nil, List.zip_cons_cons, List.zip_nil_right, List.zip_nil_left, List.foldl_cons, List.foldl_nil, o_add, o_adds, o_addt, o_addl, o_sub, o_mul, o_mult, o_mull, o_muls, o_div, o_mod, o_pow, c_lt, c_le, c_gt, c_ge, c_eq, c_ne, c_in, c_ni, c_is, c_isn, e_int, e_str, e_bool, t_bl, t_int, t_lst, t_tup, t_non, f_lent, f_lenl, f_lens, f_lbt, f_lbl, f_lbs, f_inti, f_tupl, f_tupt, f_lstt, f_lstl, f_stri, y_non, y_bl, y_int, y_str, y_tup, y_lst, y_ins, rg_1, rg_2, sq_tup, sq_lst, zp_tup, en_lst, en_tup, aL_lst, sl_t, sl_s, Ty.below, List.any_cons, List.any_nil, subT, Bool.or_false, Bool.not_true, Bool.not_false, true_and, and_true, reduceCtorEq, decide_false, decide_true, Bool.false_eq_true, if_false, if_true, Bool.not_eq_true', Bool.not_not])
      refine ⟨ty_c hM (by simp), ?_⟩
      rw [app_c hM]
      refine ⟨by rw [List.length_map]; omega, ?_⟩
      have hni : cand w a (shift + 7 * i + t) ∉ ws := by
        intro hm
        have : ws.contains (cand w a (shift + 7 * i + t)) = true := by simpa using hm
        rw [h] at this; cases this
      have := hnx (cand w a (shift + 7 * i + t)) (some (.int (0 + (t : Nat)))) (cand_ok a0 a1 wk) hni
      rw [List.map_append] at this
      exact this
  · rintro ρ M2 ⟨rfl, nw, tn, rfl, hc⟩
    have := cand_all (s := shift + 7 * i) a0 a1 (ws := ws) fun t ht => hc t (by rw [rg_len]; omega)
    omega
/-- the drawing of a word, in the loop or ahead of it -/
theorem ok_law_words {T : Tb} (h8 : T.fn 8 = sp_draw) : SpOk T N_law_words ir_law_words 2 sp_law_words := by
  rintro ds M Q E hl ⟨p, n, rfl, n0, n6, hp, hq⟩
  show wpSs T ir_law_words _ [some (.ref p), some (.int n), none, none, none, none, none, none, none, none, none, none, none] M
  unfold ir_law_words
  have hs : sizeLine = 16777216 := sizeLine_eq
  (rw [wpSs_cons]; simp only [wpSs_nil, wpS, wpE, wpEs, wpEo, wpC, wpT, wpSrc, Rd_val, Rd_new, frz_lst, frz_ins, List.getElem?_cons_zero, List.getElem?_cons_succ, List.set_cons_zero, List.set_cons_succ, kw_nil, bindT, wipeD, List.map_cons, List.map_nil, List.zip_cons_cons, List.zip_nil_right, List.zip_nil_left, List.foldl_cons, List.foldl_nil, o_add, o_adds, o_addt, o_addl, o_sub, o_mul, o_mult, o_mull, o_muls, o_div, o_mod, o_pow, c_lt, c_le, c_gt, c_ge, c_eq, c_ne, c_in, c_ni, c_is, c_isn, e_int, e_str, e_bool, t_bl, t_int, t_lst, t_tup, t_non, f_lent, f_lenl, f_lens, f_lbt, f_lbl, f_lbs, f_inti, f_tupl, f_tupt, f_lstt, f_lstl, f_stri, y_non, y_bl, y_int, y_str, y_tup, y_lst, y_ins, rg_1, rg_2, sq_tup, sq_lst, zp_tup, en_lst, en_tup, aL_lst, sl_t, sl_s, Ty.below, List.any_cons, List.any_nil, subT, Bool.or_false, Bool.not_true, Bool.not_false, true_and, and_true, reduceCtorEq, decide_false, decide_true, Bool.false_eq_true, if_false, if_true, Bool.not_eq_true', Bool.not_not])
  (rw [wpSs_cons]; simp only [wpSs_nil, wpS, wpE, wpEs, wpEo, wpC, wpT, wpSrc, Rd_val, Rd_new, frz_lst, frz_ins, List.getElem?_cons_zero, List.getElem?_cons_succ, List.set_cons_zero, List.set_cons_succ, kw_nil, bindT, wipeD, List.map_cons, List.map_nil, List.zip_cons_cons, List.zip_nil_right, List.zip_nil_left, List.foldl_cons, List.foldl_nil, o_add, o_adds, o_addt, o_addl, o_sub, o_mul, o_mult, o_mull, o_muls, o_div, o_mod, o_pow, c_lt, c_le, c_gt, c_ge, c_eq, c_ne, c_in, c_ni, c_is, c_isn, e_int, e_str, e_bool, t_bl, t_int, t_lst, t_tup, t_non, f_lent, f_lenl, f_lens, f_lbt, f_lbl, f_lbs, f_inti, f_tupl, f_tupt, f_lstt, f_lstl, f_stri, y_non, y_bl, y_int, y_str, y_tup, y_lst, y_ins, rg_1, rg_2, sq_tup, sq_lst, zp_tup, en_lst, en_tup, aL_lst, sl_t, sl_s, Ty.below, List.any_cons, List.any_nil, subT, Bool.or_false, Bool.not_true, Bool.not_false, true_and, and_true, reduceCtorEq, decide_false, decide_true, Bool.false_eq_true, if_false, if_true, Bool.not_eq_true', Bool.not_not])
  rw [h8]
  refine ⟨p, 2, rfl, by decide, by decide, hp, fun alike M1 a0 a1 s1 => ?_⟩
  simp only [wpSs_nil, wpS, wpE, wpEs, wpEo, wpC, wpT, wpSrc, Rd_val, Rd_new, frz_lst, frz_ins, List.getElem?_cons_zero, List.getElem?_cons_succ, List.set_cons_zero, List.set_cons_succ, kw_nil, bindT, wipeD, List.map_cons, List.map_nil, List.zip_cons_cons, List.zip_nil_right, List.zip_nil_left, List.foldl_cons, List.foldl_nil, o_add, o_adds, o_addt, o_addl, o_sub, o_mul, o_mult, o_mull, o_muls, o_div, o_mod, o_pow, c_lt, c_le, c_gt, c_ge, c_eq, c_ne, c_in, c_ni, c_is, c_isn, e_int, e_str, e_bool, t_bl, t_int, t_lst, t_tup, t_non, f_lent, f_lenl, f_lens, f_lbt, f_lbl, f_lbs, f_inti, f_tupl, f_tupt, f_lstt, f_lstl, f_stri, y_non, y_bl, y_int, y_str, y_tup, y_lst, y_ins, rg_1, rg_2, sq_tup, sq_lst, zp_tup, en_lst, en_tup, aL_lst, sl_t, sl_s, Ty.below, List.any_cons, List.any_nil, subT, Bool.or_false, Bool.not_true, Bool.not_false, true_and, and_true, reduceCtorEq, decide_false, decide_true, Bool.false_eq_true, if_false, if_true, Bool.not_eq_true', Bool.not_not]
  (rw [wpSs_cons]; simp only [wpSs_nil, wpS, wpE, wpEs, wpEo, wpC, wpT, wpSrc, Rd_val, Rd_new, frz_lst, frz_ins, List.getElem?_cons_zero, List.getElem?_cons_succ, List.set_cons_zero, List.set_cons_succ, kw_nil, bindT, wipeD, List.map_cons, List.map_nil, List.zip_cons_cons, List.zip_nil_right, List.zip_nil_left, List.foldl_cons, List.foldl_nil, o_add, o_adds, o_addt, o_addl, o_sub, o_mul, o_mult, o_mull, o_muls, o_div, o_mod, o_pow, c_lt, c_le, c_gt, c_ge, c_eq, c_ne, c_in, c_ni, c_is, c_isn, e_int, e_str, e_bool, t_bl, t_int, t_lst, t_tup, t_non, f_lent, f_lenl, f_lens, f_lbt, f_lbl, f_lbs, f_inti, f_tupl, f_tupt, f_lstt, f_lstl, f_stri, y_non, y_bl, y_int, y_str, y_tup, y_lst, y_ins, rg_1, rg_2, sq_tup, sq_lst, zp_tup, en_lst, en_tup, aL_lst, sl_t, sl_s, Ty.below, List.any_cons, List.any_nil, subT, Bool.or_false, Bool.not_true, Bool.not_false, true_and, and_true, reduceCtorEq, decide_false, decide_true, Bool.false_eq_true, if_false, if_true, Bool.not_eq_true', Bool.not_not])
  rw [h8]
  refine ⟨p, 12, rfl, by decide, by decide, s1.pool, fun size M2 z0 z1 s2 => ?_⟩
  simp only [wpSs_nil, wpS, wpE, wpEs, wpEo, wpC, wpT, wpSrc, Rd_val, Rd_new, frz_lst, frz_ins, List.getElem?_cons_zero, List.getElem?_cons_succ, List.set_cons_zero, List.set_cons_succ, kw_nil, bindT, wipeD, List.map_cons, List.map_nil, List.zip_cons_cons, List.zip_nil_right, List.zip_nil_left, List.foldl_cons, List.foldl_nil, o_add, o_adds, o_addt, o_addl, o_sub, o_mul, o_mult, o_mull, o_muls, o_div, o_mod, o_pow, c_lt, c_le, c_gt, c_ge, c_eq, c_ne, c_in, c_ni, c_is, c_isn, e_int, e_str, e_bool, t_bl, t_int, t_lst, t_tup, t_non, f_lent, f_lenl, f_lens, f_lbt, f_lbl, f_lbs, f_inti, f_tupl, f_tupt, f_lstt, f_lstl, f_stri, y_non, y_bl, y_int, y_str, y_tup, y_lst, y_ins, rg_1, rg_2, sq_tup, sq_lst, zp_tup, en_lst, en_tup, aL_lst, sl_t, sl_s, Ty.below, List.any_cons, List.any_nil, subT, Bool.or_false, Bool.not_true, Bool.not_false, true_and, and_true, reduceCtorEq, decide_false, decide_true, Bool.false_eq_true, if_false, if_true, Bool.not_eq_true', Bool.not_not]
  rw [wpSs_cons]
  show mtTy .join (.str "") M2 = true ∧ wpE T (.comp (.ix (.var 2) (.call 8 (.cons (.var 0) (.cons (.con (.int 26)) .nil)) [] .nil)) (.name 9) (.range (.cons (.var 4) .nil)) .none [("k", 9)]) _ M2 _ _
  refine ⟨rfl, comp_letters h8 s2.pool rfl rfl rfl (by decide) (by omega) (by omega) fun cs M3 hcl hc s3 => ?_⟩
  simp only [wpSs_nil, wpS, wpE, wpEs, wpEo, wpC, wpT, wpSrc, Rd_val, Rd_new, frz_lst, frz_ins, List.getElem?_cons_zero, List.getElem?_cons_succ, List.set_cons_zero, List.set_cons_succ, kw_nil, bindT, wipeD, List.map_cons, List.map_nil, List.zip_cons_cons, List.zip_nil_right, List.zip_nil_left, List.foldl_cons, List.foldl_nil, o_add, o_adds, o_addt, o_addl, o_sub, o_mul, o_mult, o_mull, o_muls, o_div, o_mod, o_pow, c_lt, c_le, c_gt, c_ge, c_eq, c_ne, c_in, c_ni, c_is, c_isn, e_int, e_str, e_bool, t_bl, t_int, t_lst, t_tup, t_non, f_lent, f_lenl, f_lens, f_lbt, f_lbl, f_lbs, f_inti, f_tupl, f_tupt, f_lstt, f_lstl, f_stri, y_non, y_bl, y_int, y_str, y_tup, y_lst, y_ins, rg_1, rg_2, sq_tup, sq_lst, zp_tup, en_lst, en_tup, aL_lst, sl_t, sl_s, Ty.below, List.any_cons, List.any_nil, subT, Bool.or_false, Bool.not_true, Bool.not_false, true_and, and_true, reduceCtorEq, decide_false, decide_true, Bool.false_eq_true, if_false, if_true, Bool.not_eq_true', Bool.not_not]
  rw [join_c, sum_one]
  obtain ⟨wk, wl⟩ := word_ok (cs := cs) (by omega) (by omega) hc
  generalize Txt.join "" (cs.map one1) = w at wk wl
  refine ⟨by show _ + _ * 0 ≤ _; omega, ?_⟩
  simp only [wpSs_nil, wpS, wpE, wpEs, wpEo, wpC, wpT, wpSrc, Rd_val, Rd_new, frz_lst, frz_ins, List.getElem?_cons_zero, List.getElem?_cons_succ, List.set_cons_zero, List.set_cons_succ, kw_nil, bindT, wipeD, List.map_cons, List.map_nil, List.zip_cons_cons, List.zip_nil_right, List.zip_nil_left, List.foldl_cons, List.foldl_nil, o_add, o_adds, o_addt, o_addl, o_sub, o_mul, o_mult, o_mull, o_muls, o_div, o_mod, o_pow, c_lt, c_le, c_gt, c_ge, c_eq, c_ne, c_in, c_ni, c_is, c_isn, e_int, e_str, e_bool, t_bl, t_int, t_lst, t_tup, t_non, f_lent, f_lenl, f_lens, f_lbt, f_lbl, f_lbs, f_inti, f_tupl, f_tupt, f_lstt, f_lstl, f_stri, y_non, y_bl, y_int, y_str, y_tup, y_lst, y_ins, rg_1, rg_2, sq_tup, sq_lst, zp_tup, en_lst, en_tup, aL_lst, sl_t, sl_s, Ty.below, List.any_cons, List.any_nil, subT, Bool.or_false, Bool.not_true, Bool.not_false, true_and, and_true, reduceCtorEq, decide_false, decide_true, Bool.false_eq_true, if_false, if_true, Bool.not_eq_true', Bool.not_not]
  (rw [wpSs_cons]; simp only [wpSs_nil, wpS, wpE, wpEs, wpEo, wpC, wpT, wpSrc, Rd_val, Rd_new, frz_lst, frz_ins, List.getElem?_cons_zero, List.getElem?_cons_succ, List.set_cons_zero, List.set_cons_succ, kw_nil, bindT, wipeD, List.map_cons, List.map_nil, List.zip_cons_cons, List.zip_nil_right, List.zip_nil_left, List.foldl_cons, List.foldl_nil, o_add, o_adds, o_addt, o_addl, o_sub, o_mul, o_mult, o_mull, o_muls, o_div, o_mod, o_pow, c_lt, c_le, c_gt, c_ge, c_eq, c_ne, c_in, c_ni, c_is, c_isn, e_int, e_str, e_bool, t_bl, t_int, t_lst, t_tup, t_non, f_lent, f_lenl, f_lens, f_lbt, f_lbl, f_lbs, f_inti, f_tupl, f_tupt, f_lstt, f_lstl, f_stri, y_non, y_bl, y_int, y_str, y_tup, y_lst, y_ins, rg_1, rg_2, sq_tup, sq_lst, zp_tup, en_lst, en_tup, aL_lst, sl_t, sl_s, Ty.below, List.any_cons, List.any_nil, subT, Bool.or_false, Bool.not_true, Bool.not_false, true_and, and_true, reduceCtorEq, decide_false, decide_true, Bool.false_eq_true, if_false, if_true, Bool.not_eq_true', Bool.not_not])
  rw [h8]
  refine ⟨p, 1 + size, rfl, by omega, by omega, s3.pool, fun at_ M4 t0 t1 s4 => ?_⟩
  simp only [wpSs_nil, wpS, wpE, wpEs, wpEo, wpC, wpT, wpSrc, Rd_val, Rd_new, frz_lst, frz_ins, List.getElem?_cons_zero, List.getElem?_cons_succ, List.set_cons_zero, List.set_cons_succ, kw_nil, bindT, wipeD, List.map_cons, List.map_nil, List.zip_cons_cons, List.zip_nil_right, List.zip_nil_left, List.foldl_cons, List.foldl_nil, o_add, o_adds, o_addt, o_addl, o_sub, o_mul, o_mult, o_mull, o_muls, o_div, o_mod, o_pow, c_lt, c_le, c_gt, c_ge, c_eq, c_ne, c_in, c_ni, c_is, c_isn, e_int, e_str, e_bool, t_bl, t_int, t_lst, t_tup, t_non, f_lent, f_lenl, f_lens, f_lbt, f_lbl, f_lbs, f_inti, f_tupl, f_tupt, f_lstt, f_lstl, f_stri, y_non, y_bl, y_int, y_str, y_tup, y_lst, y_ins, rg_1, rg_2, sq_tup, sq_lst, zp_tup, en_lst, en_tup, aL_lst, sl_t, sl_s, Ty.below, List.any_cons, List.any_nil, subT, Bool.or_false, Bool.not_true, Bool.not_false, true_and, and_true, reduceCtorEq, decide_false, decide_true, Bool.false_eq_true, if_false, if_true, Bool.not_eq_true', Bool.not_not]
  (rw [wpSs_cons]; simp only [wpSs_nil, wpS, wpE, wpEs, wpEo, wpC, wpT, wpSrc, Rd_val, Rd_new, frz_lst, frz_ins, List.getElem?_cons_zero, List.getElem?_cons_succ, List.set_cons_zero, List.set_cons_succ, kw_nil, bindT, wipeD, List.map_cons, List.map_nil, List.zip_cons_cons, List.zip_nil_right, List.zip_nil_left, List.foldl_cons, List.foldl_nil, o_add, o_adds, o_addt, o_addl, o_sub, o_mul, o_mult, o_mull, o_muls, o_div, o_mod, o_pow, c_lt, c_le, c_gt, c_ge, c_eq, c_ne, c_in, c_ni, c_is, c_isn, e_int, e_str, e_bool, t_bl, t_int, t_lst, t_tup, t_non, f_lent, f_lenl, f_lens, f_lbt, f_lbl, f_lbs, f_inti, f_tupl, f_tupt, f_lstt, f_lstl, f_stri, y_non, y_bl, y_int, y_str, y_tup, y_lst, y_ins, rg_1, rg_2, sq_tup, sq_lst, zp_tup, en_lst, en_tup, aL_lst, sl_t, sl_s, Ty.below, List.any_cons, List.any_nil, subT, Bool.or_false, Bool.not_true, Bool.not_false, true_and, and_true, reduceCtorEq, decide_false, decide_true, Bool.false_eq_true, if_false, if_true, Bool.not_eq_true', Bool.not_not])
  rw [h8]
  refine ⟨p, 26, rfl, by decide, by decide, s4.pool, fun shift M5 f0 f1 s5 => ?_⟩
  simp only [wpSs_nil, wpS, wpE, wpEs, wpEo, wpC, wpT, wpSrc, Rd_val, Rd_new, frz_lst, frz_ins, List.getElem?_cons_zero, List.getElem?_cons_succ, List.set_cons_zero, List.set_cons_succ, kw_nil, bindT, wipeD, List.map_cons, List.map_nil, List.zip_cons_cons, List.zip_nil_right, List.zip_nil_left, List.foldl_cons, List.foldl_nil, o_add, o_adds, o_addt, o_addl, o_sub, o_mul, o_mult, o_mull, o_muls, o_div, o_mod, o_pow, c_lt, c_le, c_gt, c_ge, c_eq, c_ne, c_in, c_ni, c_is, c_isn, e_int, e_str, e_bool, t_bl, t_int, t_lst, t_tup, t_non, f_lent, f_lenl, f_lens, f_lbt, f_lbl, f_lbs, f_inti, f_tupl, f_tupt, f_lstt, f_lstl, f_stri, y_non, y_bl, y_int, y_str, y_tup, y_lst, y_ins, rg_1, rg_2, sq_tup, sq_lst, zp_tup, en_lst, en_tup, aL_lst, sl_t, sl_s, Ty.below, List.any_cons, List.any_nil, subT, Bool.or_false, Bool.not_true, Bool.not_false, true_and, and_true, reduceCtorEq, decide_false, decide_true, Bool.false_eq_true, if_false, if_true, Bool.not_eq_true', Bool.not_not]
  (rw [wpSs_cons]; simp only [wpSs_nil, wpS, wpE, wpEs, wpEo, wpC, wpT, wpSrc, Rd_val, Rd_new, frz_lst, frz_ins, List.getElem?_cons_zero, List.getElem?_cons_succ, List.set_cons_zero, List.set_cons_succ, kw_nil, bindT, wipeD, List.map_cons, List.map_nil, List.zip_cons_cons, List.zip_nil_right, List.zip_nil_left, List.foldl_cons, List.foldl_nil, o_add, o_adds, o_addt, o_addl, o_sub, o_mul, o_mult, o_mull, o_muls, o_div, o_mod, o_pow, c_lt, c_le, c_gt, c_ge, c_eq, c_ne, c_in, c_ni, c_is, c_isn, e_int, e_str, e_bool, t_bl, t_int, t_lst, t_tup, t_non, f_lent, f_lenl, f_lens, f_lbt, f_lbl, f_lbs, f_inti, f_tupl, f_tupt, f_lstt, f_lstl, f_stri, y_non, y_bl, y_int, y_str, y_tup, y_lst, y_ins, rg_1, rg_2, sq_tup, sq_lst, zp_tup, en_lst, en_tup, aL_lst, sl_t, sl_s, Ty.below, List.any_cons, List.any_nil, subT, Bool.or_false, Bool.not_true, Bool.not_false, true_and, and_true, reduceCtorEq, decide_false, decide_true, Bool.false_eq_true, if_false, if_true, Bool.not_eq_true', Bool.not_not])
  intro q hqn
  have npq : p ≠ q := fun e => (s5.pool.ne hqn) e.symm
  have sA := (((s1.trans s2).trans s3).trans s4).trans s5
  (rw [wpSs_cons]; simp only [wpSs_nil, wpS, wpE, wpEs, wpEo, wpC, wpT, wpSrc, Rd_val, Rd_new, frz_lst, frz_ins, List.getElem?_cons_zero, List.getElem?_cons_succ, List.set_cons_zero, List.set_cons_succ, kw_nil, bindT, wipeD, List.map_cons, List.map_nil, List.zip_cons_cons, List.zip_nil_right, List.zip_nil_left, List.foldl_cons, List.foldl_nil, o_add, o_adds, o_addt, o_addl, o_sub, o_mul, o_mult, o_mull, o_muls, o_div, o_mod, o_pow, c_lt, c_le, c_gt, c_ge, c_eq, c_ne, c_in, c_ni, c_is, c_isn, e_int, e_str, e_bool, t_bl, t_int, t_lst, t_tup, t_non, f_lent, f_lenl, f_lens, f_lbt, f_lbl, f_lbs, f_inti, f_tupl, f_tupt, f_lstt, f_lstl, f_stri, y_non, y_bl, y_int, y_str, y_tup, y_lst, y_ins, rg_1, rg_2, sq_tup, sq_lst, zp_tup, en_lst, en_tup, aL_lst, sl_t, sl_s, Ty.below, List.any_cons, List.any_nil, subT, Bool.or_false, Bool.not_true, Bool.not_false, true_and, and_true, reduceCtorEq, decide_false, decide_true, Bool.false_eq_true, if_false, if_true, Bool.not_eq_true', Bool.not_not])
  refine ⟨⟨by omega, by omega⟩, ?_⟩
  refine ⟨fun i ρ M' => ∃ (ws : List Str) (w : Str) (at_ : Int) (sz k nw tn j : Option D), ρ = [some (.ref p), some (.int n), some (.str letS), some (.int alike), sz, some (.str w), some (.int at_), some (.int shift), some (.ref q), k, nw, tn, j] ∧
    wordOk w = true ∧ 0 ≤ at_ ∧ at_ < w.length ∧ ws.length = i ∧ ws.Nodup ∧ (∀ w ∈ ws, wordOk w = true) ∧ M' q = some (.lst (ws.map D.str)) ∧ PoolAt M' p ∧ (∀ a o, a ≠ p → M a = some o → M' a = some o), ?_, fun _ _ _ _ _ => trivial, ?_, ?_⟩
  · refine ⟨[], w, at_, _, _, _, _, _, rfl, wk, t0, by omega, rfl, List.nodup_nil, by simp, mput_same, s5.pool.put npq.symm, fun a o hne e => ?_⟩
    rw [mput_ne fun z => ?_]
    · exact sA.rest a o hne e
    · rw [z] at e
      have := sA.rest q o npq.symm e
      rw [hqn] at this
      cases this
  · rintro i x ρ M' hx ⟨ws, w, at_, sz, k, nw, tn, j, rfl, wk, t0, t1, rfl, hnd, hok, hM, hpool, hrest⟩
    obtain ⟨hi, rfl⟩ := rg_get hx
    rw [show (0 + ((ws.length : Nat) : Int)) = ((ws.length : Nat) : Int) by omega]
    simp only [wpSs_nil, wpS, wpE, wpEs, wpEo, wpC, wpT, wpSrc, Rd_val, Rd_new, frz_lst, frz_ins, List.getElem?_cons_zero, List.getElem?_cons_succ, List.set_cons_zero, List.set_cons_succ, kw_nil, bindT, wipeD, List.map_cons, List.map_nil, List.zip_cons_cons, List.zip_nil_right, List.zip_nil_left, List.foldl_cons, List.foldl_nil, o_add, o_adds, o_addt, o_addl, o_sub, o_mul, o_mult, o_mull, o_muls, o_div, o_mod, o_pow, c_lt, c_le, c_gt, c_ge, c_eq, c_ne, c_in, c_ni, c_is, c_isn, e_int, e_str, e_bool, t_bl, t_int, t_lst, t_tup, t_non, f_lent, f_lenl, f_lens, f_lbt, f_lbl, f_lbs, f_inti, f_tupl, f_tupt, f_lstt, f_lstl, f_stri, y_non, y_bl, y_int, y_str, y_tup, y_lst, y_ins, rg_1, rg_2, sq_tup, sq_lst, zp_tup, en_lst, en_tup, aL_lst, sl_t, sl_s, Ty.below, List.any_cons, List.any_nil, subT, Bool.or_false, Bool.not_true, Bool.not_false, true_and, and_true, reduceCtorEq, decide_false, decide_true, Bool.false_eq_true, if_false, if_true, Bool.not_eq_true', Bool.not_not]
    (rw [wpSs_cons]; simp only [wpSs_nil, wpS, wpE, wpEs, wpEo, wpC, wpT, wpSrc, Rd_val, Rd_new, frz_lst, frz_ins, List.getElem?_cons_zero, List.getElem?_cons_succ, List.set_cons_zero, List.set_cons_succ, kw_nil, bindT, wipeD, List.map_cons, List.map_nil, List.zip_cons_cons, List.zip_nil_right, List.zip_nil_left, List.foldl_cons, List.foldl_nil, o_add, o_adds, o_addt, o_addl, o_sub, o_mul, o_mult, o_mull, o_muls, o_div, o_mod, o_pow, c_lt, c_le, c_gt, c_ge, c_eq, c_ne, c_in, c_ni, c_is, c_isn, e_int, e_str, e_bool, t_bl, t_int, t_lst, t_tup, t_non, f_lent, f_lenl, f_lens, f_lbt, f_lbl, f_lbs, f_inti, f_tupl, f_tupt, f_lstt, f_lstl, f_stri, y_non, y_bl, y_int, y_str, y_tup, y_lst, y_ins, rg_1, rg_2, sq_tup, sq_lst, zp_tup, en_lst, en_tup, aL_lst, sl_t, sl_s, Ty.below, List.any_cons, List.any_nil, subT, Bool.or_false, Bool.not_true, Bool.not_false, true_and, and_true, reduceCtorEq, decide_false, decide_true, Bool.false_eq_true, if_false, if_true, Bool.not_eq_true', Bool.not_not])
    by_cases e : alike = 0
    · rw [if_pos (by simpa using e)]
      (rw [wpSs_cons]; simp only [wpSs_nil, wpS, wpE, wpEs, wpEo, wpC, wpT, wpSrc, Rd_val, Rd_new, frz_lst, frz_ins, List.getElem?_cons_zero, List.getElem?_cons_succ, List.set_cons_zero, List.set_cons_succ, kw_nil, bindT, wipeD, List.map_cons, List.map_nil, List.zip_cons_cons, List.zip_nil_right, List.zip_nil_left, List.foldl_cons, List.foldl_nil, o_add, o_adds, o_addt, o_addl, o_sub, o_mul, o_mult, o_mull, o_muls, o_div, o_mod, o_pow, c_lt, c_le, c_gt, c_ge, c_eq, c_ne, c_in, c_ni, c_is, c_isn, e_int, e_str, e_bool, t_bl, t_int, t_lst, t_tup, t_non, f_lent, f_lenl, f_lens, f_lbt, f_lbl, f_lbs, f_inti, f_tupl, f_tupt, f_lstt, f_lstl, f_stri, y_non, y_bl, y_int, y_str, y_tup, y_lst, y_ins, rg_1, rg_2, sq_tup, sq_lst, zp_tup, en_lst, en_tup, aL_lst, sl_t, sl_s, Ty.below, List.any_cons, List.any_nil, subT, Bool.or_false, Bool.not_true, Bool.not_false, true_and, and_true, reduceCtorEq, decide_false, decide_true, Bool.false_eq_true, if_false, if_true, Bool.not_eq_true', Bool.not_not])
      rw [h8]
      refine ⟨p, 12, rfl, by decide, by decide, hpool, fun size M2 z0 z1 s2 => ?_⟩
      simp only [wpSs_nil, wpS, wpE, wpEs, wpEo, wpC, wpT, wpSrc, Rd_val, Rd_new, frz_lst, frz_ins, List.getElem?_cons_zero, List.getElem?_cons_succ, List.set_cons_zero, List.set_cons_succ, kw_nil, bindT, wipeD, List.map_cons, List.map_nil, List.zip_cons_cons, List.zip_nil_right, List.zip_nil_left, List.foldl_cons, List.foldl_nil, o_add, o_adds, o_addt, o_addl, o_sub, o_mul, o_mult, o_mull, o_muls, o_div, o_mod, o_pow, c_lt, c_le, c_gt, c_ge, c_eq, c_ne, c_in, c_ni, c_is, c_isn, e_int, e_str, e_bool, t_bl, t_int, t_lst, t_tup, t_non, f_lent, f_lenl, f_lens, f_lbt, f_lbl, f_lbs, f_inti, f_tupl, f_tupt, f_lstt, f_lstl, f_stri, y_non, y_bl, y_int, y_str, y_tup, y_lst, y_ins, rg_1, rg_2, sq_tup, sq_lst, zp_tup, en_lst, en_tup, aL_lst, sl_t, sl_s, Ty.below, List.any_cons, List.any_nil, subT, Bool.or_false, Bool.not_true, Bool.not_false, true_and, and_true, reduceCtorEq, decide_false, decide_true, Bool.false_eq_true, if_false, if_true, Bool.not_eq_true', Bool.not_not]
      rw [wpSs_cons]
      show mtTy .join (.str "") M2 = true ∧ wpE T (.comp (.ix (.var 2) (.call 8 (.cons (.var 0) (.cons (.con (.int 26)) .nil)) [] .nil)) (.name 12) (.range (.cons (.var 4) .nil)) .none [("j", 12)]) _ M2 _ _
      refine ⟨rfl, comp_letters h8 s2.pool rfl rfl rfl (by decide) (by omega) (by omega) fun cs M3 hcl hc s3 => ?_⟩
      simp only [wpSs_nil, wpS, wpE, wpEs, wpEo, wpC, wpT, wpSrc, Rd_val, Rd_new, frz_lst, frz_ins, List.getElem?_cons_zero, List.getElem?_cons_succ, List.set_cons_zero, List.set_cons_succ, kw_nil, bindT, wipeD, List.map_cons, List.map_nil, List.zip_cons_cons, List.zip_nil_right, List.zip_nil_left, List.foldl_cons, List.foldl_nil, o_add, o_adds, o_addt, o_addl, o_sub, o_mul, o_mult, o_mull, o_muls, o_div, o_mod, o_pow, c_lt, c_le, c_gt, c_ge, c_eq, c_ne, c_in, c_ni, c_is, c_isn, e_int, e_str, e_bool, t_bl, t_int, t_lst, t_tup, t_non, f_lent, f_lenl, f_lens, f_lbt, f_lbl, f_lbs, f_inti, f_tupl, f_tupt, f_lstt, f_lstl, f_stri, y_non, y_bl, y_int, y_str, y_tup, y_lst, y_ins, rg_1, rg_2, sq_tup, sq_lst, zp_tup, en_lst, en_tup, aL_lst, sl_t, sl_s, Ty.below, List.any_cons, List.any_nil, subT, Bool.or_false, Bool.not_true, Bool.not_false, true_and, and_true, reduceCtorEq, decide_false, decide_true, Bool.false_eq_true, if_false, if_true, Bool.not_eq_true', Bool.not_not]
      rw [join_c, sum_one]
      obtain ⟨wk, wl⟩ := word_ok (cs := cs) (by omega) (by omega) hc
      generalize Txt.join "" (cs.map one1) = w at wk wl
      refine ⟨by show _ + _ * 0 ≤ _; omega, ?_⟩
      simp only [wpSs_nil, wpS, wpE, wpEs, wpEo, wpC, wpT, wpSrc, Rd_val, Rd_new, frz_lst, frz_ins, List.getElem?_cons_zero, List.getElem?_cons_succ, List.set_cons_zero, List.set_cons_succ, kw_nil, bindT, wipeD, List.map_cons, List.map_nil, List.zip_cons_cons, List.zip_nil_right, List.zip_nil_left, List.foldl_cons, List.foldl_nil, o_add, o_adds, o_addt, o_addl, o_sub, o_mul, o_mult, o_mull, o_muls, o_div, o_mod, o_pow, c_lt, c_le, c_gt, c_ge, c_eq, c_ne, c_in, c_ni, c_is, c_isn, e_int, e_str, e_bool, t_bl, t_int, t_lst, t_tup, t_non, f_lent, f_lenl, f_lens, f_lbt, f_lbl, f_lbs, f_inti, f_tupl, f_tupt, f_lstt, f_lstl, f_stri, y_non, y_bl, y_int, y_str, y_tup, y_lst, y_ins, rg_1, rg_2, sq_tup, sq_lst, zp_tup, en_lst, en_tup, aL_lst, sl_t, sl_s, Ty.below, List.any_cons, List.any_nil, subT, Bool.or_false, Bool.not_true, Bool.not_false, true_and, and_true, reduceCtorEq, decide_false, decide_true, Bool.false_eq_true, if_false, if_true, Bool.not_eq_true', Bool.not_not]
      (rw [wpSs_cons]; simp only [wpSs_nil, wpS, wpE, wpEs, wpEo, wpC, wpT, wpSrc, Rd_val, Rd_new, frz_lst, frz_ins, List.getElem?_cons_zero, List.getElem?_cons_succ, List.set_cons_zero, List.set_cons_succ, kw_nil, bindT, wipeD, List.map_cons, List.map_nil, List.zip_cons_cons, List.zip_nil_right, List.zip_nil_left, List.foldl_cons, List.foldl_nil, o_add, o_adds, o_addt, o_addl, o_sub, o_mul, o_mult, o_mull, o_muls, o_div, o_mod, o_pow, c_lt, c_le, c_gt, c_ge, c_eq, c_ne, c_in, c_ni, c_is, c_isn, e_int, e_str, e_bool, t_bl, t_int, t_lst, t_tup, t_non, f_lent, f_lenl, f_lens, f_lbt, f_lbl, f_lbs, f_inti, f_tupl, f_tupt, f_lstt, f_lstl, f_stri, y_non, y_bl, y_int, y_str, y_tup, y_lst, y_ins, rg_1, rg_2, sq_tup, sq_lst, zp_tup, en_lst, en_tup, aL_lst, sl_t, sl_s, Ty.below, List.any_cons, List.any_nil, subT, Bool.or_false, Bool.not_true, Bool.not_false, true_and, and_true, reduceCtorEq, decide_false, decide_true, Bool.false_eq_true, if_false, if_true, Bool.not_eq_true', Bool.not_not])
      rw [h8]
      refine ⟨p, 1 + size, rfl, by omega, by omega, s3.pool, fun at_ M4 t0 t1 s4 => ?_⟩
      simp only [wpSs_nil, wpS, wpE, wpEs, wpEo, wpC, wpT, wpSrc, Rd_val, Rd_new, frz_lst, frz_ins, List.getElem?_cons_zero, List.getElem?_cons_succ, List.set_cons_zero, List.set_cons_succ, kw_nil, bindT, wipeD, List.map_cons, List.map_nil, List.zip_cons_cons, List.zip_nil_right, List.zip_nil_left, List.foldl_cons, List.foldl_nil, o_add, o_adds, o_addt, o_addl, o_sub, o_mul, o_mult, o_mull, o_muls, o_div, o_mod, o_pow, c_lt, c_le, c_gt, c_ge, c_eq, c_ne, c_in, c_ni, c_is, c_isn, e_int, e_str, e_bool, t_bl, t_int, t_lst, t_tup, t_non, f_lent, f_lenl, f_lens, f_lbt, f_lbl, f_lbs, f_inti, f_tupl, f_tupt, f_lstt, f_lstl, f_stri, y_non, y_bl, y_int, y_str, y_tup, y_lst, y_ins, rg_1, rg_2, sq_tup, sq_lst, zp_tup, en_lst, en_tup, aL_lst, sl_t, sl_s, Ty.below, List.any_cons, List.any_nil, subT, Bool.or_false, Bool.not_true, Bool.not_false, true_and, and_true, reduceCtorEq, decide_false, decide_true, Bool.false_eq_true, if_false, if_true, Bool.not_eq_true', Bool.not_not]
      have sB := (s2.trans s3).trans s4
      refine ok_wtail wk t0 (by omega) (by omega) f0 f1 (by omega) (sB.rest q _ npq.symm hM) fun w' tn' wk' hni => ?_
      refine ⟨ws ++ [w'], w, at_, _, _, _, _, _, rfl, wk, t0, by omega, by simp, ?_, ?_, mput_same, s4.pool.put npq.symm, fun a o hne e => ?_⟩
      · rw [List.nodup_append]
        exact ⟨hnd, by simp, fun x hx y hy e => by simp at hy; subst hy; subst e; exact hni hx⟩
      · intro y hy
        rcases List.mem_append.mp hy with h | h
        · exact hok y h
        · simp at h; subst h; exact wk'
      · rw [mput_ne fun z => ?_]
        · exact sB.rest a o hne (hrest a o hne e)
        · rw [z] at e
          have := sA.rest q o npq.symm e
          rw [hqn] at this
          cases this
    · rw [if_neg (by simpa using e)]
      refine ok_wtail wk t0 (by omega) (by omega) f0 f1 (by omega) hM fun w' tn' wk' hni => ?_
      refine ⟨ws ++ [w'], w, at_, _, _, _, _, _, rfl, wk, t0, by omega, by simp, ?_, ?_, mput_same, hpool.put npq.symm, fun a o hne e => ?_⟩
      · rw [List.nodup_append]
        exact ⟨hnd, by simp, fun x hx y hy e => by simp at hy; subst hy; subst e; exact hni hx⟩
      · intro y hy
        rcases List.mem_append.mp hy with h | h
        · exact hok y h
        · simp at h; subst h; exact wk'
      · rw [mput_ne fun z => ?_]
        · exact hrest a o hne e
        · rw [z] at e
          have := sA.rest q o npq.symm e
          rw [hqn] at this
          cases this
  · rintro ρ M' ⟨ws, w, at_, sz, k, nw, tn, j, rfl, wk, t0, t1, hlen, hnd, hok, hM, hpool, hrest⟩
    (rw [wpSs_cons]; simp only [wpSs_nil, wpS, wpE, wpEs, wpEo, wpC, wpT, wpSrc, Rd_val, Rd_new, frz_lst, frz_ins, List.getElem?_cons_zero, List.getElem?_cons_succ, List.set_cons_zero, List.set_cons_succ, kw_nil, bindT, wipeD, List.map_cons, List.map_nil, List.zip_cons_cons, List.zip_nil_right, List.zip_nil_left, List.foldl_cons, List.foldl_nil, o_add, o_adds, o_addt, o_addl, o_sub, o_mul, o_mult, o_mull, o_muls, o_div, o_mod, o_pow, c_lt, c_le, c_gt, c_ge, c_eq, c_ne, c_in, c_ni, c_is, c_isn, e_int, e_str, e_bool, t_bl, t_int, t_lst, t_tup, t_non, f_lent, f_lenl, f_lens, f_lbt, f_lbl, f_lbs, f_inti, f_tupl, f_tupt, f_lstt, f_lstl, f_stri, y_non, y_bl, y_int, y_str, y_tup, y_lst, y_ins, rg_1, rg_2, sq_tup, sq_lst, zp_tup, en_lst, en_tup, aL_lst, sl_t, sl_s, Ty.below, List.any_cons, List.any_nil, subT, Bool.or_false, Bool.not_true, Bool.not_false, true_and, and_true, reduceCtorEq, decide_false, decide_true, Bool.false_eq_true, if_false, if_true, Bool.not_eq_true', Bool.not_not])
    rw [hM]
    rw [rg_len] at hlen
    refine hq ws (mdel M' q) (by omega) hnd hok ⟨?_, fun a o hne e => ?_⟩
    · obtain ⟨l, h1, h2⟩ := hpool
      exact ⟨l, by unfold mdel; rw [if_neg npq]; exact h1, h2⟩
    · unfold mdel
      rw [if_neg fun z => ?_]
      · exact hrest a o hne e
      · rw [z] at e
        have := sA.rest q o npq.symm e
        rw [hqn] at this
        cases this
section
variable {M : Mem} {x : D} {xs : List D} {i : Int} {d : D}
theorem ix_S {K : D → Prop} (h : asS M x = some xs) (e : atI xs i = some d) : ixS x (.int i) M K = K d := by
  unfold ixS
  cases x <;> simp only [asS, asL] at h <;> try (cases h; done)
  all_goals simp only [asS, asL, h, e]
  all_goals (first | (cases h; simp only [e]) | skip)
theorem len_S {Q : R → Prop} (h : asS M x = some xs) : fnS .len [x] M Q = Q (.val (.int xs.length)) := by
  unfold fnS one
  cases x <;> simp only [asS, asL] at h <;> try (cases h; done)
  all_goals simp only [asS, asL, h]
  all_goals (first | (cases h; rfl) | skip)
theorem en_S {K : List D → Prop} (h : asS M x = some xs) : optS (asS M x) K = K xs := by rw [h]; rfl
theorem asS_ext {M' : Mem} (h : asS M x = some xs) (e : Ext M M') : asS M' x = some xs := by
  cases x <;> simp only [asS, asL] at h ⊢ <;> try exact h
  rename_i a
  cases hm : M a with
  | none => rw [hm] at h; cases h
  | some o =>
    rw [hm] at h
    rw [e a o hm]
    exact h
theorem typ_ext {M' : Mem} {t : Ty} (h : typ M x = some t) (e : Ext M M') : typ M' x = some t := by
  cases x <;> simp only [typ] at h ⊢ <;> try exact h
  rename_i a
  cases hm : M a with
  | none => rw [hm] at h; cases h
  | some o =>
    rw [hm] at h
    rw [e a o hm]
    exact h
end
def seqTy (t : Ty) : Bool := [Ty.tuple, .list].any (subT t)
/-- a sequence, seen -/
def SeqS (M : Mem) (d : D) (xs : List D) : Prop := asS M d = some xs ∧ (typ M d = some .tuple ∨ typ M d = some .list)
theorem SeqS.ext {M M' : Mem} {d : D} {xs : List D} (h : SeqS M d xs) (e : Ext M M') : SeqS M' d xs := ⟨asS_ext h.1 e, h.2.imp (typ_ext · e) (typ_ext · e)⟩
theorem SeqS.ty {M : Mem} {d : D} {xs : List D} (h : SeqS M d xs) : ∃ t, typ M d = some t ∧ (∀ k, t ≠ .cls k) ∧ seqTy t = true := by
  rcases h.2 with e | e
  · exact ⟨_, e, fun k z => (by cases z), rfl⟩
  · exact ⟨_, e, fun k z => (by cases z), rfl⟩
theorem seq_t {M : Mem} {xs : List D} : SeqS M (.tup xs) xs := ⟨rfl, .inl rfl⟩
theorem seq_l {M : Mem} {xs : List D} : SeqS M (.lst xs) xs := ⟨rfl, .inr rfl⟩
theorem seq_r {M : Mem} {q : Addr} {xs : List D} (h : M q = some (.lst xs)) : SeqS M (.ref q) xs := ⟨by simp only [asS, asL, h], .inr (by simp only [typ, h])⟩
/-- flat data that is no sequence -/
def NoSeq (d : D) : Prop := (∃ t, (∀ M, typ M d = some t) ∧ (∀ k, t ≠ .cls k) ∧ seqTy t = false)
theorem no_non : NoSeq .non := ⟨_, fun _ => rfl, fun k z => (by cases z), rfl⟩
theorem no_int {i : Int} : NoSeq (.int i) := ⟨_, fun _ => rfl, fun k z => (by cases z), rfl⟩
theorem no_bl {i : Bool} : NoSeq (.bl i) := ⟨_, fun _ => rfl, fun k z => (by cases z), rfl⟩
theorem no_str {i : Str} : NoSeq (.str i) := ⟨_, fun _ => rfl, fun k z => (by cases z), rfl⟩
def sp_is_sequence : DSp := fun ds M Q _ => ∃ d t, ds = [d] ∧ typ M d = some t ∧ (∀ k, t ≠ .cls k) ∧ Q (.val (.bl (seqTy t))) M
theorem ok_is_sequence {T : Tb} : SpOk T N_is_sequence ir_is_sequence 1 sp_is_sequence := by
  rintro ds M Q E hl ⟨d, t, rfl, ht, hk, hq⟩
  show wpSs T ir_is_sequence _ [some d] M
  unfold ir_is_sequence
  (rw [wpSs_cons]; simp only [wpSs_nil, wpS, wpE, wpEs, wpEo, wpC, wpT, wpSrc, Rd_val, Rd_new, frz_lst, frz_ins, List.getElem?_cons_zero, List.getElem?_cons_succ, List.set_cons_zero, List.set_cons_succ, kw_nil, bindT, wipeD, List.map_cons, List.map_nil, List.zip_cons_cons, List.zip_nil_right, List.zip_nil_left, List.foldl_cons, List.foldl_nil, o_add, o_adds, o_addt, o_addl, o_sub, o_mul, o_mult, o_mull, o_muls, o_div, o_mod, o_pow, c_lt, c_le, c_gt, c_ge, c_eq, c_ne, c_in, c_ni, c_is, c_isn, e_int, e_str, e_bool, t_bl, t_int, t_lst, t_tup, t_non, f_lent, f_lenl, f_lens, f_lbt, f_lbl, f_lbs, f_inti, f_tupl, f_tupt, f_lstt, f_lstl, f_stri, y_non, y_bl, y_int, y_str, y_tup, y_lst, y_ins, rg_1, rg_2, sq_tup, sq_lst, zp_tup, en_lst, en_tup, aL_lst, sl_t, sl_s, Ty.below, List.any_cons, List.any_nil, subT, Bool.or_false, Bool.not_true, Bool.not_false, true_and, and_true, reduceCtorEq, decide_false, decide_true, Bool.false_eq_true, if_false, if_true, Bool.not_eq_true', Bool.not_not])
  rw [ht]
  have e : seqTy t = (decide (t = .tuple) || decide (t = .list)) := by cases t <;> rfl
  rw [e] at hq
  refine ⟨?_, hq⟩
  cases t <;> first | rfl | exact absurd rfl (hk _)
/-- the signs that words and spoilt words have -/
def signOk (c : Nat) : Prop := (97 ≤ c ∧ c ≤ 122) ∨ c ∈ [65, 49, 32, 45, 95]
theorem in_letters : ∀ k : Fin 26, (!(Builtin.Str.occurrences "abcdefghijklmnopqrstuvwxyz" ⟨#[97 + k.val]⟩ 0 (Str.ofString "abcdefghijklmnopqrstuvwxyz").length 1).isEmpty) = true := by decide +kernel
theorem in_bad : ∀ c ∈ [65, 49, 32, 45, 95], (!(Builtin.Str.occurrences "abcdefghijklmnopqrstuvwxyz" ⟨#[c]⟩ 0 (Str.ofString "abcdefghijklmnopqrstuvwxyz").length 1).isEmpty) = false := by decide +kernel
def wordB : D → Bool
  | .str x => wordOk x
  | _ => false
def WordArg (d : D) : Prop := match d with
  | .str x => (∀ c ∈ x.cps.toList, signOk c) ∧ x.length ≤ 100000
  | d => pureD d = true
def sp_is_word : DSp := fun ds M Q _ => ∃ d, ds = [d] ∧ WordArg d ∧ Q (.val (.bl (wordB d))) M
theorem ok_is_word {T : Tb} (g0 : T.gl 0 = .int 12) (g1 : T.gl 1 = .str "abcdefghijklmnopqrstuvwxyz") : SpOk T N_is_word ir_is_word 1 sp_is_word := by
  rintro ds M Q E hl ⟨d, rfl, hw, hq⟩
  show wpSs T ir_is_word _ [some d, none] M
  unfold ir_is_word
  have hs : sizeLine = 16777216 := sizeLine_eq
  cases d <;> try (first | (simp [WordArg, pureD] at hw; done) | ((rw [wpSs_cons]; simp only [wpSs_nil, wpS, wpE, wpEs, wpEo, wpC, wpT, wpSrc, Rd_val, Rd_new, frz_lst, frz_ins, List.getElem?_cons_zero, List.getElem?_cons_succ, List.set_cons_zero, List.set_cons_succ, kw_nil, bindT, wipeD, List.map_cons, List.map_nil, List.zip_cons_cons, List.zip_nil_right, List.zip_nil_left, List.foldl_cons, List.foldl_nil, o_add, o_adds, o_addt, o_addl, o_sub, o_mul, o_mult, o_mull, o_muls, o_div, o_mod, o_pow, c_lt, c_le, c_gt, c_ge, c_eq, c_ne, c_in, c_ni, c_is, c_isn, e_int, e_str, e_bool, t_bl, t_int, t_lst, t_tup, t_non, f_lent, f_lenl, f_lens, f_lbt, f_lbl, f_lbs, f_inti, f_tupl, f_tupt, f_lstt, f_lstl, f_stri, y_non, y_bl, y_int, y_str, y_tup, y_lst, y_ins, rg_1, rg_2, sq_tup, sq_lst, zp_tup, en_lst, en_tup, aL_lst, sl_t, sl_s, Ty.below, List.any_cons, List.any_nil, subT, Bool.or_false, Bool.not_true, Bool.not_false, true_and, and_true, reduceCtorEq, decide_false, decide_true, Bool.false_eq_true, if_false, if_true, Bool.not_eq_true', Bool.not_not]); (rw [wpSs_cons]; simp only [wpSs_nil, wpS, wpE, wpEs, wpEo, wpC, wpT, wpSrc, Rd_val, Rd_new, frz_lst, frz_ins, List.getElem?_cons_zero, List.getElem?_cons_succ, List.set_cons_zero, List.set_cons_succ, kw_nil, bindT, wipeD, List.map_cons, List.map_nil, List.zip_cons_cons, List.zip_nil_right, List.zip_nil_left, List.foldl_cons, List.foldl_nil, o_add, o_adds, o_addt, o_addl, o_sub, o_mul, o_mult, o_mull, o_muls, o_div, o_mod, o_pow, c_lt, c_le, c_gt, c_ge, c_eq, c_ne, c_in, c_ni, c_is, c_isn, e_int, e_str, e_bool, t_bl, t_int, t_lst, t_tup, t_non, f_lent, f_lenl, f_lens, f_lbt, f_lbl, f_lbs, f_inti, f_tupl, f_tupt, f_lstt, f_lstl, f_stri, y_non, y_bl, y_int, y_str, y_tup, y_lst, y_ins, rg_1, rg_2, sq_tup, sq_lst, zp_tup, en_lst, en_tup, aL_lst, sl_t, sl_s, Ty.below, List.any_cons, List.any_nil, subT, Bool.or_false, Bool.not_true, Bool.not_false, true_and, and_true, reduceCtorEq, decide_false, decide_true, Bool.false_eq_true, if_false, if_true, Bool.not_eq_true', Bool.not_not]); exact hq))
  rename_i x
  obtain ⟨hc, hz⟩ := hw
  simp only [wordB] at hq
  (rw [wpSs_cons]; simp only [wpSs_nil, wpS, wpE, wpEs, wpEo, wpC, wpT, wpSrc, Rd_val, Rd_new, frz_lst, frz_ins, List.getElem?_cons_zero, List.getElem?_cons_succ, List.set_cons_zero, List.set_cons_succ, kw_nil, bindT, wipeD, List.map_cons, List.map_nil, List.zip_cons_cons, List.zip_nil_right, List.zip_nil_left, List.foldl_cons, List.foldl_nil, o_add, o_adds, o_addt, o_addl, o_sub, o_mul, o_mult, o_mull, o_muls, o_div, o_mod, o_pow, c_lt, c_le, c_gt, c_ge, c_eq, c_ne, c_in, c_ni, c_is, c_isn, e_int, e_str, e_bool, t_bl, t_int, t_lst, t_tup, t_non, f_lent, f_lenl, f_lens, f_lbt, f_lbl, f_lbs, f_inti, f_tupl, f_tupt, f_lstt, f_lstl, f_stri, y_non, y_bl, y_int, y_str, y_tup, y_lst, y_ins, rg_1, rg_2, sq_tup, sq_lst, zp_tup, en_lst, en_tup, aL_lst, sl_t, sl_s, Ty.below, List.any_cons, List.any_nil, subT, Bool.or_false, Bool.not_true, Bool.not_false, true_and, and_true, reduceCtorEq, decide_false, decide_true, Bool.false_eq_true, if_false, if_true, Bool.not_eq_true', Bool.not_not])
  refine ⟨by omega, ?_⟩
  by_cases h1 : 1 ≤ x.length
  rotate_left
  · rw [if_neg (by rw [decide_eq_true_eq]; omega)]
    (rw [wpSs_cons]; simp only [wpSs_nil, wpS, wpE, wpEs, wpEo, wpC, wpT, wpSrc, Rd_val, Rd_new, frz_lst, frz_ins, List.getElem?_cons_zero, List.getElem?_cons_succ, List.set_cons_zero, List.set_cons_succ, kw_nil, bindT, wipeD, List.map_cons, List.map_nil, List.zip_cons_cons, List.zip_nil_right, List.zip_nil_left, List.foldl_cons, List.foldl_nil, o_add, o_adds, o_addt, o_addl, o_sub, o_mul, o_mult, o_mull, o_muls, o_div, o_mod, o_pow, c_lt, c_le, c_gt, c_ge, c_eq, c_ne, c_in, c_ni, c_is, c_isn, e_int, e_str, e_bool, t_bl, t_int, t_lst, t_tup, t_non, f_lent, f_lenl, f_lens, f_lbt, f_lbl, f_lbs, f_inti, f_tupl, f_tupt, f_lstt, f_lstl, f_stri, y_non, y_bl, y_int, y_str, y_tup, y_lst, y_ins, rg_1, rg_2, sq_tup, sq_lst, zp_tup, en_lst, en_tup, aL_lst, sl_t, sl_s, Ty.below, List.any_cons, List.any_nil, subT, Bool.or_false, Bool.not_true, Bool.not_false, true_and, and_true, reduceCtorEq, decide_false, decide_true, Bool.false_eq_true, if_false, if_true, Bool.not_eq_true', Bool.not_not])
    have : wordOk x = false := by simp only [wordOk]; rw [decide_eq_false h1]; rfl
    rw [this] at hq
    exact hq
  rw [if_pos (by rw [decide_eq_true_eq]; omega), g0]
  simp only [wpSs_nil, wpS, wpE, wpEs, wpEo, wpC, wpT, wpSrc, Rd_val, Rd_new, frz_lst, frz_ins, List.getElem?_cons_zero, List.getElem?_cons_succ, List.set_cons_zero, List.set_cons_succ, kw_nil, bindT, wipeD, List.map_cons, List.map_nil, List.zip_cons_cons, List.zip_nil_right, List.zip_nil_left, List.foldl_cons, List.foldl_nil, o_add, o_adds, o_addt, o_addl, o_sub, o_mul, o_mult, o_mull, o_muls, o_div, o_mod, o_pow, c_lt, c_le, c_gt, c_ge, c_eq, c_ne, c_in, c_ni, c_is, c_isn, e_int, e_str, e_bool, t_bl, t_int, t_lst, t_tup, t_non, f_lent, f_lenl, f_lens, f_lbt, f_lbl, f_lbs, f_inti, f_tupl, f_tupt, f_lstt, f_lstl, f_stri, y_non, y_bl, y_int, y_str, y_tup, y_lst, y_ins, rg_1, rg_2, sq_tup, sq_lst, zp_tup, en_lst, en_tup, aL_lst, sl_t, sl_s, Ty.below, List.any_cons, List.any_nil, subT, Bool.or_false, Bool.not_true, Bool.not_false, true_and, and_true, reduceCtorEq, decide_false, decide_true, Bool.false_eq_true, if_false, if_true, Bool.not_eq_true', Bool.not_not]
  by_cases h2 : x.length ≤ 12
  rotate_left
  · rw [if_pos (by rw [decide_eq_false_iff_not]; omega)]
    (rw [wpSs_cons]; simp only [wpSs_nil, wpS, wpE, wpEs, wpEo, wpC, wpT, wpSrc, Rd_val, Rd_new, frz_lst, frz_ins, List.getElem?_cons_zero, List.getElem?_cons_succ, List.set_cons_zero, List.set_cons_succ, kw_nil, bindT, wipeD, List.map_cons, List.map_nil, List.zip_cons_cons, List.zip_nil_right, List.zip_nil_left, List.foldl_cons, List.foldl_nil, o_add, o_adds, o_addt, o_addl, o_sub, o_mul, o_mult, o_mull, o_muls, o_div, o_mod, o_pow, c_lt, c_le, c_gt, c_ge, c_eq, c_ne, c_in, c_ni, c_is, c_isn, e_int, e_str, e_bool, t_bl, t_int, t_lst, t_tup, t_non, f_lent, f_lenl, f_lens, f_lbt, f_lbl, f_lbs, f_inti, f_tupl, f_tupt, f_lstt, f_lstl, f_stri, y_non, y_bl, y_int, y_str, y_tup, y_lst, y_ins, rg_1, rg_2, sq_tup, sq_lst, zp_tup, en_lst, en_tup, aL_lst, sl_t, sl_s, Ty.below, List.any_cons, List.any_nil, subT, Bool.or_false, Bool.not_true, Bool.not_false, true_and, and_true, reduceCtorEq, decide_false, decide_true, Bool.false_eq_true, if_false, if_true, Bool.not_eq_true', Bool.not_not])
    have : wordOk x = false := by simp only [wordOk]; rw [decide_eq_false h2]; simp
    rw [this] at hq
    exact hq
  rw [if_neg (by rw [decide_eq_false_iff_not]; omega)]
  (rw [wpSs_cons]; simp only [wpSs_nil, wpS, wpE, wpEs, wpEo, wpC, wpT, wpSrc, Rd_val, Rd_new, frz_lst, frz_ins, List.getElem?_cons_zero, List.getElem?_cons_succ, List.set_cons_zero, List.set_cons_succ, kw_nil, bindT, wipeD, List.map_cons, List.map_nil, List.zip_cons_cons, List.zip_nil_right, List.zip_nil_left, List.foldl_cons, List.foldl_nil, o_add, o_adds, o_addt, o_addl, o_sub, o_mul, o_mult, o_mull, o_muls, o_div, o_mod, o_pow, c_lt, c_le, c_gt, c_ge, c_eq, c_ne, c_in, c_ni, c_is, c_isn, e_int, e_str, e_bool, t_bl, t_int, t_lst, t_tup, t_non, f_lent, f_lenl, f_lens, f_lbt, f_lbl, f_lbs, f_inti, f_tupl, f_tupt, f_lstt, f_lstl, f_stri, y_non, y_bl, y_int, y_str, y_tup, y_lst, y_ins, rg_1, rg_2, sq_tup, sq_lst, zp_tup, en_lst, en_tup, aL_lst, sl_t, sl_s, Ty.below, List.any_cons, List.any_nil, subT, Bool.or_false, Bool.not_true, Bool.not_false, true_and, and_true, reduceCtorEq, decide_false, decide_true, Bool.false_eq_true, if_false, if_true, Bool.not_eq_true', Bool.not_not])
  rw [g1]
  refine ⟨by show x.cps.size ≤ _; have : x.length = x.cps.size := rfl; omega, ?_⟩
  refine comp_mp (l := x.cps.toList) (fun c => .str ⟨#[c]⟩) (fun c => .bl (decide (97 ≤ c) && decide (c ≤ 122))) rfl trivial ?_ ?_
  · intro i c acc K hci hK
    simp only [wpSs_nil, wpS, wpE, wpEs, wpEo, wpC, wpT, wpSrc, Rd_val, Rd_new, frz_lst, frz_ins, List.getElem?_cons_zero, List.getElem?_cons_succ, List.set_cons_zero, List.set_cons_succ, kw_nil, bindT, wipeD, List.map_cons, List.map_nil, List.zip_cons_cons, List.zip_nil_right, List.zip_nil_left, List.foldl_cons, List.foldl_nil, o_add, o_adds, o_addt, o_addl, o_sub, o_mul, o_mult, o_mull, o_muls, o_div, o_mod, o_pow, c_lt, c_le, c_gt, c_ge, c_eq, c_ne, c_in, c_ni, c_is, c_isn, e_int, e_str, e_bool, t_bl, t_int, t_lst, t_tup, t_non, f_lent, f_lenl, f_lens, f_lbt, f_lbl, f_lbs, f_inti, f_tupl, f_tupt, f_lstt, f_lstl, f_stri, y_non, y_bl, y_int, y_str, y_tup, y_lst, y_ins, rg_1, rg_2, sq_tup, sq_lst, zp_tup, en_lst, en_tup, aL_lst, sl_t, sl_s, Ty.below, List.any_cons, List.any_nil, subT, Bool.or_false, Bool.not_true, Bool.not_false, true_and, and_true, reduceCtorEq, decide_false, decide_true, Bool.false_eq_true, if_false, if_true, Bool.not_eq_true', Bool.not_not]
    show K _ _
    rcases hc c (List.mem_of_getElem? hci) with h | h
    · have hin := in_letters ⟨c - 97, by omega⟩
      have e97 : 97 + (c - 97) = c := by omega
      simp only [e97] at hin
      rw [show (!(Builtin.Str.occurrences "abcdefghijklmnopqrstuvwxyz" ⟨#[c]⟩ 0 (Str.ofString "abcdefghijklmnopqrstuvwxyz").length 1).isEmpty) = true from hin]
      rw [show (decide (97 ≤ c) && decide (c ≤ 122)) = true by simp; omega] at hK
      exact hK
    · rw [show (!(Builtin.Str.occurrences "abcdefghijklmnopqrstuvwxyz" ⟨#[c]⟩ 0 (Str.ofString "abcdefghijklmnopqrstuvwxyz").length 1).isEmpty) = false from in_bad c h]
      rw [show (decide (97 ≤ c) && decide (c ≤ 122)) = false by
        simp only [List.mem_cons, List.not_mem_nil, or_false] at h
        rcases h with rfl | rfl | rfl | rfl | rfl <;> rfl] at hK
      exact hK
  simp only [wpSs_nil, wpS, wpE, wpEs, wpEo, wpC, wpT, wpSrc, Rd_val, Rd_new, frz_lst, frz_ins, List.getElem?_cons_zero, List.getElem?_cons_succ, List.set_cons_zero, List.set_cons_succ, kw_nil, bindT, wipeD, List.map_cons, List.map_nil, List.zip_cons_cons, List.zip_nil_right, List.zip_nil_left, List.foldl_cons, List.foldl_nil, o_add, o_adds, o_addt, o_addl, o_sub, o_mul, o_mult, o_mull, o_muls, o_div, o_mod, o_pow, c_lt, c_le, c_gt, c_ge, c_eq, c_ne, c_in, c_ni, c_is, c_isn, e_int, e_str, e_bool, t_bl, t_int, t_lst, t_tup, t_non, f_lent, f_lenl, f_lens, f_lbt, f_lbl, f_lbs, f_inti, f_tupl, f_tupt, f_lstt, f_lstl, f_stri, y_non, y_bl, y_int, y_str, y_tup, y_lst, y_ins, rg_1, rg_2, sq_tup, sq_lst, zp_tup, en_lst, en_tup, aL_lst, sl_t, sl_s, Ty.below, List.any_cons, List.any_nil, subT, Bool.or_false, Bool.not_true, Bool.not_false, true_and, and_true, reduceCtorEq, decide_false, decide_true, Bool.false_eq_true, if_false, if_true, Bool.not_eq_true', Bool.not_not]
  rw [f_allb]
  have : wordOk x = x.cps.toList.all fun c => decide (97 ≤ c) && decide (c ≤ 122) := by
    simp only [wordOk]
    rw [decide_eq_true h1, decide_eq_true h2, Bool.true_and, Bool.true_and]
  rw [this] at hq
  exact hq
def featL : List D → Bool
  | [w, n, z] => wordB w && (inFT n 2 8 && inFT z 0 9)
  | _ => false
/-- what is asked whether it is a feature -/
def FeatArg (M : Mem) (d : D) (b : Bool) : Prop := (NoSeq d ∧ b = false) ∨ ∃ ys, SeqS M d ys ∧ (∀ w n z, ys = [w, n, z] → WordArg w ∧ pureD n = true ∧ pureD z = true) ∧ b = featL ys
def risesD : List D → Int → Int → Bool
  | [], _, _ => true
  | x :: r, a, b => inFT x a (b - 1) && (match x with | .int i => risesD r (i + 1) b | _ => false)
def risingD (d : D) (b : Int) : Bool := match d with
  | .tup xs => risesD xs 0 b
  | _ => false
def sp_is_rising : DSp := fun ds M Q _ => ∃ d b, ds = [d, .int b] ∧ pureD d = true ∧ Q (.val (.bl (risingD d b))) M
def lenPos : D → Bool
  | .tup xs => !xs.isEmpty
  | _ => false
def marksL : List D → List Int → Bool
  | [], [] => true
  | x :: xs, s :: ss => risingD x s && lenPos x && marksL xs ss
  | _, _ => false
def marksD (ss : List Int) (d : D) : Bool := match d with
  | .tup xs => marksL xs ss
  | _ => false
theorem marksL_cons {x : D} {xs : List D} {s : Int} {ss : List Int} : marksL (x :: xs) (s :: ss) = (risingD x s && lenPos x && marksL xs ss) := rfl
theorem marksL_len : ∀ {xs : List D} {ss : List Int}, xs.length ≠ ss.length → marksL xs ss = false
  | [], [], h => absurd rfl h
  | [], _ :: _, _ => rfl
  | _ :: _, [], _ => rfl
  | x :: xs, s :: ss, h => by
    unfold marksL
    rw [marksL_len (by simpa using h)]
    simp
def sp_Kinds_are_marks : DSp := fun ds M Q _ => ∃ fs d, ds = [kindsD fs, d] ∧ pureD d = true ∧ Q (.val (.bl (marksD (fs.map fun f => f.2.1) d))) M
/-- a right row: values below m, rising, at least one -/
def RowOk (row : List Int) (m : Int) : Prop := ∃ P : Nat → Bool, row = ((List.range m.toNat).filter P).map (fun k : Nat => (k : Int)) ∧ ∃ k, k < m.toNat ∧ P k = true
theorem rises_filter (P : Nat → Bool) (b : Int) : ∀ (n a : Nat) (c : Int), c ≤ a → (a + n : Nat) ≤ b → risesD ((((List.range' a n).filter P).map (fun k : Nat => (k : Int))).map D.int) c b = true
  | 0, _, _, _, _ => rfl
  | n + 1, a, c, h1, h2 => by
    rw [List.range'_succ, List.filter_cons]
    cases P a with
    | false =>
      rw [if_neg Bool.false_ne_true]
      exact rises_filter P b n (a + 1) c (by omega) (by omega)
    | true =>
      rw [if_pos rfl, List.map_cons, List.map_cons]
      unfold risesD
      have e : inFT (.int (a : Nat)) c (b - 1) = true := by simp [inFT]; omega
      rw [e, Bool.true_and]
      exact rises_filter P b n (a + 1) _ (by omega) (by omega)
theorem row_rises {row : List Int} {m : Int} (h0 : 0 ≤ m) (h : RowOk row m) : risesD (row.map D.int) 0 m = true := by
  obtain ⟨P, rfl, _⟩ := h
  rw [List.range_eq_range']
  exact rises_filter P m m.toNat 0 0 (by omega) (by omega)
theorem row_ne {row : List Int} {m : Int} (h : RowOk row m) : row ≠ [] := by
  obtain ⟨P, rfl, k, hk, hp⟩ := h
  intro e
  have : (k : Int) ∈ ((List.range m.toNat).filter P).map (fun k : Nat => (k : Int)) := List.mem_map.mpr ⟨k, List.mem_filter.mpr ⟨List.mem_range.mpr hk, hp⟩, rfl⟩
  rw [e] at this
  cases this
theorem bits : ∀ m : Fin 9, ∀ c : Fin 256, 1 ≤ c.val → c.val < 2 ^ m.val → ∃ k : Fin 8, k.val < m.val ∧ (c.val / 2 ^ k.val) % 2 = 1 := by decide +kernel
def sp_law_values : DSp := fun ds M Q _ => ∃ p m w, ds = [.ref p, .int m, .int w] ∧ 0 ≤ w ∧ w ≤ 5 ∧ 2 ≤ m ∧ m ≤ 8 ∧ PoolAt M p ∧ ∀ row M', RowOk row m → Step p M M' → Q (.val (.tup (row.map .int))) M'
abbrev powsD : List D := [.int 1, .int 2, .int 4, .int 8, .int 16, .int 32, .int 64, .int 128, .int 256]
theorem pow_at {k : Int} (h0 : 0 ≤ k) (h1 : k ≤ 8) : atI powsD k = some (.int (2 ^ k.toNat)) := by
  have : k = 0 ∨ k = 1 ∨ k = 2 ∨ k = 3 ∨ k = 4 ∨ k = 5 ∨ k = 6 ∨ k = 7 ∨ k = 8 := by omega
  rcases this with rfl | rfl | rfl | rfl | rfl | rfl | rfl | rfl | rfl <;> rfl
/-- tuple([k for k in range(m) if ..]) -/
def rowF (P : Nat → Bool) : D → Option D
  | .int k => match P k.toNat with | true => some (.int k) | false => none
  | _ => none
theorem rowF_t {P : Nat → Bool} {i : Nat} (h : P i = true) : (rowF P (.int (i : Nat))).toList = [.int (i : Nat)] := by simp [rowF, h]
theorem rowF_f {P : Nat → Bool} {i : Nat} (h : P i = false) : (rowF P (.int (i : Nat))).toList = [] := by simp [rowF, h]
theorem fm_rows (m : Int) (P : Nat → Bool) : (rangeD 0 m).filterMap (rowF P) = (((List.range m.toNat).filter P).map (fun k : Nat => (k : Int))).map D.int := by
  unfold rangeD
  rw [Int.sub_zero]
  generalize m.toNat = n
  have : ∀ l : List Nat, (l.map fun i : Nat => D.int (0 + (i : Nat))).filterMap (rowF P) = ((l.filter P).map (fun k : Nat => (k : Int))).map D.int := by
    intro l
    induction l with
    | nil => rfl
    | cons a l ih =>
      rw [List.map_cons, List.filterMap_cons, List.filter_cons]
      have e : (0 + (a : Int)) = ((a : Nat) : Int) := by omega
      rw [e]
      cases h : P a with
      | false => simp [rowF, h]; simpa using ih
      | true => simp [rowF, h]; simpa using ih
  exact this _
theorem filter_one : ∀ (n a j : Nat), a ≤ j → j < a + n → (List.range' a n).filter (fun k => k == j) = [j]
  | 0, a, j, h1, h2 => by omega
  | n + 1, a, j, h1, h2 => by
    rw [List.range'_succ, List.filter_cons]
    by_cases e : a = j
    · subst e
      rw [if_pos (by simp)]
      congr 1
      rw [List.filter_eq_nil_iff]
      intro x hx
      have := (List.mem_range'_1.mp hx).1
      simp; omega
    · rw [if_neg (by simpa using e)]
      exact filter_one n (a + 1) j (by omega) (by omega)
theorem in_ints {w : Int} {ws : List Int} {M : Mem} {B : Bool → Prop} : inS (.int w) (.lst (ws.map D.int)) M B = B (ws.contains w) := by
  have h1 : (ws.map D.int).all flatD = true := by simp [flatD]
  have h2 : ((ws.map D.int).any fun z => eqF z (.int w)) = ws.contains w := by
    induction ws with
    | nil => rfl
    | cons a ws ih =>
      have h1' : (ws.map D.int).all flatD = true := by simp [flatD]
      rw [List.map_cons, List.any_cons, ih h1', List.contains_cons]
      show ((a == w) || _) = ((w == a) || _)
      rw [show (a == w) = (w == a) by rw [Bool.eq_iff_iff, beq_iff_eq, beq_iff_eq]; exact eq_comm]
  simp only [inS, asS, asL, h1, h2, flatD, and_self, true_and]
theorem opt_if {b : Bool} {d : D} : (match b with | true => some d | false => none) = if b = true then some d else none := by cases b <;> rfl
theorem pow_small {k : Nat} (h : k ≤ 8) : ((2 : Int) ^ k) > 0 ∧ ((2 : Int) ^ k).natAbs.log2 < 9000 := by
  have : k = 0 ∨ k = 1 ∨ k = 2 ∨ k = 3 ∨ k = 4 ∨ k = 5 ∨ k = 6 ∨ k = 7 ∨ k = 8 := by omega
  rcases this with rfl | rfl | rfl | rfl | rfl | rfl | rfl | rfl | rfl <;> exact ⟨by decide, by decide⟩
def vtail : Ss := (.cons (.ret (.fn .tuple (.cons (.comp (.var 6) (.name 6) (.range (.cons (.var 1) .nil)) (.some (.val (.cmp .Eq (.op .Mod (.fn .int (.cons (.op .FloorDiv (.var 4) (.ix (.var 3) (.var 6))) .nil)) (.con (.int 2))) (.con (.int 1))))) [("k", 6)]) .nil)))
  .nil)
theorem ok_vtail {T : Tb} {Q : QR} {D0 : DEnds} {p : Addr} {m way code : Int} {M M' : Mem} (hrt : D0.rt = Q) (m2 : 2 ≤ m) (m8 : m ≤ 8) (c1 : 1 ≤ code) (c2 : code < 2 ^ m.toNat) (s1 : Step p M M') (hq : ∀ row M', RowOk row m → Step p M M' → Q (.val (.tup (row.map .int))) M') :
    wpSs T vtail D0 [some (.ref p), some (.int m), some (.int way), some (.tup powsD), some (.int code), none, none] M' := by
  unfold vtail
  (rw [wpSs_cons]; simp only [wpSs_nil, wpS, wpE, wpEs, wpEo, wpC, wpT, wpSrc, Rd_val, Rd_new, frz_lst, frz_ins, List.getElem?_cons_zero, List.getElem?_cons_succ, List.set_cons_zero, List.set_cons_succ, kw_nil, bindT, wipeD, List.map_cons, List.map_nil, List.zip_cons_cons, List.zip_nil_right, List.zip_nil_left, List.foldl_cons, List.foldl_nil, o_add, o_adds, o_addt, o_addl, o_sub, o_mul, o_mult, o_mull, o_muls, o_div, o_mod, o_pow, c_lt, c_le, c_gt, c_ge, c_eq, c_ne, c_in, c_ni, c_is, c_isn, e_int, e_str, e_bool, t_bl, t_int, t_lst, t_tup, t_non, f_lent, f_lenl, f_lens, f_lbt, f_lbl, f_lbs, f_inti, f_tupl, f_tupt, f_lstt, f_lstl, f_stri, y_non, y_bl, y_int, y_str, y_tup, y_lst, y_ins, rg_1, rg_2, sq_tup, sq_lst, zp_tup, en_lst, en_tup, aL_lst, sl_t, sl_s, Ty.below, List.any_cons, List.any_nil, subT, Bool.or_false, Bool.not_true, Bool.not_false, true_and, and_true, reduceCtorEq, decide_false, decide_true, Bool.false_eq_true, if_false, if_true, Bool.not_eq_true', Bool.not_not])
  refine ⟨⟨by omega, by omega⟩, ?_⟩
  refine comp_fm (rowF fun n : Nat => decide (code / 2 ^ n % 2 = 1)) trivial ?_ ?_
  · intro i x acc K hx hK
    obtain ⟨hi, rfl⟩ := rg_get hx
    have e : (0 + (i : Int)) = ((i : Nat) : Int) := by omega
    rw [e] at hK ⊢
    obtain ⟨q1, q2⟩ := pow_small (k := i) (by omega)
    simp only [wpSs_nil, wpS, wpE, wpEs, wpEo, wpC, wpT, wpSrc, Rd_val, Rd_new, frz_lst, frz_ins, List.getElem?_cons_zero, List.getElem?_cons_succ, List.set_cons_zero, List.set_cons_succ, kw_nil, bindT, wipeD, List.map_cons, List.map_nil, List.zip_cons_cons, List.zip_nil_right, List.zip_nil_left, List.foldl_cons, List.foldl_nil, o_add, o_adds, o_addt, o_addl, o_sub, o_mul, o_mult, o_mull, o_muls, o_div, o_mod, o_pow, c_lt, c_le, c_gt, c_ge, c_eq, c_ne, c_in, c_ni, c_is, c_isn, e_int, e_str, e_bool, t_bl, t_int, t_lst, t_tup, t_non, f_lent, f_lenl, f_lens, f_lbt, f_lbl, f_lbs, f_inti, f_tupl, f_tupt, f_lstt, f_lstl, f_stri, y_non, y_bl, y_int, y_str, y_tup, y_lst, y_ins, rg_1, rg_2, sq_tup, sq_lst, zp_tup, en_lst, en_tup, aL_lst, sl_t, sl_s, Ty.below, List.any_cons, List.any_nil, subT, Bool.or_false, Bool.not_true, Bool.not_false, true_and, and_true, reduceCtorEq, decide_false, decide_true, Bool.false_eq_true, if_false, if_true, Bool.not_eq_true', Bool.not_not]
    rw [ix_t (pow_at (k := (i : Int)) (by omega) (by omega))]
    simp only [Int.toNat_natCast]
    simp only [wpSs_nil, wpS, wpE, wpEs, wpEo, wpC, wpT, wpSrc, Rd_val, Rd_new, frz_lst, frz_ins, List.getElem?_cons_zero, List.getElem?_cons_succ, List.set_cons_zero, List.set_cons_succ, kw_nil, bindT, wipeD, List.map_cons, List.map_nil, List.zip_cons_cons, List.zip_nil_right, List.zip_nil_left, List.foldl_cons, List.foldl_nil, o_add, o_adds, o_addt, o_addl, o_sub, o_mul, o_mult, o_mull, o_muls, o_div, o_mod, o_pow, c_lt, c_le, c_gt, c_ge, c_eq, c_ne, c_in, c_ni, c_is, c_isn, e_int, e_str, e_bool, t_bl, t_int, t_lst, t_tup, t_non, f_lent, f_lenl, f_lens, f_lbt, f_lbl, f_lbs, f_inti, f_tupl, f_tupt, f_lstt, f_lstl, f_stri, y_non, y_bl, y_int, y_str, y_tup, y_lst, y_ins, rg_1, rg_2, sq_tup, sq_lst, zp_tup, en_lst, en_tup, aL_lst, sl_t, sl_s, Ty.below, List.any_cons, List.any_nil, subT, Bool.or_false, Bool.not_true, Bool.not_false, true_and, and_true, reduceCtorEq, decide_false, decide_true, Bool.false_eq_true, if_false, if_true, Bool.not_eq_true', Bool.not_not]
    refine ⟨⟨q1, q2⟩, by decide, ?_⟩
    cases h : decide (code / 2 ^ i % 2 = 1) with
    | true => rw [rowF_t h] at hK; rw [if_pos rfl]; exact hK
    | false => rw [rowF_f h, List.append_nil] at hK; rw [if_neg Bool.false_ne_true]; exact hK
  · rw [fm_rows]
    simp only [wpSs_nil, wpS, wpE, wpEs, wpEo, wpC, wpT, wpSrc, Rd_val, Rd_new, frz_lst, frz_ins, List.getElem?_cons_zero, List.getElem?_cons_succ, List.set_cons_zero, List.set_cons_succ, kw_nil, bindT, wipeD, List.map_cons, List.map_nil, List.zip_cons_cons, List.zip_nil_right, List.zip_nil_left, List.foldl_cons, List.foldl_nil, o_add, o_adds, o_addt, o_addl, o_sub, o_mul, o_mult, o_mull, o_muls, o_div, o_mod, o_pow, c_lt, c_le, c_gt, c_ge, c_eq, c_ne, c_in, c_ni, c_is, c_isn, e_int, e_str, e_bool, t_bl, t_int, t_lst, t_tup, t_non, f_lent, f_lenl, f_lens, f_lbt, f_lbl, f_lbs, f_inti, f_tupl, f_tupt, f_lstt, f_lstl, f_stri, y_non, y_bl, y_int, y_str, y_tup, y_lst, y_ins, rg_1, rg_2, sq_tup, sq_lst, zp_tup, en_lst, en_tup, aL_lst, sl_t, sl_s, Ty.below, List.any_cons, List.any_nil, subT, Bool.or_false, Bool.not_true, Bool.not_false, true_and, and_true, reduceCtorEq, decide_false, decide_true, Bool.false_eq_true, if_false, if_true, Bool.not_eq_true', Bool.not_not]
    rw [hrt]
    refine hq _ _ ⟨_, rfl, ?_⟩ s1
    have p8 : (2 : Int) ^ m.toNat ≤ 256 := by
      have : m.toNat ≤ 8 := by omega
      have := Nat.pow_le_pow_right (n := 2) (by decide) this
      exact_mod_cast this
    obtain ⟨k, hk, hb⟩ := bits ⟨m.toNat, by omega⟩ ⟨code.toNat, by omega⟩ (by simp; omega) (by
      simp only
      have : ((code.toNat : Nat) : Int) < ((2 ^ m.toNat : Nat) : Int) := by
        rw [Int.toNat_of_nonneg (by omega)]
        exact_mod_cast c2
      exact_mod_cast this)
    refine ⟨k.val, hk, ?_⟩
    simp only [decide_eq_true_eq]
    have : ((code.toNat / 2 ^ k.val % 2 : Nat) : Int) = 1 := by rw [hb]; rfl
    rw [← this]
    have hc : code = ((code.toNat : Nat) : Int) := (Int.toNat_of_nonneg (by omega)).symm
    conv => lhs; rw [hc]
    simp
def vmain : Ss := (.cons (.ite (.val (.cmp .Eq (.var 2) (.con (.int 0))))
   (.cons (.ret (.tup (.cons (.call 8 (.cons (.var 0) (.cons (.var 1) .nil)) [] .nil) .nil)))
   .nil)
   .nil)
  (.cons (.ite (.val (.cmp .Eq (.var 2) (.con (.int 1))))
   (.cons (.set 5 (.comp (.call 8 (.cons (.var 0) (.cons (.var 1) .nil)) [] .nil) (.name 6) (.range (.cons (.con (.int 3)) .nil)) .none [("k", 6)]))
   (.cons (.ret (.fn .tuple (.cons (.comp (.var 6) (.name 6) (.range (.cons (.var 1) .nil)) (.some (.val (.cmp .In (.var 6) (.var 5)))) [("k", 6)]) .nil)))
   .nil))
   .nil)
  (.cons (.set 4 (.op .Sub (.ix (.var 3) (.var 1)) (.con (.int 1))))
  (.cons (.ite (.val (.cmp .Eq (.var 2) (.con (.int 2))))
   (.cons (.set 4 (.op .Add (.con (.int 1)) (.call 8 (.cons (.var 0) (.cons (.var 4) .nil)) [] .nil)))
   .nil)
   .nil)
  (.cons (.ite (.val (.cmp .Eq (.var 2) (.con (.int 3))))
   (.cons (.set 4 (.op .Sub (.var 4) (.ix (.var 3) (.call 8 (.cons (.var 0) (.cons (.var 1) .nil)) [] .nil))))
   .nil)
   .nil)
  (.cons (.ret (.fn .tuple (.cons (.comp (.var 6) (.name 6) (.range (.cons (.var 1) .nil)) (.some (.val (.cmp .Eq (.op .Mod (.fn .int (.cons (.op .FloorDiv (.var 4) (.ix (.var 3) (.var 6))) .nil)) (.con (.int 2))) (.con (.int 1))))) [("k", 6)]) .nil)))
  .nil))))))
theorem ok_vmain {T : Tb} (h8 : T.fn 8 = sp_draw) {Q : QR} {D0 : DEnds} {p : Addr} {m way : Int} {M M1 : Mem} (hrt : D0.rt = Q) (w0 : 0 ≤ way) (w1 : way < 5) (m2 : 2 ≤ m) (m8 : m ≤ 8) (s1 : Step p M M1) (hq : ∀ row M', RowOk row m → Step p M M' → Q (.val (.tup (row.map .int))) M') :
    wpSs T vmain D0 [some (.ref p), some (.int m), some (.int way), some (.tup powsD), none, none, none] M1 := by
  subst hrt
  unfold vmain
  (rw [wpSs_cons]; simp only [wpSs_nil, wpS, wpE, wpEs, wpEo, wpC, wpT, wpSrc, Rd_val, Rd_new, frz_lst, frz_ins, List.getElem?_cons_zero, List.getElem?_cons_succ, List.set_cons_zero, List.set_cons_succ, kw_nil, bindT, wipeD, List.map_cons, List.map_nil, List.zip_cons_cons, List.zip_nil_right, List.zip_nil_left, List.foldl_cons, List.foldl_nil, o_add, o_adds, o_addt, o_addl, o_sub, o_mul, o_mult, o_mull, o_muls, o_div, o_mod, o_pow, c_lt, c_le, c_gt, c_ge, c_eq, c_ne, c_in, c_ni, c_is, c_isn, e_int, e_str, e_bool, t_bl, t_int, t_lst, t_tup, t_non, f_lent, f_lenl, f_lens, f_lbt, f_lbl, f_lbs, f_inti, f_tupl, f_tupt, f_lstt, f_lstl, f_stri, y_non, y_bl, y_int, y_str, y_tup, y_lst, y_ins, rg_1, rg_2, sq_tup, sq_lst, zp_tup, en_lst, en_tup, aL_lst, sl_t, sl_s, Ty.below, List.any_cons, List.any_nil, subT, Bool.or_false, Bool.not_true, Bool.not_false, true_and, and_true, reduceCtorEq, decide_false, decide_true, Bool.false_eq_true, if_false, if_true, Bool.not_eq_true', Bool.not_not])
  by_cases e0 : way = 0
  · rw [if_pos (by simpa using e0)]
    (rw [wpSs_cons]; simp only [wpSs_nil, wpS, wpE, wpEs, wpEo, wpC, wpT, wpSrc, Rd_val, Rd_new, frz_lst, frz_ins, List.getElem?_cons_zero, List.getElem?_cons_succ, List.set_cons_zero, List.set_cons_succ, kw_nil, bindT, wipeD, List.map_cons, List.map_nil, List.zip_cons_cons, List.zip_nil_right, List.zip_nil_left, List.foldl_cons, List.foldl_nil, o_add, o_adds, o_addt, o_addl, o_sub, o_mul, o_mult, o_mull, o_muls, o_div, o_mod, o_pow, c_lt, c_le, c_gt, c_ge, c_eq, c_ne, c_in, c_ni, c_is, c_isn, e_int, e_str, e_bool, t_bl, t_int, t_lst, t_tup, t_non, f_lent, f_lenl, f_lens, f_lbt, f_lbl, f_lbs, f_inti, f_tupl, f_tupt, f_lstt, f_lstl, f_stri, y_non, y_bl, y_int, y_str, y_tup, y_lst, y_ins, rg_1, rg_2, sq_tup, sq_lst, zp_tup, en_lst, en_tup, aL_lst, sl_t, sl_s, Ty.below, List.any_cons, List.any_nil, subT, Bool.or_false, Bool.not_true, Bool.not_false, true_and, and_true, reduceCtorEq, decide_false, decide_true, Bool.false_eq_true, if_false, if_true, Bool.not_eq_true', Bool.not_not])
    rw [h8]
    refine ⟨p, m, rfl, by omega, by omega, s1.pool, fun r M2 r0 r1 s2 => ?_⟩
    simp only [wpSs_nil, wpS, wpE, wpEs, wpEo, wpC, wpT, wpSrc, Rd_val, Rd_new, frz_lst, frz_ins, List.getElem?_cons_zero, List.getElem?_cons_succ, List.set_cons_zero, List.set_cons_succ, kw_nil, bindT, wipeD, List.map_cons, List.map_nil, List.zip_cons_cons, List.zip_nil_right, List.zip_nil_left, List.foldl_cons, List.foldl_nil, o_add, o_adds, o_addt, o_addl, o_sub, o_mul, o_mult, o_mull, o_muls, o_div, o_mod, o_pow, c_lt, c_le, c_gt, c_ge, c_eq, c_ne, c_in, c_ni, c_is, c_isn, e_int, e_str, e_bool, t_bl, t_int, t_lst, t_tup, t_non, f_lent, f_lenl, f_lens, f_lbt, f_lbl, f_lbs, f_inti, f_tupl, f_tupt, f_lstt, f_lstl, f_stri, y_non, y_bl, y_int, y_str, y_tup, y_lst, y_ins, rg_1, rg_2, sq_tup, sq_lst, zp_tup, en_lst, en_tup, aL_lst, sl_t, sl_s, Ty.below, List.any_cons, List.any_nil, subT, Bool.or_false, Bool.not_true, Bool.not_false, true_and, and_true, reduceCtorEq, decide_false, decide_true, Bool.false_eq_true, if_false, if_true, Bool.not_eq_true', Bool.not_not]
    refine hq [r] M2 ⟨fun k => k == r.toNat, ?_, r.toNat, by omega, by simp⟩ (s1.trans s2)
    rw [List.range_eq_range', filter_one _ _ _ (by omega) (by omega)]
    simp; omega
  rw [if_neg (by simpa using e0)]
  (rw [wpSs_cons]; simp only [wpSs_nil, wpS, wpE, wpEs, wpEo, wpC, wpT, wpSrc, Rd_val, Rd_new, frz_lst, frz_ins, List.getElem?_cons_zero, List.getElem?_cons_succ, List.set_cons_zero, List.set_cons_succ, kw_nil, bindT, wipeD, List.map_cons, List.map_nil, List.zip_cons_cons, List.zip_nil_right, List.zip_nil_left, List.foldl_cons, List.foldl_nil, o_add, o_adds, o_addt, o_addl, o_sub, o_mul, o_mult, o_mull, o_muls, o_div, o_mod, o_pow, c_lt, c_le, c_gt, c_ge, c_eq, c_ne, c_in, c_ni, c_is, c_isn, e_int, e_str, e_bool, t_bl, t_int, t_lst, t_tup, t_non, f_lent, f_lenl, f_lens, f_lbt, f_lbl, f_lbs, f_inti, f_tupl, f_tupt, f_lstt, f_lstl, f_stri, y_non, y_bl, y_int, y_str, y_tup, y_lst, y_ins, rg_1, rg_2, sq_tup, sq_lst, zp_tup, en_lst, en_tup, aL_lst, sl_t, sl_s, Ty.below, List.any_cons, List.any_nil, subT, Bool.or_false, Bool.not_true, Bool.not_false, true_and, and_true, reduceCtorEq, decide_false, decide_true, Bool.false_eq_true, if_false, if_true, Bool.not_eq_true', Bool.not_not])
  by_cases e1 : way = 1
  · rw [if_pos (by simpa using e1)]
    (rw [wpSs_cons]; simp only [wpSs_nil, wpS, wpE, wpEs, wpEo, wpC, wpT, wpSrc, Rd_val, Rd_new, frz_lst, frz_ins, List.getElem?_cons_zero, List.getElem?_cons_succ, List.set_cons_zero, List.set_cons_succ, kw_nil, bindT, wipeD, List.map_cons, List.map_nil, List.zip_cons_cons, List.zip_nil_right, List.zip_nil_left, List.foldl_cons, List.foldl_nil, o_add, o_adds, o_addt, o_addl, o_sub, o_mul, o_mult, o_mull, o_muls, o_div, o_mod, o_pow, c_lt, c_le, c_gt, c_ge, c_eq, c_ne, c_in, c_ni, c_is, c_isn, e_int, e_str, e_bool, t_bl, t_int, t_lst, t_tup, t_non, f_lent, f_lenl, f_lens, f_lbt, f_lbl, f_lbs, f_inti, f_tupl, f_tupt, f_lstt, f_lstl, f_stri, y_non, y_bl, y_int, y_str, y_tup, y_lst, y_ins, rg_1, rg_2, sq_tup, sq_lst, zp_tup, en_lst, en_tup, aL_lst, sl_t, sl_s, Ty.below, List.any_cons, List.any_nil, subT, Bool.or_false, Bool.not_true, Bool.not_false, true_and, and_true, reduceCtorEq, decide_false, decide_true, Bool.false_eq_true, if_false, if_true, Bool.not_eq_true', Bool.not_not])
    refine ⟨⟨by decide, by decide⟩, ?_⟩
    refine ⟨fun i acc M2 => ∃ rs : List Int, acc = rs.map D.int ∧ rs.length = i ∧ (∀ r ∈ rs, 0 ≤ r ∧ r < m) ∧ Step p M1 M2, ⟨[], rfl, rfl, by simp, Step.refl s1.pool⟩, fun _ _ _ _ _ => trivial, ?_, ?_⟩
    · rintro i x acc M2 hx ⟨rs, rfl, rfl, hr, s2⟩
      simp only [wpSs_nil, wpS, wpE, wpEs, wpEo, wpC, wpT, wpSrc, Rd_val, Rd_new, frz_lst, frz_ins, List.getElem?_cons_zero, List.getElem?_cons_succ, List.set_cons_zero, List.set_cons_succ, kw_nil, bindT, wipeD, List.map_cons, List.map_nil, List.zip_cons_cons, List.zip_nil_right, List.zip_nil_left, List.foldl_cons, List.foldl_nil, o_add, o_adds, o_addt, o_addl, o_sub, o_mul, o_mult, o_mull, o_muls, o_div, o_mod, o_pow, c_lt, c_le, c_gt, c_ge, c_eq, c_ne, c_in, c_ni, c_is, c_isn, e_int, e_str, e_bool, t_bl, t_int, t_lst, t_tup, t_non, f_lent, f_lenl, f_lens, f_lbt, f_lbl, f_lbs, f_inti, f_tupl, f_tupt, f_lstt, f_lstl, f_stri, y_non, y_bl, y_int, y_str, y_tup, y_lst, y_ins, rg_1, rg_2, sq_tup, sq_lst, zp_tup, en_lst, en_tup, aL_lst, sl_t, sl_s, Ty.below, List.any_cons, List.any_nil, subT, Bool.or_false, Bool.not_true, Bool.not_false, true_and, and_true, reduceCtorEq, decide_false, decide_true, Bool.false_eq_true, if_false, if_true, Bool.not_eq_true', Bool.not_not]
      rw [h8]
      refine ⟨p, m, rfl, by omega, by omega, s2.pool, fun r M3 r0 r1 s3 => ⟨rs ++ [r], by simp [Rd_val], by simp, ?_, s2.trans s3⟩⟩
      intro y hy
      rcases List.mem_append.mp hy with hy | hy
      · exact hr y hy
      · simp at hy; subst hy; exact ⟨r0, r1⟩
    · rintro acc M2 ⟨rs, rfl, hl3, hr, s2⟩
      simp only [wpSs_nil, wpS, wpE, wpEs, wpEo, wpC, wpT, wpSrc, Rd_val, Rd_new, frz_lst, frz_ins, List.getElem?_cons_zero, List.getElem?_cons_succ, List.set_cons_zero, List.set_cons_succ, kw_nil, bindT, wipeD, List.map_cons, List.map_nil, List.zip_cons_cons, List.zip_nil_right, List.zip_nil_left, List.foldl_cons, List.foldl_nil, o_add, o_adds, o_addt, o_addl, o_sub, o_mul, o_mult, o_mull, o_muls, o_div, o_mod, o_pow, c_lt, c_le, c_gt, c_ge, c_eq, c_ne, c_in, c_ni, c_is, c_isn, e_int, e_str, e_bool, t_bl, t_int, t_lst, t_tup, t_non, f_lent, f_lenl, f_lens, f_lbt, f_lbl, f_lbs, f_inti, f_tupl, f_tupt, f_lstt, f_lstl, f_stri, y_non, y_bl, y_int, y_str, y_tup, y_lst, y_ins, rg_1, rg_2, sq_tup, sq_lst, zp_tup, en_lst, en_tup, aL_lst, sl_t, sl_s, Ty.below, List.any_cons, List.any_nil, subT, Bool.or_false, Bool.not_true, Bool.not_false, true_and, and_true, reduceCtorEq, decide_false, decide_true, Bool.false_eq_true, if_false, if_true, Bool.not_eq_true', Bool.not_not]
      (rw [wpSs_cons]; simp only [wpSs_nil, wpS, wpE, wpEs, wpEo, wpC, wpT, wpSrc, Rd_val, Rd_new, frz_lst, frz_ins, List.getElem?_cons_zero, List.getElem?_cons_succ, List.set_cons_zero, List.set_cons_succ, kw_nil, bindT, wipeD, List.map_cons, List.map_nil, List.zip_cons_cons, List.zip_nil_right, List.zip_nil_left, List.foldl_cons, List.foldl_nil, o_add, o_adds, o_addt, o_addl, o_sub, o_mul, o_mult, o_mull, o_muls, o_div, o_mod, o_pow, c_lt, c_le, c_gt, c_ge, c_eq, c_ne, c_in, c_ni, c_is, c_isn, e_int, e_str, e_bool, t_bl, t_int, t_lst, t_tup, t_non, f_lent, f_lenl, f_lens, f_lbt, f_lbl, f_lbs, f_inti, f_tupl, f_tupt, f_lstt, f_lstl, f_stri, y_non, y_bl, y_int, y_str, y_tup, y_lst, y_ins, rg_1, rg_2, sq_tup, sq_lst, zp_tup, en_lst, en_tup, aL_lst, sl_t, sl_s, Ty.below, List.any_cons, List.any_nil, subT, Bool.or_false, Bool.not_true, Bool.not_false, true_and, and_true, reduceCtorEq, decide_false, decide_true, Bool.false_eq_true, if_false, if_true, Bool.not_eq_true', Bool.not_not])
      refine ⟨⟨by omega, by omega⟩, ?_⟩
      refine comp_fm (rowF fun n : Nat => rs.contains (n : Int)) trivial ?_ ?_
      · intro i x acc K hx hK
        obtain ⟨hi, rfl⟩ := rg_get hx
        have e : (0 + (i : Int)) = ((i : Nat) : Int) := by omega
        rw [e] at hK ⊢
        simp only [wpSs_nil, wpS, wpE, wpEs, wpEo, wpC, wpT, wpSrc, Rd_val, Rd_new, frz_lst, frz_ins, List.getElem?_cons_zero, List.getElem?_cons_succ, List.set_cons_zero, List.set_cons_succ, kw_nil, bindT, wipeD, List.map_cons, List.map_nil, List.zip_cons_cons, List.zip_nil_right, List.zip_nil_left, List.foldl_cons, List.foldl_nil, o_add, o_adds, o_addt, o_addl, o_sub, o_mul, o_mult, o_mull, o_muls, o_div, o_mod, o_pow, c_lt, c_le, c_gt, c_ge, c_eq, c_ne, c_in, c_ni, c_is, c_isn, e_int, e_str, e_bool, t_bl, t_int, t_lst, t_tup, t_non, f_lent, f_lenl, f_lens, f_lbt, f_lbl, f_lbs, f_inti, f_tupl, f_tupt, f_lstt, f_lstl, f_stri, y_non, y_bl, y_int, y_str, y_tup, y_lst, y_ins, rg_1, rg_2, sq_tup, sq_lst, zp_tup, en_lst, en_tup, aL_lst, sl_t, sl_s, Ty.below, List.any_cons, List.any_nil, subT, Bool.or_false, Bool.not_true, Bool.not_false, true_and, and_true, reduceCtorEq, decide_false, decide_true, Bool.false_eq_true, if_false, if_true, Bool.not_eq_true', Bool.not_not]
        rw [in_ints]
        cases h : rs.contains (i : Int) with
        | true => rw [rowF_t h] at hK; rw [if_pos rfl]; exact hK
        | false => rw [rowF_f h, List.append_nil] at hK; rw [if_neg Bool.false_ne_true]; exact hK
      · rw [fm_rows]
        simp only [wpSs_nil, wpS, wpE, wpEs, wpEo, wpC, wpT, wpSrc, Rd_val, Rd_new, frz_lst, frz_ins, List.getElem?_cons_zero, List.getElem?_cons_succ, List.set_cons_zero, List.set_cons_succ, kw_nil, bindT, wipeD, List.map_cons, List.map_nil, List.zip_cons_cons, List.zip_nil_right, List.zip_nil_left, List.foldl_cons, List.foldl_nil, o_add, o_adds, o_addt, o_addl, o_sub, o_mul, o_mult, o_mull, o_muls, o_div, o_mod, o_pow, c_lt, c_le, c_gt, c_ge, c_eq, c_ne, c_in, c_ni, c_is, c_isn, e_int, e_str, e_bool, t_bl, t_int, t_lst, t_tup, t_non, f_lent, f_lenl, f_lens, f_lbt, f_lbl, f_lbs, f_inti, f_tupl, f_tupt, f_lstt, f_lstl, f_stri, y_non, y_bl, y_int, y_str, y_tup, y_lst, y_ins, rg_1, rg_2, sq_tup, sq_lst, zp_tup, en_lst, en_tup, aL_lst, sl_t, sl_s, Ty.below, List.any_cons, List.any_nil, subT, Bool.or_false, Bool.not_true, Bool.not_false, true_and, and_true, reduceCtorEq, decide_false, decide_true, Bool.false_eq_true, if_false, if_true, Bool.not_eq_true', Bool.not_not]
        refine hq _ _ ⟨_, rfl, ?_⟩ (s1.trans s2)
        cases rs with
        | nil => simp [rg_len] at hl3
        | cons r rs =>
          obtain ⟨r0, r1⟩ := hr r List.mem_cons_self
          refine ⟨r.toNat, by omega, ?_⟩
          rw [Int.toNat_of_nonneg r0]
          simp
  rw [if_neg (by simpa using e1)]
  (rw [wpSs_cons]; simp only [wpSs_nil, wpS, wpE, wpEs, wpEo, wpC, wpT, wpSrc, Rd_val, Rd_new, frz_lst, frz_ins, List.getElem?_cons_zero, List.getElem?_cons_succ, List.set_cons_zero, List.set_cons_succ, kw_nil, bindT, wipeD, List.map_cons, List.map_nil, List.zip_cons_cons, List.zip_nil_right, List.zip_nil_left, List.foldl_cons, List.foldl_nil, o_add, o_adds, o_addt, o_addl, o_sub, o_mul, o_mult, o_mull, o_muls, o_div, o_mod, o_pow, c_lt, c_le, c_gt, c_ge, c_eq, c_ne, c_in, c_ni, c_is, c_isn, e_int, e_str, e_bool, t_bl, t_int, t_lst, t_tup, t_non, f_lent, f_lenl, f_lens, f_lbt, f_lbl, f_lbs, f_inti, f_tupl, f_tupt, f_lstt, f_lstl, f_stri, y_non, y_bl, y_int, y_str, y_tup, y_lst, y_ins, rg_1, rg_2, sq_tup, sq_lst, zp_tup, en_lst, en_tup, aL_lst, sl_t, sl_s, Ty.below, List.any_cons, List.any_nil, subT, Bool.or_false, Bool.not_true, Bool.not_false, true_and, and_true, reduceCtorEq, decide_false, decide_true, Bool.false_eq_true, if_false, if_true, Bool.not_eq_true', Bool.not_not])
  rw [ix_t (pow_at (by omega) (by omega))]
  simp only [wpSs_nil, wpS, wpE, wpEs, wpEo, wpC, wpT, wpSrc, Rd_val, Rd_new, frz_lst, frz_ins, List.getElem?_cons_zero, List.getElem?_cons_succ, List.set_cons_zero, List.set_cons_succ, kw_nil, bindT, wipeD, List.map_cons, List.map_nil, List.zip_cons_cons, List.zip_nil_right, List.zip_nil_left, List.foldl_cons, List.foldl_nil, o_add, o_adds, o_addt, o_addl, o_sub, o_mul, o_mult, o_mull, o_muls, o_div, o_mod, o_pow, c_lt, c_le, c_gt, c_ge, c_eq, c_ne, c_in, c_ni, c_is, c_isn, e_int, e_str, e_bool, t_bl, t_int, t_lst, t_tup, t_non, f_lent, f_lenl, f_lens, f_lbt, f_lbl, f_lbs, f_inti, f_tupl, f_tupt, f_lstt, f_lstl, f_stri, y_non, y_bl, y_int, y_str, y_tup, y_lst, y_ins, rg_1, rg_2, sq_tup, sq_lst, zp_tup, en_lst, en_tup, aL_lst, sl_t, sl_s, Ty.below, List.any_cons, List.any_nil, subT, Bool.or_false, Bool.not_true, Bool.not_false, true_and, and_true, reduceCtorEq, decide_false, decide_true, Bool.false_eq_true, if_false, if_true, Bool.not_eq_true', Bool.not_not]
  have pm : (2 : Int) ^ m.toNat ≥ 4 := by
    have : 2 ≤ m.toNat := by omega
    have := Nat.pow_le_pow_right (n := 2) (by decide) this
    exact_mod_cast this
  have pm2 : (2 : Int) ^ m.toNat ≤ 256 := by
    have : m.toNat ≤ 8 := by omega
    have := Nat.pow_le_pow_right (n := 2) (by decide) this
    exact_mod_cast this
  (rw [wpSs_cons]; simp only [wpSs_nil, wpS, wpE, wpEs, wpEo, wpC, wpT, wpSrc, Rd_val, Rd_new, frz_lst, frz_ins, List.getElem?_cons_zero, List.getElem?_cons_succ, List.set_cons_zero, List.set_cons_succ, kw_nil, bindT, wipeD, List.map_cons, List.map_nil, List.zip_cons_cons, List.zip_nil_right, List.zip_nil_left, List.foldl_cons, List.foldl_nil, o_add, o_adds, o_addt, o_addl, o_sub, o_mul, o_mult, o_mull, o_muls, o_div, o_mod, o_pow, c_lt, c_le, c_gt, c_ge, c_eq, c_ne, c_in, c_ni, c_is, c_isn, e_int, e_str, e_bool, t_bl, t_int, t_lst, t_tup, t_non, f_lent, f_lenl, f_lens, f_lbt, f_lbl, f_lbs, f_inti, f_tupl, f_tupt, f_lstt, f_lstl, f_stri, y_non, y_bl, y_int, y_str, y_tup, y_lst, y_ins, rg_1, rg_2, sq_tup, sq_lst, zp_tup, en_lst, en_tup, aL_lst, sl_t, sl_s, Ty.below, List.any_cons, List.any_nil, subT, Bool.or_false, Bool.not_true, Bool.not_false, true_and, and_true, reduceCtorEq, decide_false, decide_true, Bool.false_eq_true, if_false, if_true, Bool.not_eq_true', Bool.not_not])
  by_cases e2 : way = 2
  · rw [if_pos (by simpa using e2)]
    (rw [wpSs_cons]; simp only [wpSs_nil, wpS, wpE, wpEs, wpEo, wpC, wpT, wpSrc, Rd_val, Rd_new, frz_lst, frz_ins, List.getElem?_cons_zero, List.getElem?_cons_succ, List.set_cons_zero, List.set_cons_succ, kw_nil, bindT, wipeD, List.map_cons, List.map_nil, List.zip_cons_cons, List.zip_nil_right, List.zip_nil_left, List.foldl_cons, List.foldl_nil, o_add, o_adds, o_addt, o_addl, o_sub, o_mul, o_mult, o_mull, o_muls, o_div, o_mod, o_pow, c_lt, c_le, c_gt, c_ge, c_eq, c_ne, c_in, c_ni, c_is, c_isn, e_int, e_str, e_bool, t_bl, t_int, t_lst, t_tup, t_non, f_lent, f_lenl, f_lens, f_lbt, f_lbl, f_lbs, f_inti, f_tupl, f_tupt, f_lstt, f_lstl, f_stri, y_non, y_bl, y_int, y_str, y_tup, y_lst, y_ins, rg_1, rg_2, sq_tup, sq_lst, zp_tup, en_lst, en_tup, aL_lst, sl_t, sl_s, Ty.below, List.any_cons, List.any_nil, subT, Bool.or_false, Bool.not_true, Bool.not_false, true_and, and_true, reduceCtorEq, decide_false, decide_true, Bool.false_eq_true, if_false, if_true, Bool.not_eq_true', Bool.not_not])
    rw [h8]
    refine ⟨p, _, rfl, by omega, by omega, s1.pool, fun r M2 r0 r1 s2 => ?_⟩
    simp only [wpSs_nil, wpS, wpE, wpEs, wpEo, wpC, wpT, wpSrc, Rd_val, Rd_new, frz_lst, frz_ins, List.getElem?_cons_zero, List.getElem?_cons_succ, List.set_cons_zero, List.set_cons_succ, kw_nil, bindT, wipeD, List.map_cons, List.map_nil, List.zip_cons_cons, List.zip_nil_right, List.zip_nil_left, List.foldl_cons, List.foldl_nil, o_add, o_adds, o_addt, o_addl, o_sub, o_mul, o_mult, o_mull, o_muls, o_div, o_mod, o_pow, c_lt, c_le, c_gt, c_ge, c_eq, c_ne, c_in, c_ni, c_is, c_isn, e_int, e_str, e_bool, t_bl, t_int, t_lst, t_tup, t_non, f_lent, f_lenl, f_lens, f_lbt, f_lbl, f_lbs, f_inti, f_tupl, f_tupt, f_lstt, f_lstl, f_stri, y_non, y_bl, y_int, y_str, y_tup, y_lst, y_ins, rg_1, rg_2, sq_tup, sq_lst, zp_tup, en_lst, en_tup, aL_lst, sl_t, sl_s, Ty.below, List.any_cons, List.any_nil, subT, Bool.or_false, Bool.not_true, Bool.not_false, true_and, and_true, reduceCtorEq, decide_false, decide_true, Bool.false_eq_true, if_false, if_true, Bool.not_eq_true', Bool.not_not]
    (rw [wpSs_cons]; simp only [wpSs_nil, wpS, wpE, wpEs, wpEo, wpC, wpT, wpSrc, Rd_val, Rd_new, frz_lst, frz_ins, List.getElem?_cons_zero, List.getElem?_cons_succ, List.set_cons_zero, List.set_cons_succ, kw_nil, bindT, wipeD, List.map_cons, List.map_nil, List.zip_cons_cons, List.zip_nil_right, List.zip_nil_left, List.foldl_cons, List.foldl_nil, o_add, o_adds, o_addt, o_addl, o_sub, o_mul, o_mult, o_mull, o_muls, o_div, o_mod, o_pow, c_lt, c_le, c_gt, c_ge, c_eq, c_ne, c_in, c_ni, c_is, c_isn, e_int, e_str, e_bool, t_bl, t_int, t_lst, t_tup, t_non, f_lent, f_lenl, f_lens, f_lbt, f_lbl, f_lbs, f_inti, f_tupl, f_tupt, f_lstt, f_lstl, f_stri, y_non, y_bl, y_int, y_str, y_tup, y_lst, y_ins, rg_1, rg_2, sq_tup, sq_lst, zp_tup, en_lst, en_tup, aL_lst, sl_t, sl_s, Ty.below, List.any_cons, List.any_nil, subT, Bool.or_false, Bool.not_true, Bool.not_false, true_and, and_true, reduceCtorEq, decide_false, decide_true, Bool.false_eq_true, if_false, if_true, Bool.not_eq_true', Bool.not_not])
    rw [if_neg (by simp; omega)]
    exact ok_vtail rfl m2 m8 (by omega) (by omega) (s1.trans s2) hq
  rw [if_neg (by simpa using e2)]
  (rw [wpSs_cons]; simp only [wpSs_nil, wpS, wpE, wpEs, wpEo, wpC, wpT, wpSrc, Rd_val, Rd_new, frz_lst, frz_ins, List.getElem?_cons_zero, List.getElem?_cons_succ, List.set_cons_zero, List.set_cons_succ, kw_nil, bindT, wipeD, List.map_cons, List.map_nil, List.zip_cons_cons, List.zip_nil_right, List.zip_nil_left, List.foldl_cons, List.foldl_nil, o_add, o_adds, o_addt, o_addl, o_sub, o_mul, o_mult, o_mull, o_muls, o_div, o_mod, o_pow, c_lt, c_le, c_gt, c_ge, c_eq, c_ne, c_in, c_ni, c_is, c_isn, e_int, e_str, e_bool, t_bl, t_int, t_lst, t_tup, t_non, f_lent, f_lenl, f_lens, f_lbt, f_lbl, f_lbs, f_inti, f_tupl, f_tupt, f_lstt, f_lstl, f_stri, y_non, y_bl, y_int, y_str, y_tup, y_lst, y_ins, rg_1, rg_2, sq_tup, sq_lst, zp_tup, en_lst, en_tup, aL_lst, sl_t, sl_s, Ty.below, List.any_cons, List.any_nil, subT, Bool.or_false, Bool.not_true, Bool.not_false, true_and, and_true, reduceCtorEq, decide_false, decide_true, Bool.false_eq_true, if_false, if_true, Bool.not_eq_true', Bool.not_not])
  by_cases e3 : way = 3
  · rw [if_pos (by simpa using e3)]
    (rw [wpSs_cons]; simp only [wpSs_nil, wpS, wpE, wpEs, wpEo, wpC, wpT, wpSrc, Rd_val, Rd_new, frz_lst, frz_ins, List.getElem?_cons_zero, List.getElem?_cons_succ, List.set_cons_zero, List.set_cons_succ, kw_nil, bindT, wipeD, List.map_cons, List.map_nil, List.zip_cons_cons, List.zip_nil_right, List.zip_nil_left, List.foldl_cons, List.foldl_nil, o_add, o_adds, o_addt, o_addl, o_sub, o_mul, o_mult, o_mull, o_muls, o_div, o_mod, o_pow, c_lt, c_le, c_gt, c_ge, c_eq, c_ne, c_in, c_ni, c_is, c_isn, e_int, e_str, e_bool, t_bl, t_int, t_lst, t_tup, t_non, f_lent, f_lenl, f_lens, f_lbt, f_lbl, f_lbs, f_inti, f_tupl, f_tupt, f_lstt, f_lstl, f_stri, y_non, y_bl, y_int, y_str, y_tup, y_lst, y_ins, rg_1, rg_2, sq_tup, sq_lst, zp_tup, en_lst, en_tup, aL_lst, sl_t, sl_s, Ty.below, List.any_cons, List.any_nil, subT, Bool.or_false, Bool.not_true, Bool.not_false, true_and, and_true, reduceCtorEq, decide_false, decide_true, Bool.false_eq_true, if_false, if_true, Bool.not_eq_true', Bool.not_not])
    rw [h8]
    refine ⟨p, m, rfl, by omega, by omega, s1.pool, fun r M2 r0 r1 s2 => ?_⟩
    simp only [wpSs_nil, wpS, wpE, wpEs, wpEo, wpC, wpT, wpSrc, Rd_val, Rd_new, frz_lst, frz_ins, List.getElem?_cons_zero, List.getElem?_cons_succ, List.set_cons_zero, List.set_cons_succ, kw_nil, bindT, wipeD, List.map_cons, List.map_nil, List.zip_cons_cons, List.zip_nil_right, List.zip_nil_left, List.foldl_cons, List.foldl_nil, o_add, o_adds, o_addt, o_addl, o_sub, o_mul, o_mult, o_mull, o_muls, o_div, o_mod, o_pow, c_lt, c_le, c_gt, c_ge, c_eq, c_ne, c_in, c_ni, c_is, c_isn, e_int, e_str, e_bool, t_bl, t_int, t_lst, t_tup, t_non, f_lent, f_lenl, f_lens, f_lbt, f_lbl, f_lbs, f_inti, f_tupl, f_tupt, f_lstt, f_lstl, f_stri, y_non, y_bl, y_int, y_str, y_tup, y_lst, y_ins, rg_1, rg_2, sq_tup, sq_lst, zp_tup, en_lst, en_tup, aL_lst, sl_t, sl_s, Ty.below, List.any_cons, List.any_nil, subT, Bool.or_false, Bool.not_true, Bool.not_false, true_and, and_true, reduceCtorEq, decide_false, decide_true, Bool.false_eq_true, if_false, if_true, Bool.not_eq_true', Bool.not_not]
    rw [ix_t (pow_at r0 (by omega))]
    simp only [wpSs_nil, wpS, wpE, wpEs, wpEo, wpC, wpT, wpSrc, Rd_val, Rd_new, frz_lst, frz_ins, List.getElem?_cons_zero, List.getElem?_cons_succ, List.set_cons_zero, List.set_cons_succ, kw_nil, bindT, wipeD, List.map_cons, List.map_nil, List.zip_cons_cons, List.zip_nil_right, List.zip_nil_left, List.foldl_cons, List.foldl_nil, o_add, o_adds, o_addt, o_addl, o_sub, o_mul, o_mult, o_mull, o_muls, o_div, o_mod, o_pow, c_lt, c_le, c_gt, c_ge, c_eq, c_ne, c_in, c_ni, c_is, c_isn, e_int, e_str, e_bool, t_bl, t_int, t_lst, t_tup, t_non, f_lent, f_lenl, f_lens, f_lbt, f_lbl, f_lbs, f_inti, f_tupl, f_tupt, f_lstt, f_lstl, f_stri, y_non, y_bl, y_int, y_str, y_tup, y_lst, y_ins, rg_1, rg_2, sq_tup, sq_lst, zp_tup, en_lst, en_tup, aL_lst, sl_t, sl_s, Ty.below, List.any_cons, List.any_nil, subT, Bool.or_false, Bool.not_true, Bool.not_false, true_and, and_true, reduceCtorEq, decide_false, decide_true, Bool.false_eq_true, if_false, if_true, Bool.not_eq_true', Bool.not_not]
    have q1 : (2 : Int) ^ r.toNat ≤ 2 ^ (m.toNat - 1) := by
      have : r.toNat ≤ m.toNat - 1 := by omega
      have := Nat.pow_le_pow_right (n := 2) (by decide) this
      exact_mod_cast this
    have q2 : (2 : Int) ^ m.toNat = 2 * 2 ^ (m.toNat - 1) := by
      obtain ⟨j, hj⟩ : ∃ j, m.toNat = j + 1 := ⟨m.toNat - 1, by omega⟩
      rw [hj]
      simp [Int.pow_succ]
      omega
    have q3 := (pow_small (k := r.toNat) (by omega)).1
    exact ok_vtail rfl m2 m8 (by omega) (by omega) (s1.trans s2) hq
  rw [if_neg (by simpa using e3)]
  exact ok_vtail rfl m2 m8 (by omega) (by omega) s1 hq
theorem ok_law_values {T : Tb} (h8 : T.fn 8 = sp_draw) : SpOk T N_law_values ir_law_values 3 sp_law_values := by
  rintro ds M Q E hl ⟨p, m, w, rfl, w0, w5, m2, m8, hp, hq⟩
  show wpSs T ir_law_values _ [some (.ref p), some (.int m), some (.int w), none, none, none, none] M
  unfold ir_law_values
  (rw [wpSs_cons]; simp only [wpSs_nil, wpS, wpE, wpEs, wpEo, wpC, wpT, wpSrc, Rd_val, Rd_new, frz_lst, frz_ins, List.getElem?_cons_zero, List.getElem?_cons_succ, List.set_cons_zero, List.set_cons_succ, kw_nil, bindT, wipeD, List.map_cons, List.map_nil, List.zip_cons_cons, List.zip_nil_right, List.zip_nil_left, List.foldl_cons, List.foldl_nil, o_add, o_adds, o_addt, o_addl, o_sub, o_mul, o_mult, o_mull, o_muls, o_div, o_mod, o_pow, c_lt, c_le, c_gt, c_ge, c_eq, c_ne, c_in, c_ni, c_is, c_isn, e_int, e_str, e_bool, t_bl, t_int, t_lst, t_tup, t_non, f_lent, f_lenl, f_lens, f_lbt, f_lbl, f_lbs, f_inti, f_tupl, f_tupt, f_lstt, f_lstl, f_stri, y_non, y_bl, y_int, y_str, y_tup, y_lst, y_ins, rg_1, rg_2, sq_tup, sq_lst, zp_tup, en_lst, en_tup, aL_lst, sl_t, sl_s, Ty.below, List.any_cons, List.any_nil, subT, Bool.or_false, Bool.not_true, Bool.not_false, true_and, and_true, reduceCtorEq, decide_false, decide_true, Bool.false_eq_true, if_false, if_true, Bool.not_eq_true', Bool.not_not])
  (rw [wpSs_cons]; simp only [wpSs_nil, wpS, wpE, wpEs, wpEo, wpC, wpT, wpSrc, Rd_val, Rd_new, frz_lst, frz_ins, List.getElem?_cons_zero, List.getElem?_cons_succ, List.set_cons_zero, List.set_cons_succ, kw_nil, bindT, wipeD, List.map_cons, List.map_nil, List.zip_cons_cons, List.zip_nil_right, List.zip_nil_left, List.foldl_cons, List.foldl_nil, o_add, o_adds, o_addt, o_addl, o_sub, o_mul, o_mult, o_mull, o_muls, o_div, o_mod, o_pow, c_lt, c_le, c_gt, c_ge, c_eq, c_ne, c_in, c_ni, c_is, c_isn, e_int, e_str, e_bool, t_bl, t_int, t_lst, t_tup, t_non, f_lent, f_lenl, f_lens, f_lbt, f_lbl, f_lbs, f_inti, f_tupl, f_tupt, f_lstt, f_lstl, f_stri, y_non, y_bl, y_int, y_str, y_tup, y_lst, y_ins, rg_1, rg_2, sq_tup, sq_lst, zp_tup, en_lst, en_tup, aL_lst, sl_t, sl_s, Ty.below, List.any_cons, List.any_nil, subT, Bool.or_false, Bool.not_true, Bool.not_false, true_and, and_true, reduceCtorEq, decide_false, decide_true, Bool.false_eq_true, if_false, if_true, Bool.not_eq_true', Bool.not_not])
  by_cases e : 4 < w
  · rw [if_pos (by simpa using e)]
    (rw [wpSs_cons]; simp only [wpSs_nil, wpS, wpE, wpEs, wpEo, wpC, wpT, wpSrc, Rd_val, Rd_new, frz_lst, frz_ins, List.getElem?_cons_zero, List.getElem?_cons_succ, List.set_cons_zero, List.set_cons_succ, kw_nil, bindT, wipeD, List.map_cons, List.map_nil, List.zip_cons_cons, List.zip_nil_right, List.zip_nil_left, List.foldl_cons, List.foldl_nil, o_add, o_adds, o_addt, o_addl, o_sub, o_mul, o_mult, o_mull, o_muls, o_div, o_mod, o_pow, c_lt, c_le, c_gt, c_ge, c_eq, c_ne, c_in, c_ni, c_is, c_isn, e_int, e_str, e_bool, t_bl, t_int, t_lst, t_tup, t_non, f_lent, f_lenl, f_lens, f_lbt, f_lbl, f_lbs, f_inti, f_tupl, f_tupt, f_lstt, f_lstl, f_stri, y_non, y_bl, y_int, y_str, y_tup, y_lst, y_ins, rg_1, rg_2, sq_tup, sq_lst, zp_tup, en_lst, en_tup, aL_lst, sl_t, sl_s, Ty.below, List.any_cons, List.any_nil, subT, Bool.or_false, Bool.not_true, Bool.not_false, true_and, and_true, reduceCtorEq, decide_false, decide_true, Bool.false_eq_true, if_false, if_true, Bool.not_eq_true', Bool.not_not])
    rw [h8]
    refine ⟨p, 5, rfl, by decide, by decide, hp, fun way M1 w0 w1 s1 => ?_⟩
    simp only [wpSs_nil, wpS, wpE, wpEs, wpEo, wpC, wpT, wpSrc, Rd_val, Rd_new, frz_lst, frz_ins, List.getElem?_cons_zero, List.getElem?_cons_succ, List.set_cons_zero, List.set_cons_succ, kw_nil, bindT, wipeD, List.map_cons, List.map_nil, List.zip_cons_cons, List.zip_nil_right, List.zip_nil_left, List.foldl_cons, List.foldl_nil, o_add, o_adds, o_addt, o_addl, o_sub, o_mul, o_mult, o_mull, o_muls, o_div, o_mod, o_pow, c_lt, c_le, c_gt, c_ge, c_eq, c_ne, c_in, c_ni, c_is, c_isn, e_int, e_str, e_bool, t_bl, t_int, t_lst, t_tup, t_non, f_lent, f_lenl, f_lens, f_lbt, f_lbl, f_lbs, f_inti, f_tupl, f_tupt, f_lstt, f_lstl, f_stri, y_non, y_bl, y_int, y_str, y_tup, y_lst, y_ins, rg_1, rg_2, sq_tup, sq_lst, zp_tup, en_lst, en_tup, aL_lst, sl_t, sl_s, Ty.below, List.any_cons, List.any_nil, subT, Bool.or_false, Bool.not_true, Bool.not_false, true_and, and_true, reduceCtorEq, decide_false, decide_true, Bool.false_eq_true, if_false, if_true, Bool.not_eq_true', Bool.not_not]
    exact ok_vmain h8 rfl w0 w1 m2 m8 s1 hq
  · rw [if_neg (by simpa using e)]
    exact ok_vmain h8 rfl w0 (by omega) m2 m8 (Step.refl hp) hq
end PL
namespace PL
open PySem PySem.Spec PyProof.Rows L2
def rowsD (rows : List (List Int)) : D := .tup (rows.map fun r => .tup (r.map .int))
def findD (f : Str × List (List Int)) : D := .ins 18 ["name", "marks"] [.str f.1, rowsD f.2]
def claimD (c : Str × List (List Int) × Int) : D := .ins 19 ["marks", "name", "day"] [rowsD c.2.1, .str c.1, .int c.2.2]
theorem sq_S {M : Mem} {x : D} {xs : List D} (h : SeqS M x xs) : ∃ live : Mem → Prop, live M ∧ ∀ K, seqS x M K = K xs live := by
  obtain ⟨h1, h2⟩ := h
  cases x <;> simp only [asS, asL] at h1 <;> try (cases h1; done)
  · cases h1; exact ⟨_, trivial, fun K => rfl⟩
  · cases h1; exact ⟨_, trivial, fun K => rfl⟩
  · rename_i a
    cases hm : M a with
    | none => rw [hm] at h1; cases h1
    | some o =>
      rw [hm] at h1
      cases o <;> simp at h1
      subst h1
      exact ⟨_, hm, fun K => sq_c hm⟩
theorem tup_S {M : Mem} {x : D} {xs : List D} {Q : R → Prop} (h : SeqS M x xs) : fnS .tuple [x] M Q = Q (.val (.tup xs)) := by
  obtain ⟨h1, h2⟩ := h
  unfold fnS one
  cases x <;> simp only [asS, asL] at h1 <;> try (cases h1; done)
  all_goals simp only [asS, asL, h1]
  all_goals (first | (cases h1; rfl) | skip)
def sp_rises : DSp := fun ds M Q _ => ∃ d xs b, ds = [d, .int b] ∧ SeqS M d xs ∧ pureL xs = true ∧ Q (.val (.bl (risesD xs 0 b))) M
theorem ok_rises {T : Tb} (h1 : T.fn 1 = sp_is_from_to) : SpOk T N_rises ir_rises 2 sp_rises := by
  rintro ds M Q E hl ⟨d, xs, b, rfl, hS, hp, hq⟩
  show wpSs T ir_rises _ [some d, some (.int b), none, none] M
  unfold ir_rises
  obtain ⟨live, hlive, hsq⟩ := sq_S hS
  (rw [wpSs_cons]; simp only [wpSs_nil, wpS, wpE, wpEs, wpEo, wpC, wpT, wpSrc, Rd_val, Rd_new, frz_lst, frz_ins, List.getElem?_cons_zero, List.getElem?_cons_succ, List.set_cons_zero, List.set_cons_succ, kw_nil, bindT, wipeD, List.map_cons, List.map_nil, List.zip_cons_cons, List.zip_nil_right, List.zip_nil_left, List.foldl_cons, List.foldl_nil, o_add, o_adds, o_addt, o_addl, o_sub, o_mul, o_mult, o_mull, o_muls, o_div, o_mod, o_pow, c_lt, c_le, c_gt, c_ge, c_eq, c_ne, c_in, c_ni, c_is, c_isn, e_int, e_str, e_bool, t_bl, t_int, t_lst, t_tup, t_non, f_lent, f_lenl, f_lens, f_lbt, f_lbl, f_lbs, f_inti, f_tupl, f_tupt, f_lstt, f_lstl, f_stri, y_non, y_bl, y_int, y_str, y_tup, y_lst, y_ins, rg_1, rg_2, sq_tup, sq_lst, zp_tup, en_lst, en_tup, aL_lst, sl_t, sl_s, Ty.below, List.any_cons, List.any_nil, subT, Bool.or_false, Bool.not_true, Bool.not_false, true_and, and_true, reduceCtorEq, decide_false, decide_true, Bool.false_eq_true, if_false, if_true, Bool.not_eq_true', Bool.not_not])
  (rw [wpSs_cons]; simp only [wpSs_nil, wpS, wpE, wpEs, wpEo, wpC, wpT, wpSrc, Rd_val, Rd_new, frz_lst, frz_ins, List.getElem?_cons_zero, List.getElem?_cons_succ, List.set_cons_zero, List.set_cons_succ, kw_nil, bindT, wipeD, List.map_cons, List.map_nil, List.zip_cons_cons, List.zip_nil_right, List.zip_nil_left, List.foldl_cons, List.foldl_nil, o_add, o_adds, o_addt, o_addl, o_sub, o_mul, o_mult, o_mull, o_muls, o_div, o_mod, o_pow, c_lt, c_le, c_gt, c_ge, c_eq, c_ne, c_in, c_ni, c_is, c_isn, e_int, e_str, e_bool, t_bl, t_int, t_lst, t_tup, t_non, f_lent, f_lenl, f_lens, f_lbt, f_lbl, f_lbs, f_inti, f_tupl, f_tupt, f_lstt, f_lstl, f_stri, y_non, y_bl, y_int, y_str, y_tup, y_lst, y_ins, rg_1, rg_2, sq_tup, sq_lst, zp_tup, en_lst, en_tup, aL_lst, sl_t, sl_s, Ty.below, List.any_cons, List.any_nil, subT, Bool.or_false, Bool.not_true, Bool.not_false, true_and, and_true, reduceCtorEq, decide_false, decide_true, Bool.false_eq_true, if_false, if_true, Bool.not_eq_true', Bool.not_not])
  rw [hsq]
  refine ⟨fun i ρ M' => M' = M ∧ i ≤ xs.length ∧ ∃ a z, ρ = [some d, some (.int b), some (.int a), z] ∧ risesD xs 0 b = risesD (xs.drop i) a b, ⟨rfl, Nat.zero_le _, 0, none, rfl, rfl⟩, fun _ _ _ _ h => by rw [h.1]; exact hlive, ?_, ?_⟩
  · rintro i x ρ M' hx ⟨rfl, hi, a, z, rfl, e⟩
    simp only [wpSs, wpS, wpE, wpEs, wpEo, wpC, wpT, wpSrc, Rd_val, Rd_new, frz_lst, frz_ins, List.getElem?_cons_zero, List.getElem?_cons_succ, List.set_cons_zero, List.set_cons_succ, kw_nil, bindT, wipeD, List.map_cons, List.map_nil, List.zip_cons_cons, List.zip_nil_right, List.zip_nil_left, List.foldl_cons, List.foldl_nil, o_add, o_adds, o_addt, o_addl, o_sub, o_mul, o_mult, o_mull, o_muls, o_div, o_mod, o_pow, c_lt, c_le, c_gt, c_ge, c_eq, c_ne, c_in, c_ni, c_is, c_isn, e_int, e_str, e_bool, t_bl, t_int, t_lst, t_tup, t_non, f_lent, f_lenl, f_lens, f_lbt, f_lbl, f_lbs, f_inti, f_tupl, f_tupt, f_lstt, f_lstl, f_stri, y_non, y_bl, y_int, y_str, y_tup, y_lst, y_ins, rg_1, rg_2, sq_tup, sq_lst, zp_tup, en_lst, en_tup, aL_lst, sl_t, sl_s, Ty.below, List.any_cons, List.any_nil, subT, Bool.or_false, Bool.not_true, Bool.not_false, true_and, and_true, reduceCtorEq, decide_false, decide_true, Bool.false_eq_true, if_false, if_true, Bool.not_eq_true', Bool.not_not]
    rw [h1]
    have px := pureL_get hp hx
    have hlt : i < xs.length := (List.getElem?_eq_some_iff.mp hx).1
    refine ⟨x, a, b - 1, rfl, px, ?_⟩
    rw [drop_get hx] at e
    cases hf : inFT x a (b - 1) with
    | false =>
      simp only [wpSs, wpS, wpE, wpEs, wpEo, wpC, wpT, wpSrc, Rd_val, Rd_new, frz_lst, frz_ins, List.getElem?_cons_zero, List.getElem?_cons_succ, List.set_cons_zero, List.set_cons_succ, kw_nil, bindT, wipeD, List.map_cons, List.map_nil, List.zip_cons_cons, List.zip_nil_right, List.zip_nil_left, List.foldl_cons, List.foldl_nil, o_add, o_adds, o_addt, o_addl, o_sub, o_mul, o_mult, o_mull, o_muls, o_div, o_mod, o_pow, c_lt, c_le, c_gt, c_ge, c_eq, c_ne, c_in, c_ni, c_is, c_isn, e_int, e_str, e_bool, t_bl, t_int, t_lst, t_tup, t_non, f_lent, f_lenl, f_lens, f_lbt, f_lbl, f_lbs, f_inti, f_tupl, f_tupt, f_lstt, f_lstl, f_stri, y_non, y_bl, y_int, y_str, y_tup, y_lst, y_ins, rg_1, rg_2, sq_tup, sq_lst, zp_tup, en_lst, en_tup, aL_lst, sl_t, sl_s, Ty.below, List.any_cons, List.any_nil, subT, Bool.or_false, Bool.not_true, Bool.not_false, true_and, and_true, reduceCtorEq, decide_false, decide_true, Bool.false_eq_true, if_false, if_true, Bool.not_eq_true', Bool.not_not]
      have : risesD xs 0 b = false := by rw [e]; simp [risesD, hf]
      rw [this] at hq
      exact hq
    | true =>
      simp only [wpSs, wpS, wpE, wpEs, wpEo, wpC, wpT, wpSrc, Rd_val, Rd_new, frz_lst, frz_ins, List.getElem?_cons_zero, List.getElem?_cons_succ, List.set_cons_zero, List.set_cons_succ, kw_nil, bindT, wipeD, List.map_cons, List.map_nil, List.zip_cons_cons, List.zip_nil_right, List.zip_nil_left, List.foldl_cons, List.foldl_nil, o_add, o_adds, o_addt, o_addl, o_sub, o_mul, o_mult, o_mull, o_muls, o_div, o_mod, o_pow, c_lt, c_le, c_gt, c_ge, c_eq, c_ne, c_in, c_ni, c_is, c_isn, e_int, e_str, e_bool, t_bl, t_int, t_lst, t_tup, t_non, f_lent, f_lenl, f_lens, f_lbt, f_lbl, f_lbs, f_inti, f_tupl, f_tupt, f_lstt, f_lstl, f_stri, y_non, y_bl, y_int, y_str, y_tup, y_lst, y_ins, rg_1, rg_2, sq_tup, sq_lst, zp_tup, en_lst, en_tup, aL_lst, sl_t, sl_s, Ty.below, List.any_cons, List.any_nil, subT, Bool.or_false, Bool.not_true, Bool.not_false, true_and, and_true, reduceCtorEq, decide_false, decide_true, Bool.false_eq_true, if_false, if_true, Bool.not_eq_true', Bool.not_not]
      cases x <;> try (simp [inFT] at hf; done)
      rename_i n
      simp only [wpSs, wpS, wpE, wpEs, wpEo, wpC, wpT, wpSrc, Rd_val, Rd_new, frz_lst, frz_ins, List.getElem?_cons_zero, List.getElem?_cons_succ, List.set_cons_zero, List.set_cons_succ, kw_nil, bindT, wipeD, List.map_cons, List.map_nil, List.zip_cons_cons, List.zip_nil_right, List.zip_nil_left, List.foldl_cons, List.foldl_nil, o_add, o_adds, o_addt, o_addl, o_sub, o_mul, o_mult, o_mull, o_muls, o_div, o_mod, o_pow, c_lt, c_le, c_gt, c_ge, c_eq, c_ne, c_in, c_ni, c_is, c_isn, e_int, e_str, e_bool, t_bl, t_int, t_lst, t_tup, t_non, f_lent, f_lenl, f_lens, f_lbt, f_lbl, f_lbs, f_inti, f_tupl, f_tupt, f_lstt, f_lstl, f_stri, y_non, y_bl, y_int, y_str, y_tup, y_lst, y_ins, rg_1, rg_2, sq_tup, sq_lst, zp_tup, en_lst, en_tup, aL_lst, sl_t, sl_s, Ty.below, List.any_cons, List.any_nil, subT, Bool.or_false, Bool.not_true, Bool.not_false, true_and, and_true, reduceCtorEq, decide_false, decide_true, Bool.false_eq_true, if_false, if_true, Bool.not_eq_true', Bool.not_not]
      refine ⟨hlt, n + 1, _, rfl, ?_⟩
      rw [e]
      simp [risesD, hf]
  · rintro ρ M' ⟨rfl, hi, a, z, rfl, e⟩
    rw [List.drop_eq_nil_of_le (Nat.le_refl _)] at e
    have : risesD xs 0 b = true := by rw [e]; rfl
    rw [this] at hq
    exact hq
/-- right rows -/
def rowsOk (rows : List (List Int)) : Prop := 1 ≤ rows.length ∧ rows.length ≤ 6 ∧ ∀ r ∈ rows, risesD (r.map D.int) 0 8 = true ∧ r ≠ [] ∧ r.length ≤ 8
/-- what is looked at as a row -/
def RowArg (M : Mem) (x : D) (b : Bool) : Prop := (NoSeq x ∧ b = false) ∨ ∃ ys, SeqS M x ys ∧ pureL ys = true ∧ b = (!ys.isEmpty && risesD ys 0 8)
/-- marks, seen -/
def MarksS (M : Mem) (d : D) (rows : List (List Int)) : Prop := rowsOk rows ∧ ∃ xs, SeqS M d xs ∧ xs.length = rows.length ∧ ∀ (i : Nat) x r, xs[i]? = some x → rows[i]? = some r → SeqS M x (r.map .int)
def BadMarks (M : Mem) (d : D) : Prop := NoSeq d ∨ ∃ xs, SeqS M d xs ∧ (xs.length = 0 ∨ 6 < xs.length ∨ ∃ i x, xs[i]? = some x ∧ (∀ (j : Nat) (y : D), j < i → xs[j]? = some y → RowArg M y true) ∧ RowArg M x false)
theorem pure_ints : ∀ l : List Int, pureL (l.map D.int) = true := fun l => by induction l with | nil => rfl | cons a l ih => simpa [pureL, pureD] using ih
theorem row_arg {M : Mem} {x : D} {r : List Int} (h : SeqS M x (r.map .int)) (h1 : risesD (r.map D.int) 0 8 = true) (h2 : r ≠ []) : RowArg M x true := .inr ⟨_, h, pure_ints r, by
  rw [h1]
  cases r with
  | nil => exact absurd rfl h2
  | cons a r => rfl⟩
def sp_marks_from : DSp := fun ds M Q E => ∃ d, ds = [d] ∧ ((∃ rows, MarksS M d rows ∧ Q (.val (rowsD rows)) M) ∨ (BadMarks M d ∧ E 3 [d] M))
theorem ok_marks_from {T : Tb} (g4 : T.gl 4 = .int 6) (g3 : T.gl 3 = .int 8) (h4 : T.fn 4 = sp_is_sequence) (h2 : T.fn 2 = sp_rises) : SpOk T N_marks_from ir_marks_from 1 sp_marks_from := by
  rintro ds M Q E hl ⟨d, rfl, hcase⟩
  show wpSs T ir_marks_from _ [some d, none] M
  unfold ir_marks_from
  -- the rows, walked
  have main : ∀ (xs : List D), SeqS M d xs → 1 ≤ xs.length → xs.length ≤ 6 → (∃ n, n ≤ xs.length ∧ (∀ (j : Nat) (y : D), j < n → xs[j]? = some y → RowArg M y true) ∧ ((n = xs.length ∧ ∃ rows, MarksS M d rows ∧ Q (.val (rowsD rows)) M) ∨ ((∃ x, xs[n]? = some x ∧ RowArg M x false) ∧ E 3 [d] M))) →
      wpSs T ir_marks_from { nx := fun _ M' => Q (.val .non) M', rt := Q, ex := fun k f _ M' => E k f M' } [some d, none] M := by
    rintro xs hS x1 x6 ⟨n, hn, hgood, hend⟩
    unfold ir_marks_from
    obtain ⟨live, hlive, hsq⟩ := sq_S hS
    obtain ⟨t, ht, hk, hst⟩ := hS.ty
    (rw [wpSs_cons]; simp only [wpSs_nil, wpS, wpE, wpEs, wpEo, wpC, wpT, wpSrc, Rd_val, Rd_new, frz_lst, frz_ins, List.getElem?_cons_zero, List.getElem?_cons_succ, List.set_cons_zero, List.set_cons_succ, kw_nil, bindT, wipeD, List.map_cons, List.map_nil, List.zip_cons_cons, List.zip_nil_right, List.zip_nil_left, List.foldl_cons, List.foldl_nil, o_add, o_adds, o_addt, o_addl, o_sub, o_mul, o_mult, o_mull, o_muls, o_div, o_mod, o_pow, c_lt, c_le, c_gt, c_ge, c_eq, c_ne, c_in, c_ni, c_is, c_isn, e_int, e_str, e_bool, t_bl, t_int, t_lst, t_tup, t_non, f_lent, f_lenl, f_lens, f_lbt, f_lbl, f_lbs, f_inti, f_tupl, f_tupt, f_lstt, f_lstl, f_stri, y_non, y_bl, y_int, y_str, y_tup, y_lst, y_ins, rg_1, rg_2, sq_tup, sq_lst, zp_tup, en_lst, en_tup, aL_lst, sl_t, sl_s, Ty.below, List.any_cons, List.any_nil, subT, Bool.or_false, Bool.not_true, Bool.not_false, true_and, and_true, reduceCtorEq, decide_false, decide_true, Bool.false_eq_true, if_false, if_true, Bool.not_eq_true', Bool.not_not])
    rw [h4]
    refine ⟨d, t, rfl, ht, hk, ?_⟩
    rw [hst]
    simp only [wpSs_nil, wpS, wpE, wpEs, wpEo, wpC, wpT, wpSrc, Rd_val, Rd_new, frz_lst, frz_ins, List.getElem?_cons_zero, List.getElem?_cons_succ, List.set_cons_zero, List.set_cons_succ, kw_nil, bindT, wipeD, List.map_cons, List.map_nil, List.zip_cons_cons, List.zip_nil_right, List.zip_nil_left, List.foldl_cons, List.foldl_nil, o_add, o_adds, o_addt, o_addl, o_sub, o_mul, o_mult, o_mull, o_muls, o_div, o_mod, o_pow, c_lt, c_le, c_gt, c_ge, c_eq, c_ne, c_in, c_ni, c_is, c_isn, e_int, e_str, e_bool, t_bl, t_int, t_lst, t_tup, t_non, f_lent, f_lenl, f_lens, f_lbt, f_lbl, f_lbs, f_inti, f_tupl, f_tupt, f_lstt, f_lstl, f_stri, y_non, y_bl, y_int, y_str, y_tup, y_lst, y_ins, rg_1, rg_2, sq_tup, sq_lst, zp_tup, en_lst, en_tup, aL_lst, sl_t, sl_s, Ty.below, List.any_cons, List.any_nil, subT, Bool.or_false, Bool.not_true, Bool.not_false, true_and, and_true, reduceCtorEq, decide_false, decide_true, Bool.false_eq_true, if_false, if_true, Bool.not_eq_true', Bool.not_not]
    rw [len_S hS.1]
    simp only [wpSs_nil, wpS, wpE, wpEs, wpEo, wpC, wpT, wpSrc, Rd_val, Rd_new, frz_lst, frz_ins, List.getElem?_cons_zero, List.getElem?_cons_succ, List.set_cons_zero, List.set_cons_succ, kw_nil, bindT, wipeD, List.map_cons, List.map_nil, List.zip_cons_cons, List.zip_nil_right, List.zip_nil_left, List.foldl_cons, List.foldl_nil, o_add, o_adds, o_addt, o_addl, o_sub, o_mul, o_mult, o_mull, o_muls, o_div, o_mod, o_pow, c_lt, c_le, c_gt, c_ge, c_eq, c_ne, c_in, c_ni, c_is, c_isn, e_int, e_str, e_bool, t_bl, t_int, t_lst, t_tup, t_non, f_lent, f_lenl, f_lens, f_lbt, f_lbl, f_lbs, f_inti, f_tupl, f_tupt, f_lstt, f_lstl, f_stri, y_non, y_bl, y_int, y_str, y_tup, y_lst, y_ins, rg_1, rg_2, sq_tup, sq_lst, zp_tup, en_lst, en_tup, aL_lst, sl_t, sl_s, Ty.below, List.any_cons, List.any_nil, subT, Bool.or_false, Bool.not_true, Bool.not_false, true_and, and_true, reduceCtorEq, decide_false, decide_true, Bool.false_eq_true, if_false, if_true, Bool.not_eq_true', Bool.not_not]
    rw [if_pos (by rw [decide_eq_true_eq]; omega), g4]
    simp only [wpSs_nil, wpS, wpE, wpEs, wpEo, wpC, wpT, wpSrc, Rd_val, Rd_new, frz_lst, frz_ins, List.getElem?_cons_zero, List.getElem?_cons_succ, List.set_cons_zero, List.set_cons_succ, kw_nil, bindT, wipeD, List.map_cons, List.map_nil, List.zip_cons_cons, List.zip_nil_right, List.zip_nil_left, List.foldl_cons, List.foldl_nil, o_add, o_adds, o_addt, o_addl, o_sub, o_mul, o_mult, o_mull, o_muls, o_div, o_mod, o_pow, c_lt, c_le, c_gt, c_ge, c_eq, c_ne, c_in, c_ni, c_is, c_isn, e_int, e_str, e_bool, t_bl, t_int, t_lst, t_tup, t_non, f_lent, f_lenl, f_lens, f_lbt, f_lbl, f_lbs, f_inti, f_tupl, f_tupt, f_lstt, f_lstl, f_stri, y_non, y_bl, y_int, y_str, y_tup, y_lst, y_ins, rg_1, rg_2, sq_tup, sq_lst, zp_tup, en_lst, en_tup, aL_lst, sl_t, sl_s, Ty.below, List.any_cons, List.any_nil, subT, Bool.or_false, Bool.not_true, Bool.not_false, true_and, and_true, reduceCtorEq, decide_false, decide_true, Bool.false_eq_true, if_false, if_true, Bool.not_eq_true', Bool.not_not]
    rw [if_neg (by rw [decide_eq_false_iff_not]; omega)]
    (rw [wpSs_cons]; simp only [wpSs_nil, wpS, wpE, wpEs, wpEo, wpC, wpT, wpSrc, Rd_val, Rd_new, frz_lst, frz_ins, List.getElem?_cons_zero, List.getElem?_cons_succ, List.set_cons_zero, List.set_cons_succ, kw_nil, bindT, wipeD, List.map_cons, List.map_nil, List.zip_cons_cons, List.zip_nil_right, List.zip_nil_left, List.foldl_cons, List.foldl_nil, o_add, o_adds, o_addt, o_addl, o_sub, o_mul, o_mult, o_mull, o_muls, o_div, o_mod, o_pow, c_lt, c_le, c_gt, c_ge, c_eq, c_ne, c_in, c_ni, c_is, c_isn, e_int, e_str, e_bool, t_bl, t_int, t_lst, t_tup, t_non, f_lent, f_lenl, f_lens, f_lbt, f_lbl, f_lbs, f_inti, f_tupl, f_tupt, f_lstt, f_lstl, f_stri, y_non, y_bl, y_int, y_str, y_tup, y_lst, y_ins, rg_1, rg_2, sq_tup, sq_lst, zp_tup, en_lst, en_tup, aL_lst, sl_t, sl_s, Ty.below, List.any_cons, List.any_nil, subT, Bool.or_false, Bool.not_true, Bool.not_false, true_and, and_true, reduceCtorEq, decide_false, decide_true, Bool.false_eq_true, if_false, if_true, Bool.not_eq_true', Bool.not_not])
    rw [hsq]
    refine ⟨fun i ρ M' => M' = M ∧ i ≤ n ∧ ∃ y, ρ = [some d, y], ⟨rfl, Nat.zero_le _, none, rfl⟩, fun _ _ _ _ h => by rw [h.1]; exact hlive, ?_, ?_⟩
    · rintro i x ρ M' hx ⟨rfl, hi, y, rfl⟩
      simp only [wpSs_nil, wpS, wpE, wpEs, wpEo, wpC, wpT, wpSrc, Rd_val, Rd_new, frz_lst, frz_ins, List.getElem?_cons_zero, List.getElem?_cons_succ, List.set_cons_zero, List.set_cons_succ, kw_nil, bindT, wipeD, List.map_cons, List.map_nil, List.zip_cons_cons, List.zip_nil_right, List.zip_nil_left, List.foldl_cons, List.foldl_nil, o_add, o_adds, o_addt, o_addl, o_sub, o_mul, o_mult, o_mull, o_muls, o_div, o_mod, o_pow, c_lt, c_le, c_gt, c_ge, c_eq, c_ne, c_in, c_ni, c_is, c_isn, e_int, e_str, e_bool, t_bl, t_int, t_lst, t_tup, t_non, f_lent, f_lenl, f_lens, f_lbt, f_lbl, f_lbs, f_inti, f_tupl, f_tupt, f_lstt, f_lstl, f_stri, y_non, y_bl, y_int, y_str, y_tup, y_lst, y_ins, rg_1, rg_2, sq_tup, sq_lst, zp_tup, en_lst, en_tup, aL_lst, sl_t, sl_s, Ty.below, List.any_cons, List.any_nil, subT, Bool.or_false, Bool.not_true, Bool.not_false, true_and, and_true, reduceCtorEq, decide_false, decide_true, Bool.false_eq_true, if_false, if_true, Bool.not_eq_true', Bool.not_not]
      (rw [wpSs_cons]; simp only [wpSs_nil, wpS, wpE, wpEs, wpEo, wpC, wpT, wpSrc, Rd_val, Rd_new, frz_lst, frz_ins, List.getElem?_cons_zero, List.getElem?_cons_succ, List.set_cons_zero, List.set_cons_succ, kw_nil, bindT, wipeD, List.map_cons, List.map_nil, List.zip_cons_cons, List.zip_nil_right, List.zip_nil_left, List.foldl_cons, List.foldl_nil, o_add, o_adds, o_addt, o_addl, o_sub, o_mul, o_mult, o_mull, o_muls, o_div, o_mod, o_pow, c_lt, c_le, c_gt, c_ge, c_eq, c_ne, c_in, c_ni, c_is, c_isn, e_int, e_str, e_bool, t_bl, t_int, t_lst, t_tup, t_non, f_lent, f_lenl, f_lens, f_lbt, f_lbl, f_lbs, f_inti, f_tupl, f_tupt, f_lstt, f_lstl, f_stri, y_non, y_bl, y_int, y_str, y_tup, y_lst, y_ins, rg_1, rg_2, sq_tup, sq_lst, zp_tup, en_lst, en_tup, aL_lst, sl_t, sl_s, Ty.below, List.any_cons, List.any_nil, subT, Bool.or_false, Bool.not_true, Bool.not_false, true_and, and_true, reduceCtorEq, decide_false, decide_true, Bool.false_eq_true, if_false, if_true, Bool.not_eq_true', Bool.not_not])
      rw [h4]
      have look : ∀ b, RowArg M' x b → (b = true → i < n) → (b = false → E 3 [d] M') → ∃ d_1 t, [x] = [d_1] ∧ typ M' d_1 = some t ∧ (∀ k, t ≠ .cls k) ∧ True := fun b h _ _ => by
        rcases h with ⟨⟨t, a, b, c⟩, _⟩ | ⟨ys, hs, _⟩
        · exact ⟨x, t, rfl, a M', b, trivial⟩
        · obtain ⟨t, a, b, c⟩ := hs.ty
          exact ⟨x, t, rfl, a, b, trivial⟩
      by_cases hin : i < n
      · rcases hgood i x hin hx with ⟨_, h⟩ | ⟨ys, hs, hpu, hb⟩
        · cases h
        · obtain ⟨t, a, b, c⟩ := hs.ty
          refine ⟨x, t, rfl, a, b, ?_⟩
          rw [c]
          simp only [wpSs_nil, wpS, wpE, wpEs, wpEo, wpC, wpT, wpSrc, Rd_val, Rd_new, frz_lst, frz_ins, List.getElem?_cons_zero, List.getElem?_cons_succ, List.set_cons_zero, List.set_cons_succ, kw_nil, bindT, wipeD, List.map_cons, List.map_nil, List.zip_cons_cons, List.zip_nil_right, List.zip_nil_left, List.foldl_cons, List.foldl_nil, o_add, o_adds, o_addt, o_addl, o_sub, o_mul, o_mult, o_mull, o_muls, o_div, o_mod, o_pow, c_lt, c_le, c_gt, c_ge, c_eq, c_ne, c_in, c_ni, c_is, c_isn, e_int, e_str, e_bool, t_bl, t_int, t_lst, t_tup, t_non, f_lent, f_lenl, f_lens, f_lbt, f_lbl, f_lbs, f_inti, f_tupl, f_tupt, f_lstt, f_lstl, f_stri, y_non, y_bl, y_int, y_str, y_tup, y_lst, y_ins, rg_1, rg_2, sq_tup, sq_lst, zp_tup, en_lst, en_tup, aL_lst, sl_t, sl_s, Ty.below, List.any_cons, List.any_nil, subT, Bool.or_false, Bool.not_true, Bool.not_false, true_and, and_true, reduceCtorEq, decide_false, decide_true, Bool.false_eq_true, if_false, if_true, Bool.not_eq_true', Bool.not_not]
          rw [len_S hs.1]
          have hb' : (!ys.isEmpty && risesD ys 0 8) = true := hb.symm
          rw [Bool.and_eq_true] at hb'
          simp only [wpSs_nil, wpS, wpE, wpEs, wpEo, wpC, wpT, wpSrc, Rd_val, Rd_new, frz_lst, frz_ins, List.getElem?_cons_zero, List.getElem?_cons_succ, List.set_cons_zero, List.set_cons_succ, kw_nil, bindT, wipeD, List.map_cons, List.map_nil, List.zip_cons_cons, List.zip_nil_right, List.zip_nil_left, List.foldl_cons, List.foldl_nil, o_add, o_adds, o_addt, o_addl, o_sub, o_mul, o_mult, o_mull, o_muls, o_div, o_mod, o_pow, c_lt, c_le, c_gt, c_ge, c_eq, c_ne, c_in, c_ni, c_is, c_isn, e_int, e_str, e_bool, t_bl, t_int, t_lst, t_tup, t_non, f_lent, f_lenl, f_lens, f_lbt, f_lbl, f_lbs, f_inti, f_tupl, f_tupt, f_lstt, f_lstl, f_stri, y_non, y_bl, y_int, y_str, y_tup, y_lst, y_ins, rg_1, rg_2, sq_tup, sq_lst, zp_tup, en_lst, en_tup, aL_lst, sl_t, sl_s, Ty.below, List.any_cons, List.any_nil, subT, Bool.or_false, Bool.not_true, Bool.not_false, true_and, and_true, reduceCtorEq, decide_false, decide_true, Bool.false_eq_true, if_false, if_true, Bool.not_eq_true', Bool.not_not]
          rw [if_neg (by
            have := hb'.1
            cases ys with
            | nil => cases this
            | cons a b => rw [decide_eq_true_eq]; simp only [List.length_cons]; omega), h2, g3]
          refine ⟨x, ys, 8, rfl, hs, hpu, ?_⟩
          rw [hb'.2]
          simp only [wpSs_nil, wpS, wpE, wpEs, wpEo, wpC, wpT, wpSrc, Rd_val, Rd_new, frz_lst, frz_ins, List.getElem?_cons_zero, List.getElem?_cons_succ, List.set_cons_zero, List.set_cons_succ, kw_nil, bindT, wipeD, List.map_cons, List.map_nil, List.zip_cons_cons, List.zip_nil_right, List.zip_nil_left, List.foldl_cons, List.foldl_nil, o_add, o_adds, o_addt, o_addl, o_sub, o_mul, o_mult, o_mull, o_muls, o_div, o_mod, o_pow, c_lt, c_le, c_gt, c_ge, c_eq, c_ne, c_in, c_ni, c_is, c_isn, e_int, e_str, e_bool, t_bl, t_int, t_lst, t_tup, t_non, f_lent, f_lenl, f_lens, f_lbt, f_lbl, f_lbs, f_inti, f_tupl, f_tupt, f_lstt, f_lstl, f_stri, y_non, y_bl, y_int, y_str, y_tup, y_lst, y_ins, rg_1, rg_2, sq_tup, sq_lst, zp_tup, en_lst, en_tup, aL_lst, sl_t, sl_s, Ty.below, List.any_cons, List.any_nil, subT, Bool.or_false, Bool.not_true, Bool.not_false, true_and, and_true, reduceCtorEq, decide_false, decide_true, Bool.false_eq_true, if_false, if_true, Bool.not_eq_true', Bool.not_not]
          exact ⟨hin, _, rfl⟩
      · have ei : i = n := by omega
        subst ei
        rcases hend with ⟨e, _⟩ | ⟨⟨x', hx', hr⟩, hE⟩
        · have := (List.getElem?_eq_some_iff.mp hx).1
          omega
        · rw [hx] at hx'
          cases hx'
          rcases hr with ⟨⟨t, a, b, c⟩, _⟩ | ⟨ys, hs, hpu, hb⟩
          · refine ⟨x, t, rfl, a M', b, ?_⟩
            rw [c]
            simp only [wpSs_nil, wpS, wpE, wpEs, wpEo, wpC, wpT, wpSrc, Rd_val, Rd_new, frz_lst, frz_ins, List.getElem?_cons_zero, List.getElem?_cons_succ, List.set_cons_zero, List.set_cons_succ, kw_nil, bindT, wipeD, List.map_cons, List.map_nil, List.zip_cons_cons, List.zip_nil_right, List.zip_nil_left, List.foldl_cons, List.foldl_nil, o_add, o_adds, o_addt, o_addl, o_sub, o_mul, o_mult, o_mull, o_muls, o_div, o_mod, o_pow, c_lt, c_le, c_gt, c_ge, c_eq, c_ne, c_in, c_ni, c_is, c_isn, e_int, e_str, e_bool, t_bl, t_int, t_lst, t_tup, t_non, f_lent, f_lenl, f_lens, f_lbt, f_lbl, f_lbs, f_inti, f_tupl, f_tupt, f_lstt, f_lstl, f_stri, y_non, y_bl, y_int, y_str, y_tup, y_lst, y_ins, rg_1, rg_2, sq_tup, sq_lst, zp_tup, en_lst, en_tup, aL_lst, sl_t, sl_s, Ty.below, List.any_cons, List.any_nil, subT, Bool.or_false, Bool.not_true, Bool.not_false, true_and, and_true, reduceCtorEq, decide_false, decide_true, Bool.false_eq_true, if_false, if_true, Bool.not_eq_true', Bool.not_not]
            (rw [wpSs_cons]; simp only [wpSs_nil, wpS, wpE, wpEs, wpEo, wpC, wpT, wpSrc, Rd_val, Rd_new, frz_lst, frz_ins, List.getElem?_cons_zero, List.getElem?_cons_succ, List.set_cons_zero, List.set_cons_succ, kw_nil, bindT, wipeD, List.map_cons, List.map_nil, List.zip_cons_cons, List.zip_nil_right, List.zip_nil_left, List.foldl_cons, List.foldl_nil, o_add, o_adds, o_addt, o_addl, o_sub, o_mul, o_mult, o_mull, o_muls, o_div, o_mod, o_pow, c_lt, c_le, c_gt, c_ge, c_eq, c_ne, c_in, c_ni, c_is, c_isn, e_int, e_str, e_bool, t_bl, t_int, t_lst, t_tup, t_non, f_lent, f_lenl, f_lens, f_lbt, f_lbl, f_lbs, f_inti, f_tupl, f_tupt, f_lstt, f_lstl, f_stri, y_non, y_bl, y_int, y_str, y_tup, y_lst, y_ins, rg_1, rg_2, sq_tup, sq_lst, zp_tup, en_lst, en_tup, aL_lst, sl_t, sl_s, Ty.below, List.any_cons, List.any_nil, subT, Bool.or_false, Bool.not_true, Bool.not_false, true_and, and_true, reduceCtorEq, decide_false, decide_true, Bool.false_eq_true, if_false, if_true, Bool.not_eq_true', Bool.not_not])
            exact hE
          · obtain ⟨t, a, b, c⟩ := hs.ty
            refine ⟨x, t, rfl, a, b, ?_⟩
            rw [c]
            simp only [wpSs_nil, wpS, wpE, wpEs, wpEo, wpC, wpT, wpSrc, Rd_val, Rd_new, frz_lst, frz_ins, List.getElem?_cons_zero, List.getElem?_cons_succ, List.set_cons_zero, List.set_cons_succ, kw_nil, bindT, wipeD, List.map_cons, List.map_nil, List.zip_cons_cons, List.zip_nil_right, List.zip_nil_left, List.foldl_cons, List.foldl_nil, o_add, o_adds, o_addt, o_addl, o_sub, o_mul, o_mult, o_mull, o_muls, o_div, o_mod, o_pow, c_lt, c_le, c_gt, c_ge, c_eq, c_ne, c_in, c_ni, c_is, c_isn, e_int, e_str, e_bool, t_bl, t_int, t_lst, t_tup, t_non, f_lent, f_lenl, f_lens, f_lbt, f_lbl, f_lbs, f_inti, f_tupl, f_tupt, f_lstt, f_lstl, f_stri, y_non, y_bl, y_int, y_str, y_tup, y_lst, y_ins, rg_1, rg_2, sq_tup, sq_lst, zp_tup, en_lst, en_tup, aL_lst, sl_t, sl_s, Ty.below, List.any_cons, List.any_nil, subT, Bool.or_false, Bool.not_true, Bool.not_false, true_and, and_true, reduceCtorEq, decide_false, decide_true, Bool.false_eq_true, if_false, if_true, Bool.not_eq_true', Bool.not_not]
            rw [len_S hs.1]
            simp only [wpSs_nil, wpS, wpE, wpEs, wpEo, wpC, wpT, wpSrc, Rd_val, Rd_new, frz_lst, frz_ins, List.getElem?_cons_zero, List.getElem?_cons_succ, List.set_cons_zero, List.set_cons_succ, kw_nil, bindT, wipeD, List.map_cons, List.map_nil, List.zip_cons_cons, List.zip_nil_right, List.zip_nil_left, List.foldl_cons, List.foldl_nil, o_add, o_adds, o_addt, o_addl, o_sub, o_mul, o_mult, o_mull, o_muls, o_div, o_mod, o_pow, c_lt, c_le, c_gt, c_ge, c_eq, c_ne, c_in, c_ni, c_is, c_isn, e_int, e_str, e_bool, t_bl, t_int, t_lst, t_tup, t_non, f_lent, f_lenl, f_lens, f_lbt, f_lbl, f_lbs, f_inti, f_tupl, f_tupt, f_lstt, f_lstl, f_stri, y_non, y_bl, y_int, y_str, y_tup, y_lst, y_ins, rg_1, rg_2, sq_tup, sq_lst, zp_tup, en_lst, en_tup, aL_lst, sl_t, sl_s, Ty.below, List.any_cons, List.any_nil, subT, Bool.or_false, Bool.not_true, Bool.not_false, true_and, and_true, reduceCtorEq, decide_false, decide_true, Bool.false_eq_true, if_false, if_true, Bool.not_eq_true', Bool.not_not]
            by_cases he : ys.length = 0
            · rw [if_pos (by rw [decide_eq_true_eq]; omega)]
              (rw [wpSs_cons]; simp only [wpSs_nil, wpS, wpE, wpEs, wpEo, wpC, wpT, wpSrc, Rd_val, Rd_new, frz_lst, frz_ins, List.getElem?_cons_zero, List.getElem?_cons_succ, List.set_cons_zero, List.set_cons_succ, kw_nil, bindT, wipeD, List.map_cons, List.map_nil, List.zip_cons_cons, List.zip_nil_right, List.zip_nil_left, List.foldl_cons, List.foldl_nil, o_add, o_adds, o_addt, o_addl, o_sub, o_mul, o_mult, o_mull, o_muls, o_div, o_mod, o_pow, c_lt, c_le, c_gt, c_ge, c_eq, c_ne, c_in, c_ni, c_is, c_isn, e_int, e_str, e_bool, t_bl, t_int, t_lst, t_tup, t_non, f_lent, f_lenl, f_lens, f_lbt, f_lbl, f_lbs, f_inti, f_tupl, f_tupt, f_lstt, f_lstl, f_stri, y_non, y_bl, y_int, y_str, y_tup, y_lst, y_ins, rg_1, rg_2, sq_tup, sq_lst, zp_tup, en_lst, en_tup, aL_lst, sl_t, sl_s, Ty.below, List.any_cons, List.any_nil, subT, Bool.or_false, Bool.not_true, Bool.not_false, true_and, and_true, reduceCtorEq, decide_false, decide_true, Bool.false_eq_true, if_false, if_true, Bool.not_eq_true', Bool.not_not])
              exact hE
            · rw [if_neg (by rw [decide_eq_true_eq]; omega), h2, g3]
              refine ⟨x, ys, 8, rfl, hs, hpu, ?_⟩
              have : risesD ys 0 8 = false := by
                cases ys with
                | nil => exact absurd rfl he
                | cons a b => simpa using hb.symm
              rw [this]
              simp only [wpSs_nil, wpS, wpE, wpEs, wpEo, wpC, wpT, wpSrc, Rd_val, Rd_new, frz_lst, frz_ins, List.getElem?_cons_zero, List.getElem?_cons_succ, List.set_cons_zero, List.set_cons_succ, kw_nil, bindT, wipeD, List.map_cons, List.map_nil, List.zip_cons_cons, List.zip_nil_right, List.zip_nil_left, List.foldl_cons, List.foldl_nil, o_add, o_adds, o_addt, o_addl, o_sub, o_mul, o_mult, o_mull, o_muls, o_div, o_mod, o_pow, c_lt, c_le, c_gt, c_ge, c_eq, c_ne, c_in, c_ni, c_is, c_isn, e_int, e_str, e_bool, t_bl, t_int, t_lst, t_tup, t_non, f_lent, f_lenl, f_lens, f_lbt, f_lbl, f_lbs, f_inti, f_tupl, f_tupt, f_lstt, f_lstl, f_stri, y_non, y_bl, y_int, y_str, y_tup, y_lst, y_ins, rg_1, rg_2, sq_tup, sq_lst, zp_tup, en_lst, en_tup, aL_lst, sl_t, sl_s, Ty.below, List.any_cons, List.any_nil, subT, Bool.or_false, Bool.not_true, Bool.not_false, true_and, and_true, reduceCtorEq, decide_false, decide_true, Bool.false_eq_true, if_false, if_true, Bool.not_eq_true', Bool.not_not]
              (rw [wpSs_cons]; simp only [wpSs_nil, wpS, wpE, wpEs, wpEo, wpC, wpT, wpSrc, Rd_val, Rd_new, frz_lst, frz_ins, List.getElem?_cons_zero, List.getElem?_cons_succ, List.set_cons_zero, List.set_cons_succ, kw_nil, bindT, wipeD, List.map_cons, List.map_nil, List.zip_cons_cons, List.zip_nil_right, List.zip_nil_left, List.foldl_cons, List.foldl_nil, o_add, o_adds, o_addt, o_addl, o_sub, o_mul, o_mult, o_mull, o_muls, o_div, o_mod, o_pow, c_lt, c_le, c_gt, c_ge, c_eq, c_ne, c_in, c_ni, c_is, c_isn, e_int, e_str, e_bool, t_bl, t_int, t_lst, t_tup, t_non, f_lent, f_lenl, f_lens, f_lbt, f_lbl, f_lbs, f_inti, f_tupl, f_tupt, f_lstt, f_lstl, f_stri, y_non, y_bl, y_int, y_str, y_tup, y_lst, y_ins, rg_1, rg_2, sq_tup, sq_lst, zp_tup, en_lst, en_tup, aL_lst, sl_t, sl_s, Ty.below, List.any_cons, List.any_nil, subT, Bool.or_false, Bool.not_true, Bool.not_false, true_and, and_true, reduceCtorEq, decide_false, decide_true, Bool.false_eq_true, if_false, if_true, Bool.not_eq_true', Bool.not_not])
              exact hE
    · rintro ρ M' ⟨rfl, hi, y, rfl⟩
      rcases hend with ⟨_, rows, ⟨hro, zs, hz, hzl, hzr⟩, hq⟩ | ⟨⟨x', hx', hr⟩, hE⟩
      · have ez : zs = xs := by
          have := hz.1
          rw [hS.1] at this
          exact (Option.some.inj this).symm
        subst ez
        (rw [wpSs_cons]; simp only [wpSs_nil, wpS, wpE, wpEs, wpEo, wpC, wpT, wpSrc, Rd_val, Rd_new, frz_lst, frz_ins, List.getElem?_cons_zero, List.getElem?_cons_succ, List.set_cons_zero, List.set_cons_succ, kw_nil, bindT, wipeD, List.map_cons, List.map_nil, List.zip_cons_cons, List.zip_nil_right, List.zip_nil_left, List.foldl_cons, List.foldl_nil, o_add, o_adds, o_addt, o_addl, o_sub, o_mul, o_mult, o_mull, o_muls, o_div, o_mod, o_pow, c_lt, c_le, c_gt, c_ge, c_eq, c_ne, c_in, c_ni, c_is, c_isn, e_int, e_str, e_bool, t_bl, t_int, t_lst, t_tup, t_non, f_lent, f_lenl, f_lens, f_lbt, f_lbl, f_lbs, f_inti, f_tupl, f_tupt, f_lstt, f_lstl, f_stri, y_non, y_bl, y_int, y_str, y_tup, y_lst, y_ins, rg_1, rg_2, sq_tup, sq_lst, zp_tup, en_lst, en_tup, aL_lst, sl_t, sl_s, Ty.below, List.any_cons, List.any_nil, subT, Bool.or_false, Bool.not_true, Bool.not_false, true_and, and_true, reduceCtorEq, decide_false, decide_true, Bool.false_eq_true, if_false, if_true, Bool.not_eq_true', Bool.not_not])
        rw [hsq]
        refine ⟨fun i acc M2 => M2 = M' ∧ acc = (rows.take i).map fun r => .tup (r.map .int), ⟨rfl, rfl⟩, fun _ _ _ _ h => by rw [h.1]; exact hlive, ?_, ?_⟩
        · rintro i x acc M2 hx ⟨rfl, rfl⟩
          have hil := (List.getElem?_eq_some_iff.mp hx).1
          have hr : rows[i]? = some rows[i] := List.getElem?_eq_getElem (by omega)
          have hs := hzr i x _ hx hr
          generalize rows[i] = r at hr hs
          simp only [wpSs_nil, wpS, wpE, wpEs, wpEo, wpC, wpT, wpSrc, Rd_val, Rd_new, frz_lst, frz_ins, List.getElem?_cons_zero, List.getElem?_cons_succ, List.set_cons_zero, List.set_cons_succ, kw_nil, bindT, wipeD, List.map_cons, List.map_nil, List.zip_cons_cons, List.zip_nil_right, List.zip_nil_left, List.foldl_cons, List.foldl_nil, o_add, o_adds, o_addt, o_addl, o_sub, o_mul, o_mult, o_mull, o_muls, o_div, o_mod, o_pow, c_lt, c_le, c_gt, c_ge, c_eq, c_ne, c_in, c_ni, c_is, c_isn, e_int, e_str, e_bool, t_bl, t_int, t_lst, t_tup, t_non, f_lent, f_lenl, f_lens, f_lbt, f_lbl, f_lbs, f_inti, f_tupl, f_tupt, f_lstt, f_lstl, f_stri, y_non, y_bl, y_int, y_str, y_tup, y_lst, y_ins, rg_1, rg_2, sq_tup, sq_lst, zp_tup, en_lst, en_tup, aL_lst, sl_t, sl_s, Ty.below, List.any_cons, List.any_nil, subT, Bool.or_false, Bool.not_true, Bool.not_false, true_and, and_true, reduceCtorEq, decide_false, decide_true, Bool.false_eq_true, if_false, if_true, Bool.not_eq_true', Bool.not_not]
          rw [tup_S hs]
          rw [take_get hr, List.map_append]
          rfl
        · rintro acc M2 ⟨rfl, rfl⟩
          rw [hzl, List.take_length]
          simp only [wpSs_nil, wpS, wpE, wpEs, wpEo, wpC, wpT, wpSrc, Rd_val, Rd_new, frz_lst, frz_ins, List.getElem?_cons_zero, List.getElem?_cons_succ, List.set_cons_zero, List.set_cons_succ, kw_nil, bindT, wipeD, List.map_cons, List.map_nil, List.zip_cons_cons, List.zip_nil_right, List.zip_nil_left, List.foldl_cons, List.foldl_nil, o_add, o_adds, o_addt, o_addl, o_sub, o_mul, o_mult, o_mull, o_muls, o_div, o_mod, o_pow, c_lt, c_le, c_gt, c_ge, c_eq, c_ne, c_in, c_ni, c_is, c_isn, e_int, e_str, e_bool, t_bl, t_int, t_lst, t_tup, t_non, f_lent, f_lenl, f_lens, f_lbt, f_lbl, f_lbs, f_inti, f_tupl, f_tupt, f_lstt, f_lstl, f_stri, y_non, y_bl, y_int, y_str, y_tup, y_lst, y_ins, rg_1, rg_2, sq_tup, sq_lst, zp_tup, en_lst, en_tup, aL_lst, sl_t, sl_s, Ty.below, List.any_cons, List.any_nil, subT, Bool.or_false, Bool.not_true, Bool.not_false, true_and, and_true, reduceCtorEq, decide_false, decide_true, Bool.false_eq_true, if_false, if_true, Bool.not_eq_true', Bool.not_not]
          exact hq
      · have := (List.getElem?_eq_some_iff.mp hx').1
        omega
  rcases hcase with ⟨rows, hm, hq⟩ | ⟨hb, hE⟩
  · obtain ⟨hro, xs, hS, hlen, hr⟩ := hm
    have hm : MarksS M d rows := ⟨hro, xs, hS, hlen, hr⟩
    refine main xs hS (by have := hro.1; omega) (by have := hro.2.1; omega) ⟨xs.length, Nat.le_refl _, fun j y hj hy => ?_, .inl ⟨rfl, rows, hm, hq⟩⟩
    have hrj : rows[j]? = some rows[j] := List.getElem?_eq_getElem (by omega)
    obtain ⟨o1, o2, _⟩ := hro.2.2 _ (List.mem_of_getElem? hrj)
    exact row_arg (hr j y _ hy hrj) o1 o2
  · rcases hb with ⟨t, a, b, c⟩ | ⟨xs, hS, hb⟩
    · (rw [wpSs_cons]; simp only [wpSs_nil, wpS, wpE, wpEs, wpEo, wpC, wpT, wpSrc, Rd_val, Rd_new, frz_lst, frz_ins, List.getElem?_cons_zero, List.getElem?_cons_succ, List.set_cons_zero, List.set_cons_succ, kw_nil, bindT, wipeD, List.map_cons, List.map_nil, List.zip_cons_cons, List.zip_nil_right, List.zip_nil_left, List.foldl_cons, List.foldl_nil, o_add, o_adds, o_addt, o_addl, o_sub, o_mul, o_mult, o_mull, o_muls, o_div, o_mod, o_pow, c_lt, c_le, c_gt, c_ge, c_eq, c_ne, c_in, c_ni, c_is, c_isn, e_int, e_str, e_bool, t_bl, t_int, t_lst, t_tup, t_non, f_lent, f_lenl, f_lens, f_lbt, f_lbl, f_lbs, f_inti, f_tupl, f_tupt, f_lstt, f_lstl, f_stri, y_non, y_bl, y_int, y_str, y_tup, y_lst, y_ins, rg_1, rg_2, sq_tup, sq_lst, zp_tup, en_lst, en_tup, aL_lst, sl_t, sl_s, Ty.below, List.any_cons, List.any_nil, subT, Bool.or_false, Bool.not_true, Bool.not_false, true_and, and_true, reduceCtorEq, decide_false, decide_true, Bool.false_eq_true, if_false, if_true, Bool.not_eq_true', Bool.not_not])
      rw [h4]
      refine ⟨d, t, rfl, a M, b, ?_⟩
      rw [c]
      simp only [wpSs_nil, wpS, wpE, wpEs, wpEo, wpC, wpT, wpSrc, Rd_val, Rd_new, frz_lst, frz_ins, List.getElem?_cons_zero, List.getElem?_cons_succ, List.set_cons_zero, List.set_cons_succ, kw_nil, bindT, wipeD, List.map_cons, List.map_nil, List.zip_cons_cons, List.zip_nil_right, List.zip_nil_left, List.foldl_cons, List.foldl_nil, o_add, o_adds, o_addt, o_addl, o_sub, o_mul, o_mult, o_mull, o_muls, o_div, o_mod, o_pow, c_lt, c_le, c_gt, c_ge, c_eq, c_ne, c_in, c_ni, c_is, c_isn, e_int, e_str, e_bool, t_bl, t_int, t_lst, t_tup, t_non, f_lent, f_lenl, f_lens, f_lbt, f_lbl, f_lbs, f_inti, f_tupl, f_tupt, f_lstt, f_lstl, f_stri, y_non, y_bl, y_int, y_str, y_tup, y_lst, y_ins, rg_1, rg_2, sq_tup, sq_lst, zp_tup, en_lst, en_tup, aL_lst, sl_t, sl_s, Ty.below, List.any_cons, List.any_nil, subT, Bool.or_false, Bool.not_true, Bool.not_false, true_and, and_true, reduceCtorEq, decide_false, decide_true, Bool.false_eq_true, if_false, if_true, Bool.not_eq_true', Bool.not_not]
      (rw [wpSs_cons]; simp only [wpSs_nil, wpS, wpE, wpEs, wpEo, wpC, wpT, wpSrc, Rd_val, Rd_new, frz_lst, frz_ins, List.getElem?_cons_zero, List.getElem?_cons_succ, List.set_cons_zero, List.set_cons_succ, kw_nil, bindT, wipeD, List.map_cons, List.map_nil, List.zip_cons_cons, List.zip_nil_right, List.zip_nil_left, List.foldl_cons, List.foldl_nil, o_add, o_adds, o_addt, o_addl, o_sub, o_mul, o_mult, o_mull, o_muls, o_div, o_mod, o_pow, c_lt, c_le, c_gt, c_ge, c_eq, c_ne, c_in, c_ni, c_is, c_isn, e_int, e_str, e_bool, t_bl, t_int, t_lst, t_tup, t_non, f_lent, f_lenl, f_lens, f_lbt, f_lbl, f_lbs, f_inti, f_tupl, f_tupt, f_lstt, f_lstl, f_stri, y_non, y_bl, y_int, y_str, y_tup, y_lst, y_ins, rg_1, rg_2, sq_tup, sq_lst, zp_tup, en_lst, en_tup, aL_lst, sl_t, sl_s, Ty.below, List.any_cons, List.any_nil, subT, Bool.or_false, Bool.not_true, Bool.not_false, true_and, and_true, reduceCtorEq, decide_false, decide_true, Bool.false_eq_true, if_false, if_true, Bool.not_eq_true', Bool.not_not])
      exact hE
    · by_cases h0 : xs.length = 0 ∨ 6 < xs.length
      · obtain ⟨t, a, b, c⟩ := hS.ty
        (rw [wpSs_cons]; simp only [wpSs_nil, wpS, wpE, wpEs, wpEo, wpC, wpT, wpSrc, Rd_val, Rd_new, frz_lst, frz_ins, List.getElem?_cons_zero, List.getElem?_cons_succ, List.set_cons_zero, List.set_cons_succ, kw_nil, bindT, wipeD, List.map_cons, List.map_nil, List.zip_cons_cons, List.zip_nil_right, List.zip_nil_left, List.foldl_cons, List.foldl_nil, o_add, o_adds, o_addt, o_addl, o_sub, o_mul, o_mult, o_mull, o_muls, o_div, o_mod, o_pow, c_lt, c_le, c_gt, c_ge, c_eq, c_ne, c_in, c_ni, c_is, c_isn, e_int, e_str, e_bool, t_bl, t_int, t_lst, t_tup, t_non, f_lent, f_lenl, f_lens, f_lbt, f_lbl, f_lbs, f_inti, f_tupl, f_tupt, f_lstt, f_lstl, f_stri, y_non, y_bl, y_int, y_str, y_tup, y_lst, y_ins, rg_1, rg_2, sq_tup, sq_lst, zp_tup, en_lst, en_tup, aL_lst, sl_t, sl_s, Ty.below, List.any_cons, List.any_nil, subT, Bool.or_false, Bool.not_true, Bool.not_false, true_and, and_true, reduceCtorEq, decide_false, decide_true, Bool.false_eq_true, if_false, if_true, Bool.not_eq_true', Bool.not_not])
        rw [h4]
        refine ⟨d, t, rfl, a, b, ?_⟩
        rw [c]
        simp only [wpSs_nil, wpS, wpE, wpEs, wpEo, wpC, wpT, wpSrc, Rd_val, Rd_new, frz_lst, frz_ins, List.getElem?_cons_zero, List.getElem?_cons_succ, List.set_cons_zero, List.set_cons_succ, kw_nil, bindT, wipeD, List.map_cons, List.map_nil, List.zip_cons_cons, List.zip_nil_right, List.zip_nil_left, List.foldl_cons, List.foldl_nil, o_add, o_adds, o_addt, o_addl, o_sub, o_mul, o_mult, o_mull, o_muls, o_div, o_mod, o_pow, c_lt, c_le, c_gt, c_ge, c_eq, c_ne, c_in, c_ni, c_is, c_isn, e_int, e_str, e_bool, t_bl, t_int, t_lst, t_tup, t_non, f_lent, f_lenl, f_lens, f_lbt, f_lbl, f_lbs, f_inti, f_tupl, f_tupt, f_lstt, f_lstl, f_stri, y_non, y_bl, y_int, y_str, y_tup, y_lst, y_ins, rg_1, rg_2, sq_tup, sq_lst, zp_tup, en_lst, en_tup, aL_lst, sl_t, sl_s, Ty.below, List.any_cons, List.any_nil, subT, Bool.or_false, Bool.not_true, Bool.not_false, true_and, and_true, reduceCtorEq, decide_false, decide_true, Bool.false_eq_true, if_false, if_true, Bool.not_eq_true', Bool.not_not]
        rw [len_S hS.1]
        simp only [wpSs_nil, wpS, wpE, wpEs, wpEo, wpC, wpT, wpSrc, Rd_val, Rd_new, frz_lst, frz_ins, List.getElem?_cons_zero, List.getElem?_cons_succ, List.set_cons_zero, List.set_cons_succ, kw_nil, bindT, wipeD, List.map_cons, List.map_nil, List.zip_cons_cons, List.zip_nil_right, List.zip_nil_left, List.foldl_cons, List.foldl_nil, o_add, o_adds, o_addt, o_addl, o_sub, o_mul, o_mult, o_mull, o_muls, o_div, o_mod, o_pow, c_lt, c_le, c_gt, c_ge, c_eq, c_ne, c_in, c_ni, c_is, c_isn, e_int, e_str, e_bool, t_bl, t_int, t_lst, t_tup, t_non, f_lent, f_lenl, f_lens, f_lbt, f_lbl, f_lbs, f_inti, f_tupl, f_tupt, f_lstt, f_lstl, f_stri, y_non, y_bl, y_int, y_str, y_tup, y_lst, y_ins, rg_1, rg_2, sq_tup, sq_lst, zp_tup, en_lst, en_tup, aL_lst, sl_t, sl_s, Ty.below, List.any_cons, List.any_nil, subT, Bool.or_false, Bool.not_true, Bool.not_false, true_and, and_true, reduceCtorEq, decide_false, decide_true, Bool.false_eq_true, if_false, if_true, Bool.not_eq_true', Bool.not_not]
        by_cases h1 : xs.length = 0
        · rw [if_neg (by rw [decide_eq_true_eq]; omega)]
          (rw [wpSs_cons]; simp only [wpSs_nil, wpS, wpE, wpEs, wpEo, wpC, wpT, wpSrc, Rd_val, Rd_new, frz_lst, frz_ins, List.getElem?_cons_zero, List.getElem?_cons_succ, List.set_cons_zero, List.set_cons_succ, kw_nil, bindT, wipeD, List.map_cons, List.map_nil, List.zip_cons_cons, List.zip_nil_right, List.zip_nil_left, List.foldl_cons, List.foldl_nil, o_add, o_adds, o_addt, o_addl, o_sub, o_mul, o_mult, o_mull, o_muls, o_div, o_mod, o_pow, c_lt, c_le, c_gt, c_ge, c_eq, c_ne, c_in, c_ni, c_is, c_isn, e_int, e_str, e_bool, t_bl, t_int, t_lst, t_tup, t_non, f_lent, f_lenl, f_lens, f_lbt, f_lbl, f_lbs, f_inti, f_tupl, f_tupt, f_lstt, f_lstl, f_stri, y_non, y_bl, y_int, y_str, y_tup, y_lst, y_ins, rg_1, rg_2, sq_tup, sq_lst, zp_tup, en_lst, en_tup, aL_lst, sl_t, sl_s, Ty.below, List.any_cons, List.any_nil, subT, Bool.or_false, Bool.not_true, Bool.not_false, true_and, and_true, reduceCtorEq, decide_false, decide_true, Bool.false_eq_true, if_false, if_true, Bool.not_eq_true', Bool.not_not])
          exact hE
        · rw [if_pos (by rw [decide_eq_true_eq]; omega), g4]
          simp only [wpSs_nil, wpS, wpE, wpEs, wpEo, wpC, wpT, wpSrc, Rd_val, Rd_new, frz_lst, frz_ins, List.getElem?_cons_zero, List.getElem?_cons_succ, List.set_cons_zero, List.set_cons_succ, kw_nil, bindT, wipeD, List.map_cons, List.map_nil, List.zip_cons_cons, List.zip_nil_right, List.zip_nil_left, List.foldl_cons, List.foldl_nil, o_add, o_adds, o_addt, o_addl, o_sub, o_mul, o_mult, o_mull, o_muls, o_div, o_mod, o_pow, c_lt, c_le, c_gt, c_ge, c_eq, c_ne, c_in, c_ni, c_is, c_isn, e_int, e_str, e_bool, t_bl, t_int, t_lst, t_tup, t_non, f_lent, f_lenl, f_lens, f_lbt, f_lbl, f_lbs, f_inti, f_tupl, f_tupt, f_lstt, f_lstl, f_stri, y_non, y_bl, y_int, y_str, y_tup, y_lst, y_ins, rg_1, rg_2, sq_tup, sq_lst, zp_tup, en_lst, en_tup, aL_lst, sl_t, sl_s, Ty.below, List.any_cons, List.any_nil, subT, Bool.or_false, Bool.not_true, Bool.not_false, true_and, and_true, reduceCtorEq, decide_false, decide_true, Bool.false_eq_true, if_false, if_true, Bool.not_eq_true', Bool.not_not]
          rw [if_pos (by rw [decide_eq_false_iff_not]; omega)]
          (rw [wpSs_cons]; simp only [wpSs_nil, wpS, wpE, wpEs, wpEo, wpC, wpT, wpSrc, Rd_val, Rd_new, frz_lst, frz_ins, List.getElem?_cons_zero, List.getElem?_cons_succ, List.set_cons_zero, List.set_cons_succ, kw_nil, bindT, wipeD, List.map_cons, List.map_nil, List.zip_cons_cons, List.zip_nil_right, List.zip_nil_left, List.foldl_cons, List.foldl_nil, o_add, o_adds, o_addt, o_addl, o_sub, o_mul, o_mult, o_mull, o_muls, o_div, o_mod, o_pow, c_lt, c_le, c_gt, c_ge, c_eq, c_ne, c_in, c_ni, c_is, c_isn, e_int, e_str, e_bool, t_bl, t_int, t_lst, t_tup, t_non, f_lent, f_lenl, f_lens, f_lbt, f_lbl, f_lbs, f_inti, f_tupl, f_tupt, f_lstt, f_lstl, f_stri, y_non, y_bl, y_int, y_str, y_tup, y_lst, y_ins, rg_1, rg_2, sq_tup, sq_lst, zp_tup, en_lst, en_tup, aL_lst, sl_t, sl_s, Ty.below, List.any_cons, List.any_nil, subT, Bool.or_false, Bool.not_true, Bool.not_false, true_and, and_true, reduceCtorEq, decide_false, decide_true, Bool.false_eq_true, if_false, if_true, Bool.not_eq_true', Bool.not_not])
          exact hE
      · rcases hb with h | h | ⟨i, x, hx, hg, hr⟩
        · exact absurd (.inl h) h0
        · exact absurd (.inr h) h0
        · have := (List.getElem?_eq_some_iff.mp hx).1
          exact main xs hS (by omega) (by omega) ⟨i, by omega, hg, .inr ⟨⟨x, hx, hr⟩, hE⟩⟩
end PL
namespace PL
open PySem PySem.Spec PyProof.Rows L2
/-- all but one cell stays -/
def Away (p : Addr) (M M' : Mem) : Prop := ∀ a o, a ≠ p → M a = some o → M' a = some o
theorem Away.refl {p : Addr} {M : Mem} : Away p M M := fun _ _ _ h => h
theorem Away.put {p : Addr} {M M' : Mem} {o : Ob} (h : Away p M M') : Away p M (mput M' p o) := fun a o' n e => by rw [mput_ne n]; exact h a o' n e
theorem SeqS.away {p : Addr} {M M' : Mem} {d : D} {xs : List D} {c : Nat} {ns : List Str} {vs : List D} (h : SeqS M d xs) (hp : M p = some (.ins c ns vs)) (hw : Away p M M') : SeqS M' d xs := by
  obtain ⟨h1, h2⟩ := h
  cases d <;> simp only [asS, asL] at h1 <;> try (cases h1; done)
  · cases h1; exact seq_t
  · cases h1; exact seq_l
  · rename_i a
    cases hm : M a with
    | none => rw [hm] at h1; cases h1
    | some o =>
      rw [hm] at h1
      cases o <;> simp at h1
      subst h1
      exact seq_r (hw a _ (fun z => by rw [z, hp] at hm; cases hm) hm)
theorem MarksS.away {p : Addr} {M M' : Mem} {d : D} {rows : List (List Int)} {c : Nat} {ns : List Str} {vs : List D} (h : MarksS M d rows) (hp : M p = some (.ins c ns vs)) (hw : Away p M M') : MarksS M' d rows := by
  obtain ⟨ho, xs, hS, hl, hr⟩ := h
  exact ⟨ho, xs, hS.away hp hw, hl, fun i x r h1 h2 => (hr i x r h1 h2).away hp hw⟩
theorem marks_t {M : Mem} {rows : List (List Int)} (h : rowsOk rows) : MarksS M (rowsD rows) rows := ⟨h, _, seq_t, List.length_map .., fun i x r h1 h2 => by
  rw [List.getElem?_map, h2] at h1
  cases h1
  exact seq_t⟩
theorem arg_word {w : Str} (h : wordOk w = true) : WordArg (.str w) := by
  simp only [wordOk, Bool.and_eq_true, decide_eq_true_eq, List.all_eq_true] at h
  exact ⟨fun c hc => .inl (h.2 c hc), by omega⟩
def sp_Find_init : DSp := fun ds M Q E => ∃ (p : Addr) (n m : D), ds = [.ref p, n, m] ∧ M p = some (.ins 18 [] []) ∧
  ((∃ w rows, n = .str w ∧ wordOk w = true ∧ MarksS M m rows ∧ ∀ M', M' p = some (.ins 18 ["name", "marks"] [.str w, rowsD rows]) → Away p M M' → Q (.val .non) M') ∨
   (WordArg n ∧ wordB n = false ∧ E 4 [.str "name"] M) ∨
   (∃ w, n = .str w ∧ wordOk w = true ∧ (∀ M, BadMarks M m) ∧ ∀ M', Away p M M' → E 3 [m] M'))
theorem ok_Find_init {T : Tb} (h3 : T.fn 3 = sp_is_word) (h26 : T.fn 26 = sp_marks_from) (ha : T.at_ 18 = (["name", "marks"] : List Str)) (hn : T.nc 18 = true) : SpOk T N_Find_init ir_Find_init 3 sp_Find_init := by
  rintro ds M Q E hl ⟨p, n, m, rfl, hM, hcase⟩
  show wpSs T ir_Find_init _ [some (.ref p), some n, some m] M
  unfold ir_Find_init
  (rw [wpSs_cons]; simp only [wpSs_nil, wpS, wpE, wpEs, wpEo, wpC, wpT, wpSrc, Rd_val, Rd_new, frz_lst, frz_ins, List.getElem?_cons_zero, List.getElem?_cons_succ, List.set_cons_zero, List.set_cons_succ, kw_nil, bindT, wipeD, List.map_cons, List.map_nil, List.zip_cons_cons, List.zip_nil_right, List.zip_nil_left, List.foldl_cons, List.foldl_nil, o_add, o_adds, o_addt, o_addl, o_sub, o_mul, o_mult, o_mull, o_muls, o_div, o_mod, o_pow, c_lt, c_le, c_gt, c_ge, c_eq, c_ne, c_in, c_ni, c_is, c_isn, e_int, e_str, e_bool, t_bl, t_int, t_lst, t_tup, t_non, f_lent, f_lenl, f_lens, f_lbt, f_lbl, f_lbs, f_inti, f_tupl, f_tupt, f_lstt, f_lstl, f_stri, y_non, y_bl, y_int, y_str, y_tup, y_lst, y_ins, rg_1, rg_2, sq_tup, sq_lst, zp_tup, en_lst, en_tup, aL_lst, sl_t, sl_s, Ty.below, List.any_cons, List.any_nil, subT, Bool.or_false, Bool.not_true, Bool.not_false, true_and, and_true, reduceCtorEq, decide_false, decide_true, Bool.false_eq_true, if_false, if_true, Bool.not_eq_true', Bool.not_not])
  rw [h3]
  rcases hcase with ⟨w, rows, rfl, hw, hm, hq⟩ | ⟨hw, hb, hE⟩ | ⟨w, rfl, hw, hm, hE⟩
  · refine ⟨_, rfl, arg_word hw, ?_⟩
    simp only [wordB, hw]
    simp only [wpSs_nil, wpS, wpE, wpEs, wpEo, wpC, wpT, wpSrc, Rd_val, Rd_new, frz_lst, frz_ins, List.getElem?_cons_zero, List.getElem?_cons_succ, List.set_cons_zero, List.set_cons_succ, kw_nil, bindT, wipeD, List.map_cons, List.map_nil, List.zip_cons_cons, List.zip_nil_right, List.zip_nil_left, List.foldl_cons, List.foldl_nil, o_add, o_adds, o_addt, o_addl, o_sub, o_mul, o_mult, o_mull, o_muls, o_div, o_mod, o_pow, c_lt, c_le, c_gt, c_ge, c_eq, c_ne, c_in, c_ni, c_is, c_isn, e_int, e_str, e_bool, t_bl, t_int, t_lst, t_tup, t_non, f_lent, f_lenl, f_lens, f_lbt, f_lbl, f_lbs, f_inti, f_tupl, f_tupt, f_lstt, f_lstl, f_stri, y_non, y_bl, y_int, y_str, y_tup, y_lst, y_ins, rg_1, rg_2, sq_tup, sq_lst, zp_tup, en_lst, en_tup, aL_lst, sl_t, sl_s, Ty.below, List.any_cons, List.any_nil, subT, Bool.or_false, Bool.not_true, Bool.not_false, true_and, and_true, reduceCtorEq, decide_false, decide_true, Bool.false_eq_true, if_false, if_true, Bool.not_eq_true', Bool.not_not]
    (rw [wpSs_cons]; simp only [wpSs_nil, wpS, wpE, wpEs, wpEo, wpC, wpT, wpSrc, Rd_val, Rd_new, frz_lst, frz_ins, List.getElem?_cons_zero, List.getElem?_cons_succ, List.set_cons_zero, List.set_cons_succ, kw_nil, bindT, wipeD, List.map_cons, List.map_nil, List.zip_cons_cons, List.zip_nil_right, List.zip_nil_left, List.foldl_cons, List.foldl_nil, o_add, o_adds, o_addt, o_addl, o_sub, o_mul, o_mult, o_mull, o_muls, o_div, o_mod, o_pow, c_lt, c_le, c_gt, c_ge, c_eq, c_ne, c_in, c_ni, c_is, c_isn, e_int, e_str, e_bool, t_bl, t_int, t_lst, t_tup, t_non, f_lent, f_lenl, f_lens, f_lbt, f_lbl, f_lbs, f_inti, f_tupl, f_tupt, f_lstt, f_lstl, f_stri, y_non, y_bl, y_int, y_str, y_tup, y_lst, y_ins, rg_1, rg_2, sq_tup, sq_lst, zp_tup, en_lst, en_tup, aL_lst, sl_t, sl_s, Ty.below, List.any_cons, List.any_nil, subT, Bool.or_false, Bool.not_true, Bool.not_false, true_and, and_true, reduceCtorEq, decide_false, decide_true, Bool.false_eq_true, if_false, if_true, Bool.not_eq_true', Bool.not_not])
    rw [hM]
    simp only [ha, hn]
    refine ⟨by decide, by decide, ?_⟩
    (rw [wpSs_cons]; simp only [wpSs_nil, wpS, wpE, wpEs, wpEo, wpC, wpT, wpSrc, Rd_val, Rd_new, frz_lst, frz_ins, List.getElem?_cons_zero, List.getElem?_cons_succ, List.set_cons_zero, List.set_cons_succ, kw_nil, bindT, wipeD, List.map_cons, List.map_nil, List.zip_cons_cons, List.zip_nil_right, List.zip_nil_left, List.foldl_cons, List.foldl_nil, o_add, o_adds, o_addt, o_addl, o_sub, o_mul, o_mult, o_mull, o_muls, o_div, o_mod, o_pow, c_lt, c_le, c_gt, c_ge, c_eq, c_ne, c_in, c_ni, c_is, c_isn, e_int, e_str, e_bool, t_bl, t_int, t_lst, t_tup, t_non, f_lent, f_lenl, f_lens, f_lbt, f_lbl, f_lbs, f_inti, f_tupl, f_tupt, f_lstt, f_lstl, f_stri, y_non, y_bl, y_int, y_str, y_tup, y_lst, y_ins, rg_1, rg_2, sq_tup, sq_lst, zp_tup, en_lst, en_tup, aL_lst, sl_t, sl_s, Ty.below, List.any_cons, List.any_nil, subT, Bool.or_false, Bool.not_true, Bool.not_false, true_and, and_true, reduceCtorEq, decide_false, decide_true, Bool.false_eq_true, if_false, if_true, Bool.not_eq_true', Bool.not_not])
    rw [h26]
    refine ⟨m, rfl, .inl ⟨rows, hm.away hM (Away.refl.put), ?_⟩⟩
    simp only [wpSs_nil, wpS, wpE, wpEs, wpEo, wpC, wpT, wpSrc, Rd_val, Rd_new, frz_lst, frz_ins, List.getElem?_cons_zero, List.getElem?_cons_succ, List.set_cons_zero, List.set_cons_succ, kw_nil, bindT, wipeD, List.map_cons, List.map_nil, List.zip_cons_cons, List.zip_nil_right, List.zip_nil_left, List.foldl_cons, List.foldl_nil, o_add, o_adds, o_addt, o_addl, o_sub, o_mul, o_mult, o_mull, o_muls, o_div, o_mod, o_pow, c_lt, c_le, c_gt, c_ge, c_eq, c_ne, c_in, c_ni, c_is, c_isn, e_int, e_str, e_bool, t_bl, t_int, t_lst, t_tup, t_non, f_lent, f_lenl, f_lens, f_lbt, f_lbl, f_lbs, f_inti, f_tupl, f_tupt, f_lstt, f_lstl, f_stri, y_non, y_bl, y_int, y_str, y_tup, y_lst, y_ins, rg_1, rg_2, sq_tup, sq_lst, zp_tup, en_lst, en_tup, aL_lst, sl_t, sl_s, Ty.below, List.any_cons, List.any_nil, subT, Bool.or_false, Bool.not_true, Bool.not_false, true_and, and_true, reduceCtorEq, decide_false, decide_true, Bool.false_eq_true, if_false, if_true, Bool.not_eq_true', Bool.not_not]
    simp only [mput_same]
    simp only [ha, hn]
    refine ⟨by decide, by decide, ?_⟩
    rw [mput_mput]
    exact hq _ mput_same Away.refl.put
  · refine ⟨_, rfl, hw, ?_⟩
    rw [hb]
    simp only [wpSs_nil, wpS, wpE, wpEs, wpEo, wpC, wpT, wpSrc, Rd_val, Rd_new, frz_lst, frz_ins, List.getElem?_cons_zero, List.getElem?_cons_succ, List.set_cons_zero, List.set_cons_succ, kw_nil, bindT, wipeD, List.map_cons, List.map_nil, List.zip_cons_cons, List.zip_nil_right, List.zip_nil_left, List.foldl_cons, List.foldl_nil, o_add, o_adds, o_addt, o_addl, o_sub, o_mul, o_mult, o_mull, o_muls, o_div, o_mod, o_pow, c_lt, c_le, c_gt, c_ge, c_eq, c_ne, c_in, c_ni, c_is, c_isn, e_int, e_str, e_bool, t_bl, t_int, t_lst, t_tup, t_non, f_lent, f_lenl, f_lens, f_lbt, f_lbl, f_lbs, f_inti, f_tupl, f_tupt, f_lstt, f_lstl, f_stri, y_non, y_bl, y_int, y_str, y_tup, y_lst, y_ins, rg_1, rg_2, sq_tup, sq_lst, zp_tup, en_lst, en_tup, aL_lst, sl_t, sl_s, Ty.below, List.any_cons, List.any_nil, subT, Bool.or_false, Bool.not_true, Bool.not_false, true_and, and_true, reduceCtorEq, decide_false, decide_true, Bool.false_eq_true, if_false, if_true, Bool.not_eq_true', Bool.not_not]
    (rw [wpSs_cons]; simp only [wpSs_nil, wpS, wpE, wpEs, wpEo, wpC, wpT, wpSrc, Rd_val, Rd_new, frz_lst, frz_ins, List.getElem?_cons_zero, List.getElem?_cons_succ, List.set_cons_zero, List.set_cons_succ, kw_nil, bindT, wipeD, List.map_cons, List.map_nil, List.zip_cons_cons, List.zip_nil_right, List.zip_nil_left, List.foldl_cons, List.foldl_nil, o_add, o_adds, o_addt, o_addl, o_sub, o_mul, o_mult, o_mull, o_muls, o_div, o_mod, o_pow, c_lt, c_le, c_gt, c_ge, c_eq, c_ne, c_in, c_ni, c_is, c_isn, e_int, e_str, e_bool, t_bl, t_int, t_lst, t_tup, t_non, f_lent, f_lenl, f_lens, f_lbt, f_lbl, f_lbs, f_inti, f_tupl, f_tupt, f_lstt, f_lstl, f_stri, y_non, y_bl, y_int, y_str, y_tup, y_lst, y_ins, rg_1, rg_2, sq_tup, sq_lst, zp_tup, en_lst, en_tup, aL_lst, sl_t, sl_s, Ty.below, List.any_cons, List.any_nil, subT, Bool.or_false, Bool.not_true, Bool.not_false, true_and, and_true, reduceCtorEq, decide_false, decide_true, Bool.false_eq_true, if_false, if_true, Bool.not_eq_true', Bool.not_not])
    exact hE
  · refine ⟨_, rfl, arg_word hw, ?_⟩
    simp only [wordB, hw]
    simp only [wpSs_nil, wpS, wpE, wpEs, wpEo, wpC, wpT, wpSrc, Rd_val, Rd_new, frz_lst, frz_ins, List.getElem?_cons_zero, List.getElem?_cons_succ, List.set_cons_zero, List.set_cons_succ, kw_nil, bindT, wipeD, List.map_cons, List.map_nil, List.zip_cons_cons, List.zip_nil_right, List.zip_nil_left, List.foldl_cons, List.foldl_nil, o_add, o_adds, o_addt, o_addl, o_sub, o_mul, o_mult, o_mull, o_muls, o_div, o_mod, o_pow, c_lt, c_le, c_gt, c_ge, c_eq, c_ne, c_in, c_ni, c_is, c_isn, e_int, e_str, e_bool, t_bl, t_int, t_lst, t_tup, t_non, f_lent, f_lenl, f_lens, f_lbt, f_lbl, f_lbs, f_inti, f_tupl, f_tupt, f_lstt, f_lstl, f_stri, y_non, y_bl, y_int, y_str, y_tup, y_lst, y_ins, rg_1, rg_2, sq_tup, sq_lst, zp_tup, en_lst, en_tup, aL_lst, sl_t, sl_s, Ty.below, List.any_cons, List.any_nil, subT, Bool.or_false, Bool.not_true, Bool.not_false, true_and, and_true, reduceCtorEq, decide_false, decide_true, Bool.false_eq_true, if_false, if_true, Bool.not_eq_true', Bool.not_not]
    (rw [wpSs_cons]; simp only [wpSs_nil, wpS, wpE, wpEs, wpEo, wpC, wpT, wpSrc, Rd_val, Rd_new, frz_lst, frz_ins, List.getElem?_cons_zero, List.getElem?_cons_succ, List.set_cons_zero, List.set_cons_succ, kw_nil, bindT, wipeD, List.map_cons, List.map_nil, List.zip_cons_cons, List.zip_nil_right, List.zip_nil_left, List.foldl_cons, List.foldl_nil, o_add, o_adds, o_addt, o_addl, o_sub, o_mul, o_mult, o_mull, o_muls, o_div, o_mod, o_pow, c_lt, c_le, c_gt, c_ge, c_eq, c_ne, c_in, c_ni, c_is, c_isn, e_int, e_str, e_bool, t_bl, t_int, t_lst, t_tup, t_non, f_lent, f_lenl, f_lens, f_lbt, f_lbl, f_lbs, f_inti, f_tupl, f_tupt, f_lstt, f_lstl, f_stri, y_non, y_bl, y_int, y_str, y_tup, y_lst, y_ins, rg_1, rg_2, sq_tup, sq_lst, zp_tup, en_lst, en_tup, aL_lst, sl_t, sl_s, Ty.below, List.any_cons, List.any_nil, subT, Bool.or_false, Bool.not_true, Bool.not_false, true_and, and_true, reduceCtorEq, decide_false, decide_true, Bool.false_eq_true, if_false, if_true, Bool.not_eq_true', Bool.not_not])
    rw [hM]
    simp only [ha, hn]
    refine ⟨by decide, by decide, ?_⟩
    (rw [wpSs_cons]; simp only [wpSs_nil, wpS, wpE, wpEs, wpEo, wpC, wpT, wpSrc, Rd_val, Rd_new, frz_lst, frz_ins, List.getElem?_cons_zero, List.getElem?_cons_succ, List.set_cons_zero, List.set_cons_succ, kw_nil, bindT, wipeD, List.map_cons, List.map_nil, List.zip_cons_cons, List.zip_nil_right, List.zip_nil_left, List.foldl_cons, List.foldl_nil, o_add, o_adds, o_addt, o_addl, o_sub, o_mul, o_mult, o_mull, o_muls, o_div, o_mod, o_pow, c_lt, c_le, c_gt, c_ge, c_eq, c_ne, c_in, c_ni, c_is, c_isn, e_int, e_str, e_bool, t_bl, t_int, t_lst, t_tup, t_non, f_lent, f_lenl, f_lens, f_lbt, f_lbl, f_lbs, f_inti, f_tupl, f_tupt, f_lstt, f_lstl, f_stri, y_non, y_bl, y_int, y_str, y_tup, y_lst, y_ins, rg_1, rg_2, sq_tup, sq_lst, zp_tup, en_lst, en_tup, aL_lst, sl_t, sl_s, Ty.below, List.any_cons, List.any_nil, subT, Bool.or_false, Bool.not_true, Bool.not_false, true_and, and_true, reduceCtorEq, decide_false, decide_true, Bool.false_eq_true, if_false, if_true, Bool.not_eq_true', Bool.not_not])
    rw [h26]
    exact ⟨m, rfl, .inr ⟨hm _, hE _ Away.refl.put⟩⟩
def sp_Claim_init : DSp := fun ds M Q E => ∃ (p : Addr) (n m y : D), ds = [.ref p, n, m, y] ∧ M p = some (.ins 19 [] []) ∧
  ((∃ w rows i, n = .str w ∧ wordOk w = true ∧ MarksS M m rows ∧ y = .int i ∧ 0 ≤ i ∧ i ≤ 999 ∧ ∀ M', M' p = some (.ins 19 ["marks", "name", "day"] [rowsD rows, .str w, .int i]) → Away p M M' → Q (.val .non) M') ∨
   (WordArg n ∧ wordB n = false ∧ E 4 [.str "name"] M) ∨
   (∃ w, n = .str w ∧ wordOk w = true ∧ (∀ M, BadMarks M m) ∧ ∀ M', Away p M M' → E 3 [m] M') ∨
   (∃ w rows, n = .str w ∧ wordOk w = true ∧ MarksS M m rows ∧ pureD y = true ∧ inFT y 0 999 = false ∧ ∀ M', Away p M M' → E 4 [.str "day"] M'))
theorem ok_Claim_init {T : Tb} (g7 : T.gl 7 = .int 999) (h1 : T.fn 1 = sp_is_from_to) (h3 : T.fn 3 = sp_is_word) (h26 : T.fn 26 = sp_marks_from) (ha : T.at_ 19 = (["marks", "name", "day"] : List Str)) (hn : T.nc 19 = true) : SpOk T N_Claim_init ir_Claim_init 4 sp_Claim_init := by
  rintro ds M Q E hl ⟨p, n, m, y, rfl, hM, hcase⟩
  show wpSs T ir_Claim_init _ [some (.ref p), some n, some m, some y] M
  unfold ir_Claim_init
  (rw [wpSs_cons]; simp only [wpSs_nil, wpS, wpE, wpEs, wpEo, wpC, wpT, wpSrc, Rd_val, Rd_new, frz_lst, frz_ins, List.getElem?_cons_zero, List.getElem?_cons_succ, List.set_cons_zero, List.set_cons_succ, kw_nil, bindT, wipeD, List.map_cons, List.map_nil, List.zip_cons_cons, List.zip_nil_right, List.zip_nil_left, List.foldl_cons, List.foldl_nil, o_add, o_adds, o_addt, o_addl, o_sub, o_mul, o_mult, o_mull, o_muls, o_div, o_mod, o_pow, c_lt, c_le, c_gt, c_ge, c_eq, c_ne, c_in, c_ni, c_is, c_isn, e_int, e_str, e_bool, t_bl, t_int, t_lst, t_tup, t_non, f_lent, f_lenl, f_lens, f_lbt, f_lbl, f_lbs, f_inti, f_tupl, f_tupt, f_lstt, f_lstl, f_stri, y_non, y_bl, y_int, y_str, y_tup, y_lst, y_ins, rg_1, rg_2, sq_tup, sq_lst, zp_tup, en_lst, en_tup, aL_lst, sl_t, sl_s, Ty.below, List.any_cons, List.any_nil, subT, Bool.or_false, Bool.not_true, Bool.not_false, true_and, and_true, reduceCtorEq, decide_false, decide_true, Bool.false_eq_true, if_false, if_true, Bool.not_eq_true', Bool.not_not])
  rw [h3]
  rcases hcase with ⟨w, rows, i, rfl, hw, hm, rfl, i0, i1, hq⟩ | ⟨hw, hb, hE⟩ | ⟨w, rfl, hw, hm, hE⟩ | ⟨w, rows, rfl, hw, hm, hpy, hy, hE⟩
  · refine ⟨_, rfl, arg_word hw, ?_⟩
    simp only [wordB, hw]
    simp only [wpSs_nil, wpS, wpE, wpEs, wpEo, wpC, wpT, wpSrc, Rd_val, Rd_new, frz_lst, frz_ins, List.getElem?_cons_zero, List.getElem?_cons_succ, List.set_cons_zero, List.set_cons_succ, kw_nil, bindT, wipeD, List.map_cons, List.map_nil, List.zip_cons_cons, List.zip_nil_right, List.zip_nil_left, List.foldl_cons, List.foldl_nil, o_add, o_adds, o_addt, o_addl, o_sub, o_mul, o_mult, o_mull, o_muls, o_div, o_mod, o_pow, c_lt, c_le, c_gt, c_ge, c_eq, c_ne, c_in, c_ni, c_is, c_isn, e_int, e_str, e_bool, t_bl, t_int, t_lst, t_tup, t_non, f_lent, f_lenl, f_lens, f_lbt, f_lbl, f_lbs, f_inti, f_tupl, f_tupt, f_lstt, f_lstl, f_stri, y_non, y_bl, y_int, y_str, y_tup, y_lst, y_ins, rg_1, rg_2, sq_tup, sq_lst, zp_tup, en_lst, en_tup, aL_lst, sl_t, sl_s, Ty.below, List.any_cons, List.any_nil, subT, Bool.or_false, Bool.not_true, Bool.not_false, true_and, and_true, reduceCtorEq, decide_false, decide_true, Bool.false_eq_true, if_false, if_true, Bool.not_eq_true', Bool.not_not]
    (rw [wpSs_cons]; simp only [wpSs_nil, wpS, wpE, wpEs, wpEo, wpC, wpT, wpSrc, Rd_val, Rd_new, frz_lst, frz_ins, List.getElem?_cons_zero, List.getElem?_cons_succ, List.set_cons_zero, List.set_cons_succ, kw_nil, bindT, wipeD, List.map_cons, List.map_nil, List.zip_cons_cons, List.zip_nil_right, List.zip_nil_left, List.foldl_cons, List.foldl_nil, o_add, o_adds, o_addt, o_addl, o_sub, o_mul, o_mult, o_mull, o_muls, o_div, o_mod, o_pow, c_lt, c_le, c_gt, c_ge, c_eq, c_ne, c_in, c_ni, c_is, c_isn, e_int, e_str, e_bool, t_bl, t_int, t_lst, t_tup, t_non, f_lent, f_lenl, f_lens, f_lbt, f_lbl, f_lbs, f_inti, f_tupl, f_tupt, f_lstt, f_lstl, f_stri, y_non, y_bl, y_int, y_str, y_tup, y_lst, y_ins, rg_1, rg_2, sq_tup, sq_lst, zp_tup, en_lst, en_tup, aL_lst, sl_t, sl_s, Ty.below, List.any_cons, List.any_nil, subT, Bool.or_false, Bool.not_true, Bool.not_false, true_and, and_true, reduceCtorEq, decide_false, decide_true, Bool.false_eq_true, if_false, if_true, Bool.not_eq_true', Bool.not_not])
    rw [h26]
    refine ⟨m, rfl, .inl ⟨rows, hm, ?_⟩⟩
    simp only [wpSs_nil, wpS, wpE, wpEs, wpEo, wpC, wpT, wpSrc, Rd_val, Rd_new, frz_lst, frz_ins, List.getElem?_cons_zero, List.getElem?_cons_succ, List.set_cons_zero, List.set_cons_succ, kw_nil, bindT, wipeD, List.map_cons, List.map_nil, List.zip_cons_cons, List.zip_nil_right, List.zip_nil_left, List.foldl_cons, List.foldl_nil, o_add, o_adds, o_addt, o_addl, o_sub, o_mul, o_mult, o_mull, o_muls, o_div, o_mod, o_pow, c_lt, c_le, c_gt, c_ge, c_eq, c_ne, c_in, c_ni, c_is, c_isn, e_int, e_str, e_bool, t_bl, t_int, t_lst, t_tup, t_non, f_lent, f_lenl, f_lens, f_lbt, f_lbl, f_lbs, f_inti, f_tupl, f_tupt, f_lstt, f_lstl, f_stri, y_non, y_bl, y_int, y_str, y_tup, y_lst, y_ins, rg_1, rg_2, sq_tup, sq_lst, zp_tup, en_lst, en_tup, aL_lst, sl_t, sl_s, Ty.below, List.any_cons, List.any_nil, subT, Bool.or_false, Bool.not_true, Bool.not_false, true_and, and_true, reduceCtorEq, decide_false, decide_true, Bool.false_eq_true, if_false, if_true, Bool.not_eq_true', Bool.not_not]
    rw [hM]
    simp only [ha, hn]
    refine ⟨by decide, by decide, ?_⟩
    (rw [wpSs_cons]; simp only [wpSs_nil, wpS, wpE, wpEs, wpEo, wpC, wpT, wpSrc, Rd_val, Rd_new, frz_lst, frz_ins, List.getElem?_cons_zero, List.getElem?_cons_succ, List.set_cons_zero, List.set_cons_succ, kw_nil, bindT, wipeD, List.map_cons, List.map_nil, List.zip_cons_cons, List.zip_nil_right, List.zip_nil_left, List.foldl_cons, List.foldl_nil, o_add, o_adds, o_addt, o_addl, o_sub, o_mul, o_mult, o_mull, o_muls, o_div, o_mod, o_pow, c_lt, c_le, c_gt, c_ge, c_eq, c_ne, c_in, c_ni, c_is, c_isn, e_int, e_str, e_bool, t_bl, t_int, t_lst, t_tup, t_non, f_lent, f_lenl, f_lens, f_lbt, f_lbl, f_lbs, f_inti, f_tupl, f_tupt, f_lstt, f_lstl, f_stri, y_non, y_bl, y_int, y_str, y_tup, y_lst, y_ins, rg_1, rg_2, sq_tup, sq_lst, zp_tup, en_lst, en_tup, aL_lst, sl_t, sl_s, Ty.below, List.any_cons, List.any_nil, subT, Bool.or_false, Bool.not_true, Bool.not_false, true_and, and_true, reduceCtorEq, decide_false, decide_true, Bool.false_eq_true, if_false, if_true, Bool.not_eq_true', Bool.not_not])
    rw [h1, g7]
    refine ⟨.int i, 0, 999, rfl, rfl, ?_⟩
    rw [show inFT (.int i) 0 999 = true by simp [inFT]; omega]
    simp only [wpSs_nil, wpS, wpE, wpEs, wpEo, wpC, wpT, wpSrc, Rd_val, Rd_new, frz_lst, frz_ins, List.getElem?_cons_zero, List.getElem?_cons_succ, List.set_cons_zero, List.set_cons_succ, kw_nil, bindT, wipeD, List.map_cons, List.map_nil, List.zip_cons_cons, List.zip_nil_right, List.zip_nil_left, List.foldl_cons, List.foldl_nil, o_add, o_adds, o_addt, o_addl, o_sub, o_mul, o_mult, o_mull, o_muls, o_div, o_mod, o_pow, c_lt, c_le, c_gt, c_ge, c_eq, c_ne, c_in, c_ni, c_is, c_isn, e_int, e_str, e_bool, t_bl, t_int, t_lst, t_tup, t_non, f_lent, f_lenl, f_lens, f_lbt, f_lbl, f_lbs, f_inti, f_tupl, f_tupt, f_lstt, f_lstl, f_stri, y_non, y_bl, y_int, y_str, y_tup, y_lst, y_ins, rg_1, rg_2, sq_tup, sq_lst, zp_tup, en_lst, en_tup, aL_lst, sl_t, sl_s, Ty.below, List.any_cons, List.any_nil, subT, Bool.or_false, Bool.not_true, Bool.not_false, true_and, and_true, reduceCtorEq, decide_false, decide_true, Bool.false_eq_true, if_false, if_true, Bool.not_eq_true', Bool.not_not]
    (rw [wpSs_cons]; simp only [wpSs_nil, wpS, wpE, wpEs, wpEo, wpC, wpT, wpSrc, Rd_val, Rd_new, frz_lst, frz_ins, List.getElem?_cons_zero, List.getElem?_cons_succ, List.set_cons_zero, List.set_cons_succ, kw_nil, bindT, wipeD, List.map_cons, List.map_nil, List.zip_cons_cons, List.zip_nil_right, List.zip_nil_left, List.foldl_cons, List.foldl_nil, o_add, o_adds, o_addt, o_addl, o_sub, o_mul, o_mult, o_mull, o_muls, o_div, o_mod, o_pow, c_lt, c_le, c_gt, c_ge, c_eq, c_ne, c_in, c_ni, c_is, c_isn, e_int, e_str, e_bool, t_bl, t_int, t_lst, t_tup, t_non, f_lent, f_lenl, f_lens, f_lbt, f_lbl, f_lbs, f_inti, f_tupl, f_tupt, f_lstt, f_lstl, f_stri, y_non, y_bl, y_int, y_str, y_tup, y_lst, y_ins, rg_1, rg_2, sq_tup, sq_lst, zp_tup, en_lst, en_tup, aL_lst, sl_t, sl_s, Ty.below, List.any_cons, List.any_nil, subT, Bool.or_false, Bool.not_true, Bool.not_false, true_and, and_true, reduceCtorEq, decide_false, decide_true, Bool.false_eq_true, if_false, if_true, Bool.not_eq_true', Bool.not_not])
    simp only [mput_same]
    simp only [ha, hn]
    refine ⟨by decide, by decide, ?_⟩
    (rw [wpSs_cons]; simp only [wpSs_nil, wpS, wpE, wpEs, wpEo, wpC, wpT, wpSrc, Rd_val, Rd_new, frz_lst, frz_ins, List.getElem?_cons_zero, List.getElem?_cons_succ, List.set_cons_zero, List.set_cons_succ, kw_nil, bindT, wipeD, List.map_cons, List.map_nil, List.zip_cons_cons, List.zip_nil_right, List.zip_nil_left, List.foldl_cons, List.foldl_nil, o_add, o_adds, o_addt, o_addl, o_sub, o_mul, o_mult, o_mull, o_muls, o_div, o_mod, o_pow, c_lt, c_le, c_gt, c_ge, c_eq, c_ne, c_in, c_ni, c_is, c_isn, e_int, e_str, e_bool, t_bl, t_int, t_lst, t_tup, t_non, f_lent, f_lenl, f_lens, f_lbt, f_lbl, f_lbs, f_inti, f_tupl, f_tupt, f_lstt, f_lstl, f_stri, y_non, y_bl, y_int, y_str, y_tup, y_lst, y_ins, rg_1, rg_2, sq_tup, sq_lst, zp_tup, en_lst, en_tup, aL_lst, sl_t, sl_s, Ty.below, List.any_cons, List.any_nil, subT, Bool.or_false, Bool.not_true, Bool.not_false, true_and, and_true, reduceCtorEq, decide_false, decide_true, Bool.false_eq_true, if_false, if_true, Bool.not_eq_true', Bool.not_not])
    simp only [mput_same]
    simp only [ha, hn]
    refine ⟨by decide, by decide, ?_⟩
    simp only [mput_mput]
    exact hq _ mput_same Away.refl.put
  · refine ⟨_, rfl, hw, ?_⟩
    rw [hb]
    simp only [wpSs_nil, wpS, wpE, wpEs, wpEo, wpC, wpT, wpSrc, Rd_val, Rd_new, frz_lst, frz_ins, List.getElem?_cons_zero, List.getElem?_cons_succ, List.set_cons_zero, List.set_cons_succ, kw_nil, bindT, wipeD, List.map_cons, List.map_nil, List.zip_cons_cons, List.zip_nil_right, List.zip_nil_left, List.foldl_cons, List.foldl_nil, o_add, o_adds, o_addt, o_addl, o_sub, o_mul, o_mult, o_mull, o_muls, o_div, o_mod, o_pow, c_lt, c_le, c_gt, c_ge, c_eq, c_ne, c_in, c_ni, c_is, c_isn, e_int, e_str, e_bool, t_bl, t_int, t_lst, t_tup, t_non, f_lent, f_lenl, f_lens, f_lbt, f_lbl, f_lbs, f_inti, f_tupl, f_tupt, f_lstt, f_lstl, f_stri, y_non, y_bl, y_int, y_str, y_tup, y_lst, y_ins, rg_1, rg_2, sq_tup, sq_lst, zp_tup, en_lst, en_tup, aL_lst, sl_t, sl_s, Ty.below, List.any_cons, List.any_nil, subT, Bool.or_false, Bool.not_true, Bool.not_false, true_and, and_true, reduceCtorEq, decide_false, decide_true, Bool.false_eq_true, if_false, if_true, Bool.not_eq_true', Bool.not_not]
    (rw [wpSs_cons]; simp only [wpSs_nil, wpS, wpE, wpEs, wpEo, wpC, wpT, wpSrc, Rd_val, Rd_new, frz_lst, frz_ins, List.getElem?_cons_zero, List.getElem?_cons_succ, List.set_cons_zero, List.set_cons_succ, kw_nil, bindT, wipeD, List.map_cons, List.map_nil, List.zip_cons_cons, List.zip_nil_right, List.zip_nil_left, List.foldl_cons, List.foldl_nil, o_add, o_adds, o_addt, o_addl, o_sub, o_mul, o_mult, o_mull, o_muls, o_div, o_mod, o_pow, c_lt, c_le, c_gt, c_ge, c_eq, c_ne, c_in, c_ni, c_is, c_isn, e_int, e_str, e_bool, t_bl, t_int, t_lst, t_tup, t_non, f_lent, f_lenl, f_lens, f_lbt, f_lbl, f_lbs, f_inti, f_tupl, f_tupt, f_lstt, f_lstl, f_stri, y_non, y_bl, y_int, y_str, y_tup, y_lst, y_ins, rg_1, rg_2, sq_tup, sq_lst, zp_tup, en_lst, en_tup, aL_lst, sl_t, sl_s, Ty.below, List.any_cons, List.any_nil, subT, Bool.or_false, Bool.not_true, Bool.not_false, true_and, and_true, reduceCtorEq, decide_false, decide_true, Bool.false_eq_true, if_false, if_true, Bool.not_eq_true', Bool.not_not])
    exact hE
  · refine ⟨_, rfl, arg_word hw, ?_⟩
    simp only [wordB, hw]
    simp only [wpSs_nil, wpS, wpE, wpEs, wpEo, wpC, wpT, wpSrc, Rd_val, Rd_new, frz_lst, frz_ins, List.getElem?_cons_zero, List.getElem?_cons_succ, List.set_cons_zero, List.set_cons_succ, kw_nil, bindT, wipeD, List.map_cons, List.map_nil, List.zip_cons_cons, List.zip_nil_right, List.zip_nil_left, List.foldl_cons, List.foldl_nil, o_add, o_adds, o_addt, o_addl, o_sub, o_mul, o_mult, o_mull, o_muls, o_div, o_mod, o_pow, c_lt, c_le, c_gt, c_ge, c_eq, c_ne, c_in, c_ni, c_is, c_isn, e_int, e_str, e_bool, t_bl, t_int, t_lst, t_tup, t_non, f_lent, f_lenl, f_lens, f_lbt, f_lbl, f_lbs, f_inti, f_tupl, f_tupt, f_lstt, f_lstl, f_stri, y_non, y_bl, y_int, y_str, y_tup, y_lst, y_ins, rg_1, rg_2, sq_tup, sq_lst, zp_tup, en_lst, en_tup, aL_lst, sl_t, sl_s, Ty.below, List.any_cons, List.any_nil, subT, Bool.or_false, Bool.not_true, Bool.not_false, true_and, and_true, reduceCtorEq, decide_false, decide_true, Bool.false_eq_true, if_false, if_true, Bool.not_eq_true', Bool.not_not]
    (rw [wpSs_cons]; simp only [wpSs_nil, wpS, wpE, wpEs, wpEo, wpC, wpT, wpSrc, Rd_val, Rd_new, frz_lst, frz_ins, List.getElem?_cons_zero, List.getElem?_cons_succ, List.set_cons_zero, List.set_cons_succ, kw_nil, bindT, wipeD, List.map_cons, List.map_nil, List.zip_cons_cons, List.zip_nil_right, List.zip_nil_left, List.foldl_cons, List.foldl_nil, o_add, o_adds, o_addt, o_addl, o_sub, o_mul, o_mult, o_mull, o_muls, o_div, o_mod, o_pow, c_lt, c_le, c_gt, c_ge, c_eq, c_ne, c_in, c_ni, c_is, c_isn, e_int, e_str, e_bool, t_bl, t_int, t_lst, t_tup, t_non, f_lent, f_lenl, f_lens, f_lbt, f_lbl, f_lbs, f_inti, f_tupl, f_tupt, f_lstt, f_lstl, f_stri, y_non, y_bl, y_int, y_str, y_tup, y_lst, y_ins, rg_1, rg_2, sq_tup, sq_lst, zp_tup, en_lst, en_tup, aL_lst, sl_t, sl_s, Ty.below, List.any_cons, List.any_nil, subT, Bool.or_false, Bool.not_true, Bool.not_false, true_and, and_true, reduceCtorEq, decide_false, decide_true, Bool.false_eq_true, if_false, if_true, Bool.not_eq_true', Bool.not_not])
    rw [h26]
    exact ⟨m, rfl, .inr ⟨hm _, hE _ Away.refl⟩⟩
  · refine ⟨_, rfl, arg_word hw, ?_⟩
    simp only [wordB, hw]
    simp only [wpSs_nil, wpS, wpE, wpEs, wpEo, wpC, wpT, wpSrc, Rd_val, Rd_new, frz_lst, frz_ins, List.getElem?_cons_zero, List.getElem?_cons_succ, List.set_cons_zero, List.set_cons_succ, kw_nil, bindT, wipeD, List.map_cons, List.map_nil, List.zip_cons_cons, List.zip_nil_right, List.zip_nil_left, List.foldl_cons, List.foldl_nil, o_add, o_adds, o_addt, o_addl, o_sub, o_mul, o_mult, o_mull, o_muls, o_div, o_mod, o_pow, c_lt, c_le, c_gt, c_ge, c_eq, c_ne, c_in, c_ni, c_is, c_isn, e_int, e_str, e_bool, t_bl, t_int, t_lst, t_tup, t_non, f_lent, f_lenl, f_lens, f_lbt, f_lbl, f_lbs, f_inti, f_tupl, f_tupt, f_lstt, f_lstl, f_stri, y_non, y_bl, y_int, y_str, y_tup, y_lst, y_ins, rg_1, rg_2, sq_tup, sq_lst, zp_tup, en_lst, en_tup, aL_lst, sl_t, sl_s, Ty.below, List.any_cons, List.any_nil, subT, Bool.or_false, Bool.not_true, Bool.not_false, true_and, and_true, reduceCtorEq, decide_false, decide_true, Bool.false_eq_true, if_false, if_true, Bool.not_eq_true', Bool.not_not]
    (rw [wpSs_cons]; simp only [wpSs_nil, wpS, wpE, wpEs, wpEo, wpC, wpT, wpSrc, Rd_val, Rd_new, frz_lst, frz_ins, List.getElem?_cons_zero, List.getElem?_cons_succ, List.set_cons_zero, List.set_cons_succ, kw_nil, bindT, wipeD, List.map_cons, List.map_nil, List.zip_cons_cons, List.zip_nil_right, List.zip_nil_left, List.foldl_cons, List.foldl_nil, o_add, o_adds, o_addt, o_addl, o_sub, o_mul, o_mult, o_mull, o_muls, o_div, o_mod, o_pow, c_lt, c_le, c_gt, c_ge, c_eq, c_ne, c_in, c_ni, c_is, c_isn, e_int, e_str, e_bool, t_bl, t_int, t_lst, t_tup, t_non, f_lent, f_lenl, f_lens, f_lbt, f_lbl, f_lbs, f_inti, f_tupl, f_tupt, f_lstt, f_lstl, f_stri, y_non, y_bl, y_int, y_str, y_tup, y_lst, y_ins, rg_1, rg_2, sq_tup, sq_lst, zp_tup, en_lst, en_tup, aL_lst, sl_t, sl_s, Ty.below, List.any_cons, List.any_nil, subT, Bool.or_false, Bool.not_true, Bool.not_false, true_and, and_true, reduceCtorEq, decide_false, decide_true, Bool.false_eq_true, if_false, if_true, Bool.not_eq_true', Bool.not_not])
    rw [h26]
    refine ⟨m, rfl, .inl ⟨rows, hm, ?_⟩⟩
    simp only [wpSs_nil, wpS, wpE, wpEs, wpEo, wpC, wpT, wpSrc, Rd_val, Rd_new, frz_lst, frz_ins, List.getElem?_cons_zero, List.getElem?_cons_succ, List.set_cons_zero, List.set_cons_succ, kw_nil, bindT, wipeD, List.map_cons, List.map_nil, List.zip_cons_cons, List.zip_nil_right, List.zip_nil_left, List.foldl_cons, List.foldl_nil, o_add, o_adds, o_addt, o_addl, o_sub, o_mul, o_mult, o_mull, o_muls, o_div, o_mod, o_pow, c_lt, c_le, c_gt, c_ge, c_eq, c_ne, c_in, c_ni, c_is, c_isn, e_int, e_str, e_bool, t_bl, t_int, t_lst, t_tup, t_non, f_lent, f_lenl, f_lens, f_lbt, f_lbl, f_lbs, f_inti, f_tupl, f_tupt, f_lstt, f_lstl, f_stri, y_non, y_bl, y_int, y_str, y_tup, y_lst, y_ins, rg_1, rg_2, sq_tup, sq_lst, zp_tup, en_lst, en_tup, aL_lst, sl_t, sl_s, Ty.below, List.any_cons, List.any_nil, subT, Bool.or_false, Bool.not_true, Bool.not_false, true_and, and_true, reduceCtorEq, decide_false, decide_true, Bool.false_eq_true, if_false, if_true, Bool.not_eq_true', Bool.not_not]
    rw [hM]
    simp only [ha, hn]
    refine ⟨by decide, by decide, ?_⟩
    (rw [wpSs_cons]; simp only [wpSs_nil, wpS, wpE, wpEs, wpEo, wpC, wpT, wpSrc, Rd_val, Rd_new, frz_lst, frz_ins, List.getElem?_cons_zero, List.getElem?_cons_succ, List.set_cons_zero, List.set_cons_succ, kw_nil, bindT, wipeD, List.map_cons, List.map_nil, List.zip_cons_cons, List.zip_nil_right, List.zip_nil_left, List.foldl_cons, List.foldl_nil, o_add, o_adds, o_addt, o_addl, o_sub, o_mul, o_mult, o_mull, o_muls, o_div, o_mod, o_pow, c_lt, c_le, c_gt, c_ge, c_eq, c_ne, c_in, c_ni, c_is, c_isn, e_int, e_str, e_bool, t_bl, t_int, t_lst, t_tup, t_non, f_lent, f_lenl, f_lens, f_lbt, f_lbl, f_lbs, f_inti, f_tupl, f_tupt, f_lstt, f_lstl, f_stri, y_non, y_bl, y_int, y_str, y_tup, y_lst, y_ins, rg_1, rg_2, sq_tup, sq_lst, zp_tup, en_lst, en_tup, aL_lst, sl_t, sl_s, Ty.below, List.any_cons, List.any_nil, subT, Bool.or_false, Bool.not_true, Bool.not_false, true_and, and_true, reduceCtorEq, decide_false, decide_true, Bool.false_eq_true, if_false, if_true, Bool.not_eq_true', Bool.not_not])
    rw [h1, g7]
    refine ⟨y, 0, 999, rfl, hpy, ?_⟩
    rw [hy]
    simp only [wpSs_nil, wpS, wpE, wpEs, wpEo, wpC, wpT, wpSrc, Rd_val, Rd_new, frz_lst, frz_ins, List.getElem?_cons_zero, List.getElem?_cons_succ, List.set_cons_zero, List.set_cons_succ, kw_nil, bindT, wipeD, List.map_cons, List.map_nil, List.zip_cons_cons, List.zip_nil_right, List.zip_nil_left, List.foldl_cons, List.foldl_nil, o_add, o_adds, o_addt, o_addl, o_sub, o_mul, o_mult, o_mull, o_muls, o_div, o_mod, o_pow, c_lt, c_le, c_gt, c_ge, c_eq, c_ne, c_in, c_ni, c_is, c_isn, e_int, e_str, e_bool, t_bl, t_int, t_lst, t_tup, t_non, f_lent, f_lenl, f_lens, f_lbt, f_lbl, f_lbs, f_inti, f_tupl, f_tupt, f_lstt, f_lstl, f_stri, y_non, y_bl, y_int, y_str, y_tup, y_lst, y_ins, rg_1, rg_2, sq_tup, sq_lst, zp_tup, en_lst, en_tup, aL_lst, sl_t, sl_s, Ty.below, List.any_cons, List.any_nil, subT, Bool.or_false, Bool.not_true, Bool.not_false, true_and, and_true, reduceCtorEq, decide_false, decide_true, Bool.false_eq_true, if_false, if_true, Bool.not_eq_true', Bool.not_not]
    (rw [wpSs_cons]; simp only [wpSs_nil, wpS, wpE, wpEs, wpEo, wpC, wpT, wpSrc, Rd_val, Rd_new, frz_lst, frz_ins, List.getElem?_cons_zero, List.getElem?_cons_succ, List.set_cons_zero, List.set_cons_succ, kw_nil, bindT, wipeD, List.map_cons, List.map_nil, List.zip_cons_cons, List.zip_nil_right, List.zip_nil_left, List.foldl_cons, List.foldl_nil, o_add, o_adds, o_addt, o_addl, o_sub, o_mul, o_mult, o_mull, o_muls, o_div, o_mod, o_pow, c_lt, c_le, c_gt, c_ge, c_eq, c_ne, c_in, c_ni, c_is, c_isn, e_int, e_str, e_bool, t_bl, t_int, t_lst, t_tup, t_non, f_lent, f_lenl, f_lens, f_lbt, f_lbl, f_lbs, f_inti, f_tupl, f_tupt, f_lstt, f_lstl, f_stri, y_non, y_bl, y_int, y_str, y_tup, y_lst, y_ins, rg_1, rg_2, sq_tup, sq_lst, zp_tup, en_lst, en_tup, aL_lst, sl_t, sl_s, Ty.below, List.any_cons, List.any_nil, subT, Bool.or_false, Bool.not_true, Bool.not_false, true_and, and_true, reduceCtorEq, decide_false, decide_true, Bool.false_eq_true, if_false, if_true, Bool.not_eq_true', Bool.not_not])
    exact hE _ Away.refl.put
-- the own ==
theorem str_sh {x : Str} (h : PyData.strOk x = true) : SeqAt.shaped (.str x) = true := by
  have h1 : (PyData.str x).canLay0 = true := by unfold PyData.canLay0; exact h
  unfold SeqAt.shaped
  rw [h1, Bool.true_and]
  unfold PyData.depth
  decide
theorem word_strOk {w : Str} (h : wordOk w = true) : PyData.strOk w = true := by
  simp only [wordOk, Bool.and_eq_true, decide_eq_true_eq, List.all_eq_true] at h
  obtain ⟨⟨h1, h2⟩, h3⟩ := h
  unfold PyData.strOk
  rw [Array.all_eq_true']
  intro c hc
  have := h3 c (by simpa using hc)
  simp at this ⊢
  omega
def rowP (r : List Int) : PyData := .tuple (r.map .int)
theorem datL_ints : ∀ l : List Int, datL (l.map .int) = some (l.map .int)
  | [] => rfl
  | a :: l => by
    rw [List.map_cons, List.map_cons]
    simp only [datL, dat, datL_ints l]
theorem datL_rows : ∀ l : List (List Int), datL (l.map fun r => .tup (r.map .int)) = some (l.map rowP)
  | [] => rfl
  | a :: l => by
    rw [List.map_cons, List.map_cons]
    simp only [datL, dat, datL_ints, datL_rows l]
    rfl
theorem eqv_ints : ∀ a b : List Int, PyData.eqvAll (a.map .int) (b.map .int) = decide (a = b)
  | [], [] => by simp [PyData.eqvAll]
  | [], _ :: _ => by simp [PyData.eqvAll]
  | _ :: _, [] => by simp [PyData.eqvAll]
  | x :: a, y :: b => by
    rw [List.map_cons, List.map_cons]
    have h := eqv_ints a b
    simp only [PyData.eqvAll, PyData.eqv, h]
    rw [Bool.eq_iff_iff]
    simp
theorem eqv_rows : ∀ a b : List (List Int), PyData.eqvAll (a.map rowP) (b.map rowP) = decide (a = b)
  | [], [] => by simp [PyData.eqvAll]
  | [], _ :: _ => by simp [PyData.eqvAll]
  | _ :: _, [] => by simp [PyData.eqvAll]
  | x :: a, y :: b => by
    rw [List.map_cons, List.map_cons]
    have h := eqv_rows a b
    simp only [rowP, PyData.eqvAll, PyData.eqv, eqv_ints]
    rw [h, Bool.eq_iff_iff]
    simp
theorem sh_rows (rows : List (List Int)) : SeqAt.shaped (.tuple (rows.map rowP)) = true := by
  have i1 : ∀ l : List Int, PyData.canLayAll0 (l.map .int) = true := fun l => by
    induction l with
    | nil => rfl
    | cons f l ih => rw [List.map_cons]; simp only [PyData.canLayAll0, PyData.canLay0, Bool.true_and]; exact ih
  have i2 : ∀ l : List Int, PyData.depthAll (l.map .int) ≤ 1 := fun l => by
    induction l with
    | nil => simp [PyData.depthAll]
    | cons f l ih => rw [List.map_cons]; simp only [PyData.depthAll, PyData.depth]; omega
  have c1 : ∀ l : List (List Int), PyData.canLayAll0 (l.map rowP) = true := fun l => by
    induction l with
    | nil => rfl
    | cons f l ih => rw [List.map_cons]; simp only [PyData.canLayAll0, rowP, PyData.canLay0, i1, Bool.true_and]; exact ih
  have c2 : ∀ l : List (List Int), PyData.depthAll (l.map rowP) ≤ 3 := fun l => by
    induction l with
    | nil => simp [PyData.depthAll]
    | cons f l ih =>
      rw [List.map_cons]
      have := i2 f
      simp only [PyData.depthAll, rowP, PyData.depth]
      omega
  have h2 := c2 rows
  have h1 : (PyData.tuple (rows.map rowP)).canLay0 = true := by simp only [PyData.canLay0]; exact c1 rows
  have h3 : (PyData.tuple (rows.map rowP)).depth ≤ 64 := by simp only [PyData.depth]; omega
  unfold SeqAt.shaped
  rw [h1, Bool.true_and]
  exact decide_eq_true h3
theorem eq_rows {a b : List (List Int)} {M : Mem} {B : Bool → Prop} (h : B (decide (a = b))) : eqS (rowsD a) (rowsD b) M B := by
  unfold eqS
  simp only [rowsD, datM, dat, datL_rows]
  refine ⟨sh_rows a, sh_rows b, ?_⟩
  simp only [PyData.eqv, eqv_rows]
  exact h
def FindOk (f : Str × List (List Int)) : Prop := wordOk f.1 = true ∧ rowsOk f.2
def ClaimOk (c : Str × List (List Int) × Int) : Prop := wordOk c.1 = true ∧ rowsOk c.2.1 ∧ 0 ≤ c.2.2 ∧ c.2.2 ≤ 999
def subB (t : Ty) : Bool := t.below fun k => [18, 19].contains k
theorem fnd_name {T : Tb} {M : Mem} {Q : D → Prop} {f : Str × List (List Int)} (ha : T.at_ 18 = (["name", "marks"] : List Str)) (hn : T.nc 18 = true) : fldS T.nc T.at_ (findD f) "name" M Q = Q (.str f.1) := by
  first | (simp [fldS, findD, asI, ha, hn, optS]; done) | (simp [fldS, findD, asI, ha, hn, optS]; exact Iff.rfl)
theorem fnd_marks {T : Tb} {M : Mem} {Q : D → Prop} {f : Str × List (List Int)} (ha : T.at_ 18 = (["name", "marks"] : List Str)) (hn : T.nc 18 = true) : fldS T.nc T.at_ (findD f) "marks" M Q = Q (rowsD f.2) := by
  first | (simp [fldS, findD, asI, ha, hn, optS]; done) | (simp [fldS, findD, asI, ha, hn, optS]; exact Iff.rfl)
theorem clm_name {T : Tb} {M : Mem} {Q : D → Prop} {f : Str × List (List Int) × Int} (ha : T.at_ 19 = (["marks", "name", "day"] : List Str)) (hn : T.nc 19 = true) : fldS T.nc T.at_ (claimD f) "name" M Q = Q (.str f.1) := by
  first | (simp [fldS, claimD, asI, ha, hn, optS]; done) | (simp [fldS, claimD, asI, ha, hn, optS]; exact Iff.rfl)
theorem clm_marks {T : Tb} {M : Mem} {Q : D → Prop} {f : Str × List (List Int) × Int} (ha : T.at_ 19 = (["marks", "name", "day"] : List Str)) (hn : T.nc 19 = true) : fldS T.nc T.at_ (claimD f) "marks" M Q = Q (rowsD f.2.1) := by
  first | (simp [fldS, claimD, asI, ha, hn, optS]; done) | (simp [fldS, claimD, asI, ha, hn, optS]; exact Iff.rfl)
theorem clm_day {T : Tb} {M : Mem} {Q : D → Prop} {f : Str × List (List Int) × Int} (ha : T.at_ 19 = (["marks", "name", "day"] : List Str)) (hn : T.nc 19 = true) : fldS T.nc T.at_ (claimD f) "day" M Q = Q (.int f.2.2) := by
  first | (simp [fldS, claimD, asI, ha, hn, optS]; done) | (simp [fldS, claimD, asI, ha, hn, optS]; exact Iff.rfl)
theorem below_ok {T : Tb} {t : Ty} (h1 : T.nc 18 = true) (h2 : T.nc 19 = true) (hb : subB t = true) : t.below T.nc = true := by
  cases t <;> first | rfl | skip
  rename_i k
  simp only [subB, Ty.below, List.contains_iff_mem, List.mem_cons, List.not_mem_nil, or_false] at hb
  rcases hb with rfl | rfl
  · exact h1
  · exact h2
def sp_Find___eq__ : DSp := fun ds M Q _ => ∃ f d b, ds = [findD f, d] ∧ FindOk f ∧ ((∃ g, d = findD g ∧ FindOk g ∧ b = decide (f = g)) ∨ (∃ t, typ M d = some t ∧ t ≠ .cls 18 ∧ subB t = true ∧ b = false)) ∧ Q (.val (.bl b)) M
theorem ok_Find___eq__ {T : Tb} (ha : T.at_ 18 = (["name", "marks"] : List Str)) (hn : T.nc 18 = true) (hn2 : T.nc 19 = true) : SpOk T N_Find___eq__ ir_Find___eq__ 2 sp_Find___eq__ := by
  rintro ds M Q E hl ⟨f, d, b, rfl, okf, hc, hq⟩
  show wpSs T ir_Find___eq__ _ [some (findD f), some d] M
  unfold ir_Find___eq__
  (rw [wpSs_cons]; simp only [wpSs_nil, wpS, wpE, wpEs, wpEo, wpC, wpT, wpSrc, Rd_val, Rd_new, frz_lst, frz_ins, List.getElem?_cons_zero, List.getElem?_cons_succ, List.set_cons_zero, List.set_cons_succ, kw_nil, bindT, wipeD, List.map_cons, List.map_nil, List.zip_cons_cons, List.zip_nil_right, List.zip_nil_left, List.foldl_cons, List.foldl_nil, o_add, o_adds, o_addt, o_addl, o_sub, o_mul, o_mult, o_mull, o_muls, o_div, o_mod, o_pow, c_lt, c_le, c_gt, c_ge, c_eq, c_ne, c_in, c_ni, c_is, c_isn, e_int, e_str, e_bool, t_bl, t_int, t_lst, t_tup, t_non, f_lent, f_lenl, f_lens, f_lbt, f_lbl, f_lbs, f_inti, f_tupl, f_tupt, f_lstt, f_lstl, f_stri, y_non, y_bl, y_int, y_str, y_tup, y_lst, y_ins, rg_1, rg_2, sq_tup, sq_lst, zp_tup, en_lst, en_tup, aL_lst, sl_t, sl_s, Ty.below, List.any_cons, List.any_nil, subT, Bool.or_false, Bool.not_true, Bool.not_false, true_and, and_true, reduceCtorEq, decide_false, decide_true, Bool.false_eq_true, if_false, if_true, Bool.not_eq_true', Bool.not_not])
  rcases hc with ⟨g, rfl, okg, rfl⟩ | ⟨t, ht, hk, hb, rfl⟩
  · rw [show typ M (findD g) = some (.cls 18) from rfl]
    simp only [wpSs_nil, wpS, wpE, wpEs, wpEo, wpC, wpT, wpSrc, Rd_val, Rd_new, frz_lst, frz_ins, List.getElem?_cons_zero, List.getElem?_cons_succ, List.set_cons_zero, List.set_cons_succ, kw_nil, bindT, wipeD, List.map_cons, List.map_nil, List.zip_cons_cons, List.zip_nil_right, List.zip_nil_left, List.foldl_cons, List.foldl_nil, o_add, o_adds, o_addt, o_addl, o_sub, o_mul, o_mult, o_mull, o_muls, o_div, o_mod, o_pow, c_lt, c_le, c_gt, c_ge, c_eq, c_ne, c_in, c_ni, c_is, c_isn, e_int, e_str, e_bool, t_bl, t_int, t_lst, t_tup, t_non, f_lent, f_lenl, f_lens, f_lbt, f_lbl, f_lbs, f_inti, f_tupl, f_tupt, f_lstt, f_lstl, f_stri, y_non, y_bl, y_int, y_str, y_tup, y_lst, y_ins, rg_1, rg_2, sq_tup, sq_lst, zp_tup, en_lst, en_tup, aL_lst, sl_t, sl_s, Ty.below, List.any_cons, List.any_nil, subT, Bool.or_false, Bool.not_true, Bool.not_false, true_and, and_true, reduceCtorEq, decide_false, decide_true, Bool.false_eq_true, if_false, if_true, Bool.not_eq_true', Bool.not_not]
    refine ⟨hn, ?_⟩
    simp only [fnd_name ha hn, fnd_marks ha hn]
    simp only [wpSs_nil, wpS, wpE, wpEs, wpEo, wpC, wpT, wpSrc, Rd_val, Rd_new, frz_lst, frz_ins, List.getElem?_cons_zero, List.getElem?_cons_succ, List.set_cons_zero, List.set_cons_succ, kw_nil, bindT, wipeD, List.map_cons, List.map_nil, List.zip_cons_cons, List.zip_nil_right, List.zip_nil_left, List.foldl_cons, List.foldl_nil, o_add, o_adds, o_addt, o_addl, o_sub, o_mul, o_mult, o_mull, o_muls, o_div, o_mod, o_pow, c_lt, c_le, c_gt, c_ge, c_eq, c_ne, c_in, c_ni, c_is, c_isn, e_int, e_str, e_bool, t_bl, t_int, t_lst, t_tup, t_non, f_lent, f_lenl, f_lens, f_lbt, f_lbl, f_lbs, f_inti, f_tupl, f_tupt, f_lstt, f_lstl, f_stri, y_non, y_bl, y_int, y_str, y_tup, y_lst, y_ins, rg_1, rg_2, sq_tup, sq_lst, zp_tup, en_lst, en_tup, aL_lst, sl_t, sl_s, Ty.below, List.any_cons, List.any_nil, subT, Bool.or_false, Bool.not_true, Bool.not_false, true_and, and_true, reduceCtorEq, decide_false, decide_true, Bool.false_eq_true, if_false, if_true, Bool.not_eq_true', Bool.not_not]
    refine ⟨str_sh (word_strOk okf.1), str_sh (word_strOk okg.1), ?_⟩
    by_cases e : f.1 = g.1
    · rw [if_pos (by simpa using e)]
      refine eq_rows ?_
      rw [show decide (f.2 = g.2) = decide (f = g) by rw [decide_eq_decide]; exact ⟨fun h => Prod.ext e h, fun h => by rw [h]⟩]
      exact hq
    · rw [if_neg (by simpa using e)]
      rw [show decide (f = g) = false from decide_eq_false fun h => e (by rw [h])] at hq
      exact hq
  · rw [ht]
    refine ⟨below_ok hn hn2 hb, ?_⟩
    rw [if_neg (by simpa using hk)]
    exact hq
def sp_Claim___eq__ : DSp := fun ds M Q _ => ∃ f d b, ds = [claimD f, d] ∧ ClaimOk f ∧ ((∃ g, d = claimD g ∧ ClaimOk g ∧ b = decide (f = g)) ∨ (∃ t, typ M d = some t ∧ t ≠ .cls 19 ∧ subB t = true ∧ b = false)) ∧ Q (.val (.bl b)) M
theorem ok_Claim___eq__ {T : Tb} (ha : T.at_ 19 = (["marks", "name", "day"] : List Str)) (hn : T.nc 19 = true) (hn2 : T.nc 18 = true) : SpOk T N_Claim___eq__ ir_Claim___eq__ 2 sp_Claim___eq__ := by
  rintro ds M Q E hl ⟨f, d, b, rfl, okf, hc, hq⟩
  show wpSs T ir_Claim___eq__ _ [some (claimD f), some d] M
  unfold ir_Claim___eq__
  (rw [wpSs_cons]; simp only [wpSs_nil, wpS, wpE, wpEs, wpEo, wpC, wpT, wpSrc, Rd_val, Rd_new, frz_lst, frz_ins, List.getElem?_cons_zero, List.getElem?_cons_succ, List.set_cons_zero, List.set_cons_succ, kw_nil, bindT, wipeD, List.map_cons, List.map_nil, List.zip_cons_cons, List.zip_nil_right, List.zip_nil_left, List.foldl_cons, List.foldl_nil, o_add, o_adds, o_addt, o_addl, o_sub, o_mul, o_mult, o_mull, o_muls, o_div, o_mod, o_pow, c_lt, c_le, c_gt, c_ge, c_eq, c_ne, c_in, c_ni, c_is, c_isn, e_int, e_str, e_bool, t_bl, t_int, t_lst, t_tup, t_non, f_lent, f_lenl, f_lens, f_lbt, f_lbl, f_lbs, f_inti, f_tupl, f_tupt, f_lstt, f_lstl, f_stri, y_non, y_bl, y_int, y_str, y_tup, y_lst, y_ins, rg_1, rg_2, sq_tup, sq_lst, zp_tup, en_lst, en_tup, aL_lst, sl_t, sl_s, Ty.below, List.any_cons, List.any_nil, subT, Bool.or_false, Bool.not_true, Bool.not_false, true_and, and_true, reduceCtorEq, decide_false, decide_true, Bool.false_eq_true, if_false, if_true, Bool.not_eq_true', Bool.not_not])
  rcases hc with ⟨g, rfl, okg, rfl⟩ | ⟨t, ht, hk, hb, rfl⟩
  · rw [show typ M (claimD g) = some (.cls 19) from rfl]
    simp only [wpSs_nil, wpS, wpE, wpEs, wpEo, wpC, wpT, wpSrc, Rd_val, Rd_new, frz_lst, frz_ins, List.getElem?_cons_zero, List.getElem?_cons_succ, List.set_cons_zero, List.set_cons_succ, kw_nil, bindT, wipeD, List.map_cons, List.map_nil, List.zip_cons_cons, List.zip_nil_right, List.zip_nil_left, List.foldl_cons, List.foldl_nil, o_add, o_adds, o_addt, o_addl, o_sub, o_mul, o_mult, o_mull, o_muls, o_div, o_mod, o_pow, c_lt, c_le, c_gt, c_ge, c_eq, c_ne, c_in, c_ni, c_is, c_isn, e_int, e_str, e_bool, t_bl, t_int, t_lst, t_tup, t_non, f_lent, f_lenl, f_lens, f_lbt, f_lbl, f_lbs, f_inti, f_tupl, f_tupt, f_lstt, f_lstl, f_stri, y_non, y_bl, y_int, y_str, y_tup, y_lst, y_ins, rg_1, rg_2, sq_tup, sq_lst, zp_tup, en_lst, en_tup, aL_lst, sl_t, sl_s, Ty.below, List.any_cons, List.any_nil, subT, Bool.or_false, Bool.not_true, Bool.not_false, true_and, and_true, reduceCtorEq, decide_false, decide_true, Bool.false_eq_true, if_false, if_true, Bool.not_eq_true', Bool.not_not]
    refine ⟨hn, ?_⟩
    (rw [wpSs_cons]; simp only [wpSs_nil, wpS, wpE, wpEs, wpEo, wpC, wpT, wpSrc, Rd_val, Rd_new, frz_lst, frz_ins, List.getElem?_cons_zero, List.getElem?_cons_succ, List.set_cons_zero, List.set_cons_succ, kw_nil, bindT, wipeD, List.map_cons, List.map_nil, List.zip_cons_cons, List.zip_nil_right, List.zip_nil_left, List.foldl_cons, List.foldl_nil, o_add, o_adds, o_addt, o_addl, o_sub, o_mul, o_mult, o_mull, o_muls, o_div, o_mod, o_pow, c_lt, c_le, c_gt, c_ge, c_eq, c_ne, c_in, c_ni, c_is, c_isn, e_int, e_str, e_bool, t_bl, t_int, t_lst, t_tup, t_non, f_lent, f_lenl, f_lens, f_lbt, f_lbl, f_lbs, f_inti, f_tupl, f_tupt, f_lstt, f_lstl, f_stri, y_non, y_bl, y_int, y_str, y_tup, y_lst, y_ins, rg_1, rg_2, sq_tup, sq_lst, zp_tup, en_lst, en_tup, aL_lst, sl_t, sl_s, Ty.below, List.any_cons, List.any_nil, subT, Bool.or_false, Bool.not_true, Bool.not_false, true_and, and_true, reduceCtorEq, decide_false, decide_true, Bool.false_eq_true, if_false, if_true, Bool.not_eq_true', Bool.not_not])
    simp only [clm_name ha hn, clm_marks ha hn, clm_day ha hn]
    simp only [wpSs_nil, wpS, wpE, wpEs, wpEo, wpC, wpT, wpSrc, Rd_val, Rd_new, frz_lst, frz_ins, List.getElem?_cons_zero, List.getElem?_cons_succ, List.set_cons_zero, List.set_cons_succ, kw_nil, bindT, wipeD, List.map_cons, List.map_nil, List.zip_cons_cons, List.zip_nil_right, List.zip_nil_left, List.foldl_cons, List.foldl_nil, o_add, o_adds, o_addt, o_addl, o_sub, o_mul, o_mult, o_mull, o_muls, o_div, o_mod, o_pow, c_lt, c_le, c_gt, c_ge, c_eq, c_ne, c_in, c_ni, c_is, c_isn, e_int, e_str, e_bool, t_bl, t_int, t_lst, t_tup, t_non, f_lent, f_lenl, f_lens, f_lbt, f_lbl, f_lbs, f_inti, f_tupl, f_tupt, f_lstt, f_lstl, f_stri, y_non, y_bl, y_int, y_str, y_tup, y_lst, y_ins, rg_1, rg_2, sq_tup, sq_lst, zp_tup, en_lst, en_tup, aL_lst, sl_t, sl_s, Ty.below, List.any_cons, List.any_nil, subT, Bool.or_false, Bool.not_true, Bool.not_false, true_and, and_true, reduceCtorEq, decide_false, decide_true, Bool.false_eq_true, if_false, if_true, Bool.not_eq_true', Bool.not_not]
    refine ⟨str_sh (word_strOk okf.1), str_sh (word_strOk okg.1), ?_⟩
    by_cases e : f.1 = g.1
    · rw [if_pos (by simpa using e)]
      refine eq_rows ?_
      by_cases e2 : f.2.1 = g.2.1
      · rw [if_pos (by simpa using e2)]
        rw [show decide (f = g) = (f.2.2 == g.2.2) by
          rw [Bool.eq_iff_iff, decide_eq_true_eq, beq_iff_eq]
          exact ⟨fun h => by rw [h], fun h => Prod.ext e (Prod.ext e2 h)⟩] at hq
        exact hq
      · rw [if_neg (by simpa using e2)]
        rw [show decide (f = g) = false from decide_eq_false fun h => e2 (by rw [h])] at hq
        exact hq
    · rw [if_neg (by simpa using e)]
      rw [show decide (f = g) = false from decide_eq_false fun h => e (by rw [h])] at hq
      exact hq
  · rw [ht]
    refine ⟨below_ok hn2 hn hb, ?_⟩
    rw [decide_eq_false hk]
    simp only [wpSs_nil, wpS, wpE, wpEs, wpEo, wpC, wpT, wpSrc, Rd_val, Rd_new, frz_lst, frz_ins, List.getElem?_cons_zero, List.getElem?_cons_succ, List.set_cons_zero, List.set_cons_succ, kw_nil, bindT, wipeD, List.map_cons, List.map_nil, List.zip_cons_cons, List.zip_nil_right, List.zip_nil_left, List.foldl_cons, List.foldl_nil, o_add, o_adds, o_addt, o_addl, o_sub, o_mul, o_mult, o_mull, o_muls, o_div, o_mod, o_pow, c_lt, c_le, c_gt, c_ge, c_eq, c_ne, c_in, c_ni, c_is, c_isn, e_int, e_str, e_bool, t_bl, t_int, t_lst, t_tup, t_non, f_lent, f_lenl, f_lens, f_lbt, f_lbl, f_lbs, f_inti, f_tupl, f_tupt, f_lstt, f_lstl, f_stri, y_non, y_bl, y_int, y_str, y_tup, y_lst, y_ins, rg_1, rg_2, sq_tup, sq_lst, zp_tup, en_lst, en_tup, aL_lst, sl_t, sl_s, Ty.below, List.any_cons, List.any_nil, subT, Bool.or_false, Bool.not_true, Bool.not_false, true_and, and_true, reduceCtorEq, decide_false, decide_true, Bool.false_eq_true, if_false, if_true, Bool.not_eq_true', Bool.not_not]
    (rw [wpSs_cons]; simp only [wpSs_nil, wpS, wpE, wpEs, wpEo, wpC, wpT, wpSrc, Rd_val, Rd_new, frz_lst, frz_ins, List.getElem?_cons_zero, List.getElem?_cons_succ, List.set_cons_zero, List.set_cons_succ, kw_nil, bindT, wipeD, List.map_cons, List.map_nil, List.zip_cons_cons, List.zip_nil_right, List.zip_nil_left, List.foldl_cons, List.foldl_nil, o_add, o_adds, o_addt, o_addl, o_sub, o_mul, o_mult, o_mull, o_muls, o_div, o_mod, o_pow, c_lt, c_le, c_gt, c_ge, c_eq, c_ne, c_in, c_ni, c_is, c_isn, e_int, e_str, e_bool, t_bl, t_int, t_lst, t_tup, t_non, f_lent, f_lenl, f_lens, f_lbt, f_lbl, f_lbs, f_inti, f_tupl, f_tupt, f_lstt, f_lstl, f_stri, y_non, y_bl, y_int, y_str, y_tup, y_lst, y_ins, rg_1, rg_2, sq_tup, sq_lst, zp_tup, en_lst, en_tup, aL_lst, sl_t, sl_s, Ty.below, List.any_cons, List.any_nil, subT, Bool.or_false, Bool.not_true, Bool.not_false, true_and, and_true, reduceCtorEq, decide_false, decide_true, Bool.false_eq_true, if_false, if_true, Bool.not_eq_true', Bool.not_not])
    exact hq
end PL
namespace PL
open PySem PySem.Spec PyProof.Rows L2
theorem hd_thing {T : Tb} (x1 : T.xc 4 = true) (s1 : T.sub 4 4 = true) (f1 : T.xf 4 = (["part"] : List Str)) {hs : List Hd} {DD : DEnds} {ρ : Sd} {M : Mem} {v : D} (hρ : ρ.length = 5) (h : DD.rt (.val (.tup [.str "thing", v])) M) :
    hdS T 4 [v] ({ c := 4, i := (some 4), su := .retT [.con (.str "thing"), .fld "part"] } :: hs) DD ρ M := by
  unfold hdS
  rw [s1, if_pos rfl]
  refine ⟨by simp [x1, hρ], ?_⟩
  show optS (List.lookup ("part" : Str) (List.zip (T.xf 4) [v])) _
  rw [f1]
  exact h
theorem hd_marks {T : Tb} (x4 : T.xc 4 = true) (x1 : T.xc 3 = true) (s0 : T.sub 3 4 = false) (s1 : T.sub 3 3 = true) (f1 : T.xf 3 = (["value"] : List Str)) {hs : List Hd} {DD : DEnds} {ρ : Sd} {M : Mem} {v : D} (hρ : ρ.length = 5) (h : DD.rt (.val (.tup [.str "marks", v])) M) :
    hdS T 3 [v] ({ c := 4, i := (some 4), su := .retT [.con (.str "thing"), .fld "part"] } :: { c := 3, i := (some 4), su := .retT [.con (.str "marks"), .fld "value"] } :: hs) DD ρ M := by
  unfold hdS
  rw [s0, if_neg (by decide)]
  refine ⟨by simp [x4, hρ], ?_⟩
  unfold hdS
  rw [s1, if_pos rfl]
  refine ⟨by simp [x1, hρ], ?_⟩
  show optS (List.lookup ("value" : Str) (List.zip (T.xf 3) [v])) _
  rw [f1]
  exact h
/-- what is due for a wrong call -/
def Wrong (w : Int) (n m y d : D) : Prop :=
  (WordArg n ∧ wordB n = false ∧ d = .tup [.str "thing", .str "name"]) ∨
  (∃ s, n = .str s ∧ wordOk s = true ∧ (∀ M, BadMarks M m) ∧ d = .tup [.str "marks", m]) ∨
  (w = 1 ∧ ∃ s rows, n = .str s ∧ wordOk s = true ∧ m = rowsD rows ∧ rowsOk rows ∧ pureD y = true ∧ inFT y 0 999 = false ∧ d = .tup [.str "thing", .str "day"])
def sp_law_refused : DSp := fun ds M Q _ => ∃ w n m y d, ds = [.int w, n, m, y] ∧ (w = 0 ∨ w = 1) ∧ Wrong w n m y d ∧ ∀ M', Ext M M' → Q (.val d) M'
theorem ok_law_refused {T : Tb} (x4 : T.xc 4 = true) (x3 : T.xc 3 = true) (s44 : T.sub 4 4 = true) (s34 : T.sub 3 4 = false) (s33 : T.sub 3 3 = true) (f4 : T.xf 4 = (["part"] : List Str)) (f3 : T.xf 3 = (["value"] : List Str)) (k18 : T.mak 18 = sp_Find_init) (k19 : T.mak 19 = sp_Claim_init) : SpOk T N_law_refused ir_law_refused 4 sp_law_refused := by
  rintro ds M Q E hl ⟨w, n, m, y, d, rfl, hw, hb, hq⟩
  show wpSs T ir_law_refused _ [some (.int w), some n, some m, some y, none] M
  unfold ir_law_refused
  (rw [wpSs_cons]; simp only [wpSs_nil, wpS, wpE, wpEs, wpEo, wpC, wpT, wpSrc, Rd_val, Rd_new, frz_lst, frz_ins, List.getElem?_cons_zero, List.getElem?_cons_succ, List.set_cons_zero, List.set_cons_succ, kw_nil, bindT, wipeD, List.map_cons, List.map_nil, List.zip_cons_cons, List.zip_nil_right, List.zip_nil_left, List.foldl_cons, List.foldl_nil, o_add, o_adds, o_addt, o_addl, o_sub, o_mul, o_mult, o_mull, o_muls, o_div, o_mod, o_pow, c_lt, c_le, c_gt, c_ge, c_eq, c_ne, c_in, c_ni, c_is, c_isn, e_int, e_str, e_bool, t_bl, t_int, t_lst, t_tup, t_non, f_lent, f_lenl, f_lens, f_lbt, f_lbl, f_lbs, f_inti, f_tupl, f_tupt, f_lstt, f_lstl, f_stri, y_non, y_bl, y_int, y_str, y_tup, y_lst, y_ins, rg_1, rg_2, sq_tup, sq_lst, zp_tup, en_lst, en_tup, aL_lst, sl_t, sl_s, Ty.below, List.any_cons, List.any_nil, subT, Bool.or_false, Bool.not_true, Bool.not_false, true_and, and_true, reduceCtorEq, decide_false, decide_true, Bool.false_eq_true, if_false, if_true, Bool.not_eq_true', Bool.not_not])
  have aw : ∀ {p : Addr} {o : Ob} {M'}, M p = none → Away p (mput M p o) M' → Ext M M' := fun {p o M'} hp h a o' e => by
    have : a ≠ p := fun z => by rw [z, hp] at e; cases e
    exact h a o' this (by rw [mput_ne this]; exact e)
  rcases hw with rfl | rfl
  · (rw [wpSs_cons]; simp only [wpSs_nil, wpS, wpE, wpEs, wpEo, wpC, wpT, wpSrc, Rd_val, Rd_new, frz_lst, frz_ins, List.getElem?_cons_zero, List.getElem?_cons_succ, List.set_cons_zero, List.set_cons_succ, kw_nil, bindT, wipeD, List.map_cons, List.map_nil, List.zip_cons_cons, List.zip_nil_right, List.zip_nil_left, List.foldl_cons, List.foldl_nil, o_add, o_adds, o_addt, o_addl, o_sub, o_mul, o_mult, o_mull, o_muls, o_div, o_mod, o_pow, c_lt, c_le, c_gt, c_ge, c_eq, c_ne, c_in, c_ni, c_is, c_isn, e_int, e_str, e_bool, t_bl, t_int, t_lst, t_tup, t_non, f_lent, f_lenl, f_lens, f_lbt, f_lbl, f_lbs, f_inti, f_tupl, f_tupt, f_lstt, f_lstl, f_stri, y_non, y_bl, y_int, y_str, y_tup, y_lst, y_ins, rg_1, rg_2, sq_tup, sq_lst, zp_tup, en_lst, en_tup, aL_lst, sl_t, sl_s, Ty.below, List.any_cons, List.any_nil, subT, Bool.or_false, Bool.not_true, Bool.not_false, true_and, and_true, reduceCtorEq, decide_false, decide_true, Bool.false_eq_true, if_false, if_true, Bool.not_eq_true', Bool.not_not])
    (rw [wpSs_cons]; simp only [wpSs_nil, wpS, wpE, wpEs, wpEo, wpC, wpT, wpSrc, Rd_val, Rd_new, frz_lst, frz_ins, List.getElem?_cons_zero, List.getElem?_cons_succ, List.set_cons_zero, List.set_cons_succ, kw_nil, bindT, wipeD, List.map_cons, List.map_nil, List.zip_cons_cons, List.zip_nil_right, List.zip_nil_left, List.foldl_cons, List.foldl_nil, o_add, o_adds, o_addt, o_addl, o_sub, o_mul, o_mult, o_mull, o_muls, o_div, o_mod, o_pow, c_lt, c_le, c_gt, c_ge, c_eq, c_ne, c_in, c_ni, c_is, c_isn, e_int, e_str, e_bool, t_bl, t_int, t_lst, t_tup, t_non, f_lent, f_lenl, f_lens, f_lbt, f_lbl, f_lbs, f_inti, f_tupl, f_tupt, f_lstt, f_lstl, f_stri, y_non, y_bl, y_int, y_str, y_tup, y_lst, y_ins, rg_1, rg_2, sq_tup, sq_lst, zp_tup, en_lst, en_tup, aL_lst, sl_t, sl_s, Ty.below, List.any_cons, List.any_nil, subT, Bool.or_false, Bool.not_true, Bool.not_false, true_and, and_true, reduceCtorEq, decide_false, decide_true, Bool.false_eq_true, if_false, if_true, Bool.not_eq_true', Bool.not_not])
    intro p hp
    rw [k18]
    refine ⟨p, n, m, rfl, mput_same, ?_⟩
    rcases hb with ⟨h1, h2, rfl⟩ | ⟨s, rfl, h1, h2, rfl⟩ | ⟨h, _⟩
    · exact .inr (.inl ⟨h1, h2, hd_thing x4 s44 f4 rfl (hq _ (aw hp Away.refl))⟩)
    · exact .inr (.inr ⟨s, rfl, h1, h2, fun M' e => hd_marks x4 x3 s34 s33 f3 rfl (hq _ (aw hp e))⟩)
    · exact absurd h (by decide)
  · (rw [wpSs_cons]; simp only [wpSs_nil, wpS, wpE, wpEs, wpEo, wpC, wpT, wpSrc, Rd_val, Rd_new, frz_lst, frz_ins, List.getElem?_cons_zero, List.getElem?_cons_succ, List.set_cons_zero, List.set_cons_succ, kw_nil, bindT, wipeD, List.map_cons, List.map_nil, List.zip_cons_cons, List.zip_nil_right, List.zip_nil_left, List.foldl_cons, List.foldl_nil, o_add, o_adds, o_addt, o_addl, o_sub, o_mul, o_mult, o_mull, o_muls, o_div, o_mod, o_pow, c_lt, c_le, c_gt, c_ge, c_eq, c_ne, c_in, c_ni, c_is, c_isn, e_int, e_str, e_bool, t_bl, t_int, t_lst, t_tup, t_non, f_lent, f_lenl, f_lens, f_lbt, f_lbl, f_lbs, f_inti, f_tupl, f_tupt, f_lstt, f_lstl, f_stri, y_non, y_bl, y_int, y_str, y_tup, y_lst, y_ins, rg_1, rg_2, sq_tup, sq_lst, zp_tup, en_lst, en_tup, aL_lst, sl_t, sl_s, Ty.below, List.any_cons, List.any_nil, subT, Bool.or_false, Bool.not_true, Bool.not_false, true_and, and_true, reduceCtorEq, decide_false, decide_true, Bool.false_eq_true, if_false, if_true, Bool.not_eq_true', Bool.not_not])
    (rw [wpSs_cons]; simp only [wpSs_nil, wpS, wpE, wpEs, wpEo, wpC, wpT, wpSrc, Rd_val, Rd_new, frz_lst, frz_ins, List.getElem?_cons_zero, List.getElem?_cons_succ, List.set_cons_zero, List.set_cons_succ, kw_nil, bindT, wipeD, List.map_cons, List.map_nil, List.zip_cons_cons, List.zip_nil_right, List.zip_nil_left, List.foldl_cons, List.foldl_nil, o_add, o_adds, o_addt, o_addl, o_sub, o_mul, o_mult, o_mull, o_muls, o_div, o_mod, o_pow, c_lt, c_le, c_gt, c_ge, c_eq, c_ne, c_in, c_ni, c_is, c_isn, e_int, e_str, e_bool, t_bl, t_int, t_lst, t_tup, t_non, f_lent, f_lenl, f_lens, f_lbt, f_lbl, f_lbs, f_inti, f_tupl, f_tupt, f_lstt, f_lstl, f_stri, y_non, y_bl, y_int, y_str, y_tup, y_lst, y_ins, rg_1, rg_2, sq_tup, sq_lst, zp_tup, en_lst, en_tup, aL_lst, sl_t, sl_s, Ty.below, List.any_cons, List.any_nil, subT, Bool.or_false, Bool.not_true, Bool.not_false, true_and, and_true, reduceCtorEq, decide_false, decide_true, Bool.false_eq_true, if_false, if_true, Bool.not_eq_true', Bool.not_not])
    intro p hp
    rw [k19]
    refine ⟨p, n, m, y, by rw [kw_nil]; rfl, mput_same, ?_⟩
    rcases hb with ⟨h1, h2, rfl⟩ | ⟨s, rfl, h1, h2, rfl⟩ | ⟨_, s, rows, rfl, h1, rfl, h2, h3, h4, rfl⟩
    · exact .inr (.inl ⟨h1, h2, hd_thing x4 s44 f4 rfl (hq _ (aw hp Away.refl))⟩)
    · exact .inr (.inr (.inl ⟨s, rfl, h1, h2, fun M' e => hd_marks x4 x3 s34 s33 f3 rfl (hq _ (aw hp e))⟩))
    · exact .inr (.inr (.inr ⟨s, rows, rfl, h1, marks_t h2, h3, h4, fun M' e => hd_thing x4 s44 f4 rfl (hq _ (aw hp e))⟩))
-- bad names
theorem cut_last {w : Str} : (cutS w none (some (-1))).cps.toList = w.cps.toList.take (w.length - 1) := by
  unfold cutS
  have e : HT.sIx w.length w.length (some (-1)) = w.length - 1 := by
    simp only [HT.sIx]
    split <;> omega
  simp only [e, HT.sIx_none]
  simp
theorem cut_from {w : Str} : (cutS w (some 1) none).cps.toList = w.cps.toList.drop 1 := by
  by_cases h : 1 ≤ w.length
  · exact cut_post (a := 1) (by decide) (by omega)
  · unfold cutS
    have e : w.length = 0 := by omega
    have e2 : w.cps.toList = [] := List.eq_nil_of_length_eq_zero (by rw [← len_cps]; exact e)
    rw [e2]
    simp
theorem bad_word {w s : Str} {l : List Nat} {c : Nat} (h : wordOk w = true) (e : s.cps.toList = l ++ [c]) (hl : ∀ x ∈ l, x ∈ w.cps.toList) (hn : l.length ≤ 12) (hc : c ∈ [65, 49, 32, 45, 95]) : WordArg (.str s) ∧ wordB (.str s) = false := by
  simp only [wordOk, Bool.and_eq_true, decide_eq_true_eq, List.all_eq_true] at h
  refine ⟨⟨fun x hx => ?_, ?_⟩, ?_⟩
  · rw [e] at hx
    rcases List.mem_append.mp hx with h' | h'
    · exact .inl (h.2 x (hl x h'))
    · simp at h'
      subst h'
      exact .inr hc
  · rw [len_cps, e, List.length_append]
    simp
    omega
  · simp only [wordB, wordOk]
    rw [show (s.cps.toList.all fun c => decide (97 ≤ c) && decide (c ≤ 122)) = false by
      rw [e, List.all_append]
      have : ([c].all fun c => decide (97 ≤ c) && decide (c ≤ 122)) = false := by
        simp only [List.mem_cons, List.not_mem_nil, or_false] at hc
        rcases hc with rfl | rfl | rfl | rfl | rfl <;> rfl
      rw [this, Bool.and_false], Bool.and_false]
theorem signs_lit {w : Str} (h : (w.cps.toList.all fun c => (decide (97 ≤ c) && decide (c ≤ 122)) || [65, 49, 32, 45, 95].contains c) = true) (hl : w.length ≤ 100000) : WordArg (.str w) := ⟨fun c hc => by
  have := List.all_eq_true.mp h c hc
  simp only [Bool.or_eq_true, Bool.and_eq_true, decide_eq_true_eq, List.contains_iff_mem] at this
  exact this, hl⟩
abbrev long13 : Str := "abcdefghijklm"
theorem long_ok : ∀ c ∈ long13.cps.toList, 97 ≤ c ∧ c ≤ 122 := by decide +kernel
def sp_law_bad_name : DSp := fun ds M Q _ => ∃ (p : Addr) (w : Str), ds = [.ref p, .str w] ∧ wordOk w = true ∧ PoolAt M p ∧ ∀ d M', WordArg d → wordB d = false → Step p M M' → Q (.val d) M'
theorem ok_law_bad_name {T : Tb} (h8 : T.fn 8 = sp_draw) : SpOk T N_law_bad_name ir_law_bad_name 2 sp_law_bad_name := by
  rintro ds M Q E hl ⟨p, w, rfl, hw, hp, hq⟩
  show wpSs T ir_law_bad_name _ [some (.ref p), some (.str w), none] M
  unfold ir_law_bad_name
  have hs : sizeLine = 16777216 := sizeLine_eq
  have hw' := hw
  simp only [wordOk, Bool.and_eq_true, decide_eq_true_eq, List.all_eq_true] at hw'
  have c1 : (cutS w none (some (-1))).length ≤ 12 := by rw [len_cps, cut_last, List.length_take, ← len_cps]; omega
  have c2 : (cutS w (some 1) none).length ≤ 12 := by rw [len_cps, cut_from, List.length_drop, ← len_cps]; omega
  have l13 : ("abcdefghijklm" : Str).length = 13 := rfl
  have l1 : ("A" : Str).length = 1 := rfl
  (rw [wpSs_cons]; simp only [wpSs_nil, wpS, wpE, wpEs, wpEo, wpC, wpT, wpSrc, Rd_val, Rd_new, frz_lst, frz_ins, List.getElem?_cons_zero, List.getElem?_cons_succ, List.set_cons_zero, List.set_cons_succ, kw_nil, bindT, wipeD, List.map_cons, List.map_nil, List.zip_cons_cons, List.zip_nil_right, List.zip_nil_left, List.foldl_cons, List.foldl_nil, o_add, o_adds, o_addt, o_addl, o_sub, o_mul, o_mult, o_mull, o_muls, o_div, o_mod, o_pow, c_lt, c_le, c_gt, c_ge, c_eq, c_ne, c_in, c_ni, c_is, c_isn, e_int, e_str, e_bool, t_bl, t_int, t_lst, t_tup, t_non, f_lent, f_lenl, f_lens, f_lbt, f_lbl, f_lbs, f_inti, f_tupl, f_tupt, f_lstt, f_lstl, f_stri, y_non, y_bl, y_int, y_str, y_tup, y_lst, y_ins, rg_1, rg_2, sq_tup, sq_lst, zp_tup, en_lst, en_tup, aL_lst, sl_t, sl_s, Ty.below, List.any_cons, List.any_nil, subT, Bool.or_false, Bool.not_true, Bool.not_false, true_and, and_true, reduceCtorEq, decide_false, decide_true, Bool.false_eq_true, if_false, if_true, Bool.not_eq_true', Bool.not_not])
  refine ⟨by omega, by omega, by rw [l1]; omega, by omega, by rw [show ("1" : Str).length = 1 from rfl]; omega, by omega, by rw [show (" " : Str).length = 1 from rfl]; omega, by omega, by rw [show ("-" : Str).length = 1 from rfl]; omega, by omega, by rw [show ("_" : Str).length = 1 from rfl]; omega, ?_⟩
  generalize hL : ([D.str "", _, _, _, _, _, _, _, _, _, _, _, _] : List D) = L
  have hL13 : L.length = 13 := by rw [← hL]; rfl
  have pre : ∀ x ∈ (cutS w none (some (-1))).cps.toList, x ∈ w.cps.toList := fun x h => by rw [cut_last] at h; exact List.mem_of_mem_take h
  have pos : ∀ x ∈ (cutS w (some 1) none).cps.toList, x ∈ w.cps.toList := fun x h => by rw [cut_from] at h; exact List.mem_of_mem_drop h
  have q1 : (cutS w none (some (-1))).cps.toList.length ≤ 12 := by rw [← len_cps]; exact c1
  have q2 : (cutS w (some 1) none).cps.toList.length ≤ 12 := by rw [← len_cps]; exact c2
  have hLb : ∀ d ∈ L, WordArg d ∧ wordB d = false := by
    intro d hd
    rw [← hL] at hd
    simp only [List.mem_cons, List.not_mem_nil, or_false] at hd
    rcases hd with rfl | rfl | rfl | rfl | rfl | rfl | rfl | rfl | rfl | rfl | rfl | rfl | rfl
    · exact ⟨signs_lit (by decide +kernel) (by decide +kernel), by decide +kernel⟩
    · have e : (w ++ ("abcdefghijklm" : Str)).cps.toList = w.cps.toList ++ long13.cps.toList := app_cps _ _
      have l : (w ++ ("abcdefghijklm" : Str)).length = w.length + 13 := by rw [len_cps, e, List.length_append, ← len_cps, ← len_cps]; rfl
      refine ⟨⟨fun x hx => ?_, by omega⟩, ?_⟩
      · rw [e] at hx
        rcases List.mem_append.mp hx with h' | h'
        · exact .inl (hw'.2 x h')
        · exact .inl (long_ok x h')
      · simp only [wordB, wordOk]
        rw [show decide ((w ++ ("abcdefghijklm" : Str)).length ≤ 12) = false from decide_eq_false (by omega)]
        simp
    · exact bad_word hw (app_cps _ _) pre q1 (c := 65) (by simp)
    · exact bad_word hw (app_cps _ _) pre q1 (c := 49) (by simp)
    · exact bad_word hw (app_cps _ _) pre q1 (c := 32) (by simp)
    · exact bad_word hw (app_cps _ _) pre q1 (c := 45) (by simp)
    · exact ⟨rfl, rfl⟩
    · exact ⟨rfl, rfl⟩
    · exact ⟨rfl, rfl⟩
    · exact ⟨rfl, rfl⟩
    · exact ⟨rfl, rfl⟩
    · exact bad_word hw (app_cps _ _) pos q2 (c := 95) (by simp)
    · exact ⟨signs_lit (by decide +kernel) (by decide +kernel), by decide +kernel⟩
  clear hL
  have l13 : (L.length : Int) = 13 := by rw [hL13]; rfl
  (rw [wpSs_cons]; simp only [wpSs_nil, wpS, wpE, wpEs, wpEo, wpC, wpT, wpSrc, Rd_val, Rd_new, frz_lst, frz_ins, List.getElem?_cons_zero, List.getElem?_cons_succ, List.set_cons_zero, List.set_cons_succ, kw_nil, bindT, wipeD, List.map_cons, List.map_nil, List.zip_cons_cons, List.zip_nil_right, List.zip_nil_left, List.foldl_cons, List.foldl_nil, o_add, o_adds, o_addt, o_addl, o_sub, o_mul, o_mult, o_mull, o_muls, o_div, o_mod, o_pow, c_lt, c_le, c_gt, c_ge, c_eq, c_ne, c_in, c_ni, c_is, c_isn, e_int, e_str, e_bool, t_bl, t_int, t_lst, t_tup, t_non, f_lent, f_lenl, f_lens, f_lbt, f_lbl, f_lbs, f_inti, f_tupl, f_tupt, f_lstt, f_lstl, f_stri, y_non, y_bl, y_int, y_str, y_tup, y_lst, y_ins, rg_1, rg_2, sq_tup, sq_lst, zp_tup, en_lst, en_tup, aL_lst, sl_t, sl_s, Ty.below, List.any_cons, List.any_nil, subT, Bool.or_false, Bool.not_true, Bool.not_false, true_and, and_true, reduceCtorEq, decide_false, decide_true, Bool.false_eq_true, if_false, if_true, Bool.not_eq_true', Bool.not_not])
  rw [l13, h8]
  refine ⟨p, 13, rfl, by decide, by decide, hp, fun r M1 r0 r1 s1 => ?_⟩
  simp only [wpSs_nil, wpS, wpE, wpEs, wpEo, wpC, wpT, wpSrc, Rd_val, Rd_new, frz_lst, frz_ins, List.getElem?_cons_zero, List.getElem?_cons_succ, List.set_cons_zero, List.set_cons_succ, kw_nil, bindT, wipeD, List.map_cons, List.map_nil, List.zip_cons_cons, List.zip_nil_right, List.zip_nil_left, List.foldl_cons, List.foldl_nil, o_add, o_adds, o_addt, o_addl, o_sub, o_mul, o_mult, o_mull, o_muls, o_div, o_mod, o_pow, c_lt, c_le, c_gt, c_ge, c_eq, c_ne, c_in, c_ni, c_is, c_isn, e_int, e_str, e_bool, t_bl, t_int, t_lst, t_tup, t_non, f_lent, f_lenl, f_lens, f_lbt, f_lbl, f_lbs, f_inti, f_tupl, f_tupt, f_lstt, f_lstl, f_stri, y_non, y_bl, y_int, y_str, y_tup, y_lst, y_ins, rg_1, rg_2, sq_tup, sq_lst, zp_tup, en_lst, en_tup, aL_lst, sl_t, sl_s, Ty.below, List.any_cons, List.any_nil, subT, Bool.or_false, Bool.not_true, Bool.not_false, true_and, and_true, reduceCtorEq, decide_false, decide_true, Bool.false_eq_true, if_false, if_true, Bool.not_eq_true', Bool.not_not]
  obtain ⟨d, hd, e⟩ : ∃ d ∈ L, atI L r = some d := by
    have hi : r.toNat < L.length := by omega
    exact ⟨L[r.toNat], List.getElem_mem hi, at_int r0 (List.getElem?_eq_getElem hi)⟩
  rw [ix_t e]
  obtain ⟨a, b⟩ := hLb d hd
  exact hq d M1 a b s1
def sp_law_bad_day : DSp := fun ds M Q _ => ∃ (p : Addr), ds = [.ref p] ∧ PoolAt M p ∧ ∀ d M', pureD d = true → inFT d 0 999 = false → Step p M M' → Q (.val d) M'
theorem ok_law_bad_day {T : Tb} (h8 : T.fn 8 = sp_draw) : SpOk T N_law_bad_day ir_law_bad_day 1 sp_law_bad_day := by
  rintro ds M Q E hl ⟨p, rfl, hp, hq⟩
  show wpSs T ir_law_bad_day _ [some (.ref p), none] M
  unfold ir_law_bad_day
  (rw [wpSs_cons]; simp only [wpSs_nil, wpS, wpE, wpEs, wpEo, wpC, wpT, wpSrc, Rd_val, Rd_new, frz_lst, frz_ins, List.getElem?_cons_zero, List.getElem?_cons_succ, List.set_cons_zero, List.set_cons_succ, kw_nil, bindT, wipeD, List.map_cons, List.map_nil, List.zip_cons_cons, List.zip_nil_right, List.zip_nil_left, List.foldl_cons, List.foldl_nil, o_add, o_adds, o_addt, o_addl, o_sub, o_mul, o_mult, o_mull, o_muls, o_div, o_mod, o_pow, c_lt, c_le, c_gt, c_ge, c_eq, c_ne, c_in, c_ni, c_is, c_isn, e_int, e_str, e_bool, t_bl, t_int, t_lst, t_tup, t_non, f_lent, f_lenl, f_lens, f_lbt, f_lbl, f_lbs, f_inti, f_tupl, f_tupt, f_lstt, f_lstl, f_stri, y_non, y_bl, y_int, y_str, y_tup, y_lst, y_ins, rg_1, rg_2, sq_tup, sq_lst, zp_tup, en_lst, en_tup, aL_lst, sl_t, sl_s, Ty.below, List.any_cons, List.any_nil, subT, Bool.or_false, Bool.not_true, Bool.not_false, true_and, and_true, reduceCtorEq, decide_false, decide_true, Bool.false_eq_true, if_false, if_true, Bool.not_eq_true', Bool.not_not])
  refine ⟨⟨by decide, by decide, by decide⟩, ?_⟩
  rw [h8]
  refine ⟨p, 9000, rfl, by decide, by decide, hp, fun u M1 u0 u1 s1 => ?_⟩
  simp only [wpSs_nil, wpS, wpE, wpEs, wpEo, wpC, wpT, wpSrc, Rd_val, Rd_new, frz_lst, frz_ins, List.getElem?_cons_zero, List.getElem?_cons_succ, List.set_cons_zero, List.set_cons_succ, kw_nil, bindT, wipeD, List.map_cons, List.map_nil, List.zip_cons_cons, List.zip_nil_right, List.zip_nil_left, List.foldl_cons, List.foldl_nil, o_add, o_adds, o_addt, o_addl, o_sub, o_mul, o_mult, o_mull, o_muls, o_div, o_mod, o_pow, c_lt, c_le, c_gt, c_ge, c_eq, c_ne, c_in, c_ni, c_is, c_isn, e_int, e_str, e_bool, t_bl, t_int, t_lst, t_tup, t_non, f_lent, f_lenl, f_lens, f_lbt, f_lbl, f_lbs, f_inti, f_tupl, f_tupt, f_lstt, f_lstl, f_stri, y_non, y_bl, y_int, y_str, y_tup, y_lst, y_ins, rg_1, rg_2, sq_tup, sq_lst, zp_tup, en_lst, en_tup, aL_lst, sl_t, sl_s, Ty.below, List.any_cons, List.any_nil, subT, Bool.or_false, Bool.not_true, Bool.not_false, true_and, and_true, reduceCtorEq, decide_false, decide_true, Bool.false_eq_true, if_false, if_true, Bool.not_eq_true', Bool.not_not]
  generalize hL : ([D.int (-1), _, _, _, _, _, _, _, _, _] : List D) = L
  have hL10 : L.length = 10 := by rw [← hL]; rfl
  have hLb : ∀ d ∈ L, pureD d = true ∧ inFT d 0 999 = false := by
    intro d hd
    rw [← hL] at hd
    simp only [List.mem_cons, List.not_mem_nil, or_false] at hd
    rcases hd with rfl | rfl | rfl | rfl | rfl | rfl | rfl | rfl | rfl | rfl
    all_goals first
      | exact ⟨rfl, rfl⟩
      | exact ⟨rfl, by decide +kernel⟩
      | exact ⟨rfl, by simp [inFT]; omega⟩
  clear hL
  have l10 : (L.length : Int) = 10 := by rw [hL10]; rfl
  (rw [wpSs_cons]; simp only [wpSs_nil, wpS, wpE, wpEs, wpEo, wpC, wpT, wpSrc, Rd_val, Rd_new, frz_lst, frz_ins, List.getElem?_cons_zero, List.getElem?_cons_succ, List.set_cons_zero, List.set_cons_succ, kw_nil, bindT, wipeD, List.map_cons, List.map_nil, List.zip_cons_cons, List.zip_nil_right, List.zip_nil_left, List.foldl_cons, List.foldl_nil, o_add, o_adds, o_addt, o_addl, o_sub, o_mul, o_mult, o_mull, o_muls, o_div, o_mod, o_pow, c_lt, c_le, c_gt, c_ge, c_eq, c_ne, c_in, c_ni, c_is, c_isn, e_int, e_str, e_bool, t_bl, t_int, t_lst, t_tup, t_non, f_lent, f_lenl, f_lens, f_lbt, f_lbl, f_lbs, f_inti, f_tupl, f_tupt, f_lstt, f_lstl, f_stri, y_non, y_bl, y_int, y_str, y_tup, y_lst, y_ins, rg_1, rg_2, sq_tup, sq_lst, zp_tup, en_lst, en_tup, aL_lst, sl_t, sl_s, Ty.below, List.any_cons, List.any_nil, subT, Bool.or_false, Bool.not_true, Bool.not_false, true_and, and_true, reduceCtorEq, decide_false, decide_true, Bool.false_eq_true, if_false, if_true, Bool.not_eq_true', Bool.not_not])
  rw [l10, h8]
  refine ⟨p, 10, rfl, by decide, by decide, s1.pool, fun r M2 r0 r1 s2 => ?_⟩
  simp only [wpSs_nil, wpS, wpE, wpEs, wpEo, wpC, wpT, wpSrc, Rd_val, Rd_new, frz_lst, frz_ins, List.getElem?_cons_zero, List.getElem?_cons_succ, List.set_cons_zero, List.set_cons_succ, kw_nil, bindT, wipeD, List.map_cons, List.map_nil, List.zip_cons_cons, List.zip_nil_right, List.zip_nil_left, List.foldl_cons, List.foldl_nil, o_add, o_adds, o_addt, o_addl, o_sub, o_mul, o_mult, o_mull, o_muls, o_div, o_mod, o_pow, c_lt, c_le, c_gt, c_ge, c_eq, c_ne, c_in, c_ni, c_is, c_isn, e_int, e_str, e_bool, t_bl, t_int, t_lst, t_tup, t_non, f_lent, f_lenl, f_lens, f_lbt, f_lbl, f_lbs, f_inti, f_tupl, f_tupt, f_lstt, f_lstl, f_stri, y_non, y_bl, y_int, y_str, y_tup, y_lst, y_ins, rg_1, rg_2, sq_tup, sq_lst, zp_tup, en_lst, en_tup, aL_lst, sl_t, sl_s, Ty.below, List.any_cons, List.any_nil, subT, Bool.or_false, Bool.not_true, Bool.not_false, true_and, and_true, reduceCtorEq, decide_false, decide_true, Bool.false_eq_true, if_false, if_true, Bool.not_eq_true', Bool.not_not]
  obtain ⟨d, hd, e⟩ : ∃ d ∈ L, atI L r = some d := by
    have hi : r.toNat < L.length := by omega
    exact ⟨L[r.toNat], List.getElem_mem hi, at_int r0 (List.getElem?_eq_getElem hi)⟩
  rw [ix_t e]
  obtain ⟨a, b⟩ := hLb d hd
  exact hq d M2 a b (s1.trans s2)
end PL
namespace PL
open PySem PySem.Spec PyProof.Rows L2
theorem inFT_low {x : D} {a c b : Int} (h : inFT x a b = true) (hc : c ≤ a) : inFT x c b = true := by
  cases x <;> simp [inFT] at h ⊢
  omega
theorem rises_mem : ∀ {xs : List D} {a b : Int} {x : D}, risesD xs a b = true → x ∈ xs → inFT x a (b - 1) = true
  | [], _, _, _, _, hx => by simp at hx
  | y :: ys, a, b, x, h, hx => by
    simp only [risesD, Bool.and_eq_true] at h
    obtain ⟨h1, h2⟩ := h
    rcases List.mem_cons.mp hx with rfl | hx2
    · exact h1
    · cases y <;> simp at h2
      rename_i i
      have := rises_mem h2 hx2
      simp [inFT] at h1
      exact inFT_low this (by omega)
theorem rises_lt : ∀ {xs : List D} {a b m k : Int}, risesD (xs ++ [.int m]) a b = true → .int k ∈ xs → k < m
  | [], _, _, _, _, _, hx => by simp at hx
  | y :: ys, a, b, m, k, h, hx => by
    rw [List.cons_append] at h
    simp only [risesD, Bool.and_eq_true] at h
    obtain ⟨h1, h2⟩ := h
    cases y <;> simp at h2
    rename_i i
    rcases List.mem_cons.mp hx with e | hx
    · cases e
      have := rises_mem h2 (x := .int m) (by simp)
      simp [inFT] at this
      omega
    · exact rises_lt h2 hx
/-- a spoilt row -/
def BadRow (d : D) : Prop := (∀ M, RowArg M d false) ∧ sokD d = true ∧ depD d ≤ 2
theorem bad_ne {xs : List D} (hp : pureL xs = true) (h : risesD xs 0 8 = false) : ∀ M, RowArg M (.tup xs) false := fun M => .inr ⟨xs, seq_t, hp, by rw [h, Bool.and_false]⟩
theorem bad_nel {xs : List D} (hp : pureL xs = true) (h : risesD xs 0 8 = false) : ∀ M, RowArg M (.lst xs) false := fun M => .inr ⟨xs, seq_l, hp, by rw [h, Bool.and_false]⟩
theorem not_mem {xs : List D} {x : D} (hx : x ∈ xs) (h : inFT x 0 7 = false) : risesD xs 0 8 = false := by
  cases e : risesD xs 0 8 with
  | false => rfl
  | true =>
    have := rises_mem e hx
    rw [show (8 : Int) - 1 = 7 by decide, h] at this
    cases this
theorem pureL_app {xs ys : List D} (h1 : pureL xs = true) (h2 : pureL ys = true) : pureL (xs ++ ys) = true := by
  induction xs with
  | nil => exact h2
  | cons x xs ih =>
    simp only [List.cons_append, pureL, Bool.and_eq_true] at h1 ⊢
    exact ⟨h1.1, ih h1.2⟩
theorem sokL_app {xs ys : List D} (h1 : sokL xs = true) (h2 : sokL ys = true) : sokL (xs ++ ys) = true := by
  induction xs with
  | nil => exact h2
  | cons x xs ih =>
    simp only [List.cons_append, sokL, Bool.and_eq_true] at h1 ⊢
    exact ⟨h1.1, ih h1.2⟩
theorem depL_app {xs ys : List D} {n : Nat} (h1 : depL xs ≤ n) (h2 : depL ys ≤ n) : depL (xs ++ ys) ≤ n := by
  induction xs with
  | nil => exact h2
  | cons x xs ih =>
    simp only [List.cons_append, depL] at h1 ⊢
    have := ih (by omega)
    omega
theorem sok_ints : ∀ l : List Int, sokL (l.map .int) = true := fun l => by induction l with | nil => rfl | cons a l ih => rw [List.map_cons]; simp only [sokL, sokD, Bool.true_and]; exact ih
theorem dep_ints : ∀ l : List Int, depL (l.map .int) = 0 := fun l => by induction l with | nil => rfl | cons a l ih => rw [List.map_cons]; simp only [depL, depD, ih]; omega
theorem str_dig : ∀ i : Fin 8, SeqAt.shaped (.str (toString (i.val : Int))) = true := by decide +kernel
theorem dig_len : ∀ i : Fin 8, (Str.ofString (toString (i.val : Int))).length ≤ 5 := by decide +kernel
theorem cutD_last {xs : List D} : cutD xs none (some (-1)) = xs.take (xs.length - 1) := by
  unfold cutD
  rw [HT.sIx_none]
  have e : HT.sIx xs.length xs.length (some (-1)) = xs.length - 1 := by
    simp only [HT.sIx]
    split <;> omega
  rw [e]
  simp
theorem cutD_post {xs : List D} {i : Nat} (h : i ≤ xs.length) : cutD xs (some (i : Int)) none = xs.drop i := by
  unfold cutD
  rw [HT.sIx_nat, HT.sIx_none]
  rw [show min i xs.length = i by omega]
  exact List.take_of_length_le (by rw [List.length_drop]; omega)
theorem badr_t {xs : List D} (hp : pureL xs = true) (hl : xs.length ≤ 20) (hs : sokL xs = true) (hd : depL xs ≤ 1) (h : risesD xs 0 8 = false) : BadRow (.tup xs) := ⟨bad_ne hp h, by simp only [sokD, hs, Bool.and_true]; exact decide_eq_true (by omega), by simp only [depD]; omega⟩
theorem badr_l {xs : List D} (hp : pureL xs = true) (hl : xs.length ≤ 20) (hs : sokL xs = true) (hd : depL xs ≤ 1) (h : risesD xs 0 8 = false) : BadRow (.lst xs) := ⟨bad_nel hp h, by simp only [sokD, hs, Bool.and_true]; exact decide_eq_true (by omega), by simp only [depD]; omega⟩
theorem badr_n {d : D} (h : NoSeq d) (hs : sokD d = true) (hd : depD d = 0) : BadRow d := ⟨fun _ => .inl ⟨h, rfl⟩, hs, by omega⟩
theorem sok_rows : ∀ l : List (List Int), (∀ r ∈ l, r.length ≤ 8) → sokL (l.map fun r => .tup (r.map .int)) = true := fun l h => by
  induction l with
  | nil => rfl
  | cons a l ih =>
    rw [List.map_cons]
    have := h a List.mem_cons_self
    simp only [sokL, sokD, sok_ints, Bool.and_true, ih fun r hr => h r (List.mem_cons_of_mem _ hr)]
    exact decide_eq_true (by rw [List.length_map]; omega)
theorem dep_rows : ∀ l : List (List Int), depL (l.map fun r => .tup (r.map .int)) ≤ 1 := fun l => by
  induction l with
  | nil => simp [depL]
  | cons a l ih =>
    rw [List.map_cons]
    simp only [depL, depD, dep_ints]
    omega
/-- spoilt marks -/
def BadM (d : D) : Prop := (∀ M, BadMarks M d) ∧ sokD d = true ∧ depD d ≤ 3
theorem badm_n {d : D} (h : NoSeq d) (hs : sokD d = true) (hd : depD d = 0) : BadM d := ⟨fun _ => .inl h, hs, by omega⟩
theorem badm_at {rows : List (List Int)} {i : Nat} {one : D} (ok : rowsOk rows) (hi : i < rows.length) (hb : BadRow one) : BadM (.tup ((rows.map fun r => D.tup (r.map .int)).take i ++ [one] ++ (rows.map fun r => D.tup (r.map .int)).drop (i + 1))) := by
  obtain ⟨n1, n6, hr⟩ := ok
  have lt : ((rows.map fun r => D.tup (r.map .int)).take i).length = i := by rw [List.length_take, List.length_map]; omega
  have ld : ((rows.map fun r => D.tup (r.map .int)).drop (i + 1)).length = rows.length - (i + 1) := by rw [List.length_drop, List.length_map]
  refine ⟨fun M => .inr ⟨_, seq_t, .inr (.inr ⟨i, one, ?_, fun j y hj hy => ?_, hb.1 M⟩)⟩, ?_, ?_⟩
  · rw [List.append_assoc, List.getElem?_append_right (by omega), lt, Nat.sub_self]
    rfl
  · rw [List.append_assoc, List.getElem?_append_left (by omega), List.getElem?_take, if_pos hj, List.getElem?_map] at hy
    cases e : rows[j]? with
    | none => rw [e] at hy; cases hy
    | some r =>
      rw [e] at hy
      cases hy
      obtain ⟨o1, o2, _⟩ := hr r (List.mem_of_getElem? e)
      exact row_arg seq_t o1 o2
  · simp only [sokD, Bool.and_eq_true]
    refine ⟨decide_eq_true (by simp only [List.length_append, List.length_cons, List.length_nil, lt, ld]; omega), ?_⟩
    rw [← List.map_take, ← List.map_drop]
    refine sokL_app (sokL_app (sok_rows _ fun r h => (hr r (List.mem_of_mem_take h)).2.2) ?_) (sok_rows _ fun r h => (hr r (List.mem_of_mem_drop h)).2.2)
    simp only [sokL, hb.2.1, Bool.and_true]
  · simp only [depD]
    rw [← List.map_take, ← List.map_drop]
    have h1 := hb.2.2
    have := depL_app (n := 2) (depL_app (n := 2) (Nat.le_trans (dep_rows (rows.take i)) (by decide)) (show depL [one] ≤ 2 by simp only [depL]; omega)) (Nat.le_trans (dep_rows (rows.drop (i + 1))) (by decide))
    omega
def sp_law_bad_marks : DSp := fun ds M Q _ => ∃ (p : Addr) (rows : List (List Int)), ds = [.ref p, rowsD rows] ∧ rowsOk rows ∧ PoolAt M p ∧ ∀ d M', (∀ M, BadMarks M d) → sokD d = true → depD d ≤ 3 → Step p M M' → Q (.val d) M'
theorem ok_law_bad_marks {T : Tb} (h8 : T.fn 8 = sp_draw) : SpOk T N_law_bad_marks ir_law_bad_marks 2 sp_law_bad_marks := by
  rintro ds M Q E hl ⟨p, rows, rfl, ok, hp, hq⟩
  show wpSs T ir_law_bad_marks _ [some (.ref p), some (.tup (rows.map fun r => .tup (r.map .int))), none, none, none, none, none, none] M
  unfold ir_law_bad_marks
  have hs : sizeLine = 16777216 := sizeLine_eq
  have ok' := ok
  obtain ⟨n1, n6, hr⟩ := ok'
  have lm : (rows.map fun r : List Int => D.tup (r.map D.int)).length = rows.length := List.length_map ..
  (rw [wpSs_cons]; simp only [wpSs_nil, wpS, wpE, wpEs, wpEo, wpC, wpT, wpSrc, Rd_val, Rd_new, frz_lst, frz_ins, List.getElem?_cons_zero, List.getElem?_cons_succ, List.set_cons_zero, List.set_cons_succ, kw_nil, bindT, wipeD, List.map_cons, List.map_nil, List.zip_cons_cons, List.zip_nil_right, List.zip_nil_left, List.foldl_cons, List.foldl_nil, o_add, o_adds, o_addt, o_addl, o_sub, o_mul, o_mult, o_mull, o_muls, o_div, o_mod, o_pow, c_lt, c_le, c_gt, c_ge, c_eq, c_ne, c_in, c_ni, c_is, c_isn, e_int, e_str, e_bool, t_bl, t_int, t_lst, t_tup, t_non, f_lent, f_lenl, f_lens, f_lbt, f_lbl, f_lbs, f_inti, f_tupl, f_tupt, f_lstt, f_lstl, f_stri, y_non, y_bl, y_int, y_str, y_tup, y_lst, y_ins, rg_1, rg_2, sq_tup, sq_lst, zp_tup, en_lst, en_tup, aL_lst, sl_t, sl_s, Ty.below, List.any_cons, List.any_nil, subT, Bool.or_false, Bool.not_true, Bool.not_false, true_and, and_true, reduceCtorEq, decide_false, decide_true, Bool.false_eq_true, if_false, if_true, Bool.not_eq_true', Bool.not_not])
  rw [h8, lm]
  refine ⟨p, _, rfl, by omega, by omega, hp, fun at_ M1 a0 a1 s1 => ?_⟩
  obtain ⟨i, rfl⟩ : ∃ i : Nat, at_ = i := ⟨at_.toNat, by omega⟩
  have hi : i < rows.length := by omega
  have hrow : rows[i]? = some rows[i] := List.getElem?_eq_getElem hi
  generalize rows[i] = row at hrow
  obtain ⟨ris, rne, r8⟩ := hr row (List.mem_of_getElem? hrow)
  simp only [wpSs_nil, wpS, wpE, wpEs, wpEo, wpC, wpT, wpSrc, Rd_val, Rd_new, frz_lst, frz_ins, List.getElem?_cons_zero, List.getElem?_cons_succ, List.set_cons_zero, List.set_cons_succ, kw_nil, bindT, wipeD, List.map_cons, List.map_nil, List.zip_cons_cons, List.zip_nil_right, List.zip_nil_left, List.foldl_cons, List.foldl_nil, o_add, o_adds, o_addt, o_addl, o_sub, o_mul, o_mult, o_mull, o_muls, o_div, o_mod, o_pow, c_lt, c_le, c_gt, c_ge, c_eq, c_ne, c_in, c_ni, c_is, c_isn, e_int, e_str, e_bool, t_bl, t_int, t_lst, t_tup, t_non, f_lent, f_lenl, f_lens, f_lbt, f_lbl, f_lbs, f_inti, f_tupl, f_tupt, f_lstt, f_lstl, f_stri, y_non, y_bl, y_int, y_str, y_tup, y_lst, y_ins, rg_1, rg_2, sq_tup, sq_lst, zp_tup, en_lst, en_tup, aL_lst, sl_t, sl_s, Ty.below, List.any_cons, List.any_nil, subT, Bool.or_false, Bool.not_true, Bool.not_false, true_and, and_true, reduceCtorEq, decide_false, decide_true, Bool.false_eq_true, if_false, if_true, Bool.not_eq_true', Bool.not_not]
  (rw [wpSs_cons]; simp only [wpSs_nil, wpS, wpE, wpEs, wpEo, wpC, wpT, wpSrc, Rd_val, Rd_new, frz_lst, frz_ins, List.getElem?_cons_zero, List.getElem?_cons_succ, List.set_cons_zero, List.set_cons_succ, kw_nil, bindT, wipeD, List.map_cons, List.map_nil, List.zip_cons_cons, List.zip_nil_right, List.zip_nil_left, List.foldl_cons, List.foldl_nil, o_add, o_adds, o_addt, o_addl, o_sub, o_mul, o_mult, o_mull, o_muls, o_div, o_mod, o_pow, c_lt, c_le, c_gt, c_ge, c_eq, c_ne, c_in, c_ni, c_is, c_isn, e_int, e_str, e_bool, t_bl, t_int, t_lst, t_tup, t_non, f_lent, f_lenl, f_lens, f_lbt, f_lbl, f_lbs, f_inti, f_tupl, f_tupt, f_lstt, f_lstl, f_stri, y_non, y_bl, y_int, y_str, y_tup, y_lst, y_ins, rg_1, rg_2, sq_tup, sq_lst, zp_tup, en_lst, en_tup, aL_lst, sl_t, sl_s, Ty.below, List.any_cons, List.any_nil, subT, Bool.or_false, Bool.not_true, Bool.not_false, true_and, and_true, reduceCtorEq, decide_false, decide_true, Bool.false_eq_true, if_false, if_true, Bool.not_eq_true', Bool.not_not])
  rw [ix_t (d := .tup (row.map .int)) (at_nat (by rw [List.getElem?_map, hrow]; rfl))]
  (rw [wpSs_cons]; simp only [wpSs_nil, wpS, wpE, wpEs, wpEo, wpC, wpT, wpSrc, Rd_val, Rd_new, frz_lst, frz_ins, List.getElem?_cons_zero, List.getElem?_cons_succ, List.set_cons_zero, List.set_cons_succ, kw_nil, bindT, wipeD, List.map_cons, List.map_nil, List.zip_cons_cons, List.zip_nil_right, List.zip_nil_left, List.foldl_cons, List.foldl_nil, o_add, o_adds, o_addt, o_addl, o_sub, o_mul, o_mult, o_mull, o_muls, o_div, o_mod, o_pow, c_lt, c_le, c_gt, c_ge, c_eq, c_ne, c_in, c_ni, c_is, c_isn, e_int, e_str, e_bool, t_bl, t_int, t_lst, t_tup, t_non, f_lent, f_lenl, f_lens, f_lbt, f_lbl, f_lbs, f_inti, f_tupl, f_tupt, f_lstt, f_lstl, f_stri, y_non, y_bl, y_int, y_str, y_tup, y_lst, y_ins, rg_1, rg_2, sq_tup, sq_lst, zp_tup, en_lst, en_tup, aL_lst, sl_t, sl_s, Ty.below, List.any_cons, List.any_nil, subT, Bool.or_false, Bool.not_true, Bool.not_false, true_and, and_true, reduceCtorEq, decide_false, decide_true, Bool.false_eq_true, if_false, if_true, Bool.not_eq_true', Bool.not_not])
  obtain ⟨k, hk⟩ : ∃ k, row[row.length - 1]? = some k := by
    have : 0 < row.length := List.length_pos_iff.mpr rne
    exact ⟨_, List.getElem?_eq_getElem (by omega)⟩
  have rp : 0 < row.length := List.length_pos_iff.mpr rne
  have lr : (row.map D.int).length = row.length := List.length_map ..
  rw [ix_t (d := .int k) (by rw [lr, show (row.length : Int) - 1 = ((row.length - 1 : Nat) : Int) by omega]; exact at_nat (by rw [List.getElem?_map, hk]; rfl))]
  (rw [wpSs_cons]; simp only [wpSs_nil, wpS, wpE, wpEs, wpEo, wpC, wpT, wpSrc, Rd_val, Rd_new, frz_lst, frz_ins, List.getElem?_cons_zero, List.getElem?_cons_succ, List.set_cons_zero, List.set_cons_succ, kw_nil, bindT, wipeD, List.map_cons, List.map_nil, List.zip_cons_cons, List.zip_nil_right, List.zip_nil_left, List.foldl_cons, List.foldl_nil, o_add, o_adds, o_addt, o_addl, o_sub, o_mul, o_mult, o_mull, o_muls, o_div, o_mod, o_pow, c_lt, c_le, c_gt, c_ge, c_eq, c_ne, c_in, c_ni, c_is, c_isn, e_int, e_str, e_bool, t_bl, t_int, t_lst, t_tup, t_non, f_lent, f_lenl, f_lens, f_lbt, f_lbl, f_lbs, f_inti, f_tupl, f_tupt, f_lstt, f_lstl, f_stri, y_non, y_bl, y_int, y_str, y_tup, y_lst, y_ins, rg_1, rg_2, sq_tup, sq_lst, zp_tup, en_lst, en_tup, aL_lst, sl_t, sl_s, Ty.below, List.any_cons, List.any_nil, subT, Bool.or_false, Bool.not_true, Bool.not_false, true_and, and_true, reduceCtorEq, decide_false, decide_true, Bool.false_eq_true, if_false, if_true, Bool.not_eq_true', Bool.not_not])
  have kin := rises_mem ris (List.mem_map.mpr ⟨k, List.mem_of_getElem? hk, rfl⟩)
  simp [inFT] at kin
  have cl : cutD (row.map D.int) none (some (-1)) = (row.take (row.length - 1)).map D.int := by rw [cutD_last, lr, List.map_take]
  rw [cl]
  have lp : ((row.take (row.length - 1)).map D.int).length ≤ 8 := by rw [List.length_map, List.length_take]; omega
  simp only [List.length_cons, List.length_nil]
  refine ⟨by omega, by omega, by omega, by omega, by omega, by have := log_small (s := k) (by omega) (by omega); omega, by omega, ⟨by decide, by decide, by decide⟩, by omega, by omega, by omega, ?_⟩
  rw [h8]
  refine ⟨p, 15, rfl, by decide, by decide, s1.pool, fun u M2 u0 u1 s2 => ?_⟩
  simp only [wpSs_nil, wpS, wpE, wpEs, wpEo, wpC, wpT, wpSrc, Rd_val, Rd_new, frz_lst, frz_ins, List.getElem?_cons_zero, List.getElem?_cons_succ, List.set_cons_zero, List.set_cons_succ, kw_nil, bindT, wipeD, List.map_cons, List.map_nil, List.zip_cons_cons, List.zip_nil_right, List.zip_nil_left, List.foldl_cons, List.foldl_nil, o_add, o_adds, o_addt, o_addl, o_sub, o_mul, o_mult, o_mull, o_muls, o_div, o_mod, o_pow, c_lt, c_le, c_gt, c_ge, c_eq, c_ne, c_in, c_ni, c_is, c_isn, e_int, e_str, e_bool, t_bl, t_int, t_lst, t_tup, t_non, f_lent, f_lenl, f_lens, f_lbt, f_lbl, f_lbs, f_inti, f_tupl, f_tupt, f_lstt, f_lstl, f_stri, y_non, y_bl, y_int, y_str, y_tup, y_lst, y_ins, rg_1, rg_2, sq_tup, sq_lst, zp_tup, en_lst, en_tup, aL_lst, sl_t, sl_s, Ty.below, List.any_cons, List.any_nil, subT, Bool.or_false, Bool.not_true, Bool.not_false, true_and, and_true, reduceCtorEq, decide_false, decide_true, Bool.false_eq_true, if_false, if_true, Bool.not_eq_true', Bool.not_not]
  generalize hL : ([D.tup (row.map D.int ++ [.int 8]), _, _, _, _, _, _, _, _, _, _, _, _, _, _] : List D) = L
  have hL15 : L.length = 15 := by rw [← hL]; rfl
  have hLb : ∀ d ∈ L, BadRow d := by
    intro d hd
    rw [← hL] at hd
    clear hL
    have pr := pure_ints row
    have sr := sok_ints row
    have dr := dep_ints row
    have pt := pure_ints (row.take (row.length - 1))
    have sr2 := sok_ints (row.take (row.length - 1))
    have dt := dep_ints (row.take (row.length - 1))
    have km : D.int k ∈ row.map D.int := List.mem_map.mpr ⟨k, List.mem_of_getElem? hk, rfl⟩
    have up : ∀ {m : Int}, m ≤ k → risesD (row.map D.int ++ [.int m]) 0 8 = false := fun {m} h => by
      cases e : risesD (row.map D.int ++ [.int m]) 0 8 with
      | false => rfl
      | true => have := rises_lt e km; omega
    have ln : ∀ {x : D}, (row.map D.int ++ [x]).length ≤ 20 := fun {x} => by rw [List.length_append, lr]; simp; omega
    have ln2 : ∀ {x : D}, ((row.take (row.length - 1)).map D.int ++ [x]).length ≤ 20 := fun {x} => by rw [List.length_append]; simp at lp ⊢; omega
    have da : ∀ {x : D}, depD x = 0 → depL (row.map D.int ++ [x]) ≤ 1 := fun {x} h => depL_app (by omega) (by simp only [depL, h]; omega)
    have da2 : ∀ {x : D}, depD x = 0 → depL ((row.take (row.length - 1)).map D.int ++ [x]) ≤ 1 := fun {x} h => depL_app (by omega) (by simp only [depL, h]; omega)
    simp only [List.mem_cons, List.not_mem_nil, or_false] at hd
    rcases hd with rfl | rfl | rfl | rfl | rfl | rfl | rfl | rfl | rfl | rfl | rfl | rfl | rfl | rfl | rfl
    · exact badr_t (pureL_app pr rfl) ln (sokL_app sr rfl) (da rfl) (not_mem (x := .int 8) (by simp) rfl)
    · exact ⟨fun M => .inr ⟨[], seq_t, rfl, rfl⟩, rfl, by simp [depD, depL]⟩
    · exact badr_t (pureL_app rfl pr) (by rw [List.length_append, lr]; simp; omega) (sokL_app rfl sr) (depL_app (by simp [depL, depD]) (by omega)) (not_mem (x := .int (-1)) (by simp) rfl)
    · exact badr_t (pureL_app pr rfl) ln (sokL_app sr rfl) (da rfl) (up (Int.le_refl _))
    · exact badr_t (pureL_app pr rfl) ln (sokL_app sr rfl) (da rfl) (up kin.1)
    · exact badr_t (pureL_app pt rfl) ln2 (sokL_app sr2 rfl) (da2 rfl) (not_mem (x := .bl true) (by simp) rfl)
    · refine badr_t (pureL_app pt rfl) ln2 (sokL_app sr2 ?_) (da2 rfl) (not_mem (x := .str (Str.ofString (toString k))) (by simp) rfl)
      have := str_dig ⟨k.toNat, by omega⟩
      simp only [Int.toNat_of_nonneg kin.1] at this
      simp only [sokL, sokD, this, Bool.and_true]
    · exact badr_n no_non rfl rfl
    · exact badr_n no_int rfl rfl
    · exact badr_n no_str (by simp only [sokD]; decide +kernel) rfl
    · refine badr_t (by simp only [pureL, pureD, pr, Bool.and_self]) (by simp) ?_ (by simp only [depL, depD, dr]; omega) (not_mem (x := .tup (row.map .int)) (by simp) rfl)
      simp only [sokL, sokD, sr, Bool.and_true]
      exact decide_eq_true (by omega)
    · exact badr_t (pureL_app pt rfl) ln2 (sokL_app sr2 rfl) (da2 rfl) (not_mem (x := .int (10 ^ Int.toNat 28)) (by simp) (by decide +kernel))
    · exact badr_l (pureL_app pr rfl) ln (sokL_app sr rfl) (da rfl) (up (Int.le_refl _))
    · exact badr_t (pureL_app pt rfl) ln2 (sokL_app sr2 rfl) (da2 rfl) (not_mem (x := .int 8) (by simp) rfl)
    · exact badr_l rfl (by simp) rfl (by simp [depL, depD]) (not_mem (x := .non) (by simp) rfl)
  clear hL
  obtain ⟨one, h1, e⟩ : ∃ d ∈ L, atI L u = some d := by
    have hi : u.toNat < L.length := by omega
    exact ⟨L[u.toNat], List.getElem_mem hi, at_int u0 (List.getElem?_eq_getElem hi)⟩
  rw [ix_t e]
  have hone := hLb one h1
  have hbm := badm_at ok hi hone
  (rw [wpSs_cons]; simp only [wpSs_nil, wpS, wpE, wpEs, wpEo, wpC, wpT, wpSrc, Rd_val, Rd_new, frz_lst, frz_ins, List.getElem?_cons_zero, List.getElem?_cons_succ, List.set_cons_zero, List.set_cons_succ, kw_nil, bindT, wipeD, List.map_cons, List.map_nil, List.zip_cons_cons, List.zip_nil_right, List.zip_nil_left, List.foldl_cons, List.foldl_nil, o_add, o_adds, o_addt, o_addl, o_sub, o_mul, o_mult, o_mull, o_muls, o_div, o_mod, o_pow, c_lt, c_le, c_gt, c_ge, c_eq, c_ne, c_in, c_ni, c_is, c_isn, e_int, e_str, e_bool, t_bl, t_int, t_lst, t_tup, t_non, f_lent, f_lenl, f_lens, f_lbt, f_lbl, f_lbs, f_inti, f_tupl, f_tupt, f_lstt, f_lstl, f_stri, y_non, y_bl, y_int, y_str, y_tup, y_lst, y_ins, rg_1, rg_2, sq_tup, sq_lst, zp_tup, en_lst, en_tup, aL_lst, sl_t, sl_s, Ty.below, List.any_cons, List.any_nil, subT, Bool.or_false, Bool.not_true, Bool.not_false, true_and, and_true, reduceCtorEq, decide_false, decide_true, Bool.false_eq_true, if_false, if_true, Bool.not_eq_true', Bool.not_not])
  refine ⟨⟨by decide, by decide⟩, ?_⟩
  have e1 : cutD (rows.map fun r => D.tup (r.map .int)) (some ((i : Int) + 1)) none = (rows.map fun r => D.tup (r.map .int)).drop (i + 1) := cutD_post (i := i + 1) (by omega)
  have t1 : ((rows.map fun r => D.tup (r.map .int)).take i).length ≤ 6 := by rw [List.length_take]; omega
  have t2 : ((rows.map fun r => D.tup (r.map .int)).drop (i + 1)).length ≤ 6 := by rw [List.length_drop]; omega
  generalize hdd : D.tup ((rows.map fun r => D.tup (r.map .int)).take i ++ [one] ++ (rows.map fun r => D.tup (r.map .int)).drop (i + 1)) = dd at hbm
  refine comp_mp (l := List.range 6) (fun i => .int (0 + (i : Nat))) (fun _ => dd) rfl trivial ?_ ?_
  · intro j a acc K ha hK
    rw [← hdd] at hK
    simp only [wpSs_nil, wpS, wpE, wpEs, wpEo, wpC, wpT, wpSrc, Rd_val, Rd_new, frz_lst, frz_ins, List.getElem?_cons_zero, List.getElem?_cons_succ, List.set_cons_zero, List.set_cons_succ, kw_nil, bindT, wipeD, List.map_cons, List.map_nil, List.zip_cons_cons, List.zip_nil_right, List.zip_nil_left, List.foldl_cons, List.foldl_nil, o_add, o_adds, o_addt, o_addl, o_sub, o_mul, o_mult, o_mull, o_muls, o_div, o_mod, o_pow, c_lt, c_le, c_gt, c_ge, c_eq, c_ne, c_in, c_ni, c_is, c_isn, e_int, e_str, e_bool, t_bl, t_int, t_lst, t_tup, t_non, f_lent, f_lenl, f_lens, f_lbt, f_lbl, f_lbs, f_inti, f_tupl, f_tupt, f_lstt, f_lstl, f_stri, y_non, y_bl, y_int, y_str, y_tup, y_lst, y_ins, rg_1, rg_2, sq_tup, sq_lst, zp_tup, en_lst, en_tup, aL_lst, sl_t, sl_s, Ty.below, List.any_cons, List.any_nil, subT, Bool.or_false, Bool.not_true, Bool.not_false, true_and, and_true, reduceCtorEq, decide_false, decide_true, Bool.false_eq_true, if_false, if_true, Bool.not_eq_true', Bool.not_not]
    rw [e1, cutD_pre (by omega)]
    simp only [List.length_append, List.length_cons, List.length_nil]
    exact ⟨by omega, by omega, hK⟩
  rw [show ((List.range 6).map fun _ => dd) = [dd, dd, dd, dd, dd, dd] from rfl]
  simp only [wpSs_nil, wpS, wpE, wpEs, wpEo, wpC, wpT, wpSrc, Rd_val, Rd_new, frz_lst, frz_ins, List.getElem?_cons_zero, List.getElem?_cons_succ, List.set_cons_zero, List.set_cons_succ, kw_nil, bindT, wipeD, List.map_cons, List.map_nil, List.zip_cons_cons, List.zip_nil_right, List.zip_nil_left, List.foldl_cons, List.foldl_nil, o_add, o_adds, o_addt, o_addl, o_sub, o_mul, o_mult, o_mull, o_muls, o_div, o_mod, o_pow, c_lt, c_le, c_gt, c_ge, c_eq, c_ne, c_in, c_ni, c_is, c_isn, e_int, e_str, e_bool, t_bl, t_int, t_lst, t_tup, t_non, f_lent, f_lenl, f_lens, f_lbt, f_lbl, f_lbs, f_inti, f_tupl, f_tupt, f_lstt, f_lstl, f_stri, y_non, y_bl, y_int, y_str, y_tup, y_lst, y_ins, rg_1, rg_2, sq_tup, sq_lst, zp_tup, en_lst, en_tup, aL_lst, sl_t, sl_s, Ty.below, List.any_cons, List.any_nil, subT, Bool.or_false, Bool.not_true, Bool.not_false, true_and, and_true, reduceCtorEq, decide_false, decide_true, Bool.false_eq_true, if_false, if_true, Bool.not_eq_true', Bool.not_not]
  (rw [wpSs_cons]; simp only [wpSs_nil, wpS, wpE, wpEs, wpEo, wpC, wpT, wpSrc, Rd_val, Rd_new, frz_lst, frz_ins, List.getElem?_cons_zero, List.getElem?_cons_succ, List.set_cons_zero, List.set_cons_succ, kw_nil, bindT, wipeD, List.map_cons, List.map_nil, List.zip_cons_cons, List.zip_nil_right, List.zip_nil_left, List.foldl_cons, List.foldl_nil, o_add, o_adds, o_addt, o_addl, o_sub, o_mul, o_mult, o_mull, o_muls, o_div, o_mod, o_pow, c_lt, c_le, c_gt, c_ge, c_eq, c_ne, c_in, c_ni, c_is, c_isn, e_int, e_str, e_bool, t_bl, t_int, t_lst, t_tup, t_non, f_lent, f_lenl, f_lens, f_lbt, f_lbl, f_lbs, f_inti, f_tupl, f_tupt, f_lstt, f_lstl, f_stri, y_non, y_bl, y_int, y_str, y_tup, y_lst, y_ins, rg_1, rg_2, sq_tup, sq_lst, zp_tup, en_lst, en_tup, aL_lst, sl_t, sl_s, Ty.below, List.any_cons, List.any_nil, subT, Bool.or_false, Bool.not_true, Bool.not_false, true_and, and_true, reduceCtorEq, decide_false, decide_true, Bool.false_eq_true, if_false, if_true, Bool.not_eq_true', Bool.not_not])
  rw [ix_t (d := .tup (row.map .int)) (at_nat (by rw [List.getElem?_map, hrow]; rfl))]
  obtain ⟨z, hz⟩ : ∃ z, row[0]? = some z := ⟨_, List.getElem?_eq_getElem rp⟩
  rw [ix_t (i := 0) (d := .int z) (at_int (Int.le_refl 0) (by show (row.map D.int)[0]? = _; rw [List.getElem?_map, hz]; rfl))]
  have e6 : ∀ xs : List D, cutD xs none (some 6) = xs.take 6 := fun xs => by
    unfold cutD
    rw [HT.sIx_none, show HT.sIx xs.length xs.length (some 6) = min 6 xs.length from HT.sIx_nat xs.length xs.length 6]
    simp
  rw [e6]
  have f3 : (List.replicate (Int.toNat 3) [D.tup [.int 0], D.tup [.int 1]]).flatten = [[0], [1], [0], [1], [0], [1]].map fun r : List Int => D.tup (r.map .int) := rfl
  have f7 : (List.replicate (Int.toNat 7) [D.tup [.int 0]]).flatten = [[0], [0], [0], [0], [0], [0], [0]].map fun r : List Int => D.tup (r.map .int) := rfl
  rw [f3, f7, ← List.map_append, ← List.map_take]
  have g6 : ((rows ++ [[0], [1], [0], [1], [0], [1]]).take 6).length = 6 := by rw [List.length_take, List.length_append]; simp
  refine ⟨⟨by simp, by decide, by decide, by simp⟩, by simp; omega, by rw [List.length_map, g6]; simp; omega, ⟨by decide, by decide, by simp⟩, by simp only [List.length_cons, List.length_nil]; omega, ?_⟩
  (rw [wpSs_cons]; simp only [wpSs_nil, wpS, wpE, wpEs, wpEo, wpC, wpT, wpSrc, Rd_val, Rd_new, frz_lst, frz_ins, List.getElem?_cons_zero, List.getElem?_cons_succ, List.set_cons_zero, List.set_cons_succ, kw_nil, bindT, wipeD, List.map_cons, List.map_nil, List.zip_cons_cons, List.zip_nil_right, List.zip_nil_left, List.foldl_cons, List.foldl_nil, o_add, o_adds, o_addt, o_addl, o_sub, o_mul, o_mult, o_mull, o_muls, o_div, o_mod, o_pow, c_lt, c_le, c_gt, c_ge, c_eq, c_ne, c_in, c_ni, c_is, c_isn, e_int, e_str, e_bool, t_bl, t_int, t_lst, t_tup, t_non, f_lent, f_lenl, f_lens, f_lbt, f_lbl, f_lbs, f_inti, f_tupl, f_tupt, f_lstt, f_lstl, f_stri, y_non, y_bl, y_int, y_str, y_tup, y_lst, y_ins, rg_1, rg_2, sq_tup, sq_lst, zp_tup, en_lst, en_tup, aL_lst, sl_t, sl_s, Ty.below, List.any_cons, List.any_nil, subT, Bool.or_false, Bool.not_true, Bool.not_false, true_and, and_true, reduceCtorEq, decide_false, decide_true, Bool.false_eq_true, if_false, if_true, Bool.not_eq_true', Bool.not_not])
  generalize hL2 : ([dd, dd, dd, dd, dd, dd] ++ _ : List D) = L2
  have hL14 : L2.length = 14 := by rw [← hL2]; rfl
  have hLb2 : ∀ d ∈ L2, BadM d := by
    intro d hd
    rw [← hL2] at hd
    clear hL2
    simp only [List.cons_append, List.nil_append, List.mem_cons, List.not_mem_nil, or_false] at hd
    have r8 : ∀ r ∈ (rows ++ [[0], [1], [0], [1], [0], [1]]).take 6, r.length ≤ 8 := fun r h => by
      rcases List.mem_append.mp (List.mem_of_mem_take h) with h | h
      · exact (hr r h).2.2
      · simp at h
        rcases h with rfl | rfl | rfl | rfl | rfl | rfl <;> decide
    rcases hd with rfl | rfl | rfl | rfl | rfl | rfl | rfl | rfl | rfl | rfl | rfl | rfl | rfl | rfl
    · exact hbm
    · exact hbm
    · exact hbm
    · exact hbm
    · exact hbm
    · exact hbm
    · exact ⟨fun M => .inr ⟨[], seq_t, .inl rfl⟩, rfl, by simp [depD, depL]⟩
    · exact ⟨fun M => .inr ⟨[], seq_l, .inl rfl⟩, rfl, by simp [depD, depL]⟩
    · exact badm_n no_non rfl rfl
    · exact badm_n no_int rfl rfl
    · exact badm_n no_str (by simp only [sokD]; decide +kernel) rfl
    · refine ⟨fun M => .inr ⟨_, seq_t, .inr (.inl (by rw [List.length_append, List.length_map, g6]; simp))⟩, ?_, ?_⟩
      · simp only [sokD, Bool.and_eq_true]
        exact ⟨decide_eq_true (by rw [List.length_append, List.length_map, g6]; simp), sokL_app (sok_rows _ r8) rfl⟩
      · simp only [depD]
        have := depL_app (n := 1) (dep_rows ((rows ++ [[0], [1], [0], [1], [0], [1]]).take 6)) (show depL [D.tup [.int 0]] ≤ 1 by simp [depL, depD])
        omega
    · exact ⟨fun M => .inr ⟨_, seq_l, .inr (.inl (by simp))⟩, by decide +kernel, by simp [depD, depL]⟩
    · exact badm_n no_int rfl rfl
  clear hL2
  have l14 : (L2.length : Int) = 14 := by rw [hL14]; rfl
  rw [l14, h8]
  refine ⟨p, 14, rfl, by decide, by decide, s2.pool, fun v M3 v0 v1 s3 => ?_⟩
  simp only [wpSs_nil, wpS, wpE, wpEs, wpEo, wpC, wpT, wpSrc, Rd_val, Rd_new, frz_lst, frz_ins, List.getElem?_cons_zero, List.getElem?_cons_succ, List.set_cons_zero, List.set_cons_succ, kw_nil, bindT, wipeD, List.map_cons, List.map_nil, List.zip_cons_cons, List.zip_nil_right, List.zip_nil_left, List.foldl_cons, List.foldl_nil, o_add, o_adds, o_addt, o_addl, o_sub, o_mul, o_mult, o_mull, o_muls, o_div, o_mod, o_pow, c_lt, c_le, c_gt, c_ge, c_eq, c_ne, c_in, c_ni, c_is, c_isn, e_int, e_str, e_bool, t_bl, t_int, t_lst, t_tup, t_non, f_lent, f_lenl, f_lens, f_lbt, f_lbl, f_lbs, f_inti, f_tupl, f_tupt, f_lstt, f_lstl, f_stri, y_non, y_bl, y_int, y_str, y_tup, y_lst, y_ins, rg_1, rg_2, sq_tup, sq_lst, zp_tup, en_lst, en_tup, aL_lst, sl_t, sl_s, Ty.below, List.any_cons, List.any_nil, subT, Bool.or_false, Bool.not_true, Bool.not_false, true_and, and_true, reduceCtorEq, decide_false, decide_true, Bool.false_eq_true, if_false, if_true, Bool.not_eq_true', Bool.not_not]
  obtain ⟨d, hd, e⟩ : ∃ d ∈ L2, atI L2 v = some d := by
    have hi : v.toNat < L2.length := by omega
    exact ⟨L2[v.toNat], List.getElem_mem hi, at_int v0 (List.getElem?_eq_getElem hi)⟩
  rw [ix_l e]
  obtain ⟨a, b, c⟩ := hLb2 d hd
  exact hq d M3 a b c ((s1.trans s2).trans s3)
end PL
namespace PL
open PySem PySem.Spec PyProof.Rows L2
theorem same_ok {T : Tb} (h9 : T.fn 9 = sp_law_same 6) {d : D} {M : Mem} {Q : QR} {E : EX} (h1 : sokD d = true) (h2 : depD d < 6) (hq : Q (.val (.bl true)) M) : T.fn 9 [d, d] M Q E := by
  rw [h9]; exact ⟨d, rfl, h1, h2, hq⟩
theorem sok_two {a b : Str} (h1 : SeqAt.shaped (.str a) = true) (h2 : SeqAt.shaped (.str b) = true) : sokD (.tup [.str a, .str b]) = true := by
  simp only [sokD, sokL, h1, h2, Bool.and_true]
  exact decide_eq_true (by simp)
def sp_law_wrong_ones : DSp := fun ds M Q _ => ∃ (p : Addr) (w : Str) (rows : List (List Int)) (day : Int), ds = [.ref p, .str w, rowsD rows, .int day] ∧ wordOk w = true ∧ rowsOk rows ∧ 0 ≤ day ∧ day ≤ 999 ∧ PoolAt M p ∧ ∀ M', Step p M M' → Q (.val (.bl true)) M'
theorem ok_law_wrong_ones {T : Tb} (h8 : T.fn 8 = sp_draw) (h9 : T.fn 9 = sp_law_same 6) (h20 : T.fn 20 = sp_law_refused) (h27 : T.fn 27 = sp_law_bad_name) (h28 : T.fn 28 = sp_law_bad_day) (h29 : T.fn 29 = sp_law_bad_marks) : SpOk T N_law_wrong_ones ir_law_wrong_ones 4 sp_law_wrong_ones := by
  rintro ds M Q E hl ⟨p, w, rows, day, rfl, hw, ok, d0, d1, hp, hq⟩
  show wpSs T ir_law_wrong_ones _ [some (.ref p), some (.str w), some (rowsD rows), some (.int day), none] M
  unfold ir_law_wrong_ones
  have st1 : SeqAt.shaped (.str "thing") = true := by decide +kernel
  have st2 : SeqAt.shaped (.str "name") = true := by decide +kernel
  have st3 : SeqAt.shaped (.str "marks") = true := by decide +kernel
  have st4 : SeqAt.shaped (.str "day") = true := by decide +kernel
  have tn : ∀ {M : Mem} {Q : QR} {E : EX}, Q (.val (.bl true)) M → T.fn 9 [.tup [.str "thing", .str "name"], .tup [.str "thing", .str "name"]] M Q E := fun h => same_ok h9 (sok_two st1 st2) (by simp [depD, depL]) h
  have td : ∀ {M : Mem} {Q : QR} {E : EX}, Q (.val (.bl true)) M → T.fn 9 [.tup [.str "thing", .str "day"], .tup [.str "thing", .str "day"]] M Q E := fun h => same_ok h9 (sok_two st1 st4) (by simp [depD, depL]) h
  have tm : ∀ {b : D} {M : Mem} {Q : QR} {E : EX}, sokD b = true → depD b ≤ 3 → Q (.val (.bl true)) M → T.fn 9 [.tup [.str "marks", b], .tup [.str "marks", b]] M Q E := fun {b M Q E} h1 h2 h => same_ok h9 (by
    simp only [sokD, sokL, st3, h1, Bool.and_true]
    exact decide_eq_true (by simp)) (by simp only [depD, depL]; omega) h
  (rw [wpSs_cons]; simp only [wpSs_nil, wpS, wpE, wpEs, wpEo, wpC, wpT, wpSrc, Rd_val, Rd_new, frz_lst, frz_ins, List.getElem?_cons_zero, List.getElem?_cons_succ, List.set_cons_zero, List.set_cons_succ, kw_nil, bindT, wipeD, List.map_cons, List.map_nil, List.zip_cons_cons, List.zip_nil_right, List.zip_nil_left, List.foldl_cons, List.foldl_nil, o_add, o_adds, o_addt, o_addl, o_sub, o_mul, o_mult, o_mull, o_muls, o_div, o_mod, o_pow, c_lt, c_le, c_gt, c_ge, c_eq, c_ne, c_in, c_ni, c_is, c_isn, e_int, e_str, e_bool, t_bl, t_int, t_lst, t_tup, t_non, f_lent, f_lenl, f_lens, f_lbt, f_lbl, f_lbs, f_inti, f_tupl, f_tupt, f_lstt, f_lstl, f_stri, y_non, y_bl, y_int, y_str, y_tup, y_lst, y_ins, rg_1, rg_2, sq_tup, sq_lst, zp_tup, en_lst, en_tup, aL_lst, sl_t, sl_s, Ty.below, List.any_cons, List.any_nil, subT, Bool.or_false, Bool.not_true, Bool.not_false, true_and, and_true, reduceCtorEq, decide_false, decide_true, Bool.false_eq_true, if_false, if_true, Bool.not_eq_true', Bool.not_not])
  rw [h27]
  refine ⟨p, w, rfl, hw, hp, fun bad M1 b1 b2 s1 => ?_⟩
  simp only [wpSs_nil, wpS, wpE, wpEs, wpEo, wpC, wpT, wpSrc, Rd_val, Rd_new, frz_lst, frz_ins, List.getElem?_cons_zero, List.getElem?_cons_succ, List.set_cons_zero, List.set_cons_succ, kw_nil, bindT, wipeD, List.map_cons, List.map_nil, List.zip_cons_cons, List.zip_nil_right, List.zip_nil_left, List.foldl_cons, List.foldl_nil, o_add, o_adds, o_addt, o_addl, o_sub, o_mul, o_mult, o_mull, o_muls, o_div, o_mod, o_pow, c_lt, c_le, c_gt, c_ge, c_eq, c_ne, c_in, c_ni, c_is, c_isn, e_int, e_str, e_bool, t_bl, t_int, t_lst, t_tup, t_non, f_lent, f_lenl, f_lens, f_lbt, f_lbl, f_lbs, f_inti, f_tupl, f_tupt, f_lstt, f_lstl, f_stri, y_non, y_bl, y_int, y_str, y_tup, y_lst, y_ins, rg_1, rg_2, sq_tup, sq_lst, zp_tup, en_lst, en_tup, aL_lst, sl_t, sl_s, Ty.below, List.any_cons, List.any_nil, subT, Bool.or_false, Bool.not_true, Bool.not_false, true_and, and_true, reduceCtorEq, decide_false, decide_true, Bool.false_eq_true, if_false, if_true, Bool.not_eq_true', Bool.not_not]
  (rw [wpSs_cons]; simp only [wpSs_nil, wpS, wpE, wpEs, wpEo, wpC, wpT, wpSrc, Rd_val, Rd_new, frz_lst, frz_ins, List.getElem?_cons_zero, List.getElem?_cons_succ, List.set_cons_zero, List.set_cons_succ, kw_nil, bindT, wipeD, List.map_cons, List.map_nil, List.zip_cons_cons, List.zip_nil_right, List.zip_nil_left, List.foldl_cons, List.foldl_nil, o_add, o_adds, o_addt, o_addl, o_sub, o_mul, o_mult, o_mull, o_muls, o_div, o_mod, o_pow, c_lt, c_le, c_gt, c_ge, c_eq, c_ne, c_in, c_ni, c_is, c_isn, e_int, e_str, e_bool, t_bl, t_int, t_lst, t_tup, t_non, f_lent, f_lenl, f_lens, f_lbt, f_lbl, f_lbs, f_inti, f_tupl, f_tupt, f_lstt, f_lstl, f_stri, y_non, y_bl, y_int, y_str, y_tup, y_lst, y_ins, rg_1, rg_2, sq_tup, sq_lst, zp_tup, en_lst, en_tup, aL_lst, sl_t, sl_s, Ty.below, List.any_cons, List.any_nil, subT, Bool.or_false, Bool.not_true, Bool.not_false, true_and, and_true, reduceCtorEq, decide_false, decide_true, Bool.false_eq_true, if_false, if_true, Bool.not_eq_true', Bool.not_not])
  rw [h8]
  refine ⟨p, 2, rfl, by decide, by decide, s1.pool, fun u M2 u0 u1 s2 => ?_⟩
  simp only [wpSs_nil, wpS, wpE, wpEs, wpEo, wpC, wpT, wpSrc, Rd_val, Rd_new, frz_lst, frz_ins, List.getElem?_cons_zero, List.getElem?_cons_succ, List.set_cons_zero, List.set_cons_succ, kw_nil, bindT, wipeD, List.map_cons, List.map_nil, List.zip_cons_cons, List.zip_nil_right, List.zip_nil_left, List.foldl_cons, List.foldl_nil, o_add, o_adds, o_addt, o_addl, o_sub, o_mul, o_mult, o_mull, o_muls, o_div, o_mod, o_pow, c_lt, c_le, c_gt, c_ge, c_eq, c_ne, c_in, c_ni, c_is, c_isn, e_int, e_str, e_bool, t_bl, t_int, t_lst, t_tup, t_non, f_lent, f_lenl, f_lens, f_lbt, f_lbl, f_lbs, f_inti, f_tupl, f_tupt, f_lstt, f_lstl, f_stri, y_non, y_bl, y_int, y_str, y_tup, y_lst, y_ins, rg_1, rg_2, sq_tup, sq_lst, zp_tup, en_lst, en_tup, aL_lst, sl_t, sl_s, Ty.below, List.any_cons, List.any_nil, subT, Bool.or_false, Bool.not_true, Bool.not_false, true_and, and_true, reduceCtorEq, decide_false, decide_true, Bool.false_eq_true, if_false, if_true, Bool.not_eq_true', Bool.not_not]
  rw [h20]
  refine ⟨u, bad, _, _, _, rfl, by omega, .inl ⟨b1, b2, rfl⟩, fun M3 e3 => ?_⟩
  have s3 := Step.ext s2.pool e3
  simp only [wpSs_nil, wpS, wpE, wpEs, wpEo, wpC, wpT, wpSrc, Rd_val, Rd_new, frz_lst, frz_ins, List.getElem?_cons_zero, List.getElem?_cons_succ, List.set_cons_zero, List.set_cons_succ, kw_nil, bindT, wipeD, List.map_cons, List.map_nil, List.zip_cons_cons, List.zip_nil_right, List.zip_nil_left, List.foldl_cons, List.foldl_nil, o_add, o_adds, o_addt, o_addl, o_sub, o_mul, o_mult, o_mull, o_muls, o_div, o_mod, o_pow, c_lt, c_le, c_gt, c_ge, c_eq, c_ne, c_in, c_ni, c_is, c_isn, e_int, e_str, e_bool, t_bl, t_int, t_lst, t_tup, t_non, f_lent, f_lenl, f_lens, f_lbt, f_lbl, f_lbs, f_inti, f_tupl, f_tupt, f_lstt, f_lstl, f_stri, y_non, y_bl, y_int, y_str, y_tup, y_lst, y_ins, rg_1, rg_2, sq_tup, sq_lst, zp_tup, en_lst, en_tup, aL_lst, sl_t, sl_s, Ty.below, List.any_cons, List.any_nil, subT, Bool.or_false, Bool.not_true, Bool.not_false, true_and, and_true, reduceCtorEq, decide_false, decide_true, Bool.false_eq_true, if_false, if_true, Bool.not_eq_true', Bool.not_not]
  refine tn ?_
  simp only [wpSs_nil, wpS, wpE, wpEs, wpEo, wpC, wpT, wpSrc, Rd_val, Rd_new, frz_lst, frz_ins, List.getElem?_cons_zero, List.getElem?_cons_succ, List.set_cons_zero, List.set_cons_succ, kw_nil, bindT, wipeD, List.map_cons, List.map_nil, List.zip_cons_cons, List.zip_nil_right, List.zip_nil_left, List.foldl_cons, List.foldl_nil, o_add, o_adds, o_addt, o_addl, o_sub, o_mul, o_mult, o_mull, o_muls, o_div, o_mod, o_pow, c_lt, c_le, c_gt, c_ge, c_eq, c_ne, c_in, c_ni, c_is, c_isn, e_int, e_str, e_bool, t_bl, t_int, t_lst, t_tup, t_non, f_lent, f_lenl, f_lens, f_lbt, f_lbl, f_lbs, f_inti, f_tupl, f_tupt, f_lstt, f_lstl, f_stri, y_non, y_bl, y_int, y_str, y_tup, y_lst, y_ins, rg_1, rg_2, sq_tup, sq_lst, zp_tup, en_lst, en_tup, aL_lst, sl_t, sl_s, Ty.below, List.any_cons, List.any_nil, subT, Bool.or_false, Bool.not_true, Bool.not_false, true_and, and_true, reduceCtorEq, decide_false, decide_true, Bool.false_eq_true, if_false, if_true, Bool.not_eq_true', Bool.not_not]
  (rw [wpSs_cons]; simp only [wpSs_nil, wpS, wpE, wpEs, wpEo, wpC, wpT, wpSrc, Rd_val, Rd_new, frz_lst, frz_ins, List.getElem?_cons_zero, List.getElem?_cons_succ, List.set_cons_zero, List.set_cons_succ, kw_nil, bindT, wipeD, List.map_cons, List.map_nil, List.zip_cons_cons, List.zip_nil_right, List.zip_nil_left, List.foldl_cons, List.foldl_nil, o_add, o_adds, o_addt, o_addl, o_sub, o_mul, o_mult, o_mull, o_muls, o_div, o_mod, o_pow, c_lt, c_le, c_gt, c_ge, c_eq, c_ne, c_in, c_ni, c_is, c_isn, e_int, e_str, e_bool, t_bl, t_int, t_lst, t_tup, t_non, f_lent, f_lenl, f_lens, f_lbt, f_lbl, f_lbs, f_inti, f_tupl, f_tupt, f_lstt, f_lstl, f_stri, y_non, y_bl, y_int, y_str, y_tup, y_lst, y_ins, rg_1, rg_2, sq_tup, sq_lst, zp_tup, en_lst, en_tup, aL_lst, sl_t, sl_s, Ty.below, List.any_cons, List.any_nil, subT, Bool.or_false, Bool.not_true, Bool.not_false, true_and, and_true, reduceCtorEq, decide_false, decide_true, Bool.false_eq_true, if_false, if_true, Bool.not_eq_true', Bool.not_not])
  rw [h8]
  refine ⟨p, 2, rfl, by decide, by decide, s3.pool, fun u M4 u0 u1 s4 => ?_⟩
  simp only [wpSs_nil, wpS, wpE, wpEs, wpEo, wpC, wpT, wpSrc, Rd_val, Rd_new, frz_lst, frz_ins, List.getElem?_cons_zero, List.getElem?_cons_succ, List.set_cons_zero, List.set_cons_succ, kw_nil, bindT, wipeD, List.map_cons, List.map_nil, List.zip_cons_cons, List.zip_nil_right, List.zip_nil_left, List.foldl_cons, List.foldl_nil, o_add, o_adds, o_addt, o_addl, o_sub, o_mul, o_mult, o_mull, o_muls, o_div, o_mod, o_pow, c_lt, c_le, c_gt, c_ge, c_eq, c_ne, c_in, c_ni, c_is, c_isn, e_int, e_str, e_bool, t_bl, t_int, t_lst, t_tup, t_non, f_lent, f_lenl, f_lens, f_lbt, f_lbl, f_lbs, f_inti, f_tupl, f_tupt, f_lstt, f_lstl, f_stri, y_non, y_bl, y_int, y_str, y_tup, y_lst, y_ins, rg_1, rg_2, sq_tup, sq_lst, zp_tup, en_lst, en_tup, aL_lst, sl_t, sl_s, Ty.below, List.any_cons, List.any_nil, subT, Bool.or_false, Bool.not_true, Bool.not_false, true_and, and_true, reduceCtorEq, decide_false, decide_true, Bool.false_eq_true, if_false, if_true, Bool.not_eq_true', Bool.not_not]
  rw [h29]
  refine ⟨p, rows, rfl, ok, s4.pool, fun bm M5 m1 m2 m3 s5 => ?_⟩
  simp only [wpSs_nil, wpS, wpE, wpEs, wpEo, wpC, wpT, wpSrc, Rd_val, Rd_new, frz_lst, frz_ins, List.getElem?_cons_zero, List.getElem?_cons_succ, List.set_cons_zero, List.set_cons_succ, kw_nil, bindT, wipeD, List.map_cons, List.map_nil, List.zip_cons_cons, List.zip_nil_right, List.zip_nil_left, List.foldl_cons, List.foldl_nil, o_add, o_adds, o_addt, o_addl, o_sub, o_mul, o_mult, o_mull, o_muls, o_div, o_mod, o_pow, c_lt, c_le, c_gt, c_ge, c_eq, c_ne, c_in, c_ni, c_is, c_isn, e_int, e_str, e_bool, t_bl, t_int, t_lst, t_tup, t_non, f_lent, f_lenl, f_lens, f_lbt, f_lbl, f_lbs, f_inti, f_tupl, f_tupt, f_lstt, f_lstl, f_stri, y_non, y_bl, y_int, y_str, y_tup, y_lst, y_ins, rg_1, rg_2, sq_tup, sq_lst, zp_tup, en_lst, en_tup, aL_lst, sl_t, sl_s, Ty.below, List.any_cons, List.any_nil, subT, Bool.or_false, Bool.not_true, Bool.not_false, true_and, and_true, reduceCtorEq, decide_false, decide_true, Bool.false_eq_true, if_false, if_true, Bool.not_eq_true', Bool.not_not]
  rw [h28]
  refine ⟨p, rfl, s5.pool, fun bd M6 y1 y2 s6 => ?_⟩
  simp only [wpSs_nil, wpS, wpE, wpEs, wpEo, wpC, wpT, wpSrc, Rd_val, Rd_new, frz_lst, frz_ins, List.getElem?_cons_zero, List.getElem?_cons_succ, List.set_cons_zero, List.set_cons_succ, kw_nil, bindT, wipeD, List.map_cons, List.map_nil, List.zip_cons_cons, List.zip_nil_right, List.zip_nil_left, List.foldl_cons, List.foldl_nil, o_add, o_adds, o_addt, o_addl, o_sub, o_mul, o_mult, o_mull, o_muls, o_div, o_mod, o_pow, c_lt, c_le, c_gt, c_ge, c_eq, c_ne, c_in, c_ni, c_is, c_isn, e_int, e_str, e_bool, t_bl, t_int, t_lst, t_tup, t_non, f_lent, f_lenl, f_lens, f_lbt, f_lbl, f_lbs, f_inti, f_tupl, f_tupt, f_lstt, f_lstl, f_stri, y_non, y_bl, y_int, y_str, y_tup, y_lst, y_ins, rg_1, rg_2, sq_tup, sq_lst, zp_tup, en_lst, en_tup, aL_lst, sl_t, sl_s, Ty.below, List.any_cons, List.any_nil, subT, Bool.or_false, Bool.not_true, Bool.not_false, true_and, and_true, reduceCtorEq, decide_false, decide_true, Bool.false_eq_true, if_false, if_true, Bool.not_eq_true', Bool.not_not]
  rw [h20]
  refine ⟨u, bad, _, _, _, rfl, by omega, .inl ⟨b1, b2, rfl⟩, fun M7 e7 => ?_⟩
  have s7 := Step.ext s6.pool e7
  simp only [wpSs_nil, wpS, wpE, wpEs, wpEo, wpC, wpT, wpSrc, Rd_val, Rd_new, frz_lst, frz_ins, List.getElem?_cons_zero, List.getElem?_cons_succ, List.set_cons_zero, List.set_cons_succ, kw_nil, bindT, wipeD, List.map_cons, List.map_nil, List.zip_cons_cons, List.zip_nil_right, List.zip_nil_left, List.foldl_cons, List.foldl_nil, o_add, o_adds, o_addt, o_addl, o_sub, o_mul, o_mult, o_mull, o_muls, o_div, o_mod, o_pow, c_lt, c_le, c_gt, c_ge, c_eq, c_ne, c_in, c_ni, c_is, c_isn, e_int, e_str, e_bool, t_bl, t_int, t_lst, t_tup, t_non, f_lent, f_lenl, f_lens, f_lbt, f_lbl, f_lbs, f_inti, f_tupl, f_tupt, f_lstt, f_lstl, f_stri, y_non, y_bl, y_int, y_str, y_tup, y_lst, y_ins, rg_1, rg_2, sq_tup, sq_lst, zp_tup, en_lst, en_tup, aL_lst, sl_t, sl_s, Ty.below, List.any_cons, List.any_nil, subT, Bool.or_false, Bool.not_true, Bool.not_false, true_and, and_true, reduceCtorEq, decide_false, decide_true, Bool.false_eq_true, if_false, if_true, Bool.not_eq_true', Bool.not_not]
  refine tn ?_
  simp only [wpSs_nil, wpS, wpE, wpEs, wpEo, wpC, wpT, wpSrc, Rd_val, Rd_new, frz_lst, frz_ins, List.getElem?_cons_zero, List.getElem?_cons_succ, List.set_cons_zero, List.set_cons_succ, kw_nil, bindT, wipeD, List.map_cons, List.map_nil, List.zip_cons_cons, List.zip_nil_right, List.zip_nil_left, List.foldl_cons, List.foldl_nil, o_add, o_adds, o_addt, o_addl, o_sub, o_mul, o_mult, o_mull, o_muls, o_div, o_mod, o_pow, c_lt, c_le, c_gt, c_ge, c_eq, c_ne, c_in, c_ni, c_is, c_isn, e_int, e_str, e_bool, t_bl, t_int, t_lst, t_tup, t_non, f_lent, f_lenl, f_lens, f_lbt, f_lbl, f_lbs, f_inti, f_tupl, f_tupt, f_lstt, f_lstl, f_stri, y_non, y_bl, y_int, y_str, y_tup, y_lst, y_ins, rg_1, rg_2, sq_tup, sq_lst, zp_tup, en_lst, en_tup, aL_lst, sl_t, sl_s, Ty.below, List.any_cons, List.any_nil, subT, Bool.or_false, Bool.not_true, Bool.not_false, true_and, and_true, reduceCtorEq, decide_false, decide_true, Bool.false_eq_true, if_false, if_true, Bool.not_eq_true', Bool.not_not]
  (rw [wpSs_cons]; simp only [wpSs_nil, wpS, wpE, wpEs, wpEo, wpC, wpT, wpSrc, Rd_val, Rd_new, frz_lst, frz_ins, List.getElem?_cons_zero, List.getElem?_cons_succ, List.set_cons_zero, List.set_cons_succ, kw_nil, bindT, wipeD, List.map_cons, List.map_nil, List.zip_cons_cons, List.zip_nil_right, List.zip_nil_left, List.foldl_cons, List.foldl_nil, o_add, o_adds, o_addt, o_addl, o_sub, o_mul, o_mult, o_mull, o_muls, o_div, o_mod, o_pow, c_lt, c_le, c_gt, c_ge, c_eq, c_ne, c_in, c_ni, c_is, c_isn, e_int, e_str, e_bool, t_bl, t_int, t_lst, t_tup, t_non, f_lent, f_lenl, f_lens, f_lbt, f_lbl, f_lbs, f_inti, f_tupl, f_tupt, f_lstt, f_lstl, f_stri, y_non, y_bl, y_int, y_str, y_tup, y_lst, y_ins, rg_1, rg_2, sq_tup, sq_lst, zp_tup, en_lst, en_tup, aL_lst, sl_t, sl_s, Ty.below, List.any_cons, List.any_nil, subT, Bool.or_false, Bool.not_true, Bool.not_false, true_and, and_true, reduceCtorEq, decide_false, decide_true, Bool.false_eq_true, if_false, if_true, Bool.not_eq_true', Bool.not_not])
  rw [h29]
  refine ⟨p, rows, rfl, ok, s7.pool, fun bm M8 m1 m2 m3 s8 => ?_⟩
  simp only [wpSs_nil, wpS, wpE, wpEs, wpEo, wpC, wpT, wpSrc, Rd_val, Rd_new, frz_lst, frz_ins, List.getElem?_cons_zero, List.getElem?_cons_succ, List.set_cons_zero, List.set_cons_succ, kw_nil, bindT, wipeD, List.map_cons, List.map_nil, List.zip_cons_cons, List.zip_nil_right, List.zip_nil_left, List.foldl_cons, List.foldl_nil, o_add, o_adds, o_addt, o_addl, o_sub, o_mul, o_mult, o_mull, o_muls, o_div, o_mod, o_pow, c_lt, c_le, c_gt, c_ge, c_eq, c_ne, c_in, c_ni, c_is, c_isn, e_int, e_str, e_bool, t_bl, t_int, t_lst, t_tup, t_non, f_lent, f_lenl, f_lens, f_lbt, f_lbl, f_lbs, f_inti, f_tupl, f_tupt, f_lstt, f_lstl, f_stri, y_non, y_bl, y_int, y_str, y_tup, y_lst, y_ins, rg_1, rg_2, sq_tup, sq_lst, zp_tup, en_lst, en_tup, aL_lst, sl_t, sl_s, Ty.below, List.any_cons, List.any_nil, subT, Bool.or_false, Bool.not_true, Bool.not_false, true_and, and_true, reduceCtorEq, decide_false, decide_true, Bool.false_eq_true, if_false, if_true, Bool.not_eq_true', Bool.not_not]
  (rw [wpSs_cons]; simp only [wpSs_nil, wpS, wpE, wpEs, wpEo, wpC, wpT, wpSrc, Rd_val, Rd_new, frz_lst, frz_ins, List.getElem?_cons_zero, List.getElem?_cons_succ, List.set_cons_zero, List.set_cons_succ, kw_nil, bindT, wipeD, List.map_cons, List.map_nil, List.zip_cons_cons, List.zip_nil_right, List.zip_nil_left, List.foldl_cons, List.foldl_nil, o_add, o_adds, o_addt, o_addl, o_sub, o_mul, o_mult, o_mull, o_muls, o_div, o_mod, o_pow, c_lt, c_le, c_gt, c_ge, c_eq, c_ne, c_in, c_ni, c_is, c_isn, e_int, e_str, e_bool, t_bl, t_int, t_lst, t_tup, t_non, f_lent, f_lenl, f_lens, f_lbt, f_lbl, f_lbs, f_inti, f_tupl, f_tupt, f_lstt, f_lstl, f_stri, y_non, y_bl, y_int, y_str, y_tup, y_lst, y_ins, rg_1, rg_2, sq_tup, sq_lst, zp_tup, en_lst, en_tup, aL_lst, sl_t, sl_s, Ty.below, List.any_cons, List.any_nil, subT, Bool.or_false, Bool.not_true, Bool.not_false, true_and, and_true, reduceCtorEq, decide_false, decide_true, Bool.false_eq_true, if_false, if_true, Bool.not_eq_true', Bool.not_not])
  rw [h20]
  refine ⟨0, _, bm, _, _, rfl, .inl rfl, .inr (.inl ⟨w, rfl, hw, m1, rfl⟩), fun M9 e9 => ?_⟩
  have s9 := Step.ext s8.pool e9
  simp only [wpSs_nil, wpS, wpE, wpEs, wpEo, wpC, wpT, wpSrc, Rd_val, Rd_new, frz_lst, frz_ins, List.getElem?_cons_zero, List.getElem?_cons_succ, List.set_cons_zero, List.set_cons_succ, kw_nil, bindT, wipeD, List.map_cons, List.map_nil, List.zip_cons_cons, List.zip_nil_right, List.zip_nil_left, List.foldl_cons, List.foldl_nil, o_add, o_adds, o_addt, o_addl, o_sub, o_mul, o_mult, o_mull, o_muls, o_div, o_mod, o_pow, c_lt, c_le, c_gt, c_ge, c_eq, c_ne, c_in, c_ni, c_is, c_isn, e_int, e_str, e_bool, t_bl, t_int, t_lst, t_tup, t_non, f_lent, f_lenl, f_lens, f_lbt, f_lbl, f_lbs, f_inti, f_tupl, f_tupt, f_lstt, f_lstl, f_stri, y_non, y_bl, y_int, y_str, y_tup, y_lst, y_ins, rg_1, rg_2, sq_tup, sq_lst, zp_tup, en_lst, en_tup, aL_lst, sl_t, sl_s, Ty.below, List.any_cons, List.any_nil, subT, Bool.or_false, Bool.not_true, Bool.not_false, true_and, and_true, reduceCtorEq, decide_false, decide_true, Bool.false_eq_true, if_false, if_true, Bool.not_eq_true', Bool.not_not]
  refine tm m2 m3 ?_
  simp only [wpSs_nil, wpS, wpE, wpEs, wpEo, wpC, wpT, wpSrc, Rd_val, Rd_new, frz_lst, frz_ins, List.getElem?_cons_zero, List.getElem?_cons_succ, List.set_cons_zero, List.set_cons_succ, kw_nil, bindT, wipeD, List.map_cons, List.map_nil, List.zip_cons_cons, List.zip_nil_right, List.zip_nil_left, List.foldl_cons, List.foldl_nil, o_add, o_adds, o_addt, o_addl, o_sub, o_mul, o_mult, o_mull, o_muls, o_div, o_mod, o_pow, c_lt, c_le, c_gt, c_ge, c_eq, c_ne, c_in, c_ni, c_is, c_isn, e_int, e_str, e_bool, t_bl, t_int, t_lst, t_tup, t_non, f_lent, f_lenl, f_lens, f_lbt, f_lbl, f_lbs, f_inti, f_tupl, f_tupt, f_lstt, f_lstl, f_stri, y_non, y_bl, y_int, y_str, y_tup, y_lst, y_ins, rg_1, rg_2, sq_tup, sq_lst, zp_tup, en_lst, en_tup, aL_lst, sl_t, sl_s, Ty.below, List.any_cons, List.any_nil, subT, Bool.or_false, Bool.not_true, Bool.not_false, true_and, and_true, reduceCtorEq, decide_false, decide_true, Bool.false_eq_true, if_false, if_true, Bool.not_eq_true', Bool.not_not]
  (rw [wpSs_cons]; simp only [wpSs_nil, wpS, wpE, wpEs, wpEo, wpC, wpT, wpSrc, Rd_val, Rd_new, frz_lst, frz_ins, List.getElem?_cons_zero, List.getElem?_cons_succ, List.set_cons_zero, List.set_cons_succ, kw_nil, bindT, wipeD, List.map_cons, List.map_nil, List.zip_cons_cons, List.zip_nil_right, List.zip_nil_left, List.foldl_cons, List.foldl_nil, o_add, o_adds, o_addt, o_addl, o_sub, o_mul, o_mult, o_mull, o_muls, o_div, o_mod, o_pow, c_lt, c_le, c_gt, c_ge, c_eq, c_ne, c_in, c_ni, c_is, c_isn, e_int, e_str, e_bool, t_bl, t_int, t_lst, t_tup, t_non, f_lent, f_lenl, f_lens, f_lbt, f_lbl, f_lbs, f_inti, f_tupl, f_tupt, f_lstt, f_lstl, f_stri, y_non, y_bl, y_int, y_str, y_tup, y_lst, y_ins, rg_1, rg_2, sq_tup, sq_lst, zp_tup, en_lst, en_tup, aL_lst, sl_t, sl_s, Ty.below, List.any_cons, List.any_nil, subT, Bool.or_false, Bool.not_true, Bool.not_false, true_and, and_true, reduceCtorEq, decide_false, decide_true, Bool.false_eq_true, if_false, if_true, Bool.not_eq_true', Bool.not_not])
  rw [h28]
  refine ⟨p, rfl, s9.pool, fun bd M10 y1 y2 s10 => ?_⟩
  simp only [wpSs_nil, wpS, wpE, wpEs, wpEo, wpC, wpT, wpSrc, Rd_val, Rd_new, frz_lst, frz_ins, List.getElem?_cons_zero, List.getElem?_cons_succ, List.set_cons_zero, List.set_cons_succ, kw_nil, bindT, wipeD, List.map_cons, List.map_nil, List.zip_cons_cons, List.zip_nil_right, List.zip_nil_left, List.foldl_cons, List.foldl_nil, o_add, o_adds, o_addt, o_addl, o_sub, o_mul, o_mult, o_mull, o_muls, o_div, o_mod, o_pow, c_lt, c_le, c_gt, c_ge, c_eq, c_ne, c_in, c_ni, c_is, c_isn, e_int, e_str, e_bool, t_bl, t_int, t_lst, t_tup, t_non, f_lent, f_lenl, f_lens, f_lbt, f_lbl, f_lbs, f_inti, f_tupl, f_tupt, f_lstt, f_lstl, f_stri, y_non, y_bl, y_int, y_str, y_tup, y_lst, y_ins, rg_1, rg_2, sq_tup, sq_lst, zp_tup, en_lst, en_tup, aL_lst, sl_t, sl_s, Ty.below, List.any_cons, List.any_nil, subT, Bool.or_false, Bool.not_true, Bool.not_false, true_and, and_true, reduceCtorEq, decide_false, decide_true, Bool.false_eq_true, if_false, if_true, Bool.not_eq_true', Bool.not_not]
  rw [h8]
  refine ⟨p, 2, rfl, by decide, by decide, s10.pool, fun u M11 u0 u1 s11 => ?_⟩
  simp only [wpSs_nil, wpS, wpE, wpEs, wpEo, wpC, wpT, wpSrc, Rd_val, Rd_new, frz_lst, frz_ins, List.getElem?_cons_zero, List.getElem?_cons_succ, List.set_cons_zero, List.set_cons_succ, kw_nil, bindT, wipeD, List.map_cons, List.map_nil, List.zip_cons_cons, List.zip_nil_right, List.zip_nil_left, List.foldl_cons, List.foldl_nil, o_add, o_adds, o_addt, o_addl, o_sub, o_mul, o_mult, o_mull, o_muls, o_div, o_mod, o_pow, c_lt, c_le, c_gt, c_ge, c_eq, c_ne, c_in, c_ni, c_is, c_isn, e_int, e_str, e_bool, t_bl, t_int, t_lst, t_tup, t_non, f_lent, f_lenl, f_lens, f_lbt, f_lbl, f_lbs, f_inti, f_tupl, f_tupt, f_lstt, f_lstl, f_stri, y_non, y_bl, y_int, y_str, y_tup, y_lst, y_ins, rg_1, rg_2, sq_tup, sq_lst, zp_tup, en_lst, en_tup, aL_lst, sl_t, sl_s, Ty.below, List.any_cons, List.any_nil, subT, Bool.or_false, Bool.not_true, Bool.not_false, true_and, and_true, reduceCtorEq, decide_false, decide_true, Bool.false_eq_true, if_false, if_true, Bool.not_eq_true', Bool.not_not]
  obtain ⟨y, e⟩ : ∃ y, atI [D.int day, bd] u = some y := by
    have : u = 0 ∨ u = 1 := by omega
    rcases this with rfl | rfl <;> exact ⟨_, rfl⟩
  rw [ix_t e, h20]
  refine ⟨1, _, bm, _, _, rfl, .inr rfl, .inr (.inl ⟨w, rfl, hw, m1, rfl⟩), fun M12 e12 => ?_⟩
  have s12 := Step.ext s11.pool e12
  simp only [wpSs_nil, wpS, wpE, wpEs, wpEo, wpC, wpT, wpSrc, Rd_val, Rd_new, frz_lst, frz_ins, List.getElem?_cons_zero, List.getElem?_cons_succ, List.set_cons_zero, List.set_cons_succ, kw_nil, bindT, wipeD, List.map_cons, List.map_nil, List.zip_cons_cons, List.zip_nil_right, List.zip_nil_left, List.foldl_cons, List.foldl_nil, o_add, o_adds, o_addt, o_addl, o_sub, o_mul, o_mult, o_mull, o_muls, o_div, o_mod, o_pow, c_lt, c_le, c_gt, c_ge, c_eq, c_ne, c_in, c_ni, c_is, c_isn, e_int, e_str, e_bool, t_bl, t_int, t_lst, t_tup, t_non, f_lent, f_lenl, f_lens, f_lbt, f_lbl, f_lbs, f_inti, f_tupl, f_tupt, f_lstt, f_lstl, f_stri, y_non, y_bl, y_int, y_str, y_tup, y_lst, y_ins, rg_1, rg_2, sq_tup, sq_lst, zp_tup, en_lst, en_tup, aL_lst, sl_t, sl_s, Ty.below, List.any_cons, List.any_nil, subT, Bool.or_false, Bool.not_true, Bool.not_false, true_and, and_true, reduceCtorEq, decide_false, decide_true, Bool.false_eq_true, if_false, if_true, Bool.not_eq_true', Bool.not_not]
  refine tm m2 m3 ?_
  simp only [wpSs_nil, wpS, wpE, wpEs, wpEo, wpC, wpT, wpSrc, Rd_val, Rd_new, frz_lst, frz_ins, List.getElem?_cons_zero, List.getElem?_cons_succ, List.set_cons_zero, List.set_cons_succ, kw_nil, bindT, wipeD, List.map_cons, List.map_nil, List.zip_cons_cons, List.zip_nil_right, List.zip_nil_left, List.foldl_cons, List.foldl_nil, o_add, o_adds, o_addt, o_addl, o_sub, o_mul, o_mult, o_mull, o_muls, o_div, o_mod, o_pow, c_lt, c_le, c_gt, c_ge, c_eq, c_ne, c_in, c_ni, c_is, c_isn, e_int, e_str, e_bool, t_bl, t_int, t_lst, t_tup, t_non, f_lent, f_lenl, f_lens, f_lbt, f_lbl, f_lbs, f_inti, f_tupl, f_tupt, f_lstt, f_lstl, f_stri, y_non, y_bl, y_int, y_str, y_tup, y_lst, y_ins, rg_1, rg_2, sq_tup, sq_lst, zp_tup, en_lst, en_tup, aL_lst, sl_t, sl_s, Ty.below, List.any_cons, List.any_nil, subT, Bool.or_false, Bool.not_true, Bool.not_false, true_and, and_true, reduceCtorEq, decide_false, decide_true, Bool.false_eq_true, if_false, if_true, Bool.not_eq_true', Bool.not_not]
  (rw [wpSs_cons]; simp only [wpSs_nil, wpS, wpE, wpEs, wpEo, wpC, wpT, wpSrc, Rd_val, Rd_new, frz_lst, frz_ins, List.getElem?_cons_zero, List.getElem?_cons_succ, List.set_cons_zero, List.set_cons_succ, kw_nil, bindT, wipeD, List.map_cons, List.map_nil, List.zip_cons_cons, List.zip_nil_right, List.zip_nil_left, List.foldl_cons, List.foldl_nil, o_add, o_adds, o_addt, o_addl, o_sub, o_mul, o_mult, o_mull, o_muls, o_div, o_mod, o_pow, c_lt, c_le, c_gt, c_ge, c_eq, c_ne, c_in, c_ni, c_is, c_isn, e_int, e_str, e_bool, t_bl, t_int, t_lst, t_tup, t_non, f_lent, f_lenl, f_lens, f_lbt, f_lbl, f_lbs, f_inti, f_tupl, f_tupt, f_lstt, f_lstl, f_stri, y_non, y_bl, y_int, y_str, y_tup, y_lst, y_ins, rg_1, rg_2, sq_tup, sq_lst, zp_tup, en_lst, en_tup, aL_lst, sl_t, sl_s, Ty.below, List.any_cons, List.any_nil, subT, Bool.or_false, Bool.not_true, Bool.not_false, true_and, and_true, reduceCtorEq, decide_false, decide_true, Bool.false_eq_true, if_false, if_true, Bool.not_eq_true', Bool.not_not])
  rw [h28]
  refine ⟨p, rfl, s12.pool, fun bd M13 y1 y2 s13 => ?_⟩
  simp only [wpSs_nil, wpS, wpE, wpEs, wpEo, wpC, wpT, wpSrc, Rd_val, Rd_new, frz_lst, frz_ins, List.getElem?_cons_zero, List.getElem?_cons_succ, List.set_cons_zero, List.set_cons_succ, kw_nil, bindT, wipeD, List.map_cons, List.map_nil, List.zip_cons_cons, List.zip_nil_right, List.zip_nil_left, List.foldl_cons, List.foldl_nil, o_add, o_adds, o_addt, o_addl, o_sub, o_mul, o_mult, o_mull, o_muls, o_div, o_mod, o_pow, c_lt, c_le, c_gt, c_ge, c_eq, c_ne, c_in, c_ni, c_is, c_isn, e_int, e_str, e_bool, t_bl, t_int, t_lst, t_tup, t_non, f_lent, f_lenl, f_lens, f_lbt, f_lbl, f_lbs, f_inti, f_tupl, f_tupt, f_lstt, f_lstl, f_stri, y_non, y_bl, y_int, y_str, y_tup, y_lst, y_ins, rg_1, rg_2, sq_tup, sq_lst, zp_tup, en_lst, en_tup, aL_lst, sl_t, sl_s, Ty.below, List.any_cons, List.any_nil, subT, Bool.or_false, Bool.not_true, Bool.not_false, true_and, and_true, reduceCtorEq, decide_false, decide_true, Bool.false_eq_true, if_false, if_true, Bool.not_eq_true', Bool.not_not]
  rw [h20]
  refine ⟨1, _, _, bd, _, rfl, .inr rfl, .inr (.inr ⟨rfl, w, rows, rfl, hw, rfl, ok, y1, y2, rfl⟩), fun M14 e14 => ?_⟩
  have s14 := Step.ext s13.pool e14
  simp only [wpSs_nil, wpS, wpE, wpEs, wpEo, wpC, wpT, wpSrc, Rd_val, Rd_new, frz_lst, frz_ins, List.getElem?_cons_zero, List.getElem?_cons_succ, List.set_cons_zero, List.set_cons_succ, kw_nil, bindT, wipeD, List.map_cons, List.map_nil, List.zip_cons_cons, List.zip_nil_right, List.zip_nil_left, List.foldl_cons, List.foldl_nil, o_add, o_adds, o_addt, o_addl, o_sub, o_mul, o_mult, o_mull, o_muls, o_div, o_mod, o_pow, c_lt, c_le, c_gt, c_ge, c_eq, c_ne, c_in, c_ni, c_is, c_isn, e_int, e_str, e_bool, t_bl, t_int, t_lst, t_tup, t_non, f_lent, f_lenl, f_lens, f_lbt, f_lbl, f_lbs, f_inti, f_tupl, f_tupt, f_lstt, f_lstl, f_stri, y_non, y_bl, y_int, y_str, y_tup, y_lst, y_ins, rg_1, rg_2, sq_tup, sq_lst, zp_tup, en_lst, en_tup, aL_lst, sl_t, sl_s, Ty.below, List.any_cons, List.any_nil, subT, Bool.or_false, Bool.not_true, Bool.not_false, true_and, and_true, reduceCtorEq, decide_false, decide_true, Bool.false_eq_true, if_false, if_true, Bool.not_eq_true', Bool.not_not]
  refine td ?_
  exact hq _ ((((((((((((s1.trans s2).trans s3).trans s4).trans s5).trans s6).trans s7).trans s8).trans s9).trans s10).trans s11).trans s12).trans (s13.trans s14))
end PL
namespace PL
open PySem PySem.Spec PyProof.Rows L2
theorem mk_find {f : Str × List (List Int)} {m : D} {M : Mem} {k : Addr} {Q : QR} {E : EX} (ok : FindOk f) (hm : MarksS M m f.2) (hk : M k = none) (hq : ∀ M', M' k = some (.ins 18 ["name", "marks"] [.str f.1, rowsD f.2]) → Ext M (mdel M' k) → Q (.val .non) M') : sp_Find_init [.ref k, .str f.1, m] (mput M k (.ins 18 [] [])) Q E := by
  have e0 : Ext M (mput M k (.ins 18 [] [])) := fun a o e => by rw [mput_ne fun z => by rw [z, hk] at e; cases e]; exact e
  refine ⟨k, _, m, rfl, mput_same, .inl ⟨f.1, f.2, rfl, ok.1, ?_, fun M' h a => hq M' h (Ext.made hk a)⟩⟩
  obtain ⟨ho, xs, hS, hl, hr⟩ := hm
  exact ⟨ho, xs, hS.ext e0, hl, fun i x r h1 h2 => (hr i x r h1 h2).ext e0⟩
theorem mk_claim {f : Str × List (List Int) × Int} {m : D} {M : Mem} {k : Addr} {Q : QR} {E : EX} (ok : ClaimOk f) (hm : MarksS M m f.2.1) (hk : M k = none) (hq : ∀ M', M' k = some (.ins 19 ["marks", "name", "day"] [rowsD f.2.1, .str f.1, .int f.2.2]) → Ext M (mdel M' k) → Q (.val .non) M') : sp_Claim_init [.ref k, .str f.1, m, .int f.2.2] (mput M k (.ins 19 [] [])) Q E := by
  have e0 : Ext M (mput M k (.ins 19 [] [])) := fun a o e => by rw [mput_ne fun z => by rw [z, hk] at e; cases e]; exact e
  refine ⟨k, _, m, _, rfl, mput_same, .inl ⟨f.1, f.2.1, f.2.2, rfl, ok.1, ?_, rfl, ok.2.2.1, ok.2.2.2, fun M' h a => hq M' h (Ext.made hk a)⟩⟩
  obtain ⟨ho, xs, hS, hl, hr⟩ := hm
  exact ⟨ho, xs, hS.ext e0, hl, fun i x r h1 h2 => (hr i x r h1 h2).ext e0⟩
structure Own (T : Tb) : Prop where
  m13 : T.mt 13 = sp_Find___eq__
  m14 : T.mt 14 = sp_Claim___eq__
  c13 : T.mc 13 = 18
  c14 : T.mc 14 = 19
  a18 : T.at_ 18 = (["name", "marks"] : List Str)
  a19 : T.at_ 19 = (["marks", "name", "day"] : List Str)
  n18 : T.nc 18 = true
  n19 : T.nc 19 = true
section
variable {T : Tb} {neg : Bool} {M : Mem} {Q : QR}
theorem own_ff (o : Own T) {f g : Str × List (List Int)} (h1 : FindOk f) (h2 : FindOk g) (hq : Q (.val (.bl (decide (f = g) != neg))) M) : kOwn T neg 13 (.ins 18 ["name", "marks"] [.str f.1, rowsD f.2]) (.ins 18 ["name", "marks"] [.str g.1, rowsD g.2]) M Q := by
  show (Ty.cls 18).below T.nc = true ∧ _
  refine ⟨o.n18, ?_⟩
  unfold methS
  rw [o.c13, o.a18, o.m13]
  exact ⟨⟨rfl, rfl⟩, f, _, _, rfl, h1, .inl ⟨g, rfl, h2, rfl⟩, hq⟩
theorem own_f (o : Own T) {f : Str × List (List Int)} {d : D} {t : Ty} (h1 : FindOk f) (ht : typ M d = some t) (h2 : t ≠ .cls 18) (hb : subB t = true) (hq : Q (.val (.bl (false != neg))) M) : kOwn T neg 13 (.ins 18 ["name", "marks"] [.str f.1, rowsD f.2]) d M Q := by
  unfold kOwn
  rw [ht]
  refine ⟨below_ok o.n18 o.n19 hb, ?_⟩
  unfold methS
  rw [o.c13, o.a18, o.m13]
  exact ⟨⟨rfl, rfl⟩, f, _, _, rfl, h1, .inr ⟨t, ht, h2, hb, rfl⟩, hq⟩
theorem own_cc (o : Own T) {f g : Str × List (List Int) × Int} (h1 : ClaimOk f) (h2 : ClaimOk g) (hq : Q (.val (.bl (decide (f = g) != neg))) M) : kOwn T neg 14 (.ins 19 ["marks", "name", "day"] [rowsD f.2.1, .str f.1, .int f.2.2]) (.ins 19 ["marks", "name", "day"] [rowsD g.2.1, .str g.1, .int g.2.2]) M Q := by
  show (Ty.cls 19).below T.nc = true ∧ _
  refine ⟨o.n19, ?_⟩
  unfold methS
  rw [o.c14, o.a19, o.m14]
  exact ⟨⟨rfl, rfl⟩, f, _, _, rfl, h1, .inl ⟨g, rfl, h2, rfl⟩, hq⟩
theorem own_c (o : Own T) {f : Str × List (List Int) × Int} {d : D} {t : Ty} (h1 : ClaimOk f) (ht : typ M d = some t) (h2 : t ≠ .cls 19) (hb : subB t = true) (hq : Q (.val (.bl (false != neg))) M) : kOwn T neg 14 (.ins 19 ["marks", "name", "day"] [rowsD f.2.1, .str f.1, .int f.2.2]) d M Q := by
  unfold kOwn
  rw [ht]
  refine ⟨below_ok o.n18 o.n19 hb, ?_⟩
  unfold methS
  rw [o.c14, o.a19, o.m14]
  exact ⟨⟨rfl, rfl⟩, f, _, _, rfl, h1, .inr ⟨t, ht, h2, hb, rfl⟩, hq⟩
end
theorem set_td {α : Type} {l : List α} {i : Nat} {a : α} (h : i < l.length) : l.take i ++ [a] ++ l.drop (i + 1) = l.set i a := by
  rw [List.set_eq_take_append_cons_drop, if_pos h, List.append_assoc]
  rfl
theorem near_rows {rows : List (List Int)} {i : Nat} {row : List Int} {x : Int} (ok : rowsOk rows) (hr : rows[i]? = some row) (x0 : 0 ≤ x) (x7 : x ≤ 7) (ne : [x] ≠ row) : rowsOk (rows.set i [x]) ∧ rows ≠ rows.set i [x] := by
  obtain ⟨n1, n6, h⟩ := ok
  have hi := (List.getElem?_eq_some_iff.mp hr).1
  refine ⟨⟨by rw [List.length_set]; exact n1, by rw [List.length_set]; exact n6, fun r h' => ?_⟩, fun e => ?_⟩
  · rcases List.mem_or_eq_of_mem_set h' with h' | h'
    · exact h r h'
    · subst h'
      refine ⟨?_, by simp, by simp⟩
      simp only [List.map_cons, List.map_nil, risesD, inFT]
      simp
      omega
  · have h := congrArg (fun l => l[i]?) e
    simp only [hr] at h
    rw [List.getElem?_set, if_pos rfl, if_pos hi] at h
    exact ne (Option.some.inj h).symm
def utail2 : Ss :=
  (.cons (.set 8 (.op .Add (.var 8) (.lst (.cons (.ieq false 14 (.var 10) (.make 19 (.cons (.var 4) (.cons (.var 2) (.cons (.var 3) .nil))) [] .nil)) (.cons (.ieq false 14 (.var 10) (.make 19 (.cons (.var 1) (.cons (.var 7) (.cons (.var 3) .nil))) [] .nil)) (.cons (.ieq false 14 (.var 10) (.make 19 (.cons (.var 1) (.cons (.var 2) (.cons (.op .Sub (.con (.int 999)) (.var 3)) .nil))) [] .nil)) (.cons (.ieq false 13 (.var 9) (.var 10)) .nil)))))))
  (.cons (.set 8 (.op .Add (.var 8) (.lst (.cons (.ieq false 14 (.var 10) (.var 9)) (.cons (.ieq false 13 (.var 9) (.var 1)) (.cons (.ieq false 14 (.var 10) (.tup (.cons (.var 1) (.cons (.var 2) (.cons (.var 3) .nil))))) (.cons (.ieq false 13 (.var 9) (.con .non)) (.cons (.ieq true 13 (.var 9) (.make 18 (.cons (.var 1) (.cons (.var 2) .nil)) [] .nil)) .nil))))))))
  (.cons (.set 8 (.op .Add (.var 8) (.lst (.cons (.ieq true 14 (.var 10) (.make 19 (.cons (.var 1) (.cons (.var 2) (.cons (.var 3) .nil))) [] .nil)) .nil))))
  (.cons (.ret (.and (.call 9 (.cons (.var 8) (.cons (.comp (.con (.bl false)) (.name 11) (.range (.cons (.con (.int 13)) .nil)) .none [("k", 11)]) .nil)) [] .nil) (.call 9 (.cons (.ieq true 13 (.var 9) (.make 18 (.cons (.var 1) (.cons (.var 7) .nil)) [] .nil)) (.cons (.con (.bl true)) .nil)) [] .nil)))
  .nil))))
theorem ok_utail2 {T : Tb} (h9 : T.fn 9 = sp_law_same 6) (k18 : T.mak 18 = sp_Find_init) (k19 : T.mak 19 = sp_Claim_init) (ow : Own T) {D0 : DEnds} {p : Addr} {w o : Str} {rows : List (List Int)} {day x : Int} {i : Nat} {row : List Int} {M N0 : Mem} {Q : QR} {y6 : Option D} (hrt : D0.rt = Q) (hw : wordOk w = true) (ho : wordOk o = true) (wo : w ≠ o) (ok : rowsOk rows) (d0 : 0 ≤ day) (d1 : day ≤ 999) (hrow : rows[i]? = some row) (x0 : 0 ≤ x) (x7 : x ≤ 7) (ne : [x] ≠ row) (s0 : Step p M N0) (hq : ∀ M', Step p M M' → Q (.val (.bl true)) M') :
    wpSs T utail2 D0 [some (.ref p), some (.str w), some (.tup (rows.map fun r => .tup (r.map .int))), some (.int day), some (.str o), some (.int i), y6, some (.tup ((rows.set i [x]).map fun r => .tup (r.map .int))), some (.lst [.bl false, .bl false, .bl false]), some (.ins 18 ["name", "marks"] [.str w, rowsD rows]), some (.ins 19 ["marks", "name", "day"] [rowsD rows, .str w, .int day]), none] N0 := by
  unfold utail2
  have hs : sizeLine = 16777216 := sizeLine_eq
  obtain ⟨okn, nen⟩ := near_rows ok hrow x0 x7 ne
  have fo : FindOk (w, rows) := ⟨hw, ok⟩
  have fo2 : FindOk (o, rows) := ⟨ho, ok⟩
  have fo3 : FindOk (w, rows.set i [x]) := ⟨hw, okn⟩
  have co : ClaimOk (w, rows, day) := ⟨hw, ok, d0, d1⟩
  have co2 : ClaimOk (o, rows, day) := ⟨ho, ok, d0, d1⟩
  have co3 : ClaimOk (w, rows.set i [x], day) := ⟨hw, okn, d0, d1⟩
  have co4 : ClaimOk (w, rows, 999 - day) := ⟨hw, ok, by show 0 ≤ 999 - day; omega, by show 999 - day ≤ 999; omega⟩
  have ff2 : decide ((w, rows) = (o, rows)) = false := decide_eq_false fun e => wo (Prod.mk.inj e).1
  have ff3 : decide ((w, rows) = (w, rows.set i [x])) = false := decide_eq_false fun e => nen (Prod.mk.inj e).2
  have cc2 : decide ((w, rows, day) = (o, rows, day)) = false := decide_eq_false fun e => wo (Prod.mk.inj e).1
  have cc3 : decide ((w, rows, day) = (w, rows.set i [x], day)) = false := decide_eq_false fun e => nen (Prod.mk.inj (Prod.mk.inj e).2).1
  have cc4 : decide ((w, rows, day) = (w, rows, 999 - day)) = false := decide_eq_false fun e => by
    have := (Prod.mk.inj (Prod.mk.inj e).2).2
    omega
  (rw [wpSs_cons]; simp only [wpSs_nil, wpS, wpE, wpEs, wpEo, wpC, wpT, wpSrc, Rd_val, Rd_new, frz_lst, frz_ins, List.getElem?_cons_zero, List.getElem?_cons_succ, List.set_cons_zero, List.set_cons_succ, kw_nil, bindT, wipeD, List.map_cons, List.map_nil, List.zip_cons_cons, List.zip_nil_right, List.zip_nil_left, List.foldl_cons, List.foldl_nil, o_add, o_adds, o_addt, o_addl, o_sub, o_mul, o_mult, o_mull, o_muls, o_div, o_mod, o_pow, c_lt, c_le, c_gt, c_ge, c_eq, c_ne, c_in, c_ni, c_is, c_isn, e_int, e_str, e_bool, t_bl, t_int, t_lst, t_tup, t_non, f_lent, f_lenl, f_lens, f_lbt, f_lbl, f_lbs, f_inti, f_tupl, f_tupt, f_lstt, f_lstl, f_stri, y_non, y_bl, y_int, y_str, y_tup, y_lst, y_ins, rg_1, rg_2, sq_tup, sq_lst, zp_tup, en_lst, en_tup, aL_lst, sl_t, sl_s, Ty.below, List.any_cons, List.any_nil, subT, Bool.or_false, Bool.not_true, Bool.not_false, true_and, and_true, reduceCtorEq, decide_false, decide_true, Bool.false_eq_true, if_false, if_true, Bool.not_eq_true', Bool.not_not])
  try rw [k19]
  intro k1 hk1
  refine mk_claim (f := (o, rows, day)) co2 (marks_t ok) hk1 fun M1 hm1 e1 => ⟨rfl, _, hm1, ?_⟩
  have s1 := Step.ext s0.pool e1
  generalize mdel M1 k1 = N1 at e1 s1
  simp only [wpSs_nil, wpS, wpE, wpEs, wpEo, wpC, wpT, wpSrc, Rd_val, Rd_new, frz_lst, frz_ins, List.getElem?_cons_zero, List.getElem?_cons_succ, List.set_cons_zero, List.set_cons_succ, kw_nil, bindT, wipeD, List.map_cons, List.map_nil, List.zip_cons_cons, List.zip_nil_right, List.zip_nil_left, List.foldl_cons, List.foldl_nil, o_add, o_adds, o_addt, o_addl, o_sub, o_mul, o_mult, o_mull, o_muls, o_div, o_mod, o_pow, c_lt, c_le, c_gt, c_ge, c_eq, c_ne, c_in, c_ni, c_is, c_isn, e_int, e_str, e_bool, t_bl, t_int, t_lst, t_tup, t_non, f_lent, f_lenl, f_lens, f_lbt, f_lbl, f_lbs, f_inti, f_tupl, f_tupt, f_lstt, f_lstl, f_stri, y_non, y_bl, y_int, y_str, y_tup, y_lst, y_ins, rg_1, rg_2, sq_tup, sq_lst, zp_tup, en_lst, en_tup, aL_lst, sl_t, sl_s, Ty.below, List.any_cons, List.any_nil, subT, Bool.or_false, Bool.not_true, Bool.not_false, true_and, and_true, reduceCtorEq, decide_false, decide_true, Bool.false_eq_true, if_false, if_true, Bool.not_eq_true', Bool.not_not]
  refine own_cc ow (f := (w, rows, day)) (g := (o, rows, day)) co co2 ?_
  rw [cc2]
  try rw [k19]
  intro k2 hk2
  refine mk_claim (f := (w, rows.set i [x], day)) co3 (marks_t okn) hk2 fun M2 hm2 e2 => ⟨rfl, _, hm2, ?_⟩
  have s2 := Step.ext s1.pool e2
  generalize mdel M2 k2 = N2 at e2 s2
  simp only [wpSs_nil, wpS, wpE, wpEs, wpEo, wpC, wpT, wpSrc, Rd_val, Rd_new, frz_lst, frz_ins, List.getElem?_cons_zero, List.getElem?_cons_succ, List.set_cons_zero, List.set_cons_succ, kw_nil, bindT, wipeD, List.map_cons, List.map_nil, List.zip_cons_cons, List.zip_nil_right, List.zip_nil_left, List.foldl_cons, List.foldl_nil, o_add, o_adds, o_addt, o_addl, o_sub, o_mul, o_mult, o_mull, o_muls, o_div, o_mod, o_pow, c_lt, c_le, c_gt, c_ge, c_eq, c_ne, c_in, c_ni, c_is, c_isn, e_int, e_str, e_bool, t_bl, t_int, t_lst, t_tup, t_non, f_lent, f_lenl, f_lens, f_lbt, f_lbl, f_lbs, f_inti, f_tupl, f_tupt, f_lstt, f_lstl, f_stri, y_non, y_bl, y_int, y_str, y_tup, y_lst, y_ins, rg_1, rg_2, sq_tup, sq_lst, zp_tup, en_lst, en_tup, aL_lst, sl_t, sl_s, Ty.below, List.any_cons, List.any_nil, subT, Bool.or_false, Bool.not_true, Bool.not_false, true_and, and_true, reduceCtorEq, decide_false, decide_true, Bool.false_eq_true, if_false, if_true, Bool.not_eq_true', Bool.not_not]
  refine own_cc ow (f := (w, rows, day)) (g := (w, rows.set i [x], day)) co co3 ?_
  rw [cc3]
  try rw [k19]
  intro k3 hk3
  refine mk_claim (f := (w, rows, 999 - day)) co4 (marks_t ok) hk3 fun M3 hm3 e3 => ⟨rfl, _, hm3, ?_⟩
  have s3 := Step.ext s2.pool e3
  generalize mdel M3 k3 = N3 at e3 s3
  simp only [wpSs_nil, wpS, wpE, wpEs, wpEo, wpC, wpT, wpSrc, Rd_val, Rd_new, frz_lst, frz_ins, List.getElem?_cons_zero, List.getElem?_cons_succ, List.set_cons_zero, List.set_cons_succ, kw_nil, bindT, wipeD, List.map_cons, List.map_nil, List.zip_cons_cons, List.zip_nil_right, List.zip_nil_left, List.foldl_cons, List.foldl_nil, o_add, o_adds, o_addt, o_addl, o_sub, o_mul, o_mult, o_mull, o_muls, o_div, o_mod, o_pow, c_lt, c_le, c_gt, c_ge, c_eq, c_ne, c_in, c_ni, c_is, c_isn, e_int, e_str, e_bool, t_bl, t_int, t_lst, t_tup, t_non, f_lent, f_lenl, f_lens, f_lbt, f_lbl, f_lbs, f_inti, f_tupl, f_tupt, f_lstt, f_lstl, f_stri, y_non, y_bl, y_int, y_str, y_tup, y_lst, y_ins, rg_1, rg_2, sq_tup, sq_lst, zp_tup, en_lst, en_tup, aL_lst, sl_t, sl_s, Ty.below, List.any_cons, List.any_nil, subT, Bool.or_false, Bool.not_true, Bool.not_false, true_and, and_true, reduceCtorEq, decide_false, decide_true, Bool.false_eq_true, if_false, if_true, Bool.not_eq_true', Bool.not_not]
  refine own_cc ow (f := (w, rows, day)) (g := (w, rows, 999 - day)) co co4 ?_
  rw [cc4]
  refine own_f ow (f := (w, rows)) (t := .cls 19) fo rfl (by decide) rfl ?_
  refine ⟨by simp only [List.length_cons, List.length_nil]; omega, ?_⟩
  (rw [wpSs_cons]; simp only [wpSs_nil, wpS, wpE, wpEs, wpEo, wpC, wpT, wpSrc, Rd_val, Rd_new, frz_lst, frz_ins, List.getElem?_cons_zero, List.getElem?_cons_succ, List.set_cons_zero, List.set_cons_succ, kw_nil, bindT, wipeD, List.map_cons, List.map_nil, List.zip_cons_cons, List.zip_nil_right, List.zip_nil_left, List.foldl_cons, List.foldl_nil, o_add, o_adds, o_addt, o_addl, o_sub, o_mul, o_mult, o_mull, o_muls, o_div, o_mod, o_pow, c_lt, c_le, c_gt, c_ge, c_eq, c_ne, c_in, c_ni, c_is, c_isn, e_int, e_str, e_bool, t_bl, t_int, t_lst, t_tup, t_non, f_lent, f_lenl, f_lens, f_lbt, f_lbl, f_lbs, f_inti, f_tupl, f_tupt, f_lstt, f_lstl, f_stri, y_non, y_bl, y_int, y_str, y_tup, y_lst, y_ins, rg_1, rg_2, sq_tup, sq_lst, zp_tup, en_lst, en_tup, aL_lst, sl_t, sl_s, Ty.below, List.any_cons, List.any_nil, subT, Bool.or_false, Bool.not_true, Bool.not_false, true_and, and_true, reduceCtorEq, decide_false, decide_true, Bool.false_eq_true, if_false, if_true, Bool.not_eq_true', Bool.not_not])
  refine own_c ow (f := (w, rows, day)) (t := .cls 18) co rfl (by decide) rfl ?_
  refine own_f ow (f := (w, rows)) (t := .str) fo rfl (by decide) rfl ?_
  refine own_c ow (f := (w, rows, day)) (t := .tuple) co rfl (by decide) rfl ?_
  refine own_f ow (f := (w, rows)) (t := .none) fo rfl (by decide) rfl ?_
  try rw [k18]
  intro k4 hk4
  refine mk_find (f := (w, rows)) fo (marks_t ok) hk4 fun M4 hm4 e4 => ⟨rfl, _, hm4, ?_⟩
  have s4 := Step.ext s3.pool e4
  generalize mdel M4 k4 = N4 at e4 s4
  simp only [wpSs_nil, wpS, wpE, wpEs, wpEo, wpC, wpT, wpSrc, Rd_val, Rd_new, frz_lst, frz_ins, List.getElem?_cons_zero, List.getElem?_cons_succ, List.set_cons_zero, List.set_cons_succ, kw_nil, bindT, wipeD, List.map_cons, List.map_nil, List.zip_cons_cons, List.zip_nil_right, List.zip_nil_left, List.foldl_cons, List.foldl_nil, o_add, o_adds, o_addt, o_addl, o_sub, o_mul, o_mult, o_mull, o_muls, o_div, o_mod, o_pow, c_lt, c_le, c_gt, c_ge, c_eq, c_ne, c_in, c_ni, c_is, c_isn, e_int, e_str, e_bool, t_bl, t_int, t_lst, t_tup, t_non, f_lent, f_lenl, f_lens, f_lbt, f_lbl, f_lbs, f_inti, f_tupl, f_tupt, f_lstt, f_lstl, f_stri, y_non, y_bl, y_int, y_str, y_tup, y_lst, y_ins, rg_1, rg_2, sq_tup, sq_lst, zp_tup, en_lst, en_tup, aL_lst, sl_t, sl_s, Ty.below, List.any_cons, List.any_nil, subT, Bool.or_false, Bool.not_true, Bool.not_false, true_and, and_true, reduceCtorEq, decide_false, decide_true, Bool.false_eq_true, if_false, if_true, Bool.not_eq_true', Bool.not_not]
  refine own_ff ow (f := (w, rows)) (g := (w, rows)) fo fo ?_
  rw [decide_eq_true (rfl : (w, rows) = (w, rows))]
  refine ⟨by simp only [List.length_append, List.length_cons, List.length_nil]; omega, ?_⟩
  (rw [wpSs_cons]; simp only [wpSs_nil, wpS, wpE, wpEs, wpEo, wpC, wpT, wpSrc, Rd_val, Rd_new, frz_lst, frz_ins, List.getElem?_cons_zero, List.getElem?_cons_succ, List.set_cons_zero, List.set_cons_succ, kw_nil, bindT, wipeD, List.map_cons, List.map_nil, List.zip_cons_cons, List.zip_nil_right, List.zip_nil_left, List.foldl_cons, List.foldl_nil, o_add, o_adds, o_addt, o_addl, o_sub, o_mul, o_mult, o_mull, o_muls, o_div, o_mod, o_pow, c_lt, c_le, c_gt, c_ge, c_eq, c_ne, c_in, c_ni, c_is, c_isn, e_int, e_str, e_bool, t_bl, t_int, t_lst, t_tup, t_non, f_lent, f_lenl, f_lens, f_lbt, f_lbl, f_lbs, f_inti, f_tupl, f_tupt, f_lstt, f_lstl, f_stri, y_non, y_bl, y_int, y_str, y_tup, y_lst, y_ins, rg_1, rg_2, sq_tup, sq_lst, zp_tup, en_lst, en_tup, aL_lst, sl_t, sl_s, Ty.below, List.any_cons, List.any_nil, subT, Bool.or_false, Bool.not_true, Bool.not_false, true_and, and_true, reduceCtorEq, decide_false, decide_true, Bool.false_eq_true, if_false, if_true, Bool.not_eq_true', Bool.not_not])
  try rw [k19]
  intro k5 hk5
  refine mk_claim (f := (w, rows, day)) co (marks_t ok) hk5 fun M5 hm5 e5 => ⟨rfl, _, hm5, ?_⟩
  have s5 := Step.ext s4.pool e5
  generalize mdel M5 k5 = N5 at e5 s5
  simp only [wpSs_nil, wpS, wpE, wpEs, wpEo, wpC, wpT, wpSrc, Rd_val, Rd_new, frz_lst, frz_ins, List.getElem?_cons_zero, List.getElem?_cons_succ, List.set_cons_zero, List.set_cons_succ, kw_nil, bindT, wipeD, List.map_cons, List.map_nil, List.zip_cons_cons, List.zip_nil_right, List.zip_nil_left, List.foldl_cons, List.foldl_nil, o_add, o_adds, o_addt, o_addl, o_sub, o_mul, o_mult, o_mull, o_muls, o_div, o_mod, o_pow, c_lt, c_le, c_gt, c_ge, c_eq, c_ne, c_in, c_ni, c_is, c_isn, e_int, e_str, e_bool, t_bl, t_int, t_lst, t_tup, t_non, f_lent, f_lenl, f_lens, f_lbt, f_lbl, f_lbs, f_inti, f_tupl, f_tupt, f_lstt, f_lstl, f_stri, y_non, y_bl, y_int, y_str, y_tup, y_lst, y_ins, rg_1, rg_2, sq_tup, sq_lst, zp_tup, en_lst, en_tup, aL_lst, sl_t, sl_s, Ty.below, List.any_cons, List.any_nil, subT, Bool.or_false, Bool.not_true, Bool.not_false, true_and, and_true, reduceCtorEq, decide_false, decide_true, Bool.false_eq_true, if_false, if_true, Bool.not_eq_true', Bool.not_not]
  refine own_cc ow (f := (w, rows, day)) (g := (w, rows, day)) co co ?_
  rw [decide_eq_true (rfl : (w, rows, day) = (w, rows, day))]
  refine ⟨by simp only [List.length_append, List.length_cons, List.length_nil]; omega, ?_⟩
  (rw [wpSs_cons]; simp only [wpSs_nil, wpS, wpE, wpEs, wpEo, wpC, wpT, wpSrc, Rd_val, Rd_new, frz_lst, frz_ins, List.getElem?_cons_zero, List.getElem?_cons_succ, List.set_cons_zero, List.set_cons_succ, kw_nil, bindT, wipeD, List.map_cons, List.map_nil, List.zip_cons_cons, List.zip_nil_right, List.zip_nil_left, List.foldl_cons, List.foldl_nil, o_add, o_adds, o_addt, o_addl, o_sub, o_mul, o_mult, o_mull, o_muls, o_div, o_mod, o_pow, c_lt, c_le, c_gt, c_ge, c_eq, c_ne, c_in, c_ni, c_is, c_isn, e_int, e_str, e_bool, t_bl, t_int, t_lst, t_tup, t_non, f_lent, f_lenl, f_lens, f_lbt, f_lbl, f_lbs, f_inti, f_tupl, f_tupt, f_lstt, f_lstl, f_stri, y_non, y_bl, y_int, y_str, y_tup, y_lst, y_ins, rg_1, rg_2, sq_tup, sq_lst, zp_tup, en_lst, en_tup, aL_lst, sl_t, sl_s, Ty.below, List.any_cons, List.any_nil, subT, Bool.or_false, Bool.not_true, Bool.not_false, true_and, and_true, reduceCtorEq, decide_false, decide_true, Bool.false_eq_true, if_false, if_true, Bool.not_eq_true', Bool.not_not])
  refine ⟨⟨by decide, by decide⟩, ?_⟩
  refine comp_mp (l := List.range 13) (fun i => .int (0 + (i : Nat))) (fun _ => .bl false) rfl trivial (fun j a acc K ha hK => ?_) ?_
  · simp only [wpSs_nil, wpS, wpE, wpEs, wpEo, wpC, wpT, wpSrc, Rd_val, Rd_new, frz_lst, frz_ins, List.getElem?_cons_zero, List.getElem?_cons_succ, List.set_cons_zero, List.set_cons_succ, kw_nil, bindT, wipeD, List.map_cons, List.map_nil, List.zip_cons_cons, List.zip_nil_right, List.zip_nil_left, List.foldl_cons, List.foldl_nil, o_add, o_adds, o_addt, o_addl, o_sub, o_mul, o_mult, o_mull, o_muls, o_div, o_mod, o_pow, c_lt, c_le, c_gt, c_ge, c_eq, c_ne, c_in, c_ni, c_is, c_isn, e_int, e_str, e_bool, t_bl, t_int, t_lst, t_tup, t_non, f_lent, f_lenl, f_lens, f_lbt, f_lbl, f_lbs, f_inti, f_tupl, f_tupt, f_lstt, f_lstl, f_stri, y_non, y_bl, y_int, y_str, y_tup, y_lst, y_ins, rg_1, rg_2, sq_tup, sq_lst, zp_tup, en_lst, en_tup, aL_lst, sl_t, sl_s, Ty.below, List.any_cons, List.any_nil, subT, Bool.or_false, Bool.not_true, Bool.not_false, true_and, and_true, reduceCtorEq, decide_false, decide_true, Bool.false_eq_true, if_false, if_true, Bool.not_eq_true', Bool.not_not]
    exact hK
  simp only [wpSs_nil, wpS, wpE, wpEs, wpEo, wpC, wpT, wpSrc, Rd_val, Rd_new, frz_lst, frz_ins, List.getElem?_cons_zero, List.getElem?_cons_succ, List.set_cons_zero, List.set_cons_succ, kw_nil, bindT, wipeD, List.map_cons, List.map_nil, List.zip_cons_cons, List.zip_nil_right, List.zip_nil_left, List.foldl_cons, List.foldl_nil, o_add, o_adds, o_addt, o_addl, o_sub, o_mul, o_mult, o_mull, o_muls, o_div, o_mod, o_pow, c_lt, c_le, c_gt, c_ge, c_eq, c_ne, c_in, c_ni, c_is, c_isn, e_int, e_str, e_bool, t_bl, t_int, t_lst, t_tup, t_non, f_lent, f_lenl, f_lens, f_lbt, f_lbl, f_lbs, f_inti, f_tupl, f_tupt, f_lstt, f_lstl, f_stri, y_non, y_bl, y_int, y_str, y_tup, y_lst, y_ins, rg_1, rg_2, sq_tup, sq_lst, zp_tup, en_lst, en_tup, aL_lst, sl_t, sl_s, Ty.below, List.any_cons, List.any_nil, subT, Bool.or_false, Bool.not_true, Bool.not_false, true_and, and_true, reduceCtorEq, decide_false, decide_true, Bool.false_eq_true, if_false, if_true, Bool.not_eq_true', Bool.not_not]
  refine same_ok h9 (d := .lst ((List.range 13).map fun _ => D.bl false)) rfl (by decide +kernel) ?_
  simp only [wpSs_nil, wpS, wpE, wpEs, wpEo, wpC, wpT, wpSrc, Rd_val, Rd_new, frz_lst, frz_ins, List.getElem?_cons_zero, List.getElem?_cons_succ, List.set_cons_zero, List.set_cons_succ, kw_nil, bindT, wipeD, List.map_cons, List.map_nil, List.zip_cons_cons, List.zip_nil_right, List.zip_nil_left, List.foldl_cons, List.foldl_nil, o_add, o_adds, o_addt, o_addl, o_sub, o_mul, o_mult, o_mull, o_muls, o_div, o_mod, o_pow, c_lt, c_le, c_gt, c_ge, c_eq, c_ne, c_in, c_ni, c_is, c_isn, e_int, e_str, e_bool, t_bl, t_int, t_lst, t_tup, t_non, f_lent, f_lenl, f_lens, f_lbt, f_lbl, f_lbs, f_inti, f_tupl, f_tupt, f_lstt, f_lstl, f_stri, y_non, y_bl, y_int, y_str, y_tup, y_lst, y_ins, rg_1, rg_2, sq_tup, sq_lst, zp_tup, en_lst, en_tup, aL_lst, sl_t, sl_s, Ty.below, List.any_cons, List.any_nil, subT, Bool.or_false, Bool.not_true, Bool.not_false, true_and, and_true, reduceCtorEq, decide_false, decide_true, Bool.false_eq_true, if_false, if_true, Bool.not_eq_true', Bool.not_not]
  try rw [k18]
  intro k6 hk6
  refine mk_find (f := (w, rows.set i [x])) fo3 (marks_t okn) hk6 fun M6 hm6 e6 => ⟨rfl, _, hm6, ?_⟩
  have s6 := Step.ext s5.pool e6
  generalize mdel M6 k6 = N6 at e6 s6
  simp only [wpSs_nil, wpS, wpE, wpEs, wpEo, wpC, wpT, wpSrc, Rd_val, Rd_new, frz_lst, frz_ins, List.getElem?_cons_zero, List.getElem?_cons_succ, List.set_cons_zero, List.set_cons_succ, kw_nil, bindT, wipeD, List.map_cons, List.map_nil, List.zip_cons_cons, List.zip_nil_right, List.zip_nil_left, List.foldl_cons, List.foldl_nil, o_add, o_adds, o_addt, o_addl, o_sub, o_mul, o_mult, o_mull, o_muls, o_div, o_mod, o_pow, c_lt, c_le, c_gt, c_ge, c_eq, c_ne, c_in, c_ni, c_is, c_isn, e_int, e_str, e_bool, t_bl, t_int, t_lst, t_tup, t_non, f_lent, f_lenl, f_lens, f_lbt, f_lbl, f_lbs, f_inti, f_tupl, f_tupt, f_lstt, f_lstl, f_stri, y_non, y_bl, y_int, y_str, y_tup, y_lst, y_ins, rg_1, rg_2, sq_tup, sq_lst, zp_tup, en_lst, en_tup, aL_lst, sl_t, sl_s, Ty.below, List.any_cons, List.any_nil, subT, Bool.or_false, Bool.not_true, Bool.not_false, true_and, and_true, reduceCtorEq, decide_false, decide_true, Bool.false_eq_true, if_false, if_true, Bool.not_eq_true', Bool.not_not]
  refine own_ff ow (f := (w, rows)) (g := (w, rows.set i [x])) fo fo3 ?_
  rw [ff3]
  refine same_ok h9 (d := .bl true) rfl (by decide) ?_
  rw [hrt]
  exact hq _ (((((((s0.trans s1).trans s2).trans s3).trans s4).trans s5).trans s6))
def utail : Ss :=
  (.cons (.set 7 (.op .Add (.op .Add (.slice (.var 2) .none (.some (.var 5))) (.tup (.cons (.var 6) .nil))) (.slice (.var 2) (.some (.op .Add (.var 5) (.con (.int 1)))) .none)))
  (.cons (.par [9, 10] (.cons (.make 18 (.cons (.var 1) (.cons (.var 2) .nil)) [] .nil) (.cons (.make 19 (.cons (.var 1) (.cons (.var 2) (.cons (.var 3) .nil))) [] .nil) .nil)))
  (.cons (.set 8 (.lst (.cons (.ieq false 13 (.var 9) (.make 18 (.cons (.var 4) (.cons (.var 2) .nil)) [] .nil)) (.cons (.ieq false 13 (.var 9) (.make 18 (.cons (.var 1) (.cons (.var 7) .nil)) [] .nil)) (.cons (.ieq false 13 (.var 9) (.make 18 (.cons (.var 1) (.cons (.ite (.val (.cmp .Lt (.fn .len (.cons (.var 2) .nil)) (.con (.int 6)))) (.op .Add (.var 2) (.tup (.cons (.tup (.cons (.con (.int 0)) .nil)) .nil))) (.var 7)) .nil)) [] .nil)) .nil)))))
  (.cons (.set 8 (.op .Add (.var 8) (.lst (.cons (.ieq false 14 (.var 10) (.make 19 (.cons (.var 4) (.cons (.var 2) (.cons (.var 3) .nil))) [] .nil)) (.cons (.ieq false 14 (.var 10) (.make 19 (.cons (.var 1) (.cons (.var 7) (.cons (.var 3) .nil))) [] .nil)) (.cons (.ieq false 14 (.var 10) (.make 19 (.cons (.var 1) (.cons (.var 2) (.cons (.op .Sub (.con (.int 999)) (.var 3)) .nil))) [] .nil)) (.cons (.ieq false 13 (.var 9) (.var 10)) .nil)))))))
  (.cons (.set 8 (.op .Add (.var 8) (.lst (.cons (.ieq false 14 (.var 10) (.var 9)) (.cons (.ieq false 13 (.var 9) (.var 1)) (.cons (.ieq false 14 (.var 10) (.tup (.cons (.var 1) (.cons (.var 2) (.cons (.var 3) .nil))))) (.cons (.ieq false 13 (.var 9) (.con .non)) (.cons (.ieq true 13 (.var 9) (.make 18 (.cons (.var 1) (.cons (.var 2) .nil)) [] .nil)) .nil))))))))
  (.cons (.set 8 (.op .Add (.var 8) (.lst (.cons (.ieq true 14 (.var 10) (.make 19 (.cons (.var 1) (.cons (.var 2) (.cons (.var 3) .nil))) [] .nil)) .nil))))
  (.cons (.ret (.and (.call 9 (.cons (.var 8) (.cons (.comp (.con (.bl false)) (.name 11) (.range (.cons (.con (.int 13)) .nil)) .none [("k", 11)]) .nil)) [] .nil) (.call 9 (.cons (.ieq true 13 (.var 9) (.make 18 (.cons (.var 1) (.cons (.var 7) .nil)) [] .nil)) (.cons (.con (.bl true)) .nil)) [] .nil)))
  .nil)))))))
theorem ok_utail {T : Tb} (h9 : T.fn 9 = sp_law_same 6) (k18 : T.mak 18 = sp_Find_init) (k19 : T.mak 19 = sp_Claim_init) (ow : Own T) {D0 : DEnds} {p : Addr} {w o : Str} {rows : List (List Int)} {day x : Int} {i : Nat} {row : List Int} {M M1 : Mem} {Q : QR} (hrt : D0.rt = Q) (hw : wordOk w = true) (ho : wordOk o = true) (wo : w ≠ o) (ok : rowsOk rows) (d0 : 0 ≤ day) (d1 : day ≤ 999) (hrow : rows[i]? = some row) (x0 : 0 ≤ x) (x7 : x ≤ 7) (ne : [x] ≠ row) (s1 : Step p M M1) (hq : ∀ M', Step p M M' → Q (.val (.bl true)) M') :
    wpSs T utail D0 [some (.ref p), some (.str w), some (.tup (rows.map fun r => .tup (r.map .int))), some (.int day), some (.str o), some (.int i), some (.tup [.int x]), none, none, none, none, none] M1 := by
  unfold utail
  have hs : sizeLine = 16777216 := sizeLine_eq
  have hi := (List.getElem?_eq_some_iff.mp hrow).1
  obtain ⟨okn, nen⟩ := near_rows ok hrow x0 x7 ne
  have lm : (rows.map fun r : List Int => D.tup (r.map D.int)).length = rows.length := List.length_map ..
  have e1 : cutD (rows.map fun r => D.tup (r.map .int)) (some ((i : Int) + 1)) none = (rows.map fun r => D.tup (r.map .int)).drop (i + 1) := cutD_post (i := i + 1) (by omega)
  have n6 := ok.2.1
  have t1 : ((rows.map fun r => D.tup (r.map .int)).take i).length ≤ 6 := by rw [List.length_take]; omega
  have t2 : ((rows.map fun r => D.tup (r.map .int)).drop (i + 1)).length ≤ 6 := by rw [List.length_drop]; omega
  have e3 : (rows.map fun r => D.tup (r.map .int)).take i ++ [D.tup [.int x]] ++ (rows.map fun r => D.tup (r.map .int)).drop (i + 1) = (rows.set i [x]).map fun r => D.tup (r.map .int) := by
    rw [set_td (by omega), List.map_set]
    rfl
  (rw [wpSs_cons]; simp only [wpSs_nil, wpS, wpE, wpEs, wpEo, wpC, wpT, wpSrc, Rd_val, Rd_new, frz_lst, frz_ins, List.getElem?_cons_zero, List.getElem?_cons_succ, List.set_cons_zero, List.set_cons_succ, kw_nil, bindT, wipeD, List.map_cons, List.map_nil, List.zip_cons_cons, List.zip_nil_right, List.zip_nil_left, List.foldl_cons, List.foldl_nil, o_add, o_adds, o_addt, o_addl, o_sub, o_mul, o_mult, o_mull, o_muls, o_div, o_mod, o_pow, c_lt, c_le, c_gt, c_ge, c_eq, c_ne, c_in, c_ni, c_is, c_isn, e_int, e_str, e_bool, t_bl, t_int, t_lst, t_tup, t_non, f_lent, f_lenl, f_lens, f_lbt, f_lbl, f_lbs, f_inti, f_tupl, f_tupt, f_lstt, f_lstl, f_stri, y_non, y_bl, y_int, y_str, y_tup, y_lst, y_ins, rg_1, rg_2, sq_tup, sq_lst, zp_tup, en_lst, en_tup, aL_lst, sl_t, sl_s, Ty.below, List.any_cons, List.any_nil, subT, Bool.or_false, Bool.not_true, Bool.not_false, true_and, and_true, reduceCtorEq, decide_false, decide_true, Bool.false_eq_true, if_false, if_true, Bool.not_eq_true', Bool.not_not])
  rw [e1, cutD_pre (by omega), e3]
  simp only [List.length_append, List.length_cons, List.length_nil]
  refine ⟨by omega, by omega, ?_⟩
  (rw [wpSs_cons]; simp only [wpSs_nil, wpS, wpE, wpEs, wpEo, wpC, wpT, wpSrc, Rd_val, Rd_new, frz_lst, frz_ins, List.getElem?_cons_zero, List.getElem?_cons_succ, List.set_cons_zero, List.set_cons_succ, kw_nil, bindT, wipeD, List.map_cons, List.map_nil, List.zip_cons_cons, List.zip_nil_right, List.zip_nil_left, List.foldl_cons, List.foldl_nil, o_add, o_adds, o_addt, o_addl, o_sub, o_mul, o_mult, o_mull, o_muls, o_div, o_mod, o_pow, c_lt, c_le, c_gt, c_ge, c_eq, c_ne, c_in, c_ni, c_is, c_isn, e_int, e_str, e_bool, t_bl, t_int, t_lst, t_tup, t_non, f_lent, f_lenl, f_lens, f_lbt, f_lbl, f_lbs, f_inti, f_tupl, f_tupt, f_lstt, f_lstl, f_stri, y_non, y_bl, y_int, y_str, y_tup, y_lst, y_ins, rg_1, rg_2, sq_tup, sq_lst, zp_tup, en_lst, en_tup, aL_lst, sl_t, sl_s, Ty.below, List.any_cons, List.any_nil, subT, Bool.or_false, Bool.not_true, Bool.not_false, true_and, and_true, reduceCtorEq, decide_false, decide_true, Bool.false_eq_true, if_false, if_true, Bool.not_eq_true', Bool.not_not])
  have fo : FindOk (w, rows) := ⟨hw, ok⟩
  have fo2 : FindOk (o, rows) := ⟨ho, ok⟩
  have fo3 : FindOk (w, rows.set i [x]) := ⟨hw, okn⟩
  have co : ClaimOk (w, rows, day) := ⟨hw, ok, d0, d1⟩
  have co2 : ClaimOk (o, rows, day) := ⟨ho, ok, d0, d1⟩
  have co3 : ClaimOk (w, rows.set i [x], day) := ⟨hw, okn, d0, d1⟩
  have co4 : ClaimOk (w, rows, 999 - day) := ⟨hw, ok, by show 0 ≤ 999 - day; omega, by show 999 - day ≤ 999; omega⟩
  have ff2 : decide ((w, rows) = (o, rows)) = false := decide_eq_false fun e => wo (Prod.mk.inj e).1
  have ff3 : decide ((w, rows) = (w, rows.set i [x])) = false := decide_eq_false fun e => nen (Prod.mk.inj e).2
  have cc2 : decide ((w, rows, day) = (o, rows, day)) = false := decide_eq_false fun e => wo (Prod.mk.inj e).1
  have cc3 : decide ((w, rows, day) = (w, rows.set i [x], day)) = false := decide_eq_false fun e => nen (Prod.mk.inj (Prod.mk.inj e).2).1
  have cc4 : decide ((w, rows, day) = (w, rows, 999 - day)) = false := decide_eq_false fun e => by
    have := (Prod.mk.inj (Prod.mk.inj e).2).2
    omega
  have sz := s1
  clear s1
  try rw [k18]
  intro k1 hk1
  refine mk_find (f := (w, rows)) fo (marks_t ok) hk1 fun M1 hm1 e1 => ⟨rfl, _, hm1, ?_⟩
  have s1 := Step.ext sz.pool e1
  generalize mdel M1 k1 = N1 at e1 s1
  simp only [wpSs_nil, wpS, wpE, wpEs, wpEo, wpC, wpT, wpSrc, Rd_val, Rd_new, frz_lst, frz_ins, List.getElem?_cons_zero, List.getElem?_cons_succ, List.set_cons_zero, List.set_cons_succ, kw_nil, bindT, wipeD, List.map_cons, List.map_nil, List.zip_cons_cons, List.zip_nil_right, List.zip_nil_left, List.foldl_cons, List.foldl_nil, o_add, o_adds, o_addt, o_addl, o_sub, o_mul, o_mult, o_mull, o_muls, o_div, o_mod, o_pow, c_lt, c_le, c_gt, c_ge, c_eq, c_ne, c_in, c_ni, c_is, c_isn, e_int, e_str, e_bool, t_bl, t_int, t_lst, t_tup, t_non, f_lent, f_lenl, f_lens, f_lbt, f_lbl, f_lbs, f_inti, f_tupl, f_tupt, f_lstt, f_lstl, f_stri, y_non, y_bl, y_int, y_str, y_tup, y_lst, y_ins, rg_1, rg_2, sq_tup, sq_lst, zp_tup, en_lst, en_tup, aL_lst, sl_t, sl_s, Ty.below, List.any_cons, List.any_nil, subT, Bool.or_false, Bool.not_true, Bool.not_false, true_and, and_true, reduceCtorEq, decide_false, decide_true, Bool.false_eq_true, if_false, if_true, Bool.not_eq_true', Bool.not_not]
  try rw [k19]
  intro k2 hk2
  refine mk_claim (f := (w, rows, day)) co (marks_t ok) hk2 fun M2 hm2 e2 => ⟨rfl, _, hm2, ?_⟩
  have s2 := Step.ext s1.pool e2
  generalize mdel M2 k2 = N2 at e2 s2
  simp only [wpSs_nil, wpS, wpE, wpEs, wpEo, wpC, wpT, wpSrc, Rd_val, Rd_new, frz_lst, frz_ins, List.getElem?_cons_zero, List.getElem?_cons_succ, List.set_cons_zero, List.set_cons_succ, kw_nil, bindT, wipeD, List.map_cons, List.map_nil, List.zip_cons_cons, List.zip_nil_right, List.zip_nil_left, List.foldl_cons, List.foldl_nil, o_add, o_adds, o_addt, o_addl, o_sub, o_mul, o_mult, o_mull, o_muls, o_div, o_mod, o_pow, c_lt, c_le, c_gt, c_ge, c_eq, c_ne, c_in, c_ni, c_is, c_isn, e_int, e_str, e_bool, t_bl, t_int, t_lst, t_tup, t_non, f_lent, f_lenl, f_lens, f_lbt, f_lbl, f_lbs, f_inti, f_tupl, f_tupt, f_lstt, f_lstl, f_stri, y_non, y_bl, y_int, y_str, y_tup, y_lst, y_ins, rg_1, rg_2, sq_tup, sq_lst, zp_tup, en_lst, en_tup, aL_lst, sl_t, sl_s, Ty.below, List.any_cons, List.any_nil, subT, Bool.or_false, Bool.not_true, Bool.not_false, true_and, and_true, reduceCtorEq, decide_false, decide_true, Bool.false_eq_true, if_false, if_true, Bool.not_eq_true', Bool.not_not]
  refine ⟨rfl, ?_⟩
  (rw [wpSs_cons]; simp only [wpSs_nil, wpS, wpE, wpEs, wpEo, wpC, wpT, wpSrc, Rd_val, Rd_new, frz_lst, frz_ins, List.getElem?_cons_zero, List.getElem?_cons_succ, List.set_cons_zero, List.set_cons_succ, kw_nil, bindT, wipeD, List.map_cons, List.map_nil, List.zip_cons_cons, List.zip_nil_right, List.zip_nil_left, List.foldl_cons, List.foldl_nil, o_add, o_adds, o_addt, o_addl, o_sub, o_mul, o_mult, o_mull, o_muls, o_div, o_mod, o_pow, c_lt, c_le, c_gt, c_ge, c_eq, c_ne, c_in, c_ni, c_is, c_isn, e_int, e_str, e_bool, t_bl, t_int, t_lst, t_tup, t_non, f_lent, f_lenl, f_lens, f_lbt, f_lbl, f_lbs, f_inti, f_tupl, f_tupt, f_lstt, f_lstl, f_stri, y_non, y_bl, y_int, y_str, y_tup, y_lst, y_ins, rg_1, rg_2, sq_tup, sq_lst, zp_tup, en_lst, en_tup, aL_lst, sl_t, sl_s, Ty.below, List.any_cons, List.any_nil, subT, Bool.or_false, Bool.not_true, Bool.not_false, true_and, and_true, reduceCtorEq, decide_false, decide_true, Bool.false_eq_true, if_false, if_true, Bool.not_eq_true', Bool.not_not])
  try rw [k18]
  intro k3 hk3
  refine mk_find (f := (o, rows)) fo2 (marks_t ok) hk3 fun M3 hm3 e3 => ⟨rfl, _, hm3, ?_⟩
  have s3 := Step.ext s2.pool e3
  generalize mdel M3 k3 = N3 at e3 s3
  simp only [wpSs_nil, wpS, wpE, wpEs, wpEo, wpC, wpT, wpSrc, Rd_val, Rd_new, frz_lst, frz_ins, List.getElem?_cons_zero, List.getElem?_cons_succ, List.set_cons_zero, List.set_cons_succ, kw_nil, bindT, wipeD, List.map_cons, List.map_nil, List.zip_cons_cons, List.zip_nil_right, List.zip_nil_left, List.foldl_cons, List.foldl_nil, o_add, o_adds, o_addt, o_addl, o_sub, o_mul, o_mult, o_mull, o_muls, o_div, o_mod, o_pow, c_lt, c_le, c_gt, c_ge, c_eq, c_ne, c_in, c_ni, c_is, c_isn, e_int, e_str, e_bool, t_bl, t_int, t_lst, t_tup, t_non, f_lent, f_lenl, f_lens, f_lbt, f_lbl, f_lbs, f_inti, f_tupl, f_tupt, f_lstt, f_lstl, f_stri, y_non, y_bl, y_int, y_str, y_tup, y_lst, y_ins, rg_1, rg_2, sq_tup, sq_lst, zp_tup, en_lst, en_tup, aL_lst, sl_t, sl_s, Ty.below, List.any_cons, List.any_nil, subT, Bool.or_false, Bool.not_true, Bool.not_false, true_and, and_true, reduceCtorEq, decide_false, decide_true, Bool.false_eq_true, if_false, if_true, Bool.not_eq_true', Bool.not_not]
  refine own_ff ow (f := (w, rows)) (g := (o, rows)) fo fo2 ?_
  rw [ff2]
  try rw [k18]
  intro k4 hk4
  refine mk_find (f := (w, rows.set i [x])) fo3 (marks_t okn) hk4 fun M4 hm4 e4 => ⟨rfl, _, hm4, ?_⟩
  have s4 := Step.ext s3.pool e4
  generalize mdel M4 k4 = N4 at e4 s4
  simp only [wpSs_nil, wpS, wpE, wpEs, wpEo, wpC, wpT, wpSrc, Rd_val, Rd_new, frz_lst, frz_ins, List.getElem?_cons_zero, List.getElem?_cons_succ, List.set_cons_zero, List.set_cons_succ, kw_nil, bindT, wipeD, List.map_cons, List.map_nil, List.zip_cons_cons, List.zip_nil_right, List.zip_nil_left, List.foldl_cons, List.foldl_nil, o_add, o_adds, o_addt, o_addl, o_sub, o_mul, o_mult, o_mull, o_muls, o_div, o_mod, o_pow, c_lt, c_le, c_gt, c_ge, c_eq, c_ne, c_in, c_ni, c_is, c_isn, e_int, e_str, e_bool, t_bl, t_int, t_lst, t_tup, t_non, f_lent, f_lenl, f_lens, f_lbt, f_lbl, f_lbs, f_inti, f_tupl, f_tupt, f_lstt, f_lstl, f_stri, y_non, y_bl, y_int, y_str, y_tup, y_lst, y_ins, rg_1, rg_2, sq_tup, sq_lst, zp_tup, en_lst, en_tup, aL_lst, sl_t, sl_s, Ty.below, List.any_cons, List.any_nil, subT, Bool.or_false, Bool.not_true, Bool.not_false, true_and, and_true, reduceCtorEq, decide_false, decide_true, Bool.false_eq_true, if_false, if_true, Bool.not_eq_true', Bool.not_not]
  refine own_ff ow (f := (w, rows)) (g := (w, rows.set i [x])) fo fo3 ?_
  rw [ff3]
  by_cases e6 : rows.length < 6
  · rw [if_pos (by rw [decide_eq_true_eq, lm]; omega)]
    have ok5 : rowsOk (rows ++ [[0]]) := ⟨by rw [List.length_append]; omega, by rw [List.length_append]; simp; omega, fun r h => by
      rcases List.mem_append.mp h with h | h
      · exact ok.2.2 r h
      · simp at h
        subst h
        exact ⟨rfl, by simp, by decide⟩⟩
    have ff5 : decide ((w, rows) = (w, rows ++ [[0]])) = false := decide_eq_false fun e => by
      have := congrArg List.length (Prod.mk.inj e).2
      rw [List.length_append] at this
      simp at this
    have em : (rows.map fun r : List Int => D.tup (r.map .int)) ++ [D.tup [.int 0]] = (rows ++ [[0]]).map (fun r : List Int => D.tup (r.map .int)) := by rw [List.map_append]; rfl
    rw [em]
    refine ⟨by rw [lm]; simp only [List.length_cons, List.length_nil]; omega, ?_⟩
    try rw [k18]
    intro k5 hk5
    refine mk_find (f := (w, rows ++ [[0]])) ⟨hw, ok5⟩ (marks_t ok5) hk5 fun M5 hm5 e5 => ⟨rfl, _, hm5, ?_⟩
    have s5 := Step.ext s4.pool e5
    generalize mdel M5 k5 = N5 at e5 s5
    simp only [wpSs_nil, wpS, wpE, wpEs, wpEo, wpC, wpT, wpSrc, Rd_val, Rd_new, frz_lst, frz_ins, List.getElem?_cons_zero, List.getElem?_cons_succ, List.set_cons_zero, List.set_cons_succ, kw_nil, bindT, wipeD, List.map_cons, List.map_nil, List.zip_cons_cons, List.zip_nil_right, List.zip_nil_left, List.foldl_cons, List.foldl_nil, o_add, o_adds, o_addt, o_addl, o_sub, o_mul, o_mult, o_mull, o_muls, o_div, o_mod, o_pow, c_lt, c_le, c_gt, c_ge, c_eq, c_ne, c_in, c_ni, c_is, c_isn, e_int, e_str, e_bool, t_bl, t_int, t_lst, t_tup, t_non, f_lent, f_lenl, f_lens, f_lbt, f_lbl, f_lbs, f_inti, f_tupl, f_tupt, f_lstt, f_lstl, f_stri, y_non, y_bl, y_int, y_str, y_tup, y_lst, y_ins, rg_1, rg_2, sq_tup, sq_lst, zp_tup, en_lst, en_tup, aL_lst, sl_t, sl_s, Ty.below, List.any_cons, List.any_nil, subT, Bool.or_false, Bool.not_true, Bool.not_false, true_and, and_true, reduceCtorEq, decide_false, decide_true, Bool.false_eq_true, if_false, if_true, Bool.not_eq_true', Bool.not_not]
    refine own_ff ow (f := (w, rows)) (g := (w, rows ++ [[0]])) fo ⟨hw, ok5⟩ ?_
    rw [ff5]
    exact ok_utail2 h9 k18 k19 ow hrt hw ho wo ok d0 d1 hrow x0 x7 ne (((((sz.trans s1).trans s2).trans s3).trans s4).trans s5) hq
  · rw [if_neg (by rw [decide_eq_true_eq, lm]; omega)]
    try rw [k18]
    intro k5 hk5
    refine mk_find (f := (w, rows.set i [x])) fo3 (marks_t okn) hk5 fun M5 hm5 e5 => ⟨rfl, _, hm5, ?_⟩
    have s5 := Step.ext s4.pool e5
    generalize mdel M5 k5 = N5 at e5 s5
    simp only [wpSs_nil, wpS, wpE, wpEs, wpEo, wpC, wpT, wpSrc, Rd_val, Rd_new, frz_lst, frz_ins, List.getElem?_cons_zero, List.getElem?_cons_succ, List.set_cons_zero, List.set_cons_succ, kw_nil, bindT, wipeD, List.map_cons, List.map_nil, List.zip_cons_cons, List.zip_nil_right, List.zip_nil_left, List.foldl_cons, List.foldl_nil, o_add, o_adds, o_addt, o_addl, o_sub, o_mul, o_mult, o_mull, o_muls, o_div, o_mod, o_pow, c_lt, c_le, c_gt, c_ge, c_eq, c_ne, c_in, c_ni, c_is, c_isn, e_int, e_str, e_bool, t_bl, t_int, t_lst, t_tup, t_non, f_lent, f_lenl, f_lens, f_lbt, f_lbl, f_lbs, f_inti, f_tupl, f_tupt, f_lstt, f_lstl, f_stri, y_non, y_bl, y_int, y_str, y_tup, y_lst, y_ins, rg_1, rg_2, sq_tup, sq_lst, zp_tup, en_lst, en_tup, aL_lst, sl_t, sl_s, Ty.below, List.any_cons, List.any_nil, subT, Bool.or_false, Bool.not_true, Bool.not_false, true_and, and_true, reduceCtorEq, decide_false, decide_true, Bool.false_eq_true, if_false, if_true, Bool.not_eq_true', Bool.not_not]
    refine own_ff ow (f := (w, rows)) (g := (w, rows.set i [x])) fo fo3 ?_
    rw [ff3]
    exact ok_utail2 h9 k18 k19 ow hrt hw ho wo ok d0 d1 hrow x0 x7 ne (((((sz.trans s1).trans s2).trans s3).trans s4).trans s5) hq
def sp_law_unlike : DSp := fun ds M Q _ => ∃ (p : Addr) (w : Str) (rows : List (List Int)) (day : Int) (o : Str), ds = [.ref p, .str w, rowsD rows, .int day, .str o] ∧ wordOk w = true ∧ wordOk o = true ∧ w ≠ o ∧ rowsOk rows ∧ 0 ≤ day ∧ day ≤ 999 ∧ PoolAt M p ∧ ∀ M', Step p M M' → Q (.val (.bl true)) M'
theorem ok_law_unlike {T : Tb} (h8 : T.fn 8 = sp_draw) (h9 : T.fn 9 = sp_law_same 6) (k18 : T.mak 18 = sp_Find_init) (k19 : T.mak 19 = sp_Claim_init) (ow : Own T) : SpOk T N_law_unlike ir_law_unlike 5 sp_law_unlike := by
  rintro ds M Q E hl ⟨p, w, rows, day, o, rfl, hw, ho, wo, ok, d0, d1, hp, hq⟩
  show wpSs T ir_law_unlike _ [some (.ref p), some (.str w), some (.tup (rows.map fun r => .tup (r.map .int))), some (.int day), some (.str o), none, none, none, none, none, none, none] M
  unfold ir_law_unlike
  have hs : sizeLine = 16777216 := sizeLine_eq
  have ok' := ok
  obtain ⟨n1, n6, hr⟩ := ok'
  have lm : (rows.map fun r : List Int => D.tup (r.map D.int)).length = rows.length := List.length_map ..
  (rw [wpSs_cons]; simp only [wpSs_nil, wpS, wpE, wpEs, wpEo, wpC, wpT, wpSrc, Rd_val, Rd_new, frz_lst, frz_ins, List.getElem?_cons_zero, List.getElem?_cons_succ, List.set_cons_zero, List.set_cons_succ, kw_nil, bindT, wipeD, List.map_cons, List.map_nil, List.zip_cons_cons, List.zip_nil_right, List.zip_nil_left, List.foldl_cons, List.foldl_nil, o_add, o_adds, o_addt, o_addl, o_sub, o_mul, o_mult, o_mull, o_muls, o_div, o_mod, o_pow, c_lt, c_le, c_gt, c_ge, c_eq, c_ne, c_in, c_ni, c_is, c_isn, e_int, e_str, e_bool, t_bl, t_int, t_lst, t_tup, t_non, f_lent, f_lenl, f_lens, f_lbt, f_lbl, f_lbs, f_inti, f_tupl, f_tupt, f_lstt, f_lstl, f_stri, y_non, y_bl, y_int, y_str, y_tup, y_lst, y_ins, rg_1, rg_2, sq_tup, sq_lst, zp_tup, en_lst, en_tup, aL_lst, sl_t, sl_s, Ty.below, List.any_cons, List.any_nil, subT, Bool.or_false, Bool.not_true, Bool.not_false, true_and, and_true, reduceCtorEq, decide_false, decide_true, Bool.false_eq_true, if_false, if_true, Bool.not_eq_true', Bool.not_not])
  rw [h8, lm]
  refine ⟨p, _, rfl, by omega, by omega, hp, fun at_ M1 a0 a1 s1 => ?_⟩
  obtain ⟨i, rfl⟩ : ∃ i : Nat, at_ = i := ⟨at_.toNat, by omega⟩
  have hi : i < rows.length := by omega
  have hrow : rows[i]? = some rows[i] := List.getElem?_eq_getElem hi
  generalize rows[i] = row at hrow
  obtain ⟨ris, rne, r8⟩ := hr row (List.mem_of_getElem? hrow)
  have rx : ∀ M K, ixS (.tup (rows.map fun r => .tup (r.map .int))) (.int i) M K = K (.tup (row.map .int)) := fun M K => ix_t (at_nat (by rw [List.getElem?_map, hrow]; rfl))
  simp only [wpSs_nil, wpS, wpE, wpEs, wpEo, wpC, wpT, wpSrc, Rd_val, Rd_new, frz_lst, frz_ins, List.getElem?_cons_zero, List.getElem?_cons_succ, List.set_cons_zero, List.set_cons_succ, kw_nil, bindT, wipeD, List.map_cons, List.map_nil, List.zip_cons_cons, List.zip_nil_right, List.zip_nil_left, List.foldl_cons, List.foldl_nil, o_add, o_adds, o_addt, o_addl, o_sub, o_mul, o_mult, o_mull, o_muls, o_div, o_mod, o_pow, c_lt, c_le, c_gt, c_ge, c_eq, c_ne, c_in, c_ni, c_is, c_isn, e_int, e_str, e_bool, t_bl, t_int, t_lst, t_tup, t_non, f_lent, f_lenl, f_lens, f_lbt, f_lbl, f_lbs, f_inti, f_tupl, f_tupt, f_lstt, f_lstl, f_stri, y_non, y_bl, y_int, y_str, y_tup, y_lst, y_ins, rg_1, rg_2, sq_tup, sq_lst, zp_tup, en_lst, en_tup, aL_lst, sl_t, sl_s, Ty.below, List.any_cons, List.any_nil, subT, Bool.or_false, Bool.not_true, Bool.not_false, true_and, and_true, reduceCtorEq, decide_false, decide_true, Bool.false_eq_true, if_false, if_true, Bool.not_eq_true', Bool.not_not]
  (rw [wpSs_cons]; simp only [wpSs_nil, wpS, wpE, wpEs, wpEo, wpC, wpT, wpSrc, Rd_val, Rd_new, frz_lst, frz_ins, List.getElem?_cons_zero, List.getElem?_cons_succ, List.set_cons_zero, List.set_cons_succ, kw_nil, bindT, wipeD, List.map_cons, List.map_nil, List.zip_cons_cons, List.zip_nil_right, List.zip_nil_left, List.foldl_cons, List.foldl_nil, o_add, o_adds, o_addt, o_addl, o_sub, o_mul, o_mult, o_mull, o_muls, o_div, o_mod, o_pow, c_lt, c_le, c_gt, c_ge, c_eq, c_ne, c_in, c_ni, c_is, c_isn, e_int, e_str, e_bool, t_bl, t_int, t_lst, t_tup, t_non, f_lent, f_lenl, f_lens, f_lbt, f_lbl, f_lbs, f_inti, f_tupl, f_tupt, f_lstt, f_lstl, f_stri, y_non, y_bl, y_int, y_str, y_tup, y_lst, y_ins, rg_1, rg_2, sq_tup, sq_lst, zp_tup, en_lst, en_tup, aL_lst, sl_t, sl_s, Ty.below, List.any_cons, List.any_nil, subT, Bool.or_false, Bool.not_true, Bool.not_false, true_and, and_true, reduceCtorEq, decide_false, decide_true, Bool.false_eq_true, if_false, if_true, Bool.not_eq_true', Bool.not_not])
  refine ⟨⟨by decide, by decide⟩, ?_⟩
  refine comp_flt (l := List.range 8) (fun i => .int (0 + (i : Nat))) (fun k => !(row.contains (k : Int))) (fun k => .int (k : Nat)) rfl trivial ?_ ?_
  · intro j a acc K ha hK
    simp only [wpSs_nil, wpS, wpE, wpEs, wpEo, wpC, wpT, wpSrc, Rd_val, Rd_new, frz_lst, frz_ins, List.getElem?_cons_zero, List.getElem?_cons_succ, List.set_cons_zero, List.set_cons_succ, kw_nil, bindT, wipeD, List.map_cons, List.map_nil, List.zip_cons_cons, List.zip_nil_right, List.zip_nil_left, List.foldl_cons, List.foldl_nil, o_add, o_adds, o_addt, o_addl, o_sub, o_mul, o_mult, o_mull, o_muls, o_div, o_mod, o_pow, c_lt, c_le, c_gt, c_ge, c_eq, c_ne, c_in, c_ni, c_is, c_isn, e_int, e_str, e_bool, t_bl, t_int, t_lst, t_tup, t_non, f_lent, f_lenl, f_lens, f_lbt, f_lbl, f_lbs, f_inti, f_tupl, f_tupt, f_lstt, f_lstl, f_stri, y_non, y_bl, y_int, y_str, y_tup, y_lst, y_ins, rg_1, rg_2, sq_tup, sq_lst, zp_tup, en_lst, en_tup, aL_lst, sl_t, sl_s, Ty.below, List.any_cons, List.any_nil, subT, Bool.or_false, Bool.not_true, Bool.not_false, true_and, and_true, reduceCtorEq, decide_false, decide_true, Bool.false_eq_true, if_false, if_true, Bool.not_eq_true', Bool.not_not]
    rw [rx, in_intsT]
    by_cases hc : (0 + (a : Int)) ∈ row
    · rw [show row.contains (0 + (a : Int)) = true by simpa using hc]
      rw [if_neg (by rw [show (a : Int) = 0 + (a : Int) by omega]; simpa using hc)] at hK
      exact hK
    · rw [show row.contains (0 + (a : Int)) = false by simpa using hc]
      rw [if_pos (by rw [show (a : Int) = 0 + (a : Int) by omega]; simpa using hc)] at hK
      rw [show (0 + (a : Int)) = (a : Int) by omega]
      exact hK
  obtain ⟨x, x0, x7, hx, ne⟩ : ∃ x : Int, 0 ≤ x ∧ x ≤ 7 ∧ cutD (((List.range 8).filter fun k : Nat => !row.contains (k : Int)).map (fun k : Nat => D.int (k : Int)) ++ [D.int 0]) none (some 1) = [D.int x] ∧ [x] ≠ row := by
    have e1 : ∀ xs : List D, cutD xs none (some 1) = xs.take 1 := fun xs => by
      unfold cutD
      rw [HT.sIx_none, show HT.sIx xs.length xs.length (some 1) = min 1 xs.length from HT.sIx_nat xs.length xs.length 1]
      simp
    rw [e1]
    cases hf : (List.range 8).filter fun k : Nat => !row.contains (k : Int) with
    | nil =>
      refine ⟨0, by decide, by decide, rfl, fun e => ?_⟩
      have : 1 ∈ (List.range 8).filter fun k : Nat => !row.contains (k : Int) := by
        rw [List.mem_filter, ← e]
        exact ⟨by decide, by decide⟩
      rw [hf] at this
      cases this
    | cons a t =>
      have h : a ∈ (List.range 8).filter fun k : Nat => !row.contains (k : Int) := by rw [hf]; exact List.mem_cons_self
      rw [List.mem_filter, List.mem_range] at h
      refine ⟨a, by omega, by omega, rfl, fun e => ?_⟩
      rw [← e] at h
      simp at h
  have lf : (((List.range 8).filter fun k : Nat => !row.contains (k : Int)).map (fun k : Nat => D.int (k : Int))).length ≤ 8 := by
    rw [List.length_map]
    have := List.length_filter_le (fun k : Nat => !row.contains (k : Int)) (List.range 8)
    rw [List.length_range] at this
    exact this
  simp only [wpSs_nil, wpS, wpE, wpEs, wpEo, wpC, wpT, wpSrc, Rd_val, Rd_new, frz_lst, frz_ins, List.getElem?_cons_zero, List.getElem?_cons_succ, List.set_cons_zero, List.set_cons_succ, kw_nil, bindT, wipeD, List.map_cons, List.map_nil, List.zip_cons_cons, List.zip_nil_right, List.zip_nil_left, List.foldl_cons, List.foldl_nil, o_add, o_adds, o_addt, o_addl, o_sub, o_mul, o_mult, o_mull, o_muls, o_div, o_mod, o_pow, c_lt, c_le, c_gt, c_ge, c_eq, c_ne, c_in, c_ni, c_is, c_isn, e_int, e_str, e_bool, t_bl, t_int, t_lst, t_tup, t_non, f_lent, f_lenl, f_lens, f_lbt, f_lbl, f_lbs, f_inti, f_tupl, f_tupt, f_lstt, f_lstl, f_stri, y_non, y_bl, y_int, y_str, y_tup, y_lst, y_ins, rg_1, rg_2, sq_tup, sq_lst, zp_tup, en_lst, en_tup, aL_lst, sl_t, sl_s, Ty.below, List.any_cons, List.any_nil, subT, Bool.or_false, Bool.not_true, Bool.not_false, true_and, and_true, reduceCtorEq, decide_false, decide_true, Bool.false_eq_true, if_false, if_true, Bool.not_eq_true', Bool.not_not]
  refine ⟨by simp only [List.length_cons, List.length_nil]; omega, ?_⟩
  rw [hx]
  (rw [wpSs_cons]; simp only [wpSs_nil, wpS, wpE, wpEs, wpEo, wpC, wpT, wpSrc, Rd_val, Rd_new, frz_lst, frz_ins, List.getElem?_cons_zero, List.getElem?_cons_succ, List.set_cons_zero, List.set_cons_succ, kw_nil, bindT, wipeD, List.map_cons, List.map_nil, List.zip_cons_cons, List.zip_nil_right, List.zip_nil_left, List.foldl_cons, List.foldl_nil, o_add, o_adds, o_addt, o_addl, o_sub, o_mul, o_mult, o_mull, o_muls, o_div, o_mod, o_pow, c_lt, c_le, c_gt, c_ge, c_eq, c_ne, c_in, c_ni, c_is, c_isn, e_int, e_str, e_bool, t_bl, t_int, t_lst, t_tup, t_non, f_lent, f_lenl, f_lens, f_lbt, f_lbl, f_lbs, f_inti, f_tupl, f_tupt, f_lstt, f_lstl, f_stri, y_non, y_bl, y_int, y_str, y_tup, y_lst, y_ins, rg_1, rg_2, sq_tup, sq_lst, zp_tup, en_lst, en_tup, aL_lst, sl_t, sl_s, Ty.below, List.any_cons, List.any_nil, subT, Bool.or_false, Bool.not_true, Bool.not_false, true_and, and_true, reduceCtorEq, decide_false, decide_true, Bool.false_eq_true, if_false, if_true, Bool.not_eq_true', Bool.not_not])
  rw [rx]
  simp only [wpSs_nil, wpS, wpE, wpEs, wpEo, wpC, wpT, wpSrc, Rd_val, Rd_new, frz_lst, frz_ins, List.getElem?_cons_zero, List.getElem?_cons_succ, List.set_cons_zero, List.set_cons_succ, kw_nil, bindT, wipeD, List.map_cons, List.map_nil, List.zip_cons_cons, List.zip_nil_right, List.zip_nil_left, List.foldl_cons, List.foldl_nil, o_add, o_adds, o_addt, o_addl, o_sub, o_mul, o_mult, o_mull, o_muls, o_div, o_mod, o_pow, c_lt, c_le, c_gt, c_ge, c_eq, c_ne, c_in, c_ni, c_is, c_isn, e_int, e_str, e_bool, t_bl, t_int, t_lst, t_tup, t_non, f_lent, f_lenl, f_lens, f_lbt, f_lbl, f_lbs, f_inti, f_tupl, f_tupt, f_lstt, f_lstl, f_stri, y_non, y_bl, y_int, y_str, y_tup, y_lst, y_ins, rg_1, rg_2, sq_tup, sq_lst, zp_tup, en_lst, en_tup, aL_lst, sl_t, sl_s, Ty.below, List.any_cons, List.any_nil, subT, Bool.or_false, Bool.not_true, Bool.not_false, true_and, and_true, reduceCtorEq, decide_false, decide_true, Bool.false_eq_true, if_false, if_true, Bool.not_eq_true', Bool.not_not]
  by_cases e8 : row.length = 8
  · rw [if_pos (by rw [decide_eq_true_eq, List.length_map]; omega)]
    (rw [wpSs_cons]; simp only [wpSs_nil, wpS, wpE, wpEs, wpEo, wpC, wpT, wpSrc, Rd_val, Rd_new, frz_lst, frz_ins, List.getElem?_cons_zero, List.getElem?_cons_succ, List.set_cons_zero, List.set_cons_succ, kw_nil, bindT, wipeD, List.map_cons, List.map_nil, List.zip_cons_cons, List.zip_nil_right, List.zip_nil_left, List.foldl_cons, List.foldl_nil, o_add, o_adds, o_addt, o_addl, o_sub, o_mul, o_mult, o_mull, o_muls, o_div, o_mod, o_pow, c_lt, c_le, c_gt, c_ge, c_eq, c_ne, c_in, c_ni, c_is, c_isn, e_int, e_str, e_bool, t_bl, t_int, t_lst, t_tup, t_non, f_lent, f_lenl, f_lens, f_lbt, f_lbl, f_lbs, f_inti, f_tupl, f_tupt, f_lstt, f_lstl, f_stri, y_non, y_bl, y_int, y_str, y_tup, y_lst, y_ins, rg_1, rg_2, sq_tup, sq_lst, zp_tup, en_lst, en_tup, aL_lst, sl_t, sl_s, Ty.below, List.any_cons, List.any_nil, subT, Bool.or_false, Bool.not_true, Bool.not_false, true_and, and_true, reduceCtorEq, decide_false, decide_true, Bool.false_eq_true, if_false, if_true, Bool.not_eq_true', Bool.not_not])
    exact ok_utail h9 k18 k19 ow rfl hw ho wo ok d0 d1 hrow (x := 3) (by decide) (by decide) (fun e => by rw [← e] at e8; cases e8) s1 hq
  · rw [if_neg (by rw [decide_eq_true_eq, List.length_map]; omega)]
    exact ok_utail h9 k18 k19 ow rfl hw ho wo ok d0 d1 hrow x0 x7 ne s1 hq
end PL
namespace PL
open PySem PySem.Spec PyProof.Rows L2
abbrev sp_law : DSp := lawSp
def t_gl : Nat → D
  | 1 => (.str "abcdefghijklmnopqrstuvwxyz")
  | 7 => (.int 999)
  | 4 => (.int 6)
  | 3 => (.int 8)
  | 0 => (.int 12)
  | _ => .non
def t_fn : Nat → DSp
  | 8 => sp_law_draw
  | 16 => sp_law_pool
  | 9 => sp_law_same 6
  | 0 => sp_is_integer
  | 1 => sp_is_from_to
  | 3 => sp_is_word
  | 4 => sp_is_sequence
  | 2 => sp_rises
  | 26 => sp_marks_from
  | 30 => sp_law_unlike
  | 13 => sp_law_values
  | 12 => sp_law_words
  | 28 => sp_law_bad_day
  | 29 => sp_law_bad_marks
  | 27 => sp_law_bad_name
  | 20 => sp_law_refused
  | 23 => sp_law_wrong_ones
  | 18 => sp_law
  | _ => fun _ _ _ _ => False
def t_mt : Nat → DSp
  | 14 => sp_Claim___eq__
  | 13 => sp_Find___eq__
  | _ => fun _ _ _ _ => False
def t_mak : Nat → DSp
  | 19 => sp_Claim_init
  | 18 => sp_Find_init
  | _ => fun _ _ _ _ => False
def t_mc : Nat → Nat
  | 14 => 19
  | 13 => 18
  | _ => 0
def t_at : Nat → List Str
  | 19 => ["marks", "name", "day"]
  | 18 => ["name", "marks"]
  | _ => []
def t_fp : Nat → List Str
  | 8 => ["pool", "many"]
  | 16 => ["script"]
  | 9 => ["told", "due"]
  | 0 => ["value"]
  | 1 => ["value", "least", "most"]
  | 3 => ["value"]
  | 4 => ["value"]
  | 2 => ["value", "bound"]
  | 26 => ["value"]
  | 30 => ["pool", "name", "marks", "day", "other"]
  | 13 => ["pool", "many", "way"]
  | 12 => ["pool", "many"]
  | 28 => ["pool"]
  | 29 => ["pool", "marks"]
  | 27 => ["pool", "name"]
  | 20 => ["which", "name", "marks", "day"]
  | 23 => ["pool", "name", "marks", "day"]
  | 18 => ["script"]
  | _ => []
def t_mp : Nat → List Str
  | 14 => ["self", "other"]
  | 13 => ["self", "other"]
  | _ => []
def t_kp : Nat → List Str
  | 19 => ["self", "name", "marks", "day"]
  | 18 => ["self", "name", "marks"]
  | _ => []
def t_xf : Nat → List Str
  | 3 => ["value"]
  | 4 => ["part"]
  | _ => []
def t_xc (k : Nat) : Bool := [3, 4].contains k
def t_sub (k c : Nat) : Bool := [(3, 3), (4, 4)].contains (k, c)
def t_nc (k : Nat) : Bool := [19, 18].contains k
def TT : Tb := { gl := t_gl, fn := t_fn, mt := t_mt, mak := t_mak, mc := t_mc, at_ := t_at, fp := t_fp, mp := t_mp, kp := t_kp, xf := t_xf, nc := t_nc, xc := t_xc, sub := t_sub }
theorem h_draw : TT.fn 8 = sp_draw := rfl
theorem h_same : TT.fn 9 = sp_law_same 6 := rfl
theorem h_pool : TT.fn 16 = sp_law_pool := rfl
theorem h_words : TT.fn 12 = sp_law_words := rfl
theorem h_vals : TT.fn 13 = sp_law_values := rfl
theorem h_wrong : TT.fn 23 = sp_law_wrong_ones := rfl
theorem h_unl : TT.fn 30 = sp_law_unlike := rfl
theorem h_f : TT.mak 18 = sp_Find_init := rfl
theorem h_c : TT.mak 19 = sp_Claim_init := rfl
theorem tt_xs : Own TT := ⟨rfl, rfl, rfl, rfl, rfl, rfl, rfl, rfl⟩
theorem at_pair3 {a b c r : Int} (h0 : 0 ≤ r) (h1 : r < 3) : ∃ v, (v = a ∨ v = b ∨ v = c) ∧ atI [D.int a, .int b, .int c] r = some (.int v) := by
  have : r = 0 ∨ r = 1 ∨ r = 2 := by omega
  rcases this with rfl | rfl | rfl
  · exact ⟨a, .inl rfl, rfl⟩
  · exact ⟨b, .inr (.inl rfl), rfl⟩
  · exact ⟨c, .inr (.inr rfl), rfl⟩
theorem rises_up {b b' : Int} (hb : b ≤ b') : ∀ {xs : List D} {a : Int}, risesD xs a b = true → risesD xs a b' = true
  | [], _, _ => rfl
  | x :: xs, a, h => by
    simp only [risesD, Bool.and_eq_true] at h ⊢
    obtain ⟨h1, h2⟩ := h
    cases x <;> simp at h2
    refine ⟨?_, rises_up hb h2⟩
    simp [inFT] at h1 ⊢
    omega
theorem row_len {row : List Int} {m : Int} (h1 : m ≤ 8) (h : RowOk row m) : row.length ≤ 8 := by
  obtain ⟨P, rfl, _⟩ := h
  rw [List.length_map]
  have := List.length_filter_le P (List.range m.toNat)
  rw [List.length_range] at this
  omega
theorem Step.fresh {p q : Addr} {M M' : Mem} {o : Ob} (hp : PoolAt M p) (s : Step p M M') (h : M q = none) : Step p M (mput M' q o) :=
  ⟨s.pool.put (hp.ne h), fun a o' na e => by rw [mput_ne fun z => by rw [z, h] at e; cases e]; exact s.rest a o' na e⟩
theorem step_none {p q : Addr} {M M' : Mem} (s : Step p M M') (h : M' q = none) : M q = none := by
  cases e : M q with
  | none => rfl
  | some o =>
    have := s.rest q o (s.pool.ne h) e
    rw [h] at this
    cases this
theorem kw_f {x y : D} : kwArgs (List.drop 1 (TT.kp 18)) [] ["marks", "name"] [x, y] = [y, x] := rfl
theorem kw_c {x y z : D} : kwArgs (List.drop 1 (TT.kp 19)) [] ["day", "name", "marks"] [x, y, z] = [y, z, x] := rfl
theorem ok_law : SpOk TT N_law ir_law 1 sp_law := by
  rintro ds M Q E hl ⟨ns, rfl, hn, rfl, hq⟩
  show wpSs TT ir_law _ [some (.lst (ns.map .int)), none, none, none, none, none, none, none, none, none, none, none, none] _
  unfold ir_law
  have hs : sizeLine = 16777216 := sizeLine_eq
  (rw [wpSs_cons]; simp only [wpSs_nil, wpS, wpE, wpEs, wpEo, wpC, wpT, wpSrc, Rd_val, Rd_new, frz_lst, frz_ins, List.getElem?_cons_zero, List.getElem?_cons_succ, List.set_cons_zero, List.set_cons_succ, kw_nil, bindT, wipeD, List.map_cons, List.map_nil, List.zip_cons_cons, List.zip_nil_right, List.zip_nil_left, List.foldl_cons, List.foldl_nil, o_add, o_adds, o_addt, o_addl, o_sub, o_mul, o_mult, o_mull, o_muls, o_div, o_mod, o_pow, c_lt, c_le, c_gt, c_ge, c_eq, c_ne, c_in, c_ni, c_is, c_isn, e_int, e_str, e_bool, t_bl, t_int, t_lst, t_tup, t_non, f_lent, f_lenl, f_lens, f_lbt, f_lbl, f_lbs, f_inti, f_tupl, f_tupt, f_lstt, f_lstl, f_stri, y_non, y_bl, y_int, y_str, y_tup, y_lst, y_ins, rg_1, rg_2, sq_tup, sq_lst, zp_tup, en_lst, en_tup, aL_lst, sl_t, sl_s, Ty.below, List.any_cons, List.any_nil, subT, Bool.or_false, Bool.not_true, Bool.not_false, true_and, and_true, reduceCtorEq, decide_false, decide_true, Bool.false_eq_true, if_false, if_true, Bool.not_eq_true', Bool.not_not])
  rw [h_pool]
  refine ⟨ns, rfl, hn, fun l hl => ?_⟩
  intro p hpn
  have hp : PoolAt (mput (fun _ => none) p (.lst (l.map .int))) p := ⟨l, mput_same, hl⟩
  generalize mput (fun _ => none) p (.lst (l.map D.int)) = M0 at hp
  (rw [wpSs_cons]; simp only [wpSs_nil, wpS, wpE, wpEs, wpEo, wpC, wpT, wpSrc, Rd_val, Rd_new, frz_lst, frz_ins, List.getElem?_cons_zero, List.getElem?_cons_succ, List.set_cons_zero, List.set_cons_succ, kw_nil, bindT, wipeD, List.map_cons, List.map_nil, List.zip_cons_cons, List.zip_nil_right, List.zip_nil_left, List.foldl_cons, List.foldl_nil, o_add, o_adds, o_addt, o_addl, o_sub, o_mul, o_mult, o_mull, o_muls, o_div, o_mod, o_pow, c_lt, c_le, c_gt, c_ge, c_eq, c_ne, c_in, c_ni, c_is, c_isn, e_int, e_str, e_bool, t_bl, t_int, t_lst, t_tup, t_non, f_lent, f_lenl, f_lens, f_lbt, f_lbl, f_lbs, f_inti, f_tupl, f_tupt, f_lstt, f_lstl, f_stri, y_non, y_bl, y_int, y_str, y_tup, y_lst, y_ins, rg_1, rg_2, sq_tup, sq_lst, zp_tup, en_lst, en_tup, aL_lst, sl_t, sl_s, Ty.below, List.any_cons, List.any_nil, subT, Bool.or_false, Bool.not_true, Bool.not_false, true_and, and_true, reduceCtorEq, decide_false, decide_true, Bool.false_eq_true, if_false, if_true, Bool.not_eq_true', Bool.not_not])
  rw [h_words]
  refine ⟨p, 2, rfl, by decide, by decide, hp, fun ws M1 wl wn wo s1 => ?_⟩
  obtain ⟨w, o, rfl⟩ : ∃ w o, ws = [w, o] := by
    match ws, wl with
    | [a, b], _ => exact ⟨a, b, rfl⟩
  have hw := wo w (by simp)
  have ho := wo o (by simp)
  have wne : w ≠ o := by simpa using wn
  simp only [wpSs_nil, wpS, wpE, wpEs, wpEo, wpC, wpT, wpSrc, Rd_val, Rd_new, frz_lst, frz_ins, List.getElem?_cons_zero, List.getElem?_cons_succ, List.set_cons_zero, List.set_cons_succ, kw_nil, bindT, wipeD, List.map_cons, List.map_nil, List.zip_cons_cons, List.zip_nil_right, List.zip_nil_left, List.foldl_cons, List.foldl_nil, o_add, o_adds, o_addt, o_addl, o_sub, o_mul, o_mult, o_mull, o_muls, o_div, o_mod, o_pow, c_lt, c_le, c_gt, c_ge, c_eq, c_ne, c_in, c_ni, c_is, c_isn, e_int, e_str, e_bool, t_bl, t_int, t_lst, t_tup, t_non, f_lent, f_lenl, f_lens, f_lbt, f_lbl, f_lbs, f_inti, f_tupl, f_tupt, f_lstt, f_lstl, f_stri, y_non, y_bl, y_int, y_str, y_tup, y_lst, y_ins, rg_1, rg_2, sq_tup, sq_lst, zp_tup, en_lst, en_tup, aL_lst, sl_t, sl_s, Ty.below, List.any_cons, List.any_nil, subT, Bool.or_false, Bool.not_true, Bool.not_false, true_and, and_true, reduceCtorEq, decide_false, decide_true, Bool.false_eq_true, if_false, if_true, Bool.not_eq_true', Bool.not_not]
  (rw [wpSs_cons]; simp only [wpSs_nil, wpS, wpE, wpEs, wpEo, wpC, wpT, wpSrc, Rd_val, Rd_new, frz_lst, frz_ins, List.getElem?_cons_zero, List.getElem?_cons_succ, List.set_cons_zero, List.set_cons_succ, kw_nil, bindT, wipeD, List.map_cons, List.map_nil, List.zip_cons_cons, List.zip_nil_right, List.zip_nil_left, List.foldl_cons, List.foldl_nil, o_add, o_adds, o_addt, o_addl, o_sub, o_mul, o_mult, o_mull, o_muls, o_div, o_mod, o_pow, c_lt, c_le, c_gt, c_ge, c_eq, c_ne, c_in, c_ni, c_is, c_isn, e_int, e_str, e_bool, t_bl, t_int, t_lst, t_tup, t_non, f_lent, f_lenl, f_lens, f_lbt, f_lbl, f_lbs, f_inti, f_tupl, f_tupt, f_lstt, f_lstl, f_stri, y_non, y_bl, y_int, y_str, y_tup, y_lst, y_ins, rg_1, rg_2, sq_tup, sq_lst, zp_tup, en_lst, en_tup, aL_lst, sl_t, sl_s, Ty.below, List.any_cons, List.any_nil, subT, Bool.or_false, Bool.not_true, Bool.not_false, true_and, and_true, reduceCtorEq, decide_false, decide_true, Bool.false_eq_true, if_false, if_true, Bool.not_eq_true', Bool.not_not])
  rw [ix_l (i := 0) (d := .str w) rfl, ix_l (i := 1) (d := .str o) rfl]
  refine ⟨rfl, ?_⟩
  (rw [wpSs_cons]; simp only [wpSs_nil, wpS, wpE, wpEs, wpEo, wpC, wpT, wpSrc, Rd_val, Rd_new, frz_lst, frz_ins, List.getElem?_cons_zero, List.getElem?_cons_succ, List.set_cons_zero, List.set_cons_succ, kw_nil, bindT, wipeD, List.map_cons, List.map_nil, List.zip_cons_cons, List.zip_nil_right, List.zip_nil_left, List.foldl_cons, List.foldl_nil, o_add, o_adds, o_addt, o_addl, o_sub, o_mul, o_mult, o_mull, o_muls, o_div, o_mod, o_pow, c_lt, c_le, c_gt, c_ge, c_eq, c_ne, c_in, c_ni, c_is, c_isn, e_int, e_str, e_bool, t_bl, t_int, t_lst, t_tup, t_non, f_lent, f_lenl, f_lens, f_lbt, f_lbl, f_lbs, f_inti, f_tupl, f_tupt, f_lstt, f_lstl, f_stri, y_non, y_bl, y_int, y_str, y_tup, y_lst, y_ins, rg_1, rg_2, sq_tup, sq_lst, zp_tup, en_lst, en_tup, aL_lst, sl_t, sl_s, Ty.below, List.any_cons, List.any_nil, subT, Bool.or_false, Bool.not_true, Bool.not_false, true_and, and_true, reduceCtorEq, decide_false, decide_true, Bool.false_eq_true, if_false, if_true, Bool.not_eq_true', Bool.not_not])
  rw [h_draw]
  refine ⟨p, 6, rfl, by decide, by decide, s1.pool, fun a M2 a0 a1 s2 => ?_⟩
  simp only [wpSs_nil, wpS, wpE, wpEs, wpEo, wpC, wpT, wpSrc, Rd_val, Rd_new, frz_lst, frz_ins, List.getElem?_cons_zero, List.getElem?_cons_succ, List.set_cons_zero, List.set_cons_succ, kw_nil, bindT, wipeD, List.map_cons, List.map_nil, List.zip_cons_cons, List.zip_nil_right, List.zip_nil_left, List.foldl_cons, List.foldl_nil, o_add, o_adds, o_addt, o_addl, o_sub, o_mul, o_mult, o_mull, o_muls, o_div, o_mod, o_pow, c_lt, c_le, c_gt, c_ge, c_eq, c_ne, c_in, c_ni, c_is, c_isn, e_int, e_str, e_bool, t_bl, t_int, t_lst, t_tup, t_non, f_lent, f_lenl, f_lens, f_lbt, f_lbl, f_lbs, f_inti, f_tupl, f_tupt, f_lstt, f_lstl, f_stri, y_non, y_bl, y_int, y_str, y_tup, y_lst, y_ins, rg_1, rg_2, sq_tup, sq_lst, zp_tup, en_lst, en_tup, aL_lst, sl_t, sl_s, Ty.below, List.any_cons, List.any_nil, subT, Bool.or_false, Bool.not_true, Bool.not_false, true_and, and_true, reduceCtorEq, decide_false, decide_true, Bool.false_eq_true, if_false, if_true, Bool.not_eq_true', Bool.not_not]
  refine ⟨by omega, ?_⟩
  refine comp_pool (p := p) (fun row : List Int => .tup (row.map .int)) (fun _ row => risesD (row.map D.int) 0 8 = true ∧ row ≠ [] ∧ row.length ≤ 8) _ s2.pool (fun _ _ => trivial) ?_ ?_
  · intro i x M3 K hx s3 hK
    simp only [wpSs_nil, wpS, wpE, wpEs, wpEo, wpC, wpT, wpSrc, Rd_val, Rd_new, frz_lst, frz_ins, List.getElem?_cons_zero, List.getElem?_cons_succ, List.set_cons_zero, List.set_cons_succ, kw_nil, bindT, wipeD, List.map_cons, List.map_nil, List.zip_cons_cons, List.zip_nil_right, List.zip_nil_left, List.foldl_cons, List.foldl_nil, o_add, o_adds, o_addt, o_addl, o_sub, o_mul, o_mult, o_mull, o_muls, o_div, o_mod, o_pow, c_lt, c_le, c_gt, c_ge, c_eq, c_ne, c_in, c_ni, c_is, c_isn, e_int, e_str, e_bool, t_bl, t_int, t_lst, t_tup, t_non, f_lent, f_lenl, f_lens, f_lbt, f_lbl, f_lbs, f_inti, f_tupl, f_tupt, f_lstt, f_lstl, f_stri, y_non, y_bl, y_int, y_str, y_tup, y_lst, y_ins, rg_1, rg_2, sq_tup, sq_lst, zp_tup, en_lst, en_tup, aL_lst, sl_t, sl_s, Ty.below, List.any_cons, List.any_nil, subT, Bool.or_false, Bool.not_true, Bool.not_false, true_and, and_true, reduceCtorEq, decide_false, decide_true, Bool.false_eq_true, if_false, if_true, Bool.not_eq_true', Bool.not_not]
    refine ⟨p, 7, rfl, by decide, by decide, s3.pool, fun b M4 b0 b1 s4 => ?_⟩
    simp only [wpSs_nil, wpS, wpE, wpEs, wpEo, wpC, wpT, wpSrc, Rd_val, Rd_new, frz_lst, frz_ins, List.getElem?_cons_zero, List.getElem?_cons_succ, List.set_cons_zero, List.set_cons_succ, kw_nil, bindT, wipeD, List.map_cons, List.map_nil, List.zip_cons_cons, List.zip_nil_right, List.zip_nil_left, List.foldl_cons, List.foldl_nil, o_add, o_adds, o_addt, o_addl, o_sub, o_mul, o_mult, o_mull, o_muls, o_div, o_mod, o_pow, c_lt, c_le, c_gt, c_ge, c_eq, c_ne, c_in, c_ni, c_is, c_isn, e_int, e_str, e_bool, t_bl, t_int, t_lst, t_tup, t_non, f_lent, f_lenl, f_lens, f_lbt, f_lbl, f_lbs, f_inti, f_tupl, f_tupt, f_lstt, f_lstl, f_stri, y_non, y_bl, y_int, y_str, y_tup, y_lst, y_ins, rg_1, rg_2, sq_tup, sq_lst, zp_tup, en_lst, en_tup, aL_lst, sl_t, sl_s, Ty.below, List.any_cons, List.any_nil, subT, Bool.or_false, Bool.not_true, Bool.not_false, true_and, and_true, reduceCtorEq, decide_false, decide_true, Bool.false_eq_true, if_false, if_true, Bool.not_eq_true', Bool.not_not]
    rw [h_vals]
    refine ⟨p, 2 + b, 5, rfl, by decide, by decide, by omega, by omega, s4.pool, fun row M5 hr s5 => ?_⟩
    exact hK row M5 ⟨rises_up (by omega) (row_rises (by omega) hr), row_ne hr, row_len (by omega) hr⟩ (s4.trans s5)
  intro rows M3 rl ro s3
  rw [rg_len] at rl
  have ok : rowsOk rows := ⟨by omega, by omega, fun r h => by
    obtain ⟨j, hj⟩ := List.mem_iff_getElem?.mp h
    exact ro j r hj⟩
  clear ro
  simp only [wpSs_nil, wpS, wpE, wpEs, wpEo, wpC, wpT, wpSrc, Rd_val, Rd_new, frz_lst, frz_ins, List.getElem?_cons_zero, List.getElem?_cons_succ, List.set_cons_zero, List.set_cons_succ, kw_nil, bindT, wipeD, List.map_cons, List.map_nil, List.zip_cons_cons, List.zip_nil_right, List.zip_nil_left, List.foldl_cons, List.foldl_nil, o_add, o_adds, o_addt, o_addl, o_sub, o_mul, o_mult, o_mull, o_muls, o_div, o_mod, o_pow, c_lt, c_le, c_gt, c_ge, c_eq, c_ne, c_in, c_ni, c_is, c_isn, e_int, e_str, e_bool, t_bl, t_int, t_lst, t_tup, t_non, f_lent, f_lenl, f_lens, f_lbt, f_lbl, f_lbs, f_inti, f_tupl, f_tupt, f_lstt, f_lstl, f_stri, y_non, y_bl, y_int, y_str, y_tup, y_lst, y_ins, rg_1, rg_2, sq_tup, sq_lst, zp_tup, en_lst, en_tup, aL_lst, sl_t, sl_s, Ty.below, List.any_cons, List.any_nil, subT, Bool.or_false, Bool.not_true, Bool.not_false, true_and, and_true, reduceCtorEq, decide_false, decide_true, Bool.false_eq_true, if_false, if_true, Bool.not_eq_true', Bool.not_not]
  (rw [wpSs_cons]; simp only [wpSs_nil, wpS, wpE, wpEs, wpEo, wpC, wpT, wpSrc, Rd_val, Rd_new, frz_lst, frz_ins, List.getElem?_cons_zero, List.getElem?_cons_succ, List.set_cons_zero, List.set_cons_succ, kw_nil, bindT, wipeD, List.map_cons, List.map_nil, List.zip_cons_cons, List.zip_nil_right, List.zip_nil_left, List.foldl_cons, List.foldl_nil, o_add, o_adds, o_addt, o_addl, o_sub, o_mul, o_mult, o_mull, o_muls, o_div, o_mod, o_pow, c_lt, c_le, c_gt, c_ge, c_eq, c_ne, c_in, c_ni, c_is, c_isn, e_int, e_str, e_bool, t_bl, t_int, t_lst, t_tup, t_non, f_lent, f_lenl, f_lens, f_lbt, f_lbl, f_lbs, f_inti, f_tupl, f_tupt, f_lstt, f_lstl, f_stri, y_non, y_bl, y_int, y_str, y_tup, y_lst, y_ins, rg_1, rg_2, sq_tup, sq_lst, zp_tup, en_lst, en_tup, aL_lst, sl_t, sl_s, Ty.below, List.any_cons, List.any_nil, subT, Bool.or_false, Bool.not_true, Bool.not_false, true_and, and_true, reduceCtorEq, decide_false, decide_true, Bool.false_eq_true, if_false, if_true, Bool.not_eq_true', Bool.not_not])
  rw [h_draw]
  refine ⟨p, 1000, rfl, by decide, by decide, s3.pool, fun b M4 b0 b1 s4 => ?_⟩
  simp only [wpSs_nil, wpS, wpE, wpEs, wpEo, wpC, wpT, wpSrc, Rd_val, Rd_new, frz_lst, frz_ins, List.getElem?_cons_zero, List.getElem?_cons_succ, List.set_cons_zero, List.set_cons_succ, kw_nil, bindT, wipeD, List.map_cons, List.map_nil, List.zip_cons_cons, List.zip_nil_right, List.zip_nil_left, List.foldl_cons, List.foldl_nil, o_add, o_adds, o_addt, o_addl, o_sub, o_mul, o_mult, o_mull, o_muls, o_div, o_mod, o_pow, c_lt, c_le, c_gt, c_ge, c_eq, c_ne, c_in, c_ni, c_is, c_isn, e_int, e_str, e_bool, t_bl, t_int, t_lst, t_tup, t_non, f_lent, f_lenl, f_lens, f_lbt, f_lbl, f_lbs, f_inti, f_tupl, f_tupt, f_lstt, f_lstl, f_stri, y_non, y_bl, y_int, y_str, y_tup, y_lst, y_ins, rg_1, rg_2, sq_tup, sq_lst, zp_tup, en_lst, en_tup, aL_lst, sl_t, sl_s, Ty.below, List.any_cons, List.any_nil, subT, Bool.or_false, Bool.not_true, Bool.not_false, true_and, and_true, reduceCtorEq, decide_false, decide_true, Bool.false_eq_true, if_false, if_true, Bool.not_eq_true', Bool.not_not]
  refine ⟨p, 3, rfl, by decide, by decide, s4.pool, fun r M5 r0 r1 s5 => ?_⟩
  obtain ⟨day, hday, e⟩ := at_pair3 (a := 0) (b := 999) (c := b) r0 r1
  simp only [wpSs_nil, wpS, wpE, wpEs, wpEo, wpC, wpT, wpSrc, Rd_val, Rd_new, frz_lst, frz_ins, List.getElem?_cons_zero, List.getElem?_cons_succ, List.set_cons_zero, List.set_cons_succ, kw_nil, bindT, wipeD, List.map_cons, List.map_nil, List.zip_cons_cons, List.zip_nil_right, List.zip_nil_left, List.foldl_cons, List.foldl_nil, o_add, o_adds, o_addt, o_addl, o_sub, o_mul, o_mult, o_mull, o_muls, o_div, o_mod, o_pow, c_lt, c_le, c_gt, c_ge, c_eq, c_ne, c_in, c_ni, c_is, c_isn, e_int, e_str, e_bool, t_bl, t_int, t_lst, t_tup, t_non, f_lent, f_lenl, f_lens, f_lbt, f_lbl, f_lbs, f_inti, f_tupl, f_tupt, f_lstt, f_lstl, f_stri, y_non, y_bl, y_int, y_str, y_tup, y_lst, y_ins, rg_1, rg_2, sq_tup, sq_lst, zp_tup, en_lst, en_tup, aL_lst, sl_t, sl_s, Ty.below, List.any_cons, List.any_nil, subT, Bool.or_false, Bool.not_true, Bool.not_false, true_and, and_true, reduceCtorEq, decide_false, decide_true, Bool.false_eq_true, if_false, if_true, Bool.not_eq_true', Bool.not_not]
  rw [ix_t (d := .int day) e]
  have d0 : 0 ≤ day := by omega
  have d1 : day ≤ 999 := by omega
  clear e hday
  have hp5 := s5.pool
  clear s5 s4 s3 s2 s1 hp
  (rw [wpSs_cons]; simp only [wpSs_nil, wpS, wpE, wpEs, wpEo, wpC, wpT, wpSrc, Rd_val, Rd_new, frz_lst, frz_ins, List.getElem?_cons_zero, List.getElem?_cons_succ, List.set_cons_zero, List.set_cons_succ, kw_nil, bindT, wipeD, List.map_cons, List.map_nil, List.zip_cons_cons, List.zip_nil_right, List.zip_nil_left, List.foldl_cons, List.foldl_nil, o_add, o_adds, o_addt, o_addl, o_sub, o_mul, o_mult, o_mull, o_muls, o_div, o_mod, o_pow, c_lt, c_le, c_gt, c_ge, c_eq, c_ne, c_in, c_ni, c_is, c_isn, e_int, e_str, e_bool, t_bl, t_int, t_lst, t_tup, t_non, f_lent, f_lenl, f_lens, f_lbt, f_lbl, f_lbs, f_inti, f_tupl, f_tupt, f_lstt, f_lstl, f_stri, y_non, y_bl, y_int, y_str, y_tup, y_lst, y_ins, rg_1, rg_2, sq_tup, sq_lst, zp_tup, en_lst, en_tup, aL_lst, sl_t, sl_s, Ty.below, List.any_cons, List.any_nil, subT, Bool.or_false, Bool.not_true, Bool.not_false, true_and, and_true, reduceCtorEq, decide_false, decide_true, Bool.false_eq_true, if_false, if_true, Bool.not_eq_true', Bool.not_not])
  refine ⟨fun i acc M' => ∃ qs : List Addr, acc = qs.map D.ref ∧ qs.length = i ∧ (∀ (j : Nat) (q : Addr) (r : List Int), qs[j]? = some q → rows[j]? = some r → q ≠ p ∧ M' q = some (.lst (r.map .int))) ∧ Step p M5 M', ⟨[], rfl, rfl, by simp, Step.refl hp5⟩, fun _ _ _ _ _ => trivial, ?_, ?_⟩
  · rintro i x acc M4 hx ⟨qs, rfl, rfl, hqq, s4⟩
    obtain ⟨f, hf, rfl⟩ := map_get hx
    simp only [wpSs_nil, wpS, wpE, wpEs, wpEo, wpC, wpT, wpSrc, Rd_val, Rd_new, frz_lst, frz_ins, List.getElem?_cons_zero, List.getElem?_cons_succ, List.set_cons_zero, List.set_cons_succ, kw_nil, bindT, wipeD, List.map_cons, List.map_nil, List.zip_cons_cons, List.zip_nil_right, List.zip_nil_left, List.foldl_cons, List.foldl_nil, o_add, o_adds, o_addt, o_addl, o_sub, o_mul, o_mult, o_mull, o_muls, o_div, o_mod, o_pow, c_lt, c_le, c_gt, c_ge, c_eq, c_ne, c_in, c_ni, c_is, c_isn, e_int, e_str, e_bool, t_bl, t_int, t_lst, t_tup, t_non, f_lent, f_lenl, f_lens, f_lbt, f_lbl, f_lbs, f_inti, f_tupl, f_tupt, f_lstt, f_lstl, f_stri, y_non, y_bl, y_int, y_str, y_tup, y_lst, y_ins, rg_1, rg_2, sq_tup, sq_lst, zp_tup, en_lst, en_tup, aL_lst, sl_t, sl_s, Ty.below, List.any_cons, List.any_nil, subT, Bool.or_false, Bool.not_true, Bool.not_false, true_and, and_true, reduceCtorEq, decide_false, decide_true, Bool.false_eq_true, if_false, if_true, Bool.not_eq_true', Bool.not_not]
    intro q hqn
    refine ⟨qs ++ [q], by simp, by simp, fun j q' g h1 h2 => ?_, s4.fresh hp5 (step_none s4 hqn)⟩
    by_cases e : j < qs.length
    · rw [List.getElem?_append_left e] at h1
      obtain ⟨a, b⟩ := hqq j q' g h1 h2
      exact ⟨a, by rw [mput_ne (fun z => by rw [z, hqn] at b; cases b)]; exact b⟩
    · have hj := (List.getElem?_eq_some_iff.mp h1).1
      rw [List.length_append, List.length_singleton] at hj
      have ej : j = qs.length := by omega
      subst ej
      rw [List.getElem?_append_right (Nat.le_refl _), Nat.sub_self] at h1
      cases h1
      rw [hf] at h2
      cases h2
      exact ⟨s4.pool.ne hqn, mput_same⟩
  rintro acc M4 ⟨qs, rfl, hl2, hqs, s4⟩
  rw [List.length_map] at hl2
  intro q hqn
  have r1 := ok.1
  have r6 := ok.2.1
  have s5 : Step p M5 (mput M4 q (.lst (qs.map D.ref))) := s4.fresh hp5 (step_none s4 hqn)
  have hq5 : mput M4 q (.lst (qs.map D.ref)) q = some (.lst (qs.map D.ref)) := mput_same
  have hqs5 : ∀ (j : Nat) (q1 : Addr) (r : List Int), qs[j]? = some q1 → rows[j]? = some r → q1 ≠ p ∧ mput M4 q (.lst (qs.map D.ref)) q1 = some (.lst (r.map .int)) := fun j q1 f h1 h2 => by
    obtain ⟨a, b⟩ := hqs j q1 f h1 h2
    refine ⟨a, ?_⟩
    rw [mput_ne (fun z => by rw [z, hqn] at b; cases b)]
    exact b
  have nqp : q ≠ p := s4.pool.ne hqn
  obtain ⟨q0, f0, hq0, hf0⟩ : ∃ q0 f0, qs[0]? = some q0 ∧ rows[0]? = some f0 := ⟨qs[0]'(by omega), rows[0]'(by omega), List.getElem?_eq_getElem (by omega), List.getElem?_eq_getElem (by omega)⟩
  have nqq : q ≠ q0 := fun z => by
    have := (hqs 0 q0 f0 hq0 hf0).2
    rw [← z, hqn] at this
    cases this
  generalize mput M4 q (.lst (qs.map D.ref)) = M6 at s5 hq5 hqs5
  have hm : MarksS M6 (.ref q) rows := ⟨ok, qs.map D.ref, seq_r hq5, by rw [List.length_map]; omega, fun i x r h1 h2 => by
    obtain ⟨q1, h3, rfl⟩ := map_get h1
    exact seq_r (hqs5 i q1 r h3 h2).2⟩
  (rw [wpSs_cons]; simp only [wpSs_nil, wpS, wpE, wpEs, wpEo, wpC, wpT, wpSrc, Rd_val, Rd_new, frz_lst, frz_ins, List.getElem?_cons_zero, List.getElem?_cons_succ, List.set_cons_zero, List.set_cons_succ, kw_nil, bindT, wipeD, List.map_cons, List.map_nil, List.zip_cons_cons, List.zip_nil_right, List.zip_nil_left, List.foldl_cons, List.foldl_nil, o_add, o_adds, o_addt, o_addl, o_sub, o_mul, o_mult, o_mull, o_muls, o_div, o_mod, o_pow, c_lt, c_le, c_gt, c_ge, c_eq, c_ne, c_in, c_ni, c_is, c_isn, e_int, e_str, e_bool, t_bl, t_int, t_lst, t_tup, t_non, f_lent, f_lenl, f_lens, f_lbt, f_lbl, f_lbs, f_inti, f_tupl, f_tupt, f_lstt, f_lstl, f_stri, y_non, y_bl, y_int, y_str, y_tup, y_lst, y_ins, rg_1, rg_2, sq_tup, sq_lst, zp_tup, en_lst, en_tup, aL_lst, sl_t, sl_s, Ty.below, List.any_cons, List.any_nil, subT, Bool.or_false, Bool.not_true, Bool.not_false, true_and, and_true, reduceCtorEq, decide_false, decide_true, Bool.false_eq_true, if_false, if_true, Bool.not_eq_true', Bool.not_not])
  rw [h_f]
  intro k1 hk1
  refine mk_find (f := (w, rows)) ⟨hw, ok⟩ hm hk1 fun M7 h7 e7 => ⟨rfl, _, h7, ?_⟩
  have s7 := Step.ext s5.pool e7
  generalize mdel M7 k1 = N7 at e7 s7
  simp only [wpSs_nil, wpS, wpE, wpEs, wpEo, wpC, wpT, wpSrc, Rd_val, Rd_new, frz_lst, frz_ins, List.getElem?_cons_zero, List.getElem?_cons_succ, List.set_cons_zero, List.set_cons_succ, kw_nil, bindT, wipeD, List.map_cons, List.map_nil, List.zip_cons_cons, List.zip_nil_right, List.zip_nil_left, List.foldl_cons, List.foldl_nil, o_add, o_adds, o_addt, o_addl, o_sub, o_mul, o_mult, o_mull, o_muls, o_div, o_mod, o_pow, c_lt, c_le, c_gt, c_ge, c_eq, c_ne, c_in, c_ni, c_is, c_isn, e_int, e_str, e_bool, t_bl, t_int, t_lst, t_tup, t_non, f_lent, f_lenl, f_lens, f_lbt, f_lbl, f_lbs, f_inti, f_tupl, f_tupt, f_lstt, f_lstl, f_stri, y_non, y_bl, y_int, y_str, y_tup, y_lst, y_ins, rg_1, rg_2, sq_tup, sq_lst, zp_tup, en_lst, en_tup, aL_lst, sl_t, sl_s, Ty.below, List.any_cons, List.any_nil, subT, Bool.or_false, Bool.not_true, Bool.not_false, true_and, and_true, reduceCtorEq, decide_false, decide_true, Bool.false_eq_true, if_false, if_true, Bool.not_eq_true', Bool.not_not]
  (rw [wpSs_cons]; simp only [wpSs_nil, wpS, wpE, wpEs, wpEo, wpC, wpT, wpSrc, Rd_val, Rd_new, frz_lst, frz_ins, List.getElem?_cons_zero, List.getElem?_cons_succ, List.set_cons_zero, List.set_cons_succ, kw_nil, bindT, wipeD, List.map_cons, List.map_nil, List.zip_cons_cons, List.zip_nil_right, List.zip_nil_left, List.foldl_cons, List.foldl_nil, o_add, o_adds, o_addt, o_addl, o_sub, o_mul, o_mult, o_mull, o_muls, o_div, o_mod, o_pow, c_lt, c_le, c_gt, c_ge, c_eq, c_ne, c_in, c_ni, c_is, c_isn, e_int, e_str, e_bool, t_bl, t_int, t_lst, t_tup, t_non, f_lent, f_lenl, f_lens, f_lbt, f_lbl, f_lbs, f_inti, f_tupl, f_tupt, f_lstt, f_lstl, f_stri, y_non, y_bl, y_int, y_str, y_tup, y_lst, y_ins, rg_1, rg_2, sq_tup, sq_lst, zp_tup, en_lst, en_tup, aL_lst, sl_t, sl_s, Ty.below, List.any_cons, List.any_nil, subT, Bool.or_false, Bool.not_true, Bool.not_false, true_and, and_true, reduceCtorEq, decide_false, decide_true, Bool.false_eq_true, if_false, if_true, Bool.not_eq_true', Bool.not_not])
  rw [h_c]
  intro k2 hk2
  have hm7 : MarksS N7 (.ref q) rows := by
    obtain ⟨a, xs, hS, hl, hr⟩ := hm
    exact ⟨a, xs, hS.ext e7, hl, fun i x r h1 h2 => (hr i x r h1 h2).ext e7⟩
  refine mk_claim (f := (w, rows, day)) ⟨hw, ok, d0, d1⟩ hm7 hk2 fun M8 h8 e8 => ⟨rfl, _, h8, ?_⟩
  have s8 := Step.ext s7.pool e8
  generalize mdel M8 k2 = N8 at e8 s8
  simp only [wpSs_nil, wpS, wpE, wpEs, wpEo, wpC, wpT, wpSrc, Rd_val, Rd_new, frz_lst, frz_ins, List.getElem?_cons_zero, List.getElem?_cons_succ, List.set_cons_zero, List.set_cons_succ, kw_nil, bindT, wipeD, List.map_cons, List.map_nil, List.zip_cons_cons, List.zip_nil_right, List.zip_nil_left, List.foldl_cons, List.foldl_nil, o_add, o_adds, o_addt, o_addl, o_sub, o_mul, o_mult, o_mull, o_muls, o_div, o_mod, o_pow, c_lt, c_le, c_gt, c_ge, c_eq, c_ne, c_in, c_ni, c_is, c_isn, e_int, e_str, e_bool, t_bl, t_int, t_lst, t_tup, t_non, f_lent, f_lenl, f_lens, f_lbt, f_lbl, f_lbs, f_inti, f_tupl, f_tupt, f_lstt, f_lstl, f_stri, y_non, y_bl, y_int, y_str, y_tup, y_lst, y_ins, rg_1, rg_2, sq_tup, sq_lst, zp_tup, en_lst, en_tup, aL_lst, sl_t, sl_s, Ty.below, List.any_cons, List.any_nil, subT, Bool.or_false, Bool.not_true, Bool.not_false, true_and, and_true, reduceCtorEq, decide_false, decide_true, Bool.false_eq_true, if_false, if_true, Bool.not_eq_true', Bool.not_not]
  have hq8 := e8 _ _ (e7 _ _ hq5)
  have g0 := e8 _ _ (e7 _ _ (hqs5 0 q0 f0 hq0 hf0).2)
  have nq0 := (hqs5 0 q0 f0 hq0 hf0).1
  (rw [wpSs_cons]; simp only [wpSs_nil, wpS, wpE, wpEs, wpEo, wpC, wpT, wpSrc, Rd_val, Rd_new, frz_lst, frz_ins, List.getElem?_cons_zero, List.getElem?_cons_succ, List.set_cons_zero, List.set_cons_succ, kw_nil, bindT, wipeD, List.map_cons, List.map_nil, List.zip_cons_cons, List.zip_nil_right, List.zip_nil_left, List.foldl_cons, List.foldl_nil, o_add, o_adds, o_addt, o_addl, o_sub, o_mul, o_mult, o_mull, o_muls, o_div, o_mod, o_pow, c_lt, c_le, c_gt, c_ge, c_eq, c_ne, c_in, c_ni, c_is, c_isn, e_int, e_str, e_bool, t_bl, t_int, t_lst, t_tup, t_non, f_lent, f_lenl, f_lens, f_lbt, f_lbl, f_lbs, f_inti, f_tupl, f_tupt, f_lstt, f_lstl, f_stri, y_non, y_bl, y_int, y_str, y_tup, y_lst, y_ins, rg_1, rg_2, sq_tup, sq_lst, zp_tup, en_lst, en_tup, aL_lst, sl_t, sl_s, Ty.below, List.any_cons, List.any_nil, subT, Bool.or_false, Bool.not_true, Bool.not_false, true_and, and_true, reduceCtorEq, decide_false, decide_true, Bool.false_eq_true, if_false, if_true, Bool.not_eq_true', Bool.not_not])
  rw [ix_c (i := 0) (d := .ref q0) hq8 (at_int (Int.le_refl 0) (by show (qs.map D.ref)[0]? = _; rw [List.getElem?_map, hq0]; rfl))]
  refine ⟨ty_c g0 (by simp), ?_⟩
  rw [app_c g0]
  refine ⟨by rw [List.length_map, hs]; have := (ok.2.2 f0 (List.mem_of_getElem? hf0)).2.2; omega, ?_⟩
  have hq9 : mput N8 q0 (.lst (f0.map D.int ++ [.int 8])) q = some (.lst (qs.map D.ref)) := by rw [mput_ne nqq]; exact hq8
  have hp9 := s8.pool.put (o := .lst (f0.map D.int ++ [.int 8])) nq0
  generalize mput N8 q0 (.lst (f0.map D.int ++ [.int 8])) = M9 at hq9 hp9
  (rw [wpSs_cons]; simp only [wpSs_nil, wpS, wpE, wpEs, wpEo, wpC, wpT, wpSrc, Rd_val, Rd_new, frz_lst, frz_ins, List.getElem?_cons_zero, List.getElem?_cons_succ, List.set_cons_zero, List.set_cons_succ, kw_nil, bindT, wipeD, List.map_cons, List.map_nil, List.zip_cons_cons, List.zip_nil_right, List.zip_nil_left, List.foldl_cons, List.foldl_nil, o_add, o_adds, o_addt, o_addl, o_sub, o_mul, o_mult, o_mull, o_muls, o_div, o_mod, o_pow, c_lt, c_le, c_gt, c_ge, c_eq, c_ne, c_in, c_ni, c_is, c_isn, e_int, e_str, e_bool, t_bl, t_int, t_lst, t_tup, t_non, f_lent, f_lenl, f_lens, f_lbt, f_lbl, f_lbs, f_inti, f_tupl, f_tupt, f_lstt, f_lstl, f_stri, y_non, y_bl, y_int, y_str, y_tup, y_lst, y_ins, rg_1, rg_2, sq_tup, sq_lst, zp_tup, en_lst, en_tup, aL_lst, sl_t, sl_s, Ty.below, List.any_cons, List.any_nil, subT, Bool.or_false, Bool.not_true, Bool.not_false, true_and, and_true, reduceCtorEq, decide_false, decide_true, Bool.false_eq_true, if_false, if_true, Bool.not_eq_true', Bool.not_not])
  refine ⟨ty_c hq9 (by simp), ?_⟩
  rw [app_c hq9]
  refine ⟨by rw [List.length_map, hs]; omega, ?_⟩
  have hp10 := hp9.put (o := .lst (qs.map D.ref ++ [.lst []])) nqp
  generalize mput M9 q (.lst (qs.map D.ref ++ [.lst []])) = M10 at hp10
  clear hq9 hp9 g0 hq8 s8 s7 hm7 e8 e7 hm hqs5 hq5 s5 hqs s4 h7 h8 hk1 hk2 hqn
  (rw [wpSs_cons]; simp only [wpSs_nil, wpS, wpE, wpEs, wpEo, wpC, wpT, wpSrc, Rd_val, Rd_new, frz_lst, frz_ins, List.getElem?_cons_zero, List.getElem?_cons_succ, List.set_cons_zero, List.set_cons_succ, kw_nil, bindT, wipeD, List.map_cons, List.map_nil, List.zip_cons_cons, List.zip_nil_right, List.zip_nil_left, List.foldl_cons, List.foldl_nil, o_add, o_adds, o_addt, o_addl, o_sub, o_mul, o_mult, o_mull, o_muls, o_div, o_mod, o_pow, c_lt, c_le, c_gt, c_ge, c_eq, c_ne, c_in, c_ni, c_is, c_isn, e_int, e_str, e_bool, t_bl, t_int, t_lst, t_tup, t_non, f_lent, f_lenl, f_lens, f_lbt, f_lbl, f_lbs, f_inti, f_tupl, f_tupt, f_lstt, f_lstl, f_stri, y_non, y_bl, y_int, y_str, y_tup, y_lst, y_ins, rg_1, rg_2, sq_tup, sq_lst, zp_tup, en_lst, en_tup, aL_lst, sl_t, sl_s, Ty.below, List.any_cons, List.any_nil, subT, Bool.or_false, Bool.not_true, Bool.not_false, true_and, and_true, reduceCtorEq, decide_false, decide_true, Bool.false_eq_true, if_false, if_true, Bool.not_eq_true', Bool.not_not])
  have n1 : ∀ M Q, fldS TT.nc TT.at_ (.ins 18 ["name", "marks"] [.str w, rowsD rows]) "name" M Q = Q (.str w) := fun M Q => fnd_name (f := (w, rows)) rfl rfl
  have n2 : ∀ M Q, fldS TT.nc TT.at_ (.ins 18 ["name", "marks"] [.str w, rowsD rows]) "marks" M Q = Q (rowsD rows) := fun M Q => fnd_marks (f := (w, rows)) rfl rfl
  have c1 : ∀ M Q, fldS TT.nc TT.at_ (.ins 19 ["marks", "name", "day"] [rowsD rows, .str w, .int day]) "name" M Q = Q (.str w) := fun M Q => clm_name (f := (w, rows, day)) rfl rfl
  have c2 : ∀ M Q, fldS TT.nc TT.at_ (.ins 19 ["marks", "name", "day"] [rowsD rows, .str w, .int day]) "marks" M Q = Q (rowsD rows) := fun M Q => clm_marks (f := (w, rows, day)) rfl rfl
  have c3 : ∀ M Q, fldS TT.nc TT.at_ (.ins 19 ["marks", "name", "day"] [rowsD rows, .str w, .int day]) "day" M Q = Q (.int day) := fun M Q => clm_day (f := (w, rows, day)) rfl rfl
  rw [n1, n2]
  have shw := str_sh (word_strOk hw)
  have skr : sokD (rowsD rows) = true := by
    simp only [rowsD, sokD, sok_rows rows fun r h => (ok.2.2 r h).2.2, Bool.and_true]
    exact decide_eq_true (by rw [List.length_map]; omega)
  have dpr : depD (rowsD rows) ≤ 2 := by
    have := dep_rows rows
    simp only [rowsD, depD]
    omega
  have skf : sokD (.tup [.str w, rowsD rows]) = true := by
    simp only [sokD, sokL, shw, skr, Bool.and_true]
    exact decide_eq_true (by simp)
  have skc : sokD (.tup [.str w, rowsD rows, .int day]) = true := by
    simp only [sokD, sokL, shw, skr, Bool.and_true]
    exact decide_eq_true (by simp)
  refine same_ok h_same (d := .tup [.str w, rowsD rows]) skf (by simp only [depD, depL]; omega) ?_
  simp only [wpSs_nil, wpS, wpE, wpEs, wpEo, wpC, wpT, wpSrc, Rd_val, Rd_new, frz_lst, frz_ins, List.getElem?_cons_zero, List.getElem?_cons_succ, List.set_cons_zero, List.set_cons_succ, kw_nil, bindT, wipeD, List.map_cons, List.map_nil, List.zip_cons_cons, List.zip_nil_right, List.zip_nil_left, List.foldl_cons, List.foldl_nil, o_add, o_adds, o_addt, o_addl, o_sub, o_mul, o_mult, o_mull, o_muls, o_div, o_mod, o_pow, c_lt, c_le, c_gt, c_ge, c_eq, c_ne, c_in, c_ni, c_is, c_isn, e_int, e_str, e_bool, t_bl, t_int, t_lst, t_tup, t_non, f_lent, f_lenl, f_lens, f_lbt, f_lbl, f_lbs, f_inti, f_tupl, f_tupt, f_lstt, f_lstl, f_stri, y_non, y_bl, y_int, y_str, y_tup, y_lst, y_ins, rg_1, rg_2, sq_tup, sq_lst, zp_tup, en_lst, en_tup, aL_lst, sl_t, sl_s, Ty.below, List.any_cons, List.any_nil, subT, Bool.or_false, Bool.not_true, Bool.not_false, true_and, and_true, reduceCtorEq, decide_false, decide_true, Bool.false_eq_true, if_false, if_true, Bool.not_eq_true', Bool.not_not]
  rw [c1, c2, c3]
  refine same_ok h_same (d := .tup [.str w, rowsD rows, .int day]) skc (by simp only [depD, depL]; omega) ?_
  simp only [wpSs_nil, wpS, wpE, wpEs, wpEo, wpC, wpT, wpSrc, Rd_val, Rd_new, frz_lst, frz_ins, List.getElem?_cons_zero, List.getElem?_cons_succ, List.set_cons_zero, List.set_cons_succ, kw_nil, bindT, wipeD, List.map_cons, List.map_nil, List.zip_cons_cons, List.zip_nil_right, List.zip_nil_left, List.foldl_cons, List.foldl_nil, o_add, o_adds, o_addt, o_addl, o_sub, o_mul, o_mult, o_mull, o_muls, o_div, o_mod, o_pow, c_lt, c_le, c_gt, c_ge, c_eq, c_ne, c_in, c_ni, c_is, c_isn, e_int, e_str, e_bool, t_bl, t_int, t_lst, t_tup, t_non, f_lent, f_lenl, f_lens, f_lbt, f_lbl, f_lbs, f_inti, f_tupl, f_tupt, f_lstt, f_lstl, f_stri, y_non, y_bl, y_int, y_str, y_tup, y_lst, y_ins, rg_1, rg_2, sq_tup, sq_lst, zp_tup, en_lst, en_tup, aL_lst, sl_t, sl_s, Ty.below, List.any_cons, List.any_nil, subT, Bool.or_false, Bool.not_true, Bool.not_false, true_and, and_true, reduceCtorEq, decide_false, decide_true, Bool.false_eq_true, if_false, if_true, Bool.not_eq_true', Bool.not_not]
  (rw [wpSs_cons]; simp only [wpSs_nil, wpS, wpE, wpEs, wpEo, wpC, wpT, wpSrc, Rd_val, Rd_new, frz_lst, frz_ins, List.getElem?_cons_zero, List.getElem?_cons_succ, List.set_cons_zero, List.set_cons_succ, kw_nil, bindT, wipeD, List.map_cons, List.map_nil, List.zip_cons_cons, List.zip_nil_right, List.zip_nil_left, List.foldl_cons, List.foldl_nil, o_add, o_adds, o_addt, o_addl, o_sub, o_mul, o_mult, o_mull, o_muls, o_div, o_mod, o_pow, c_lt, c_le, c_gt, c_ge, c_eq, c_ne, c_in, c_ni, c_is, c_isn, e_int, e_str, e_bool, t_bl, t_int, t_lst, t_tup, t_non, f_lent, f_lenl, f_lens, f_lbt, f_lbl, f_lbs, f_inti, f_tupl, f_tupt, f_lstt, f_lstl, f_stri, y_non, y_bl, y_int, y_str, y_tup, y_lst, y_ins, rg_1, rg_2, sq_tup, sq_lst, zp_tup, en_lst, en_tup, aL_lst, sl_t, sl_s, Ty.below, List.any_cons, List.any_nil, subT, Bool.or_false, Bool.not_true, Bool.not_false, true_and, and_true, reduceCtorEq, decide_false, decide_true, Bool.false_eq_true, if_false, if_true, Bool.not_eq_true', Bool.not_not])
  simp only [kw_f, kw_c]
  rw [h_f, h_c]
  intro k1 hk1
  refine mk_find (f := (w, rows)) ⟨hw, ok⟩ (marks_t ok) hk1 fun M11 h11 e11 => ⟨rfl, _, h11, ?_⟩
  have s11 := Step.ext hp10 e11
  generalize mdel M11 k1 = N11 at e11 s11
  simp only [wpSs_nil, wpS, wpE, wpEs, wpEo, wpC, wpT, wpSrc, Rd_val, Rd_new, frz_lst, frz_ins, List.getElem?_cons_zero, List.getElem?_cons_succ, List.set_cons_zero, List.set_cons_succ, kw_nil, bindT, wipeD, List.map_cons, List.map_nil, List.zip_cons_cons, List.zip_nil_right, List.zip_nil_left, List.foldl_cons, List.foldl_nil, o_add, o_adds, o_addt, o_addl, o_sub, o_mul, o_mult, o_mull, o_muls, o_div, o_mod, o_pow, c_lt, c_le, c_gt, c_ge, c_eq, c_ne, c_in, c_ni, c_is, c_isn, e_int, e_str, e_bool, t_bl, t_int, t_lst, t_tup, t_non, f_lent, f_lenl, f_lens, f_lbt, f_lbl, f_lbs, f_inti, f_tupl, f_tupt, f_lstt, f_lstl, f_stri, y_non, y_bl, y_int, y_str, y_tup, y_lst, y_ins, rg_1, rg_2, sq_tup, sq_lst, zp_tup, en_lst, en_tup, aL_lst, sl_t, sl_s, Ty.below, List.any_cons, List.any_nil, subT, Bool.or_false, Bool.not_true, Bool.not_false, true_and, and_true, reduceCtorEq, decide_false, decide_true, Bool.false_eq_true, if_false, if_true, Bool.not_eq_true', Bool.not_not]
  refine own_ff tt_xs (f := (w, rows)) (g := (w, rows)) ⟨hw, ok⟩ ⟨hw, ok⟩ ?_
  rw [decide_eq_true (rfl : (w, rows) = (w, rows))]
  simp only [wpSs_nil, wpS, wpE, wpEs, wpEo, wpC, wpT, wpSrc, Rd_val, Rd_new, frz_lst, frz_ins, List.getElem?_cons_zero, List.getElem?_cons_succ, List.set_cons_zero, List.set_cons_succ, kw_nil, bindT, wipeD, List.map_cons, List.map_nil, List.zip_cons_cons, List.zip_nil_right, List.zip_nil_left, List.foldl_cons, List.foldl_nil, o_add, o_adds, o_addt, o_addl, o_sub, o_mul, o_mult, o_mull, o_muls, o_div, o_mod, o_pow, c_lt, c_le, c_gt, c_ge, c_eq, c_ne, c_in, c_ni, c_is, c_isn, e_int, e_str, e_bool, t_bl, t_int, t_lst, t_tup, t_non, f_lent, f_lenl, f_lens, f_lbt, f_lbl, f_lbs, f_inti, f_tupl, f_tupt, f_lstt, f_lstl, f_stri, y_non, y_bl, y_int, y_str, y_tup, y_lst, y_ins, rg_1, rg_2, sq_tup, sq_lst, zp_tup, en_lst, en_tup, aL_lst, sl_t, sl_s, Ty.below, List.any_cons, List.any_nil, subT, Bool.or_false, Bool.not_true, Bool.not_false, true_and, and_true, reduceCtorEq, decide_false, decide_true, Bool.false_eq_true, if_false, if_true, Bool.not_eq_true', Bool.not_not]
  intro k2 hk2
  refine mk_claim (f := (w, rows, day)) ⟨hw, ok, d0, d1⟩ (marks_t ok) hk2 fun M12 h12 e12 => ⟨rfl, _, h12, ?_⟩
  have s12 := Step.ext s11.pool e12
  generalize mdel M12 k2 = N12 at e12 s12
  simp only [wpSs_nil, wpS, wpE, wpEs, wpEo, wpC, wpT, wpSrc, Rd_val, Rd_new, frz_lst, frz_ins, List.getElem?_cons_zero, List.getElem?_cons_succ, List.set_cons_zero, List.set_cons_succ, kw_nil, bindT, wipeD, List.map_cons, List.map_nil, List.zip_cons_cons, List.zip_nil_right, List.zip_nil_left, List.foldl_cons, List.foldl_nil, o_add, o_adds, o_addt, o_addl, o_sub, o_mul, o_mult, o_mull, o_muls, o_div, o_mod, o_pow, c_lt, c_le, c_gt, c_ge, c_eq, c_ne, c_in, c_ni, c_is, c_isn, e_int, e_str, e_bool, t_bl, t_int, t_lst, t_tup, t_non, f_lent, f_lenl, f_lens, f_lbt, f_lbl, f_lbs, f_inti, f_tupl, f_tupt, f_lstt, f_lstl, f_stri, y_non, y_bl, y_int, y_str, y_tup, y_lst, y_ins, rg_1, rg_2, sq_tup, sq_lst, zp_tup, en_lst, en_tup, aL_lst, sl_t, sl_s, Ty.below, List.any_cons, List.any_nil, subT, Bool.or_false, Bool.not_true, Bool.not_false, true_and, and_true, reduceCtorEq, decide_false, decide_true, Bool.false_eq_true, if_false, if_true, Bool.not_eq_true', Bool.not_not]
  refine own_cc tt_xs (f := (w, rows, day)) (g := (w, rows, day)) ⟨hw, ok, d0, d1⟩ ⟨hw, ok, d0, d1⟩ ?_
  rw [decide_eq_true (rfl : (w, rows, day) = (w, rows, day))]
  refine same_ok h_same rfl (by simp [R.d, depD, depL]) ?_
  simp only [wpSs_nil, wpS, wpE, wpEs, wpEo, wpC, wpT, wpSrc, Rd_val, Rd_new, frz_lst, frz_ins, List.getElem?_cons_zero, List.getElem?_cons_succ, List.set_cons_zero, List.set_cons_succ, kw_nil, bindT, wipeD, List.map_cons, List.map_nil, List.zip_cons_cons, List.zip_nil_right, List.zip_nil_left, List.foldl_cons, List.foldl_nil, o_add, o_adds, o_addt, o_addl, o_sub, o_mul, o_mult, o_mull, o_muls, o_div, o_mod, o_pow, c_lt, c_le, c_gt, c_ge, c_eq, c_ne, c_in, c_ni, c_is, c_isn, e_int, e_str, e_bool, t_bl, t_int, t_lst, t_tup, t_non, f_lent, f_lenl, f_lens, f_lbt, f_lbl, f_lbs, f_inti, f_tupl, f_tupt, f_lstt, f_lstl, f_stri, y_non, y_bl, y_int, y_str, y_tup, y_lst, y_ins, rg_1, rg_2, sq_tup, sq_lst, zp_tup, en_lst, en_tup, aL_lst, sl_t, sl_s, Ty.below, List.any_cons, List.any_nil, subT, Bool.or_false, Bool.not_true, Bool.not_false, true_and, and_true, reduceCtorEq, decide_false, decide_true, Bool.false_eq_true, if_false, if_true, Bool.not_eq_true', Bool.not_not]
  (rw [wpSs_cons]; simp only [wpSs_nil, wpS, wpE, wpEs, wpEo, wpC, wpT, wpSrc, Rd_val, Rd_new, frz_lst, frz_ins, List.getElem?_cons_zero, List.getElem?_cons_succ, List.set_cons_zero, List.set_cons_succ, kw_nil, bindT, wipeD, List.map_cons, List.map_nil, List.zip_cons_cons, List.zip_nil_right, List.zip_nil_left, List.foldl_cons, List.foldl_nil, o_add, o_adds, o_addt, o_addl, o_sub, o_mul, o_mult, o_mull, o_muls, o_div, o_mod, o_pow, c_lt, c_le, c_gt, c_ge, c_eq, c_ne, c_in, c_ni, c_is, c_isn, e_int, e_str, e_bool, t_bl, t_int, t_lst, t_tup, t_non, f_lent, f_lenl, f_lens, f_lbt, f_lbl, f_lbs, f_inti, f_tupl, f_tupt, f_lstt, f_lstl, f_stri, y_non, y_bl, y_int, y_str, y_tup, y_lst, y_ins, rg_1, rg_2, sq_tup, sq_lst, zp_tup, en_lst, en_tup, aL_lst, sl_t, sl_s, Ty.below, List.any_cons, List.any_nil, subT, Bool.or_false, Bool.not_true, Bool.not_false, true_and, and_true, reduceCtorEq, decide_false, decide_true, Bool.false_eq_true, if_false, if_true, Bool.not_eq_true', Bool.not_not])
  rw [h_unl]
  refine ⟨p, w, rows, day, o, rfl, hw, ho, wne, ok, d0, d1, s12.pool, fun M13 s13 => ?_⟩
  simp only [wpSs_nil, wpS, wpE, wpEs, wpEo, wpC, wpT, wpSrc, Rd_val, Rd_new, frz_lst, frz_ins, List.getElem?_cons_zero, List.getElem?_cons_succ, List.set_cons_zero, List.set_cons_succ, kw_nil, bindT, wipeD, List.map_cons, List.map_nil, List.zip_cons_cons, List.zip_nil_right, List.zip_nil_left, List.foldl_cons, List.foldl_nil, o_add, o_adds, o_addt, o_addl, o_sub, o_mul, o_mult, o_mull, o_muls, o_div, o_mod, o_pow, c_lt, c_le, c_gt, c_ge, c_eq, c_ne, c_in, c_ni, c_is, c_isn, e_int, e_str, e_bool, t_bl, t_int, t_lst, t_tup, t_non, f_lent, f_lenl, f_lens, f_lbt, f_lbl, f_lbs, f_inti, f_tupl, f_tupt, f_lstt, f_lstl, f_stri, y_non, y_bl, y_int, y_str, y_tup, y_lst, y_ins, rg_1, rg_2, sq_tup, sq_lst, zp_tup, en_lst, en_tup, aL_lst, sl_t, sl_s, Ty.below, List.any_cons, List.any_nil, subT, Bool.or_false, Bool.not_true, Bool.not_false, true_and, and_true, reduceCtorEq, decide_false, decide_true, Bool.false_eq_true, if_false, if_true, Bool.not_eq_true', Bool.not_not]
  (rw [wpSs_cons]; simp only [wpSs_nil, wpS, wpE, wpEs, wpEo, wpC, wpT, wpSrc, Rd_val, Rd_new, frz_lst, frz_ins, List.getElem?_cons_zero, List.getElem?_cons_succ, List.set_cons_zero, List.set_cons_succ, kw_nil, bindT, wipeD, List.map_cons, List.map_nil, List.zip_cons_cons, List.zip_nil_right, List.zip_nil_left, List.foldl_cons, List.foldl_nil, o_add, o_adds, o_addt, o_addl, o_sub, o_mul, o_mult, o_mull, o_muls, o_div, o_mod, o_pow, c_lt, c_le, c_gt, c_ge, c_eq, c_ne, c_in, c_ni, c_is, c_isn, e_int, e_str, e_bool, t_bl, t_int, t_lst, t_tup, t_non, f_lent, f_lenl, f_lens, f_lbt, f_lbl, f_lbs, f_inti, f_tupl, f_tupt, f_lstt, f_lstl, f_stri, y_non, y_bl, y_int, y_str, y_tup, y_lst, y_ins, rg_1, rg_2, sq_tup, sq_lst, zp_tup, en_lst, en_tup, aL_lst, sl_t, sl_s, Ty.below, List.any_cons, List.any_nil, subT, Bool.or_false, Bool.not_true, Bool.not_false, true_and, and_true, reduceCtorEq, decide_false, decide_true, Bool.false_eq_true, if_false, if_true, Bool.not_eq_true', Bool.not_not])
  refine ⟨⟨by decide, by decide⟩, ?_⟩
  refine ⟨fun i ρ M' => ∃ (y8 : Option D), ρ = [some (.lst (ns.map .int)), some (.ref p), some (.lst ([w, o].map .str)), some (rowsD rows), some (.int day), some (.ref q), some (.ins 18 ["name", "marks"] [.str w, rowsD rows]), some (.ins 19 ["marks", "name", "day"] [rowsD rows, .str w, .int day]), y8, some (.str w), some (.str o), none, none] ∧ PoolAt M' p, ⟨_, rfl, s13.pool⟩, fun _ _ _ _ _ => trivial, ?_, ?_⟩
  · rintro i x ρ M14 hx ⟨y8, rfl, hp14⟩
    simp only [wpSs_nil, wpS, wpE, wpEs, wpEo, wpC, wpT, wpSrc, Rd_val, Rd_new, frz_lst, frz_ins, List.getElem?_cons_zero, List.getElem?_cons_succ, List.set_cons_zero, List.set_cons_succ, kw_nil, bindT, wipeD, List.map_cons, List.map_nil, List.zip_cons_cons, List.zip_nil_right, List.zip_nil_left, List.foldl_cons, List.foldl_nil, o_add, o_adds, o_addt, o_addl, o_sub, o_mul, o_mult, o_mull, o_muls, o_div, o_mod, o_pow, c_lt, c_le, c_gt, c_ge, c_eq, c_ne, c_in, c_ni, c_is, c_isn, e_int, e_str, e_bool, t_bl, t_int, t_lst, t_tup, t_non, f_lent, f_lenl, f_lens, f_lbt, f_lbl, f_lbs, f_inti, f_tupl, f_tupt, f_lstt, f_lstl, f_stri, y_non, y_bl, y_int, y_str, y_tup, y_lst, y_ins, rg_1, rg_2, sq_tup, sq_lst, zp_tup, en_lst, en_tup, aL_lst, sl_t, sl_s, Ty.below, List.any_cons, List.any_nil, subT, Bool.or_false, Bool.not_true, Bool.not_false, true_and, and_true, reduceCtorEq, decide_false, decide_true, Bool.false_eq_true, if_false, if_true, Bool.not_eq_true', Bool.not_not]
    (rw [wpSs_cons]; simp only [wpSs_nil, wpS, wpE, wpEs, wpEo, wpC, wpT, wpSrc, Rd_val, Rd_new, frz_lst, frz_ins, List.getElem?_cons_zero, List.getElem?_cons_succ, List.set_cons_zero, List.set_cons_succ, kw_nil, bindT, wipeD, List.map_cons, List.map_nil, List.zip_cons_cons, List.zip_nil_right, List.zip_nil_left, List.foldl_cons, List.foldl_nil, o_add, o_adds, o_addt, o_addl, o_sub, o_mul, o_mult, o_mull, o_muls, o_div, o_mod, o_pow, c_lt, c_le, c_gt, c_ge, c_eq, c_ne, c_in, c_ni, c_is, c_isn, e_int, e_str, e_bool, t_bl, t_int, t_lst, t_tup, t_non, f_lent, f_lenl, f_lens, f_lbt, f_lbl, f_lbs, f_inti, f_tupl, f_tupt, f_lstt, f_lstl, f_stri, y_non, y_bl, y_int, y_str, y_tup, y_lst, y_ins, rg_1, rg_2, sq_tup, sq_lst, zp_tup, en_lst, en_tup, aL_lst, sl_t, sl_s, Ty.below, List.any_cons, List.any_nil, subT, Bool.or_false, Bool.not_true, Bool.not_false, true_and, and_true, reduceCtorEq, decide_false, decide_true, Bool.false_eq_true, if_false, if_true, Bool.not_eq_true', Bool.not_not])
    rw [h_wrong]
    refine ⟨p, w, rows, day, rfl, hw, ok, d0, d1, hp14, fun M15 s15 => ?_⟩
    simp only [wpSs_nil, wpS, wpE, wpEs, wpEo, wpC, wpT, wpSrc, Rd_val, Rd_new, frz_lst, frz_ins, List.getElem?_cons_zero, List.getElem?_cons_succ, List.set_cons_zero, List.set_cons_succ, kw_nil, bindT, wipeD, List.map_cons, List.map_nil, List.zip_cons_cons, List.zip_nil_right, List.zip_nil_left, List.foldl_cons, List.foldl_nil, o_add, o_adds, o_addt, o_addl, o_sub, o_mul, o_mult, o_mull, o_muls, o_div, o_mod, o_pow, c_lt, c_le, c_gt, c_ge, c_eq, c_ne, c_in, c_ni, c_is, c_isn, e_int, e_str, e_bool, t_bl, t_int, t_lst, t_tup, t_non, f_lent, f_lenl, f_lens, f_lbt, f_lbl, f_lbs, f_inti, f_tupl, f_tupt, f_lstt, f_lstl, f_stri, y_non, y_bl, y_int, y_str, y_tup, y_lst, y_ins, rg_1, rg_2, sq_tup, sq_lst, zp_tup, en_lst, en_tup, aL_lst, sl_t, sl_s, Ty.below, List.any_cons, List.any_nil, subT, Bool.or_false, Bool.not_true, Bool.not_false, true_and, and_true, reduceCtorEq, decide_false, decide_true, Bool.false_eq_true, if_false, if_true, Bool.not_eq_true', Bool.not_not]
    exact ⟨_, rfl, s15.pool⟩
  rintro ρ M14 ⟨y8, rfl, hp14⟩
  (rw [wpSs_cons]; simp only [wpSs_nil, wpS, wpE, wpEs, wpEo, wpC, wpT, wpSrc, Rd_val, Rd_new, frz_lst, frz_ins, List.getElem?_cons_zero, List.getElem?_cons_succ, List.set_cons_zero, List.set_cons_succ, kw_nil, bindT, wipeD, List.map_cons, List.map_nil, List.zip_cons_cons, List.zip_nil_right, List.zip_nil_left, List.foldl_cons, List.foldl_nil, o_add, o_adds, o_addt, o_addl, o_sub, o_mul, o_mult, o_mull, o_muls, o_div, o_mod, o_pow, c_lt, c_le, c_gt, c_ge, c_eq, c_ne, c_in, c_ni, c_is, c_isn, e_int, e_str, e_bool, t_bl, t_int, t_lst, t_tup, t_non, f_lent, f_lenl, f_lens, f_lbt, f_lbl, f_lbs, f_inti, f_tupl, f_tupt, f_lstt, f_lstl, f_stri, y_non, y_bl, y_int, y_str, y_tup, y_lst, y_ins, rg_1, rg_2, sq_tup, sq_lst, zp_tup, en_lst, en_tup, aL_lst, sl_t, sl_s, Ty.below, List.any_cons, List.any_nil, subT, Bool.or_false, Bool.not_true, Bool.not_false, true_and, and_true, reduceCtorEq, decide_false, decide_true, Bool.false_eq_true, if_false, if_true, Bool.not_eq_true', Bool.not_not])
  rw [c1, c2, c3, n2]
  refine same_ok h_same (d := .tup [.str w, rowsD rows, .int day, rowsD rows]) ?_ (by simp only [depD, depL]; omega) ?_
  · simp only [sokD, sokL, shw, skr, Bool.and_true]
    exact decide_eq_true (by simp)
  exact hq _

theorem okT_law_draw : SpOk TT N_law_draw ir_law_draw 2 sp_law_draw := ok_law_draw
theorem okT_law_pool : SpOk TT N_law_pool ir_law_pool 1 sp_law_pool := ok_law_pool
theorem okT_law_same (n : Nat) : SpOk (TT.at1 9 (sp_law_same n)) N_law_same ir_law_same 2 (sp_law_same (n + 1)) := ok_law_same n rfl
theorem okT_Claim___eq__ : SpOk TT N_Claim___eq__ ir_Claim___eq__ 2 sp_Claim___eq__ := by apply ok_Claim___eq__ <;> first | rfl | exact tt_xs
theorem okT_Find___eq__ : SpOk TT N_Find___eq__ ir_Find___eq__ 2 sp_Find___eq__ := by apply ok_Find___eq__ <;> first | rfl | exact tt_xs
theorem okT_is_integer : SpOk TT N_is_integer ir_is_integer 1 sp_is_integer := ok_is_integer
theorem okT_is_from_to : SpOk TT N_is_from_to ir_is_from_to 3 sp_is_from_to := by apply ok_is_from_to <;> first | rfl | exact tt_xs
theorem okT_is_word : SpOk TT N_is_word ir_is_word 1 sp_is_word := by apply ok_is_word <;> first | rfl | exact tt_xs
theorem okT_is_sequence : SpOk TT N_is_sequence ir_is_sequence 1 sp_is_sequence := ok_is_sequence
theorem okT_rises : SpOk TT N_rises ir_rises 2 sp_rises := by apply ok_rises <;> first | rfl | exact tt_xs
theorem okT_marks_from : SpOk TT N_marks_from ir_marks_from 1 sp_marks_from := by apply ok_marks_from <;> first | rfl | exact tt_xs
theorem okT_Claim_init : SpOk TT N_Claim_init ir_Claim_init 4 sp_Claim_init := by apply ok_Claim_init <;> first | rfl | exact tt_xs
theorem okT_Find_init : SpOk TT N_Find_init ir_Find_init 3 sp_Find_init := by apply ok_Find_init <;> first | rfl | exact tt_xs
theorem okT_law_unlike : SpOk TT N_law_unlike ir_law_unlike 5 sp_law_unlike := by apply ok_law_unlike <;> first | rfl | exact tt_xs
theorem okT_law_values : SpOk TT N_law_values ir_law_values 3 sp_law_values := by apply ok_law_values <;> first | rfl | exact tt_xs
theorem okT_law_words : SpOk TT N_law_words ir_law_words 2 sp_law_words := by apply ok_law_words <;> first | rfl | exact tt_xs
theorem okT_law_bad_day : SpOk TT N_law_bad_day ir_law_bad_day 1 sp_law_bad_day := by apply ok_law_bad_day <;> first | rfl | exact tt_xs
theorem okT_law_bad_marks : SpOk TT N_law_bad_marks ir_law_bad_marks 2 sp_law_bad_marks := by apply ok_law_bad_marks <;> first | rfl | exact tt_xs
theorem okT_law_bad_name : SpOk TT N_law_bad_name ir_law_bad_name 2 sp_law_bad_name := by apply ok_law_bad_name <;> first | rfl | exact tt_xs
theorem okT_law_refused : SpOk TT N_law_refused ir_law_refused 4 sp_law_refused := by apply ok_law_refused <;> first | rfl | exact tt_xs
theorem okT_law_wrong_ones : SpOk TT N_law_wrong_ones ir_law_wrong_ones 4 sp_law_wrong_ones := by apply ok_law_wrong_ones <;> first | rfl | exact tt_xs
theorem okT_law : SpOk TT N_law ir_law 1 sp_law := ok_law
end PL
namespace PL
open PySem PySem.Spec PyProof.Rows L2
theorem all_mk {P : Program} {w : World} {K : PySem.W.Frag} {h : Heap} {mg : Str → Option Value} {fa : Addr} {C19 C18 f1 f2 f3 f4 f5 f6 f7 f8 f9 f10 f11 f12 f13 f14 f15 f16 f17 f18 f19 f20 f21 f22 C17 C3 C4 f23 f24 : Addr} (X : K.In h) (G : h.Ns mainGlobals mg) (hfa : mg "law" = some (.ref fa))
    {od1 an1 od2 an2 od3 an3 od4 an4 od5 an5 od6 an6 od7 an7 od8 an8 od9 an9 od10 an10 od11 an11 od12 an12 od13 an13 od14 an14 od15 an15 od16 an16 od17 an17 od18 an18 od19 an19 od20 an20 od21 an21 od22 an22 od23 an23 od24 an24 : Option Addr} {sl1 sl2 sl3 sl4 sl5 sl6 sl7 sl8 sl9 sl10 sl11 sl12 sl13 sl14 sl15 sl16 sl17 sl18 sl19 sl20 sl21 sl22 sl23 sl24 : Array (Option Value)} {oc1 kV1 dc1 pm1 cd1 ct1 oc2 kV2 dc2 pm2 cd2 ct2 oc3 kV3 dc3 pm3 cd3 ct3 oc4 kV4 dc4 pm4 cd4 ct4 oc5 kV5 dc5 pm5 cd5 ct5 oc6 kV6 dc6 pm6 cd6 ct6 oc7 kV7 dc7 pm7 cd7 ct7 oc8 kV8 dc8 pm8 cd8 ct8 oc9 kV9 dc9 pm9 cd9 ct9 oc10 kV10 dc10 pm10 cd10 ct10 oc11 kV11 dc11 pm11 cd11 ct11 oc12 kV12 dc12 pm12 cd12 ct12 oc13 kV13 dc13 pm13 cd13 ct13 oc14 kV14 dc14 pm14 cd14 ct14 oc15 kV15 dc15 pm15 cd15 ct15 oc16 kV16 dc16 pm16 cd16 ct16 oc17 kV17 dc17 pm17 cd17 ct17 oc18 kV18 dc18 pm18 cd18 ct18 oc19 kV19 dc19 pm19 cd19 ct19 oc20 kV20 dc20 pm20 cd20 ct20 oc21 kV21 dc21 pm21 cd21 ct21 oc22 kV22 dc22 pm22 cd22 ct22 oc23 kV23 dc23 pm23 cd23 ct23 oc24 kV24 dc24 pm24 cd24 ct24 : Value} {nm3 q3 : Str} {N3 : Addr} {bs3 : List Value} {sn3 : List Str} {sb3 : List Value} {ab3 : Bool} {co3 : Option Bool} {dd3 : Option Addr} {m03 m13 m23 m33 m53 : Option Value} {nm4 q4 : Str} {N4 : Addr} {bs4 : List Value} {sn4 : List Str} {sb4 : List Value} {ab4 : Bool} {co4 : Option Bool} {dd4 : Option Addr} {m04 m14 m24 m34 m54 : Option Value} {tk1 tk2 tk3 tk4 tk5 : Nat}
    (c19C : PySem.W.nsIn K mainGlobals "Claim" = some (some (.ref C19)))
    (c19g : PySem.W.plainGet K C19 Str.empty = true)
    (c19d : PySem.W.hasDictIn K C19 = true)
    (c19o : PySem.W.plainOver K C19 = true)
    (c19s : PySem.W.findIn K (.ref C19) "__setattr__" = some (some (.builtin "object.__setattr__")))
    (c19h : PySem.W.findIn K (.ref C19) "__class__" = some (some (.builtin "object.__class__")))
    (c19m : PySem.W.mroIn K C19 (.type "object") = some true)
    (c19ne : PySem.W.findIn K (.ref C19) "__ne__" = some (some (.builtin "object.__ne__")))
    (c19k : PySem.W.makesIn K C19 = true)
    (c19p : PySem.W.keepIn K (.ref C19) = true)
    (c19a0 : PySem.W.findIn K (.ref C19) "marks" = some none)
    (c19a1 : PySem.W.findIn K (.ref C19) "name" = some none)
    (c19a2 : PySem.W.findIn K (.ref C19) "day" = some none)
    (c19i : PySem.W.isClsIn K C19 = true)
    (c19t : PySem.W.typeIn K (.ref C19) = some (.type "type"))
    (c19xint : PySem.W.mroIn K C19 (.type "int") = some false)
    (c19xstr : PySem.W.mroIn K C19 (.type "str") = some false)
    (c19xbool : PySem.W.mroIn K C19 (.type "bool") = some false)
    (c19xlist : PySem.W.mroIn K C19 (.type "list") = some false)
    (c19xtuple : PySem.W.mroIn K C19 (.type "tuple") = some false)
    (c19xdict : PySem.W.mroIn K C19 (.type "dict") = some false)
    (c19xnone : PySem.W.mroIn K C19 (.type "NoneType") = some false)
    (c19z19 : PySem.W.mroIn K C19 (.ref C19) = some true)
    (c19z18 : PySem.W.mroIn K C19 (.ref C18) = some false)
    (c18C : PySem.W.nsIn K mainGlobals "Find" = some (some (.ref C18)))
    (c18g : PySem.W.plainGet K C18 Str.empty = true)
    (c18d : PySem.W.hasDictIn K C18 = true)
    (c18o : PySem.W.plainOver K C18 = true)
    (c18s : PySem.W.findIn K (.ref C18) "__setattr__" = some (some (.builtin "object.__setattr__")))
    (c18h : PySem.W.findIn K (.ref C18) "__class__" = some (some (.builtin "object.__class__")))
    (c18m : PySem.W.mroIn K C18 (.type "object") = some true)
    (c18ne : PySem.W.findIn K (.ref C18) "__ne__" = some (some (.builtin "object.__ne__")))
    (c18k : PySem.W.makesIn K C18 = true)
    (c18p : PySem.W.keepIn K (.ref C18) = true)
    (c18a0 : PySem.W.findIn K (.ref C18) "name" = some none)
    (c18a1 : PySem.W.findIn K (.ref C18) "marks" = some none)
    (c18i : PySem.W.isClsIn K C18 = true)
    (c18t : PySem.W.typeIn K (.ref C18) = some (.type "type"))
    (c18xint : PySem.W.mroIn K C18 (.type "int") = some false)
    (c18xstr : PySem.W.mroIn K C18 (.type "str") = some false)
    (c18xbool : PySem.W.mroIn K C18 (.type "bool") = some false)
    (c18xlist : PySem.W.mroIn K C18 (.type "list") = some false)
    (c18xtuple : PySem.W.mroIn K C18 (.type "tuple") = some false)
    (c18xdict : PySem.W.mroIn K C18 (.type "dict") = some false)
    (c18xnone : PySem.W.mroIn K C18 (.type "NoneType") = some false)
    (c18z19 : PySem.W.mroIn K C18 (.ref C19) = some false)
    (c18z18 : PySem.W.mroIn K C18 (.ref C18) = some true)
    (hn0 : PySem.W.specialIn K (.builtin "object.__class__") "__get__" = some (some (.builtin "getset_descriptor.__get__")))
    (htk0 : PySem.W.takesIn K (.builtin "object.__class__") = some true)
    (x3C : PySem.W.nsIn K mainGlobals "InvalidMarks" = some (some (.ref C3)))
    (x3e : PySem.W.subIn K (.ref C3) (.type "BaseException") = some true)
    (x3t : PySem.W.typeIn K (.ref C3) = some (.type "type"))
    (x3d : PySem.W.hasDictIn K C3 = true)
    (x3ga : PySem.W.findIn K (.ref C3) "__getattribute__" = some (some (.builtin "BaseException.__getattribute__")))
    (x3gg : PySem.W.findIn K (.ref C3) "__getattr__" = some none)
    (x3f0 : PySem.W.findIn K (.ref C3) "value" = some none)
    (x3s3 : PySem.W.subIn K (.ref C3) (.ref C3) = some true)
    (x3s4 : PySem.W.subIn K (.ref C3) (.ref C4) = some false)
    (x4C : PySem.W.nsIn K mainGlobals "InvalidThing" = some (some (.ref C4)))
    (x4e : PySem.W.subIn K (.ref C4) (.type "BaseException") = some true)
    (x4t : PySem.W.typeIn K (.ref C4) = some (.type "type"))
    (x4d : PySem.W.hasDictIn K C4 = true)
    (x4ga : PySem.W.findIn K (.ref C4) "__getattribute__" = some (some (.builtin "BaseException.__getattribute__")))
    (x4gg : PySem.W.findIn K (.ref C4) "__getattr__" = some none)
    (x4f0 : PySem.W.findIn K (.ref C4) "part" = some none)
    (x4s3 : PySem.W.subIn K (.ref C4) (.ref C3) = some false)
    (x4s4 : PySem.W.subIn K (.ref C4) (.ref C4) = some true)
    (x3L : K.lookup C3 = some (excClassObj nm3 q3 C3 N3 bs3 [.ref C17, .type "ValueError", .type "Exception", .type "BaseException", .type "object"] true sn3 sb3 ab3 co3 dd3 m03 m13 m23 m33 m53 "ValueError.__new__"))
    (x3sa : PySem.W.findIn K (.ref C3) "__setattr__" = some (some (.builtin "object.__setattr__")))
    (x3k : PySem.W.keepIn K (.ref C3) = true)
    (a23 : PySem.W.findIn K (.ref C3) "__init__" = some (some (.ref f23)))
    (t23 : PySem.W.typeIn K (.ref f23) = some (.type "function"))
    (l23 : K.lookup f23 = some ⟨oc23, od23, .func (PySem.W.fnOf "__init__" "InvalidMarks.__init__" (defArgs s_InvalidMarks_init) (defBody s_InvalidMarks_init) (defScope s_InvalidMarks_init) .none kV23 dc23 pm23 an23 cd23 ct23), sl23⟩)
    (d23 : PySem.W.codeIn K cd23 "InvalidMarks.__init__" = true)
    (k23 : PySem.W.keepIn K (.ref f23) = true)
    (x4L : K.lookup C4 = some (excClassObj nm4 q4 C4 N4 bs4 [.ref C17, .type "ValueError", .type "Exception", .type "BaseException", .type "object"] true sn4 sb4 ab4 co4 dd4 m04 m14 m24 m34 m54 "ValueError.__new__"))
    (x4sa : PySem.W.findIn K (.ref C4) "__setattr__" = some (some (.builtin "object.__setattr__")))
    (x4k : PySem.W.keepIn K (.ref C4) = true)
    (a24 : PySem.W.findIn K (.ref C4) "__init__" = some (some (.ref f24)))
    (t24 : PySem.W.typeIn K (.ref f24) = some (.type "function"))
    (l24 : K.lookup f24 = some ⟨oc24, od24, .func (PySem.W.fnOf "__init__" "InvalidThing.__init__" (defArgs s_InvalidThing_init) (defBody s_InvalidThing_init) (defScope s_InvalidThing_init) .none kV24 dc24 pm24 an24 cd24 ct24), sl24⟩)
    (d24 : PySem.W.codeIn K cd24 "InvalidThing.__init__" = true)
    (k24 : PySem.W.keepIn K (.ref f24) = true)
    (g1 : PySem.W.nsIn K mainGlobals "LETTERS" = some (some (.str "abcdefghijklmnopqrstuvwxyz" tk1)))
    (g7 : PySem.W.nsIn K mainGlobals "MOST_DAY" = some (some (.int 999 tk2)))
    (g4 : PySem.W.nsIn K mainGlobals "MOST_FEATURES" = some (some (.int 6 tk3)))
    (g3 : PySem.W.nsIn K mainGlobals "MOST_VALUES" = some (some (.int 8 tk4)))
    (g0 : PySem.W.nsIn K mainGlobals "MOST_WORD" = some (some (.int 12 tk5)))
    (a1 : PySem.W.nsIn K mainGlobals "_law_draw" = some (some (.ref f1)))
    (l1 : K.lookup f1 = some ⟨oc1, od1, .func (PySem.W.fnOf "_law_draw" "_law_draw" (defArgs s_law_draw) (defBody s_law_draw) (defScope s_law_draw) .none kV1 dc1 pm1 an1 cd1 ct1), sl1⟩)
    (d1 : PySem.W.codeIn K cd1 "_law_draw" = true)
    (k1 : PySem.W.keepIn K (.ref f1) = true)
    (a2 : PySem.W.nsIn K mainGlobals "_law_pool" = some (some (.ref f2)))
    (l2 : K.lookup f2 = some ⟨oc2, od2, .func (PySem.W.fnOf "_law_pool" "_law_pool" (defArgs s_law_pool) (defBody s_law_pool) (defScope s_law_pool) .none kV2 dc2 pm2 an2 cd2 ct2), sl2⟩)
    (d2 : PySem.W.codeIn K cd2 "_law_pool" = true)
    (k2 : PySem.W.keepIn K (.ref f2) = true)
    (a3 : PySem.W.nsIn K mainGlobals "_law_same" = some (some (.ref f3)))
    (l3 : K.lookup f3 = some ⟨oc3, od3, .func (PySem.W.fnOf "_law_same" "_law_same" (defArgs s_law_same) (defBody s_law_same) (defScope s_law_same) .none kV3 dc3 pm3 an3 cd3 ct3), sl3⟩)
    (d3 : PySem.W.codeIn K cd3 "_law_same" = true)
    (k3 : PySem.W.keepIn K (.ref f3) = true)
    (a4 : PySem.W.findIn K (.ref C19) "__eq__" = some (some (.ref f4)))
    (i4 : PySem.W.isFn K (.ref f4) = true)
    (l4 : K.lookup f4 = some ⟨oc4, od4, .func (PySem.W.fnOf "__eq__" "Claim.__eq__" (defArgs s_Claim___eq__) (defBody s_Claim___eq__) (defScope s_Claim___eq__) .none kV4 dc4 pm4 an4 cd4 ct4), sl4⟩)
    (d4 : PySem.W.codeIn K cd4 "Claim.__eq__" = true)
    (k4 : PySem.W.keepIn K (.ref f4) = true)
    (a5 : PySem.W.findIn K (.ref C18) "__eq__" = some (some (.ref f5)))
    (i5 : PySem.W.isFn K (.ref f5) = true)
    (l5 : K.lookup f5 = some ⟨oc5, od5, .func (PySem.W.fnOf "__eq__" "Find.__eq__" (defArgs s_Find___eq__) (defBody s_Find___eq__) (defScope s_Find___eq__) .none kV5 dc5 pm5 an5 cd5 ct5), sl5⟩)
    (d5 : PySem.W.codeIn K cd5 "Find.__eq__" = true)
    (k5 : PySem.W.keepIn K (.ref f5) = true)
    (a6 : PySem.W.nsIn K mainGlobals "is_integer" = some (some (.ref f6)))
    (l6 : K.lookup f6 = some ⟨oc6, od6, .func (PySem.W.fnOf "is_integer" "is_integer" (defArgs s_is_integer) (defBody s_is_integer) (defScope s_is_integer) .none kV6 dc6 pm6 an6 cd6 ct6), sl6⟩)
    (d6 : PySem.W.codeIn K cd6 "is_integer" = true)
    (k6 : PySem.W.keepIn K (.ref f6) = true)
    (a7 : PySem.W.nsIn K mainGlobals "is_from_to" = some (some (.ref f7)))
    (l7 : K.lookup f7 = some ⟨oc7, od7, .func (PySem.W.fnOf "is_from_to" "is_from_to" (defArgs s_is_from_to) (defBody s_is_from_to) (defScope s_is_from_to) .none kV7 dc7 pm7 an7 cd7 ct7), sl7⟩)
    (d7 : PySem.W.codeIn K cd7 "is_from_to" = true)
    (k7 : PySem.W.keepIn K (.ref f7) = true)
    (a8 : PySem.W.nsIn K mainGlobals "is_word" = some (some (.ref f8)))
    (l8 : K.lookup f8 = some ⟨oc8, od8, .func (PySem.W.fnOf "is_word" "is_word" (defArgs s_is_word) (defBody s_is_word) (defScope s_is_word) .none kV8 dc8 pm8 an8 cd8 ct8), sl8⟩)
    (d8 : PySem.W.codeIn K cd8 "is_word" = true)
    (k8 : PySem.W.keepIn K (.ref f8) = true)
    (a9 : PySem.W.nsIn K mainGlobals "is_sequence" = some (some (.ref f9)))
    (l9 : K.lookup f9 = some ⟨oc9, od9, .func (PySem.W.fnOf "is_sequence" "is_sequence" (defArgs s_is_sequence) (defBody s_is_sequence) (defScope s_is_sequence) .none kV9 dc9 pm9 an9 cd9 ct9), sl9⟩)
    (d9 : PySem.W.codeIn K cd9 "is_sequence" = true)
    (k9 : PySem.W.keepIn K (.ref f9) = true)
    (a10 : PySem.W.nsIn K mainGlobals "rises" = some (some (.ref f10)))
    (l10 : K.lookup f10 = some ⟨oc10, od10, .func (PySem.W.fnOf "rises" "rises" (defArgs s_rises) (defBody s_rises) (defScope s_rises) .none kV10 dc10 pm10 an10 cd10 ct10), sl10⟩)
    (d10 : PySem.W.codeIn K cd10 "rises" = true)
    (k10 : PySem.W.keepIn K (.ref f10) = true)
    (a11 : PySem.W.nsIn K mainGlobals "marks_from" = some (some (.ref f11)))
    (l11 : K.lookup f11 = some ⟨oc11, od11, .func (PySem.W.fnOf "marks_from" "marks_from" (defArgs s_marks_from) (defBody s_marks_from) (defScope s_marks_from) .none kV11 dc11 pm11 an11 cd11 ct11), sl11⟩)
    (d11 : PySem.W.codeIn K cd11 "marks_from" = true)
    (k11 : PySem.W.keepIn K (.ref f11) = true)
    (a12 : PySem.W.findIn K (.ref C19) "__init__" = some (some (.ref f12)))
    (i12 : PySem.W.isFn K (.ref f12) = true)
    (l12 : K.lookup f12 = some ⟨oc12, od12, .func (PySem.W.fnOf "__init__" "Claim.__init__" (defArgs s_Claim_init) (defBody s_Claim_init) (defScope s_Claim_init) .none kV12 dc12 pm12 an12 cd12 ct12), sl12⟩)
    (d12 : PySem.W.codeIn K cd12 "Claim.__init__" = true)
    (k12 : PySem.W.keepIn K (.ref f12) = true)
    (a13 : PySem.W.findIn K (.ref C18) "__init__" = some (some (.ref f13)))
    (i13 : PySem.W.isFn K (.ref f13) = true)
    (l13 : K.lookup f13 = some ⟨oc13, od13, .func (PySem.W.fnOf "__init__" "Find.__init__" (defArgs s_Find_init) (defBody s_Find_init) (defScope s_Find_init) .none kV13 dc13 pm13 an13 cd13 ct13), sl13⟩)
    (d13 : PySem.W.codeIn K cd13 "Find.__init__" = true)
    (k13 : PySem.W.keepIn K (.ref f13) = true)
    (a14 : PySem.W.nsIn K mainGlobals "_law_unlike" = some (some (.ref f14)))
    (l14 : K.lookup f14 = some ⟨oc14, od14, .func (PySem.W.fnOf "_law_unlike" "_law_unlike" (defArgs s_law_unlike) (defBody s_law_unlike) (defScope s_law_unlike) .none kV14 dc14 pm14 an14 cd14 ct14), sl14⟩)
    (d14 : PySem.W.codeIn K cd14 "_law_unlike" = true)
    (k14 : PySem.W.keepIn K (.ref f14) = true)
    (a15 : PySem.W.nsIn K mainGlobals "_law_values" = some (some (.ref f15)))
    (l15 : K.lookup f15 = some ⟨oc15, od15, .func (PySem.W.fnOf "_law_values" "_law_values" (defArgs s_law_values) (defBody s_law_values) (defScope s_law_values) .none kV15 dc15 pm15 an15 cd15 ct15), sl15⟩)
    (d15 : PySem.W.codeIn K cd15 "_law_values" = true)
    (k15 : PySem.W.keepIn K (.ref f15) = true)
    (a16 : PySem.W.nsIn K mainGlobals "_law_words" = some (some (.ref f16)))
    (l16 : K.lookup f16 = some ⟨oc16, od16, .func (PySem.W.fnOf "_law_words" "_law_words" (defArgs s_law_words) (defBody s_law_words) (defScope s_law_words) .none kV16 dc16 pm16 an16 cd16 ct16), sl16⟩)
    (d16 : PySem.W.codeIn K cd16 "_law_words" = true)
    (k16 : PySem.W.keepIn K (.ref f16) = true)
    (a17 : PySem.W.nsIn K mainGlobals "_law_bad_day" = some (some (.ref f17)))
    (l17 : K.lookup f17 = some ⟨oc17, od17, .func (PySem.W.fnOf "_law_bad_day" "_law_bad_day" (defArgs s_law_bad_day) (defBody s_law_bad_day) (defScope s_law_bad_day) .none kV17 dc17 pm17 an17 cd17 ct17), sl17⟩)
    (d17 : PySem.W.codeIn K cd17 "_law_bad_day" = true)
    (k17 : PySem.W.keepIn K (.ref f17) = true)
    (a18 : PySem.W.nsIn K mainGlobals "_law_bad_marks" = some (some (.ref f18)))
    (l18 : K.lookup f18 = some ⟨oc18, od18, .func (PySem.W.fnOf "_law_bad_marks" "_law_bad_marks" (defArgs s_law_bad_marks) (defBody s_law_bad_marks) (defScope s_law_bad_marks) .none kV18 dc18 pm18 an18 cd18 ct18), sl18⟩)
    (d18 : PySem.W.codeIn K cd18 "_law_bad_marks" = true)
    (k18 : PySem.W.keepIn K (.ref f18) = true)
    (a19 : PySem.W.nsIn K mainGlobals "_law_bad_name" = some (some (.ref f19)))
    (l19 : K.lookup f19 = some ⟨oc19, od19, .func (PySem.W.fnOf "_law_bad_name" "_law_bad_name" (defArgs s_law_bad_name) (defBody s_law_bad_name) (defScope s_law_bad_name) .none kV19 dc19 pm19 an19 cd19 ct19), sl19⟩)
    (d19 : PySem.W.codeIn K cd19 "_law_bad_name" = true)
    (k19 : PySem.W.keepIn K (.ref f19) = true)
    (a20 : PySem.W.nsIn K mainGlobals "_law_refused" = some (some (.ref f20)))
    (l20 : K.lookup f20 = some ⟨oc20, od20, .func (PySem.W.fnOf "_law_refused" "_law_refused" (defArgs s_law_refused) (defBody s_law_refused) (defScope s_law_refused) .none kV20 dc20 pm20 an20 cd20 ct20), sl20⟩)
    (d20 : PySem.W.codeIn K cd20 "_law_refused" = true)
    (k20 : PySem.W.keepIn K (.ref f20) = true)
    (a21 : PySem.W.nsIn K mainGlobals "_law_wrong_ones" = some (some (.ref f21)))
    (l21 : K.lookup f21 = some ⟨oc21, od21, .func (PySem.W.fnOf "_law_wrong_ones" "_law_wrong_ones" (defArgs s_law_wrong_ones) (defBody s_law_wrong_ones) (defScope s_law_wrong_ones) .none kV21 dc21 pm21 an21 cd21 ct21), sl21⟩)
    (d21 : PySem.W.codeIn K cd21 "_law_wrong_ones" = true)
    (k21 : PySem.W.keepIn K (.ref f21) = true)
    (a22 : PySem.W.nsIn K mainGlobals "law" = some (some (.ref f22)))
    (l22 : K.lookup f22 = some ⟨oc22, od22, .func (PySem.W.fnOf "law" "law" (defArgs s_law) (defBody s_law) (defScope s_law) .none kV22 dc22 pm22 an22 cd22 ct22), sl22⟩)
    (d22 : PySem.W.codeIn K cd22 "law" = true)
    (k22 : PySem.W.keepIn K (.ref f22) = true)
    (z_range : PySem.W.nsIn K mainGlobals "range" = some none)
    (z_enumerate : PySem.W.nsIn K mainGlobals "enumerate" = some none)
    (z_zip : PySem.W.nsIn K mainGlobals "zip" = some none)
    (z_tuple : PySem.W.nsIn K mainGlobals "tuple" = some none)
    (z_reversed : PySem.W.nsIn K mainGlobals "reversed" = some none)
    (z_isinstance : PySem.W.nsIn K mainGlobals "isinstance" = some none)
    (z_len : PySem.W.nsIn K mainGlobals "len" = some none)
    (z_int : PySem.W.nsIn K mainGlobals "int" = some none)
    (z_str : PySem.W.nsIn K mainGlobals "str" = some none)
    (z_all : PySem.W.nsIn K mainGlobals "all" = some none)
    (z_any : PySem.W.nsIn K mainGlobals "any" = some none)
    (z_list : PySem.W.nsIn K mainGlobals "list" = some none)
    (z_max : PySem.W.nsIn K mainGlobals "max" = some none)
    (z_min : PySem.W.nsIn K mainGlobals "min" = some none)
    (z_abs : PySem.W.nsIn K mainGlobals "abs" = some none)
    (z_sum : PySem.W.nsIn K mainGlobals "sum" = some none)
    (z_bool : PySem.W.nsIn K mainGlobals "bool" = some none)
    (z_dict : PySem.W.nsIn K mainGlobals "dict" = some none)
    (z_NoneType : PySem.W.nsIn K mainGlobals "NoneType" = some none) :
    ∃ fd : FuncData, (∀ (s : Shared) (v : Value), BindsTo s fd ⟨[v], []⟩ [("script", v)]) ∧ ∀ base : Heap, K.In base → base.Ns mainGlobals mg → FnOk P w K mg base (L2.CX P w) 9 fa fd ["script"] (lawSpV K) := by
  have e := hfa.symm.trans (PySem.W.mg_of X G a22)
  cases e
  let cA : Nat → Addr := fun k => match k with
    | 19 => C19
    | 18 => C18
    | 3 => C3
    | 4 => C4
    | _ => 0
  let S : Cs := ⟨K, cA⟩
  have blt : ∀ x ∈ bltN, mg x = none := by
    intro x hx
    simp only [bltN, List.mem_cons, List.not_mem_nil, or_false] at hx
    rcases hx with rfl | rfl | rfl | rfl | rfl | rfl | rfl | rfl | rfl | rfl | rfl | rfl | rfl | rfl | rfl | rfl | rfl | rfl | rfl
    · exact PySem.W.mg_none_of X G z_range
    · exact PySem.W.mg_none_of X G z_enumerate
    · exact PySem.W.mg_none_of X G z_zip
    · exact PySem.W.mg_none_of X G z_tuple
    · exact PySem.W.mg_none_of X G z_reversed
    · exact PySem.W.mg_none_of X G z_isinstance
    · exact PySem.W.mg_none_of X G z_len
    · exact PySem.W.mg_none_of X G z_int
    · exact PySem.W.mg_none_of X G z_str
    · exact PySem.W.mg_none_of X G z_all
    · exact PySem.W.mg_none_of X G z_any
    · exact PySem.W.mg_none_of X G z_list
    · exact PySem.W.mg_none_of X G z_max
    · exact PySem.W.mg_none_of X G z_min
    · exact PySem.W.mg_none_of X G z_abs
    · exact PySem.W.mg_none_of X G z_sum
    · exact PySem.W.mg_none_of X G z_bool
    · exact PySem.W.mg_none_of X G z_dict
    · exact PySem.W.mg_none_of X G z_NoneType
  have clok : ∀ k, TT.nc k = true → ClsOk S.K (S.cA k) (TT.at_ k) := by
    intro k hk
    have hk : k = 19 ∨ k = 18 := by simpa [TT, t_nc] using hk
    rcases hk with rfl | rfl
    · refine ⟨⟨c19g, c19d, c19o, c19s⟩, fun f hf => ?_, c19h, hn0, htk0, c19m⟩
      have hf : f = "marks" ∨ f = "name" ∨ f = "day" := by simpa [TT, t_at] using hf
      rcases hf with rfl | rfl | rfl
      · exact c19a0
      · exact c19a1
      · exact c19a2
    · refine ⟨⟨c18g, c18d, c18o, c18s⟩, fun f hf => ?_, c18h, hn0, htk0, c18m⟩
      have hf : f = "name" ∨ f = "marks" := by simpa [TT, t_at] using hf
      rcases hf with rfl | rfl
      · exact c18a0
      · exact c18a1
  have kit : KitOk S TT.nc := by
    have nk : ∀ {k}, TT.nc k = true → k = 19 ∨ k = 18 := fun {k} hk => by simpa [TT, t_nc] using hk
    refine ⟨fun k hk t ht => ?_, fun k hk t ht => ?_, fun k j hk hj => ?_⟩
    · rcases nk hk with rfl | rfl
      · cases t with
        | int => exact kit_ct c19xint (by decide +kernel)
        | str => exact kit_ct c19xstr (by decide +kernel)
        | bool => exact kit_ct c19xbool (by decide +kernel)
        | list => exact kit_ct c19xlist (by decide +kernel)
        | tuple => exact kit_ct c19xtuple (by decide +kernel)
        | dict => exact kit_ct c19xdict (by decide +kernel)
        | none => exact kit_ct c19xnone (by decide +kernel)
        | cls j => exact absurd rfl (ht j)
      · cases t with
        | int => exact kit_ct c18xint (by decide +kernel)
        | str => exact kit_ct c18xstr (by decide +kernel)
        | bool => exact kit_ct c18xbool (by decide +kernel)
        | list => exact kit_ct c18xlist (by decide +kernel)
        | tuple => exact kit_ct c18xtuple (by decide +kernel)
        | dict => exact kit_ct c18xdict (by decide +kernel)
        | none => exact kit_ct c18xnone (by decide +kernel)
        | cls j => exact absurd rfl (ht j)
    · rcases nk hk with rfl | rfl
      · cases t with
        | int => exact kit_tc c19i c19t (by decide +kernel)
        | str => exact kit_tc c19i c19t (by decide +kernel)
        | bool => exact kit_tc c19i c19t (by decide +kernel)
        | list => exact kit_tc c19i c19t (by decide +kernel)
        | tuple => exact kit_tc c19i c19t (by decide +kernel)
        | dict => exact kit_tc c19i c19t (by decide +kernel)
        | none => exact kit_tc c19i c19t (by decide +kernel)
        | cls j => exact absurd rfl (ht j)
      · cases t with
        | int => exact kit_tc c18i c18t (by decide +kernel)
        | str => exact kit_tc c18i c18t (by decide +kernel)
        | bool => exact kit_tc c18i c18t (by decide +kernel)
        | list => exact kit_tc c18i c18t (by decide +kernel)
        | tuple => exact kit_tc c18i c18t (by decide +kernel)
        | dict => exact kit_tc c18i c18t (by decide +kernel)
        | none => exact kit_tc c18i c18t (by decide +kernel)
        | cls j => exact absurd rfl (ht j)
    · rcases nk hk with rfl | rfl
      · rcases nk hj with rfl | rfl
        · exact kit_cs
        · exact kit_cc c18i c18t c19z18 c19z19
      · rcases nk hj with rfl | rfl
        · exact kit_cc c19i c19t c18z19 c18z18
        · exact kit_cs
  have xk : ∀ {k}, TT.xc k = true → k = 3 ∨ k = 4 := fun {k} hk => by simpa [TT, t_xc] using hk
  have xm : ∀ k c, TT.xc k = true → TT.xc c = true → PySem.W.exmOne S.K (.ref (S.cA k)) (.ref (S.cA c)) = some (TT.sub k c) := by
    intro k c hk hc
    rcases xk hk with rfl | rfl
    · rcases xk hc with rfl | rfl
      · exact PySem.W.exm_ref x3e x3d x3t x3s3
      · exact PySem.W.exm_ref x4e x4d x4t x3s4
    · rcases xk hc with rfl | rfl
      · exact PySem.W.exm_ref x3e x3d x3t x4s3
      · exact PySem.W.exm_ref x4e x4d x4t x4s4
  have xfc : ∀ k, TT.xc k = true → XfC S.K (S.cA k) ∧ ∀ n ∈ TT.xf k, PySem.W.findIn S.K (.ref (S.cA k)) n = some none := by
    intro k hk
    rcases xk hk with rfl | rfl
    · refine ⟨⟨x3ga, x3gg, x3e, x3d⟩, fun n hn => ?_⟩
      have hn : n = "value" := by simpa [TT, t_xf] using hn
      rcases hn with rfl
      · exact x3f0
    · refine ⟨⟨x4ga, x4gg, x4e, x4d⟩, fun n hn => ?_⟩
      have hn : n = "part" := by simpa [TT, t_xf] using hn
      rcases hn with rfl
      · exact x4f0
  have F23 := fun_mk (st := s_InvalidMarks_init) l23 d23 k23
  have bx23 : Binds K (PySem.W.fnOf "__init__" "InvalidMarks.__init__" (defArgs s_InvalidMarks_init) (defBody s_InvalidMarks_init) (defScope s_InvalidMarks_init) .none kV23 dc23 pm23 an23 cd23 ct23) ["self", "value"] [] := F23.binds (ps := ["self", "value"]) fun _ _ _ _ _ _ us hl => match us, hl with | [_, _], _ => rfl
  have mkx3 : ∀ base, XrEnt P w mg base S TT 1 3 "InvalidMarks" 1 := fun base => ⟨f23, _, ["self", "value"], ["value"], ⟨⟨_, _, _, _, _, _, _, _, _, _, _, _, _, _, _, x3L, by rfl⟩, x3sa, x3e, x3t, x3k⟩, a23, t23, xi_one F23 sc_InvalidMarks_init rfl rfl rfl, bx23, PySem.W.mg_of X G x3C, rfl, rfl, rfl, fun g hg => by
      have hg : g = "value" := by simpa using hg
      rcases hg with rfl
      · exact x3f0⟩
  have F24 := fun_mk (st := s_InvalidThing_init) l24 d24 k24
  have bx24 : Binds K (PySem.W.fnOf "__init__" "InvalidThing.__init__" (defArgs s_InvalidThing_init) (defBody s_InvalidThing_init) (defScope s_InvalidThing_init) .none kV24 dc24 pm24 an24 cd24 ct24) ["self", "part"] [] := F24.binds (ps := ["self", "part"]) fun _ _ _ _ _ _ us hl => match us, hl with | [_, _], _ => rfl
  have mkx4 : ∀ base, XrEnt P w mg base S TT 1 4 "InvalidThing" 1 := fun base => ⟨f24, _, ["self", "part"], ["part"], ⟨⟨_, _, _, _, _, _, _, _, _, _, _, _, _, _, _, x4L, by rfl⟩, x4sa, x4e, x4t, x4k⟩, a24, t24, xi_one F24 sc_InvalidThing_init rfl rfl rfl, bx24, PySem.W.mg_of X G x4C, rfl, rfl, rfl, fun g hg => by
      have hg : g = "part" := by simpa using hg
      rcases hg with rfl
      · exact x4f0⟩
  have F1 := fun_mk (st := s_law_draw) l1 d1 k1
  have F2 := fun_mk (st := s_law_pool) l2 d2 k2
  have F3 := fun_mk (st := s_law_same) l3 d3 k3
  have F4 := fun_mk (st := s_Claim___eq__) l4 d4 k4
  have F5 := fun_mk (st := s_Find___eq__) l5 d5 k5
  have F6 := fun_mk (st := s_is_integer) l6 d6 k6
  have F7 := fun_mk (st := s_is_from_to) l7 d7 k7
  have F8 := fun_mk (st := s_is_word) l8 d8 k8
  have F9 := fun_mk (st := s_is_sequence) l9 d9 k9
  have F10 := fun_mk (st := s_rises) l10 d10 k10
  have F11 := fun_mk (st := s_marks_from) l11 d11 k11
  have F12 := fun_mk (st := s_Claim_init) l12 d12 k12
  have F13 := fun_mk (st := s_Find_init) l13 d13 k13
  have F14 := fun_mk (st := s_law_unlike) l14 d14 k14
  have F15 := fun_mk (st := s_law_values) l15 d15 k15
  have F16 := fun_mk (st := s_law_words) l16 d16 k16
  have F17 := fun_mk (st := s_law_bad_day) l17 d17 k17
  have F18 := fun_mk (st := s_law_bad_marks) l18 d18 k18
  have F19 := fun_mk (st := s_law_bad_name) l19 d19 k19
  have F20 := fun_mk (st := s_law_refused) l20 d20 k20
  have F21 := fun_mk (st := s_law_wrong_ones) l21 d21 k21
  have F22 := fun_mk (st := s_law) l22 d22 k22
  have b1_0 : BindOk K (PySem.W.fnOf "_law_draw" "_law_draw" (defArgs s_law_draw) (defBody s_law_draw) (defScope s_law_draw) .none kV1 dc1 pm1 an1 cd1 ct1) ["pool", "many"] (2, []) := ⟨fun us ws h1 h2 => match us, ws, h1, h2 with | [_, _], [], _, _ => rfl, fun s us ws _ h1 h2 => match us, ws, h1, h2 with | [_, _], [], _, _ => .of_eq rfl⟩
  have b2_0 : BindOk K (PySem.W.fnOf "_law_pool" "_law_pool" (defArgs s_law_pool) (defBody s_law_pool) (defScope s_law_pool) .none kV2 dc2 pm2 an2 cd2 ct2) ["script"] (1, []) := ⟨fun us ws h1 h2 => match us, ws, h1, h2 with | [_], [], _, _ => rfl, fun s us ws _ h1 h2 => match us, ws, h1, h2 with | [_], [], _, _ => .of_eq rfl⟩
  have b3_0 : BindOk K (PySem.W.fnOf "_law_same" "_law_same" (defArgs s_law_same) (defBody s_law_same) (defScope s_law_same) .none kV3 dc3 pm3 an3 cd3 ct3) ["told", "due"] (2, []) := ⟨fun us ws h1 h2 => match us, ws, h1, h2 with | [_, _], [], _, _ => rfl, fun s us ws _ h1 h2 => match us, ws, h1, h2 with | [_, _], [], _, _ => .of_eq rfl⟩
  have b4_0 : BindOk K (PySem.W.fnOf "__eq__" "Claim.__eq__" (defArgs s_Claim___eq__) (defBody s_Claim___eq__) (defScope s_Claim___eq__) .none kV4 dc4 pm4 an4 cd4 ct4) ["self", "other"] (2, []) := ⟨fun us ws h1 h2 => match us, ws, h1, h2 with | [_, _], [], _, _ => rfl, fun s us ws _ h1 h2 => match us, ws, h1, h2 with | [_, _], [], _, _ => .of_eq rfl⟩
  have b5_0 : BindOk K (PySem.W.fnOf "__eq__" "Find.__eq__" (defArgs s_Find___eq__) (defBody s_Find___eq__) (defScope s_Find___eq__) .none kV5 dc5 pm5 an5 cd5 ct5) ["self", "other"] (2, []) := ⟨fun us ws h1 h2 => match us, ws, h1, h2 with | [_, _], [], _, _ => rfl, fun s us ws _ h1 h2 => match us, ws, h1, h2 with | [_, _], [], _, _ => .of_eq rfl⟩
  have b6_0 : BindOk K (PySem.W.fnOf "is_integer" "is_integer" (defArgs s_is_integer) (defBody s_is_integer) (defScope s_is_integer) .none kV6 dc6 pm6 an6 cd6 ct6) ["value"] (1, []) := ⟨fun us ws h1 h2 => match us, ws, h1, h2 with | [_], [], _, _ => rfl, fun s us ws _ h1 h2 => match us, ws, h1, h2 with | [_], [], _, _ => .of_eq rfl⟩
  have b7_0 : BindOk K (PySem.W.fnOf "is_from_to" "is_from_to" (defArgs s_is_from_to) (defBody s_is_from_to) (defScope s_is_from_to) .none kV7 dc7 pm7 an7 cd7 ct7) ["value", "least", "most"] (3, []) := ⟨fun us ws h1 h2 => match us, ws, h1, h2 with | [_, _, _], [], _, _ => rfl, fun s us ws _ h1 h2 => match us, ws, h1, h2 with | [_, _, _], [], _, _ => .of_eq rfl⟩
  have b8_0 : BindOk K (PySem.W.fnOf "is_word" "is_word" (defArgs s_is_word) (defBody s_is_word) (defScope s_is_word) .none kV8 dc8 pm8 an8 cd8 ct8) ["value"] (1, []) := ⟨fun us ws h1 h2 => match us, ws, h1, h2 with | [_], [], _, _ => rfl, fun s us ws _ h1 h2 => match us, ws, h1, h2 with | [_], [], _, _ => .of_eq rfl⟩
  have b9_0 : BindOk K (PySem.W.fnOf "is_sequence" "is_sequence" (defArgs s_is_sequence) (defBody s_is_sequence) (defScope s_is_sequence) .none kV9 dc9 pm9 an9 cd9 ct9) ["value"] (1, []) := ⟨fun us ws h1 h2 => match us, ws, h1, h2 with | [_], [], _, _ => rfl, fun s us ws _ h1 h2 => match us, ws, h1, h2 with | [_], [], _, _ => .of_eq rfl⟩
  have b10_0 : BindOk K (PySem.W.fnOf "rises" "rises" (defArgs s_rises) (defBody s_rises) (defScope s_rises) .none kV10 dc10 pm10 an10 cd10 ct10) ["value", "bound"] (2, []) := ⟨fun us ws h1 h2 => match us, ws, h1, h2 with | [_, _], [], _, _ => rfl, fun s us ws _ h1 h2 => match us, ws, h1, h2 with | [_, _], [], _, _ => .of_eq rfl⟩
  have b11_0 : BindOk K (PySem.W.fnOf "marks_from" "marks_from" (defArgs s_marks_from) (defBody s_marks_from) (defScope s_marks_from) .none kV11 dc11 pm11 an11 cd11 ct11) ["value"] (1, []) := ⟨fun us ws h1 h2 => match us, ws, h1, h2 with | [_], [], _, _ => rfl, fun s us ws _ h1 h2 => match us, ws, h1, h2 with | [_], [], _, _ => .of_eq rfl⟩
  have b12_0 : BindOk K (PySem.W.fnOf "__init__" "Claim.__init__" (defArgs s_Claim_init) (defBody s_Claim_init) (defScope s_Claim_init) .none kV12 dc12 pm12 an12 cd12 ct12) ["self", "name", "marks", "day"] (4, []) := ⟨fun us ws h1 h2 => match us, ws, h1, h2 with | [_, _, _, _], [], _, _ => rfl, fun s us ws _ h1 h2 => match us, ws, h1, h2 with | [_, _, _, _], [], _, _ => .of_eq rfl⟩
  have b12_1 : BindOk K (PySem.W.fnOf "__init__" "Claim.__init__" (defArgs s_Claim_init) (defBody s_Claim_init) (defScope s_Claim_init) .none kV12 dc12 pm12 an12 cd12 ct12) ["self", "name", "marks", "day"] (1, ["day", "name", "marks"]) := ⟨fun us ws h1 h2 => match us, ws, h1, h2 with | [_], [_, _, _], _, _ => rfl, fun s us ws _ h1 h2 => match us, ws, h1, h2 with | [_], [_, _, _], _, _ => .of_eq rfl⟩
  have b13_0 : BindOk K (PySem.W.fnOf "__init__" "Find.__init__" (defArgs s_Find_init) (defBody s_Find_init) (defScope s_Find_init) .none kV13 dc13 pm13 an13 cd13 ct13) ["self", "name", "marks"] (3, []) := ⟨fun us ws h1 h2 => match us, ws, h1, h2 with | [_, _, _], [], _, _ => rfl, fun s us ws _ h1 h2 => match us, ws, h1, h2 with | [_, _, _], [], _, _ => .of_eq rfl⟩
  have b13_1 : BindOk K (PySem.W.fnOf "__init__" "Find.__init__" (defArgs s_Find_init) (defBody s_Find_init) (defScope s_Find_init) .none kV13 dc13 pm13 an13 cd13 ct13) ["self", "name", "marks"] (1, ["marks", "name"]) := ⟨fun us ws h1 h2 => match us, ws, h1, h2 with | [_], [_, _], _, _ => rfl, fun s us ws _ h1 h2 => match us, ws, h1, h2 with | [_], [_, _], _, _ => .of_eq rfl⟩
  have b14_0 : BindOk K (PySem.W.fnOf "_law_unlike" "_law_unlike" (defArgs s_law_unlike) (defBody s_law_unlike) (defScope s_law_unlike) .none kV14 dc14 pm14 an14 cd14 ct14) ["pool", "name", "marks", "day", "other"] (5, []) := ⟨fun us ws h1 h2 => match us, ws, h1, h2 with | [_, _, _, _, _], [], _, _ => rfl, fun s us ws _ h1 h2 => match us, ws, h1, h2 with | [_, _, _, _, _], [], _, _ => .of_eq rfl⟩
  have b15_0 : BindOk K (PySem.W.fnOf "_law_values" "_law_values" (defArgs s_law_values) (defBody s_law_values) (defScope s_law_values) .none kV15 dc15 pm15 an15 cd15 ct15) ["pool", "many", "way"] (3, []) := ⟨fun us ws h1 h2 => match us, ws, h1, h2 with | [_, _, _], [], _, _ => rfl, fun s us ws _ h1 h2 => match us, ws, h1, h2 with | [_, _, _], [], _, _ => .of_eq rfl⟩
  have b16_0 : BindOk K (PySem.W.fnOf "_law_words" "_law_words" (defArgs s_law_words) (defBody s_law_words) (defScope s_law_words) .none kV16 dc16 pm16 an16 cd16 ct16) ["pool", "many"] (2, []) := ⟨fun us ws h1 h2 => match us, ws, h1, h2 with | [_, _], [], _, _ => rfl, fun s us ws _ h1 h2 => match us, ws, h1, h2 with | [_, _], [], _, _ => .of_eq rfl⟩
  have b17_0 : BindOk K (PySem.W.fnOf "_law_bad_day" "_law_bad_day" (defArgs s_law_bad_day) (defBody s_law_bad_day) (defScope s_law_bad_day) .none kV17 dc17 pm17 an17 cd17 ct17) ["pool"] (1, []) := ⟨fun us ws h1 h2 => match us, ws, h1, h2 with | [_], [], _, _ => rfl, fun s us ws _ h1 h2 => match us, ws, h1, h2 with | [_], [], _, _ => .of_eq rfl⟩
  have b18_0 : BindOk K (PySem.W.fnOf "_law_bad_marks" "_law_bad_marks" (defArgs s_law_bad_marks) (defBody s_law_bad_marks) (defScope s_law_bad_marks) .none kV18 dc18 pm18 an18 cd18 ct18) ["pool", "marks"] (2, []) := ⟨fun us ws h1 h2 => match us, ws, h1, h2 with | [_, _], [], _, _ => rfl, fun s us ws _ h1 h2 => match us, ws, h1, h2 with | [_, _], [], _, _ => .of_eq rfl⟩
  have b19_0 : BindOk K (PySem.W.fnOf "_law_bad_name" "_law_bad_name" (defArgs s_law_bad_name) (defBody s_law_bad_name) (defScope s_law_bad_name) .none kV19 dc19 pm19 an19 cd19 ct19) ["pool", "name"] (2, []) := ⟨fun us ws h1 h2 => match us, ws, h1, h2 with | [_, _], [], _, _ => rfl, fun s us ws _ h1 h2 => match us, ws, h1, h2 with | [_, _], [], _, _ => .of_eq rfl⟩
  have b20_0 : BindOk K (PySem.W.fnOf "_law_refused" "_law_refused" (defArgs s_law_refused) (defBody s_law_refused) (defScope s_law_refused) .none kV20 dc20 pm20 an20 cd20 ct20) ["which", "name", "marks", "day"] (4, []) := ⟨fun us ws h1 h2 => match us, ws, h1, h2 with | [_, _, _, _], [], _, _ => rfl, fun s us ws _ h1 h2 => match us, ws, h1, h2 with | [_, _, _, _], [], _, _ => .of_eq rfl⟩
  have b21_0 : BindOk K (PySem.W.fnOf "_law_wrong_ones" "_law_wrong_ones" (defArgs s_law_wrong_ones) (defBody s_law_wrong_ones) (defScope s_law_wrong_ones) .none kV21 dc21 pm21 an21 cd21 ct21) ["pool", "name", "marks", "day"] (4, []) := ⟨fun us ws h1 h2 => match us, ws, h1, h2 with | [_, _, _, _], [], _, _ => rfl, fun s us ws _ h1 h2 => match us, ws, h1, h2 with | [_, _, _, _], [], _, _ => .of_eq rfl⟩
  refine ⟨PySem.W.fnOf "law" "law" (defArgs s_law) (defBody s_law) (defScope s_law) .none kV22 dc22 pm22 an22 cd22 ct22, fun s v => .of_eq rfl, fun base _ _ => ?_⟩
  have o1 : FnOk P w K mg base (L2.CX P w) 1 f1 _ ["pool", "many"] (lSp S TT 2 sp_law_draw) := def_ok ({ blt := blt, gl := AllG.get AllG.nil, fn := AllE.get AllE.nil, mt := AllE.get AllE.nil, mkr := AllE.get AllE.nil, cls := AllG.get AllG.nil, clok := clok, kit := kit, xr := AllX.get AllX.nil, hc := AllG.get AllG.nil, xm := xm, xfc := xfc, eqs := (fun _ hk => absurd hk Bool.false_ne_true) } : Ent P w mg base S TT K_law_draw 0) F1 sc_law_draw ck_law_draw okT_law_draw
  have e1 : FnEnt P w mg base S TT 1 "_law_draw" ["pool", "many"] [(2, [])] sp_law_draw := ⟨f1, _, o1, PySem.W.mg_of X G a1, k1, (AllF.cons b1_0 AllF.nil).all⟩
  have o2 : FnOk P w K mg base (L2.CX P w) 1 f2 _ ["script"] (lSp S TT 1 sp_law_pool) := def_ok ({ blt := blt, gl := AllG.get AllG.nil, fn := AllE.get AllE.nil, mt := AllE.get AllE.nil, mkr := AllE.get AllE.nil, cls := AllG.get AllG.nil, clok := clok, kit := kit, xr := AllX.get AllX.nil, hc := AllG.get AllG.nil, xm := xm, xfc := xfc, eqs := (fun _ hk => absurd hk Bool.false_ne_true) } : Ent P w mg base S TT K_law_pool 0) F2 sc_law_pool ck_law_pool okT_law_pool
  have e2 : FnEnt P w mg base S TT 1 "_law_pool" ["script"] [(1, [])] sp_law_pool := ⟨f2, _, o2, PySem.W.mg_of X G a2, k2, (AllF.cons b2_0 AllF.nil).all⟩
  have o3 : ∀ n, FnOk P w K mg base (L2.CX P w) n f3 (PySem.W.fnOf "_law_same" "_law_same" (defArgs s_law_same) (defBody s_law_same) (defScope s_law_same) .none kV3 dc3 pm3 an3 cd3 ct3) ["told", "due"] (lSp S TT 2 (sp_law_same n)) := by
    intro n
    induction n with
    | zero => exact fn_false (fun _ _ _ _ h => no_law_same h)
    | succ n ih0 =>
      have ih : FnEnt P w mg base S (TT.at1 9 (sp_law_same n)) n "_law_same" ["told", "due"] [(2, [])] (sp_law_same n) := ⟨f3, _, ih0, PySem.W.mg_of X G a3, k3, (AllF.cons b3_0 AllF.nil).all⟩
      exact def_ok (T := TT.at1 9 (sp_law_same n)) ({ blt := blt, gl := AllG.get AllG.nil, fn := AllE.get (.cons ⟨_, Nat.le_refl _, ih⟩ AllE.nil), mt := AllE.get AllE.nil, mkr := AllE.get AllE.nil, cls := AllG.get AllG.nil, clok := clok, kit := kit, xr := AllX.get AllX.nil, hc := AllG.get AllG.nil, xm := xm, xfc := xfc, eqs := (fun _ hk => absurd hk Bool.false_ne_true) } : Ent P w mg base S (TT.at1 9 (sp_law_same n)) K_law_same n) F3 sc_law_same ck_law_same (okT_law_same n)
  have e3 : FnEnt P w mg base S TT 6 "_law_same" ["told", "due"] [(2, [])] (sp_law_same 6) := ⟨f3, _, o3 6, PySem.W.mg_of X G a3, k3, (AllF.cons b3_0 AllF.nil).all⟩
  have o4 : FnOk P w K mg base (L2.CX P w) 1 f4 _ ["self", "other"] (lSp S TT 2 sp_Claim___eq__) := def_ok ({ blt := blt, gl := AllG.get AllG.nil, fn := AllE.get AllE.nil, mt := AllE.get AllE.nil, mkr := AllE.get AllE.nil, cls := AllG.get (.cons ⟨PySem.W.mg_of X G c19C, by decide +kernel⟩ AllG.nil), clok := clok, kit := kit, xr := AllX.get AllX.nil, hc := AllG.get AllG.nil, xm := xm, xfc := xfc, eqs := (fun _ hk => absurd hk Bool.false_ne_true) } : Ent P w mg base S TT K_Claim___eq__ 0) F4 sc_Claim___eq__ ck_Claim___eq__ okT_Claim___eq__
  have e4 : MtEnt P w mg base S TT 1 19 "__eq__" ["self", "other"] [(2, [])] sp_Claim___eq__ := ⟨f4, _, o4, ⟨a4, i4, k4⟩, (AllF.cons b4_0 AllF.nil).all⟩
  have o5 : FnOk P w K mg base (L2.CX P w) 1 f5 _ ["self", "other"] (lSp S TT 2 sp_Find___eq__) := def_ok ({ blt := blt, gl := AllG.get AllG.nil, fn := AllE.get AllE.nil, mt := AllE.get AllE.nil, mkr := AllE.get AllE.nil, cls := AllG.get (.cons ⟨PySem.W.mg_of X G c18C, by decide +kernel⟩ AllG.nil), clok := clok, kit := kit, xr := AllX.get AllX.nil, hc := AllG.get AllG.nil, xm := xm, xfc := xfc, eqs := (fun _ hk => absurd hk Bool.false_ne_true) } : Ent P w mg base S TT K_Find___eq__ 0) F5 sc_Find___eq__ ck_Find___eq__ okT_Find___eq__
  have e5 : MtEnt P w mg base S TT 1 18 "__eq__" ["self", "other"] [(2, [])] sp_Find___eq__ := ⟨f5, _, o5, ⟨a5, i5, k5⟩, (AllF.cons b5_0 AllF.nil).all⟩
  have o6 : FnOk P w K mg base (L2.CX P w) 1 f6 _ ["value"] (lSp S TT 1 sp_is_integer) := def_ok ({ blt := blt, gl := AllG.get AllG.nil, fn := AllE.get AllE.nil, mt := AllE.get AllE.nil, mkr := AllE.get AllE.nil, cls := AllG.get AllG.nil, clok := clok, kit := kit, xr := AllX.get AllX.nil, hc := AllG.get AllG.nil, xm := xm, xfc := xfc, eqs := (fun _ hk => absurd hk Bool.false_ne_true) } : Ent P w mg base S TT K_is_integer 0) F6 sc_is_integer ck_is_integer okT_is_integer
  have e6 : FnEnt P w mg base S TT 1 "is_integer" ["value"] [(1, [])] sp_is_integer := ⟨f6, _, o6, PySem.W.mg_of X G a6, k6, (AllF.cons b6_0 AllF.nil).all⟩
  have o7 : FnOk P w K mg base (L2.CX P w) 2 f7 _ ["value", "least", "most"] (lSp S TT 3 sp_is_from_to) := def_ok ({ blt := blt, gl := AllG.get AllG.nil, fn := AllE.get (.cons ⟨_, by decide, e6⟩ AllE.nil), mt := AllE.get AllE.nil, mkr := AllE.get AllE.nil, cls := AllG.get AllG.nil, clok := clok, kit := kit, xr := AllX.get AllX.nil, hc := AllG.get AllG.nil, xm := xm, xfc := xfc, eqs := (fun _ hk => absurd hk Bool.false_ne_true) } : Ent P w mg base S TT K_is_from_to 1) F7 sc_is_from_to ck_is_from_to okT_is_from_to
  have e7 : FnEnt P w mg base S TT 2 "is_from_to" ["value", "least", "most"] [(3, [])] sp_is_from_to := ⟨f7, _, o7, PySem.W.mg_of X G a7, k7, (AllF.cons b7_0 AllF.nil).all⟩
  have o8 : FnOk P w K mg base (L2.CX P w) 1 f8 _ ["value"] (lSp S TT 1 sp_is_word) := def_ok ({ blt := blt, gl := AllG.get (.cons ⟨_, (.str "abcdefghijklmnopqrstuvwxyz"), PySem.W.mg_of X G g1, ⟨_, rfl⟩, fun c M H ok => (by simp only [TT, t_gl, Den])⟩ (.cons ⟨_, (.int 12), PySem.W.mg_of X G g0, ⟨_, rfl⟩, fun c M H ok => (by simp only [TT, t_gl, Den])⟩ AllG.nil)), fn := AllE.get AllE.nil, mt := AllE.get AllE.nil, mkr := AllE.get AllE.nil, cls := AllG.get AllG.nil, clok := clok, kit := kit, xr := AllX.get AllX.nil, hc := AllG.get AllG.nil, xm := xm, xfc := xfc, eqs := (fun _ hk => absurd hk Bool.false_ne_true) } : Ent P w mg base S TT K_is_word 0) F8 sc_is_word ck_is_word okT_is_word
  have e8 : FnEnt P w mg base S TT 1 "is_word" ["value"] [(1, [])] sp_is_word := ⟨f8, _, o8, PySem.W.mg_of X G a8, k8, (AllF.cons b8_0 AllF.nil).all⟩
  have o9 : FnOk P w K mg base (L2.CX P w) 1 f9 _ ["value"] (lSp S TT 1 sp_is_sequence) := def_ok ({ blt := blt, gl := AllG.get AllG.nil, fn := AllE.get AllE.nil, mt := AllE.get AllE.nil, mkr := AllE.get AllE.nil, cls := AllG.get AllG.nil, clok := clok, kit := kit, xr := AllX.get AllX.nil, hc := AllG.get AllG.nil, xm := xm, xfc := xfc, eqs := (fun _ hk => absurd hk Bool.false_ne_true) } : Ent P w mg base S TT K_is_sequence 0) F9 sc_is_sequence ck_is_sequence okT_is_sequence
  have e9 : FnEnt P w mg base S TT 1 "is_sequence" ["value"] [(1, [])] sp_is_sequence := ⟨f9, _, o9, PySem.W.mg_of X G a9, k9, (AllF.cons b9_0 AllF.nil).all⟩
  have o10 : FnOk P w K mg base (L2.CX P w) 3 f10 _ ["value", "bound"] (lSp S TT 2 sp_rises) := def_ok ({ blt := blt, gl := AllG.get AllG.nil, fn := AllE.get (.cons ⟨_, by decide, e7⟩ AllE.nil), mt := AllE.get AllE.nil, mkr := AllE.get AllE.nil, cls := AllG.get AllG.nil, clok := clok, kit := kit, xr := AllX.get AllX.nil, hc := AllG.get AllG.nil, xm := xm, xfc := xfc, eqs := (fun _ hk => absurd hk Bool.false_ne_true) } : Ent P w mg base S TT K_rises 2) F10 sc_rises ck_rises okT_rises
  have e10 : FnEnt P w mg base S TT 3 "rises" ["value", "bound"] [(2, [])] sp_rises := ⟨f10, _, o10, PySem.W.mg_of X G a10, k10, (AllF.cons b10_0 AllF.nil).all⟩
  have o11 : FnOk P w K mg base (L2.CX P w) 4 f11 _ ["value"] (lSp S TT 1 sp_marks_from) := def_ok ({ blt := blt, gl := AllG.get (.cons ⟨_, (.int 6), PySem.W.mg_of X G g4, ⟨_, rfl⟩, fun c M H ok => (by simp only [TT, t_gl, Den])⟩ (.cons ⟨_, (.int 8), PySem.W.mg_of X G g3, ⟨_, rfl⟩, fun c M H ok => (by simp only [TT, t_gl, Den])⟩ AllG.nil)), fn := AllE.get (.cons ⟨_, by decide, e9⟩ (.cons ⟨_, by decide, e10⟩ AllE.nil)), mt := AllE.get AllE.nil, mkr := AllE.get AllE.nil, cls := AllG.get AllG.nil, clok := clok, kit := kit, xr := AllX.get (.cons ⟨1, by decide, mkx3 base⟩ AllX.nil), hc := AllG.get AllG.nil, xm := xm, xfc := xfc, eqs := (fun _ hk => absurd hk Bool.false_ne_true) } : Ent P w mg base S TT K_marks_from 3) F11 sc_marks_from ck_marks_from okT_marks_from
  have e11 : FnEnt P w mg base S TT 4 "marks_from" ["value"] [(1, [])] sp_marks_from := ⟨f11, _, o11, PySem.W.mg_of X G a11, k11, (AllF.cons b11_0 AllF.nil).all⟩
  have o12 : FnOk P w K mg base (L2.CX P w) 5 f12 _ ["self", "name", "marks", "day"] (lSp S TT 4 sp_Claim_init) := def_ok ({ blt := blt, gl := AllG.get (.cons ⟨_, (.int 999), PySem.W.mg_of X G g7, ⟨_, rfl⟩, fun c M H ok => (by simp only [TT, t_gl, Den])⟩ AllG.nil), fn := AllE.get (.cons ⟨_, by decide, e7⟩ (.cons ⟨_, by decide, e8⟩ (.cons ⟨_, by decide, e11⟩ AllE.nil))), mt := AllE.get AllE.nil, mkr := AllE.get AllE.nil, cls := AllG.get AllG.nil, clok := clok, kit := kit, xr := AllX.get (.cons ⟨1, by decide, mkx4 base⟩ AllX.nil), hc := AllG.get AllG.nil, xm := xm, xfc := xfc, eqs := (fun _ hk => absurd hk Bool.false_ne_true) } : Ent P w mg base S TT K_Claim_init 4) F12 sc_Claim_init ck_Claim_init okT_Claim_init
  have e12 : MkEnt P w mg base S TT 5 19 "Claim" ["self", "name", "marks", "day"] [(4, []), (1, ["day", "name", "marks"])] sp_Claim_init := ⟨f12, _, ⟨c19k, a12, i12, c19p⟩, o12, PySem.W.mg_of X G c19C, (AllF.cons b12_0 (AllF.cons b12_1 AllF.nil)).all⟩
  have o13 : FnOk P w K mg base (L2.CX P w) 5 f13 _ ["self", "name", "marks"] (lSp S TT 3 sp_Find_init) := def_ok ({ blt := blt, gl := AllG.get AllG.nil, fn := AllE.get (.cons ⟨_, by decide, e8⟩ (.cons ⟨_, by decide, e11⟩ AllE.nil)), mt := AllE.get AllE.nil, mkr := AllE.get AllE.nil, cls := AllG.get AllG.nil, clok := clok, kit := kit, xr := AllX.get (.cons ⟨1, by decide, mkx4 base⟩ AllX.nil), hc := AllG.get AllG.nil, xm := xm, xfc := xfc, eqs := (fun _ hk => absurd hk Bool.false_ne_true) } : Ent P w mg base S TT K_Find_init 4) F13 sc_Find_init ck_Find_init okT_Find_init
  have e13 : MkEnt P w mg base S TT 5 18 "Find" ["self", "name", "marks"] [(3, []), (1, ["marks", "name"])] sp_Find_init := ⟨f13, _, ⟨c18k, a13, i13, c18p⟩, o13, PySem.W.mg_of X G c18C, (AllF.cons b13_0 (AllF.cons b13_1 AllF.nil)).all⟩
  have o14 : FnOk P w K mg base (L2.CX P w) 7 f14 _ ["pool", "name", "marks", "day", "other"] (lSp S TT 5 sp_law_unlike) := def_ok ({ blt := blt, gl := AllG.get AllG.nil, fn := AllE.get (.cons ⟨_, by decide, e1⟩ (.cons ⟨_, by decide, e3⟩ AllE.nil)), mt := AllE.get AllE.nil, mkr := AllE.get (.cons ⟨_, by decide, e12⟩ (.cons ⟨_, by decide, e13⟩ AllE.nil)), cls := AllG.get AllG.nil, clok := clok, kit := kit, xr := AllX.get AllX.nil, hc := AllG.get AllG.nil, xm := xm, xfc := xfc, eqs := (fun k hk => by
      have hk : k = 14 ∨ k = 13 := by simpa [K_law_unlike] using hk
      rcases hk with rfl | rfl
      · exact ⟨_, _, by decide, e4, by simp, by decide +kernel, c19ne⟩
      · exact ⟨_, _, by decide, e5, by simp, by decide +kernel, c18ne⟩
      ) } : Ent P w mg base S TT K_law_unlike 6) F14 sc_law_unlike ck_law_unlike okT_law_unlike
  have e14 : FnEnt P w mg base S TT 7 "_law_unlike" ["pool", "name", "marks", "day", "other"] [(5, [])] sp_law_unlike := ⟨f14, _, o14, PySem.W.mg_of X G a14, k14, (AllF.cons b14_0 AllF.nil).all⟩
  have o15 : FnOk P w K mg base (L2.CX P w) 2 f15 _ ["pool", "many", "way"] (lSp S TT 3 sp_law_values) := def_ok ({ blt := blt, gl := AllG.get AllG.nil, fn := AllE.get (.cons ⟨_, by decide, e1⟩ AllE.nil), mt := AllE.get AllE.nil, mkr := AllE.get AllE.nil, cls := AllG.get AllG.nil, clok := clok, kit := kit, xr := AllX.get AllX.nil, hc := AllG.get AllG.nil, xm := xm, xfc := xfc, eqs := (fun _ hk => absurd hk Bool.false_ne_true) } : Ent P w mg base S TT K_law_values 1) F15 sc_law_values ck_law_values okT_law_values
  have e15 : FnEnt P w mg base S TT 2 "_law_values" ["pool", "many", "way"] [(3, [])] sp_law_values := ⟨f15, _, o15, PySem.W.mg_of X G a15, k15, (AllF.cons b15_0 AllF.nil).all⟩
  have o16 : FnOk P w K mg base (L2.CX P w) 2 f16 _ ["pool", "many"] (lSp S TT 2 sp_law_words) := def_ok ({ blt := blt, gl := AllG.get AllG.nil, fn := AllE.get (.cons ⟨_, by decide, e1⟩ AllE.nil), mt := AllE.get AllE.nil, mkr := AllE.get AllE.nil, cls := AllG.get AllG.nil, clok := clok, kit := kit, xr := AllX.get AllX.nil, hc := AllG.get AllG.nil, xm := xm, xfc := xfc, eqs := (fun _ hk => absurd hk Bool.false_ne_true) } : Ent P w mg base S TT K_law_words 1) F16 sc_law_words ck_law_words okT_law_words
  have e16 : FnEnt P w mg base S TT 2 "_law_words" ["pool", "many"] [(2, [])] sp_law_words := ⟨f16, _, o16, PySem.W.mg_of X G a16, k16, (AllF.cons b16_0 AllF.nil).all⟩
  have o17 : FnOk P w K mg base (L2.CX P w) 2 f17 _ ["pool"] (lSp S TT 1 sp_law_bad_day) := def_ok ({ blt := blt, gl := AllG.get AllG.nil, fn := AllE.get (.cons ⟨_, by decide, e1⟩ AllE.nil), mt := AllE.get AllE.nil, mkr := AllE.get AllE.nil, cls := AllG.get AllG.nil, clok := clok, kit := kit, xr := AllX.get AllX.nil, hc := AllG.get AllG.nil, xm := xm, xfc := xfc, eqs := (fun _ hk => absurd hk Bool.false_ne_true) } : Ent P w mg base S TT K_law_bad_day 1) F17 sc_law_bad_day ck_law_bad_day okT_law_bad_day
  have e17 : FnEnt P w mg base S TT 2 "_law_bad_day" ["pool"] [(1, [])] sp_law_bad_day := ⟨f17, _, o17, PySem.W.mg_of X G a17, k17, (AllF.cons b17_0 AllF.nil).all⟩
  have o18 : FnOk P w K mg base (L2.CX P w) 2 f18 _ ["pool", "marks"] (lSp S TT 2 sp_law_bad_marks) := def_ok ({ blt := blt, gl := AllG.get AllG.nil, fn := AllE.get (.cons ⟨_, by decide, e1⟩ AllE.nil), mt := AllE.get AllE.nil, mkr := AllE.get AllE.nil, cls := AllG.get AllG.nil, clok := clok, kit := kit, xr := AllX.get AllX.nil, hc := AllG.get AllG.nil, xm := xm, xfc := xfc, eqs := (fun _ hk => absurd hk Bool.false_ne_true) } : Ent P w mg base S TT K_law_bad_marks 1) F18 sc_law_bad_marks ck_law_bad_marks okT_law_bad_marks
  have e18 : FnEnt P w mg base S TT 2 "_law_bad_marks" ["pool", "marks"] [(2, [])] sp_law_bad_marks := ⟨f18, _, o18, PySem.W.mg_of X G a18, k18, (AllF.cons b18_0 AllF.nil).all⟩
  have o19 : FnOk P w K mg base (L2.CX P w) 2 f19 _ ["pool", "name"] (lSp S TT 2 sp_law_bad_name) := def_ok ({ blt := blt, gl := AllG.get AllG.nil, fn := AllE.get (.cons ⟨_, by decide, e1⟩ AllE.nil), mt := AllE.get AllE.nil, mkr := AllE.get AllE.nil, cls := AllG.get AllG.nil, clok := clok, kit := kit, xr := AllX.get AllX.nil, hc := AllG.get AllG.nil, xm := xm, xfc := xfc, eqs := (fun _ hk => absurd hk Bool.false_ne_true) } : Ent P w mg base S TT K_law_bad_name 1) F19 sc_law_bad_name ck_law_bad_name okT_law_bad_name
  have e19 : FnEnt P w mg base S TT 2 "_law_bad_name" ["pool", "name"] [(2, [])] sp_law_bad_name := ⟨f19, _, o19, PySem.W.mg_of X G a19, k19, (AllF.cons b19_0 AllF.nil).all⟩
  have o20 : FnOk P w K mg base (L2.CX P w) 7 f20 _ ["which", "name", "marks", "day"] (lSp S TT 4 sp_law_refused) := def_ok ({ blt := blt, gl := AllG.get AllG.nil, fn := AllE.get AllE.nil, mt := AllE.get AllE.nil, mkr := AllE.get (.cons ⟨_, by decide, e12⟩ (.cons ⟨_, by decide, e13⟩ AllE.nil)), cls := AllG.get AllG.nil, clok := clok, kit := kit, xr := AllX.get AllX.nil, hc := AllG.get (.cons (PySem.W.mg_of X G x3C) (.cons (PySem.W.mg_of X G x4C) AllG.nil)), xm := xm, xfc := xfc, eqs := (fun _ hk => absurd hk Bool.false_ne_true) } : Ent P w mg base S TT K_law_refused 6) F20 sc_law_refused ck_law_refused okT_law_refused
  have e20 : FnEnt P w mg base S TT 7 "_law_refused" ["which", "name", "marks", "day"] [(4, [])] sp_law_refused := ⟨f20, _, o20, PySem.W.mg_of X G a20, k20, (AllF.cons b20_0 AllF.nil).all⟩
  have o21 : FnOk P w K mg base (L2.CX P w) 8 f21 _ ["pool", "name", "marks", "day"] (lSp S TT 4 sp_law_wrong_ones) := def_ok ({ blt := blt, gl := AllG.get AllG.nil, fn := AllE.get (.cons ⟨_, by decide, e17⟩ (.cons ⟨_, by decide, e18⟩ (.cons ⟨_, by decide, e19⟩ (.cons ⟨_, by decide, e1⟩ (.cons ⟨_, by decide, e20⟩ (.cons ⟨_, by decide, e3⟩ AllE.nil)))))), mt := AllE.get AllE.nil, mkr := AllE.get AllE.nil, cls := AllG.get AllG.nil, clok := clok, kit := kit, xr := AllX.get AllX.nil, hc := AllG.get AllG.nil, xm := xm, xfc := xfc, eqs := (fun _ hk => absurd hk Bool.false_ne_true) } : Ent P w mg base S TT K_law_wrong_ones 7) F21 sc_law_wrong_ones ck_law_wrong_ones okT_law_wrong_ones
  have e21 : FnEnt P w mg base S TT 8 "_law_wrong_ones" ["pool", "name", "marks", "day"] [(4, [])] sp_law_wrong_ones := ⟨f21, _, o21, PySem.W.mg_of X G a21, k21, (AllF.cons b21_0 AllF.nil).all⟩
  have o22 : FnOk P w K mg base (L2.CX P w) 9 fa _ ["script"] (lSp S TT 1 sp_law) := def_ok ({ blt := blt, gl := AllG.get AllG.nil, fn := AllE.get (.cons ⟨_, by decide, e1⟩ (.cons ⟨_, by decide, e2⟩ (.cons ⟨_, by decide, e3⟩ (.cons ⟨_, by decide, e14⟩ (.cons ⟨_, by decide, e15⟩ (.cons ⟨_, by decide, e16⟩ (.cons ⟨_, by decide, e21⟩ AllE.nil))))))), mt := AllE.get AllE.nil, mkr := AllE.get (.cons ⟨_, by decide, e12⟩ (.cons ⟨_, by decide, e13⟩ AllE.nil)), cls := AllG.get AllG.nil, clok := clok, kit := kit, xr := AllX.get AllX.nil, hc := AllG.get AllG.nil, xm := xm, xfc := xfc, eqs := (fun k hk => by
      have hk : k = 14 ∨ k = 13 := by simpa [K_law] using hk
      rcases hk with rfl | rfl
      · exact ⟨_, _, by decide, e4, by simp, by decide +kernel, c19ne⟩
      · exact ⟨_, _, by decide, e5, by simp, by decide +kernel, c18ne⟩
      ) } : Ent P w mg base S TT K_law 8) F22 sc_law ck_law okT_law
  exact law_ok (S := S) (T := TT) o22
end PL
open PySem PySem.W PyProof.Rows in
set_option maxRecDepth 100000 in
set_option maxHeartbeats 0 in
theorem PySem.Challenge.cw_rightfulhands_k04_finds_and_claims_holds : PySem.Challenge.rw_rightfulhands_k04_finds_and_claims.Holds := by
  w_on; o_law; k_head; (case hw => w_witness2)
  k_fill
  refine PL.walk (k := 9) (l := PySem.Challenge.rw_rightfulhands_k04_finds_and_claims) rfl rfl ⟨rfl, by decide, by decide⟩ (fun w h Y => PySem.W.kIn_of Y) ?F
  case F =>
    intro w mg fa h KX G hmg
    refine' PL.all_mk KX G hmg ?pl_c19C ?pl_c19g ?pl_c19d ?pl_c19o ?pl_c19s ?pl_c19h ?pl_c19m ?pl_c19ne ?pl_c19k ?pl_c19p ?pl_c19a0 ?pl_c19a1 ?pl_c19a2 ?pl_c19i ?pl_c19t ?pl_c19xint ?pl_c19xstr ?pl_c19xbool ?pl_c19xlist ?pl_c19xtuple ?pl_c19xdict ?pl_c19xnone ?pl_c19z19 ?pl_c19z18 ?pl_c18C ?pl_c18g ?pl_c18d ?pl_c18o ?pl_c18s ?pl_c18h ?pl_c18m ?pl_c18ne ?pl_c18k ?pl_c18p ?pl_c18a0 ?pl_c18a1 ?pl_c18i ?pl_c18t ?pl_c18xint ?pl_c18xstr ?pl_c18xbool ?pl_c18xlist ?pl_c18xtuple ?pl_c18xdict ?pl_c18xnone ?pl_c18z19 ?pl_c18z18 ?pl_hn0 ?pl_htk0 ?pl_x3C ?pl_x3e ?pl_x3t ?pl_x3d ?pl_x3ga ?pl_x3gg ?pl_x3f0 ?pl_x3s3 ?pl_x3s4 ?pl_x4C ?pl_x4e ?pl_x4t ?pl_x4d ?pl_x4ga ?pl_x4gg ?pl_x4f0 ?pl_x4s3 ?pl_x4s4 ?pl_x3L ?pl_x3sa ?pl_x3k ?pl_a23 ?pl_t23 ?pl_l23 ?pl_d23 ?pl_k23 ?pl_x4L ?pl_x4sa ?pl_x4k ?pl_a24 ?pl_t24 ?pl_l24 ?pl_d24 ?pl_k24 ?pl_g1 ?pl_g7 ?pl_g4 ?pl_g3 ?pl_g0 ?pl_a1 ?pl_l1 ?pl_d1 ?pl_k1 ?pl_a2 ?pl_l2 ?pl_d2 ?pl_k2 ?pl_a3 ?pl_l3 ?pl_d3 ?pl_k3 ?pl_a4 ?pl_i4 ?pl_l4 ?pl_d4 ?pl_k4 ?pl_a5 ?pl_i5 ?pl_l5 ?pl_d5 ?pl_k5 ?pl_a6 ?pl_l6 ?pl_d6 ?pl_k6 ?pl_a7 ?pl_l7 ?pl_d7 ?pl_k7 ?pl_a8 ?pl_l8 ?pl_d8 ?pl_k8 ?pl_a9 ?pl_l9 ?pl_d9 ?pl_k9 ?pl_a10 ?pl_l10 ?pl_d10 ?pl_k10 ?pl_a11 ?pl_l11 ?pl_d11 ?pl_k11 ?pl_a12 ?pl_i12 ?pl_l12 ?pl_d12 ?pl_k12 ?pl_a13 ?pl_i13 ?pl_l13 ?pl_d13 ?pl_k13 ?pl_a14 ?pl_l14 ?pl_d14 ?pl_k14 ?pl_a15 ?pl_l15 ?pl_d15 ?pl_k15 ?pl_a16 ?pl_l16 ?pl_d16 ?pl_k16 ?pl_a17 ?pl_l17 ?pl_d17 ?pl_k17 ?pl_a18 ?pl_l18 ?pl_d18 ?pl_k18 ?pl_a19 ?pl_l19 ?pl_d19 ?pl_k19 ?pl_a20 ?pl_l20 ?pl_d20 ?pl_k20 ?pl_a21 ?pl_l21 ?pl_d21 ?pl_k21 ?pl_a22 ?pl_l22 ?pl_d22 ?pl_k22 ?pl_z_range ?pl_z_enumerate ?pl_z_zip ?pl_z_tuple ?pl_z_reversed ?pl_z_isinstance ?pl_z_len ?pl_z_int ?pl_z_str ?pl_z_all ?pl_z_any ?pl_z_list ?pl_z_max ?pl_z_min ?pl_z_abs ?pl_z_sum ?pl_z_bool ?pl_z_dict ?pl_z_NoneType
    (case pl_c19C => k_is)
    (case pl_c18C => k_is)
    (case pl_x3C => k_is)
    (case pl_x4C => k_is)
    (case pl_c19g => k_is)
    (case pl_c19d => k_is)
    (case pl_c19o => k_is)
    (case pl_c19s => k_is)
    (case pl_c19h => k_is)
    (case pl_c19m => k_is)
    (case pl_c19ne => k_is)
    (case pl_c19k => k_is)
    (case pl_c19p => k_is)
    (case pl_c19a0 => k_is)
    (case pl_c19a1 => k_is)
    (case pl_c19a2 => k_is)
    (case pl_c19i => k_is)
    (case pl_c19t => k_is)
    (case pl_c19xint => k_is)
    (case pl_c19xstr => k_is)
    (case pl_c19xbool => k_is)
    (case pl_c19xlist => k_is)
    (case pl_c19xtuple => k_is)
    (case pl_c19xdict => k_is)
    (case pl_c19xnone => k_is)
    (case pl_c19z19 => k_is)
    (case pl_c19z18 => k_is)
    (case pl_c18g => k_is)
    (case pl_c18d => k_is)
    (case pl_c18o => k_is)
    (case pl_c18s => k_is)
    (case pl_c18h => k_is)
    (case pl_c18m => k_is)
    (case pl_c18ne => k_is)
    (case pl_c18k => k_is)
    (case pl_c18p => k_is)
    (case pl_c18a0 => k_is)
    (case pl_c18a1 => k_is)
    (case pl_c18i => k_is)
    (case pl_c18t => k_is)
    (case pl_c18xint => k_is)
    (case pl_c18xstr => k_is)
    (case pl_c18xbool => k_is)
    (case pl_c18xlist => k_is)
    (case pl_c18xtuple => k_is)
    (case pl_c18xdict => k_is)
    (case pl_c18xnone => k_is)
    (case pl_c18z19 => k_is)
    (case pl_c18z18 => k_is)
    (case pl_hn0 => k_is)
    (case pl_htk0 => k_is)
    (case pl_x3e => k_is)
    (case pl_x3t => k_is)
    (case pl_x3d => k_is)
    (case pl_x3ga => k_is)
    (case pl_x3gg => k_is)
    (case pl_x3f0 => k_is)
    (case pl_x3s3 => k_is)
    (case pl_x3s4 => k_is)
    (case pl_x4e => k_is)
    (case pl_x4t => k_is)
    (case pl_x4d => k_is)
    (case pl_x4ga => k_is)
    (case pl_x4gg => k_is)
    (case pl_x4f0 => k_is)
    (case pl_x4s3 => k_is)
    (case pl_x4s4 => k_is)
    (case pl_x3L => k_is)
    (case pl_x3sa => k_is)
    (case pl_x3k => k_is)
    (case pl_a23 => k_is)
    (case pl_t23 => k_is)
    (case pl_l23 => k_is)
    (case pl_d23 => k_is)
    (case pl_k23 => k_is)
    (case pl_x4L => k_is)
    (case pl_x4sa => k_is)
    (case pl_x4k => k_is)
    (case pl_a24 => k_is)
    (case pl_t24 => k_is)
    (case pl_l24 => k_is)
    (case pl_d24 => k_is)
    (case pl_k24 => k_is)
    (case pl_g1 => k_is)
    (case pl_g7 => k_is)
    (case pl_g4 => k_is)
    (case pl_g3 => k_is)
    (case pl_g0 => k_is)
    (case pl_a1 => k_is)
    (case pl_l1 => k_is)
    (case pl_d1 => k_is)
    (case pl_k1 => k_is)
    (case pl_a2 => k_is)
    (case pl_l2 => k_is)
    (case pl_d2 => k_is)
    (case pl_k2 => k_is)
    (case pl_a3 => k_is)
    (case pl_l3 => k_is)
    (case pl_d3 => k_is)
    (case pl_k3 => k_is)
    (case pl_a4 => k_is)
    (case pl_i4 => k_is)
    (case pl_l4 => k_is)
    (case pl_d4 => k_is)
    (case pl_k4 => k_is)
    (case pl_a5 => k_is)
    (case pl_i5 => k_is)
    (case pl_l5 => k_is)
    (case pl_d5 => k_is)
    (case pl_k5 => k_is)
    (case pl_a6 => k_is)
    (case pl_l6 => k_is)
    (case pl_d6 => k_is)
    (case pl_k6 => k_is)
    (case pl_a7 => k_is)
    (case pl_l7 => k_is)
    (case pl_d7 => k_is)
    (case pl_k7 => k_is)
    (case pl_a8 => k_is)
    (case pl_l8 => k_is)
    (case pl_d8 => k_is)
    (case pl_k8 => k_is)
    (case pl_a9 => k_is)
    (case pl_l9 => k_is)
    (case pl_d9 => k_is)
    (case pl_k9 => k_is)
    (case pl_a10 => k_is)
    (case pl_l10 => k_is)
    (case pl_d10 => k_is)
    (case pl_k10 => k_is)
    (case pl_a11 => k_is)
    (case pl_l11 => k_is)
    (case pl_d11 => k_is)
    (case pl_k11 => k_is)
    (case pl_a12 => k_is)
    (case pl_i12 => k_is)
    (case pl_l12 => k_is)
    (case pl_d12 => k_is)
    (case pl_k12 => k_is)
    (case pl_a13 => k_is)
    (case pl_i13 => k_is)
    (case pl_l13 => k_is)
    (case pl_d13 => k_is)
    (case pl_k13 => k_is)
    (case pl_a14 => k_is)
    (case pl_l14 => k_is)
    (case pl_d14 => k_is)
    (case pl_k14 => k_is)
    (case pl_a15 => k_is)
    (case pl_l15 => k_is)
    (case pl_d15 => k_is)
    (case pl_k15 => k_is)
    (case pl_a16 => k_is)
    (case pl_l16 => k_is)
    (case pl_d16 => k_is)
    (case pl_k16 => k_is)
    (case pl_a17 => k_is)
    (case pl_l17 => k_is)
    (case pl_d17 => k_is)
    (case pl_k17 => k_is)
    (case pl_a18 => k_is)
    (case pl_l18 => k_is)
    (case pl_d18 => k_is)
    (case pl_k18 => k_is)
    (case pl_a19 => k_is)
    (case pl_l19 => k_is)
    (case pl_d19 => k_is)
    (case pl_k19 => k_is)
    (case pl_a20 => k_is)
    (case pl_l20 => k_is)
    (case pl_d20 => k_is)
    (case pl_k20 => k_is)
    (case pl_a21 => k_is)
    (case pl_l21 => k_is)
    (case pl_d21 => k_is)
    (case pl_k21 => k_is)
    (case pl_a22 => k_is)
    (case pl_l22 => k_is)
    (case pl_d22 => k_is)
    (case pl_k22 => k_is)
    (case pl_z_range => k_is)
    (case pl_z_enumerate => k_is)
    (case pl_z_zip => k_is)
    (case pl_z_tuple => k_is)
    (case pl_z_reversed => k_is)
    (case pl_z_isinstance => k_is)
    (case pl_z_len => k_is)
    (case pl_z_int => k_is)
    (case pl_z_str => k_is)
    (case pl_z_all => k_is)
    (case pl_z_any => k_is)
    (case pl_z_list => k_is)
    (case pl_z_max => k_is)
    (case pl_z_min => k_is)
    (case pl_z_abs => k_is)
    (case pl_z_sum => k_is)
    (case pl_z_bool => k_is)
    (case pl_z_dict => k_is)
    (case pl_z_NoneType => k_is)
