import PyProof.Rows.All
import Wide.All
import OpenK.AllK
import Wide.FinOn
import HandS.ForMost
import HandS.ForExc
import HandS.Zip
import HandS.Iter
import HandS.CallSlots
import HandS.Style
import HandS.Text
import HandS.TupAny
import HandS.Wide
import HandS.IsInst
import HandS.Deep
import HandS.Conv
import KE.GoesMore
import KE.GoesZip
import KE.GoesEnum
import HandS.SetFor
import HandS.TupMul
import HandS.Ends
import HandS.Exc
import PySem.Challenge.RW_twintiles_k77_whole_neighbouring_numbers
set_option Elab.async false
set_option linter.all false
set_option maxRecDepth 100000
/-! TwCore: values as trees over a heap of cells, and how they lie in the layer's abstract heap. -/
namespace Tw
open PySem PySem.Spec PyProof.Rows L2

/-- a value: immutable data are trees; lst and dct are new objects that nobody else holds; ref is a cell of the heap -/
inductive D where
  | non
  | bl (b : Bool)
  | int (i : Int)
  | str (s : Str)
  | tup (xs : List D)
  | lst (xs : List D)
  | dct (ks vs : List D)
  | rol (xs : List D)
  | ref (n : Nat)
  | glb (x : Str)
  | ty (n : String)
  | exc (C : Str) (ns : List Str) (xs : List D)
  deriving Inhabited

inductive Cell where
  | lst (xs : List D)
  | dct (ks vs : List D)
  | ins (C : Str) (ns : List Str) (xs : List D)

abbrev Hd := List Cell
abbrev En := List (Option D)

inductive R (α : Type) where
  | ok (a : α) (h : Hd)
  | exc (e : D) (h : Hd)
  | stuck

def R.bind {α β : Type} (r : R α) (f : α → Hd → R β) : R β := match r with
  | .ok a h => f a h
  | .exc e h => .exc e h
  | .stuck => .stuck
@[simp] theorem R.bind_ok {α β : Type} (a : α) (h : Hd) (f : α → Hd → R β) : (R.ok a h).bind f = f a h := id rfl
@[simp] theorem R.bind_exc {α β : Type} (e : D) (h : Hd) (f : α → Hd → R β) : (R.exc e h : R α).bind f = .exc e h := id rfl
@[simp] theorem R.bind_stuck {α β : Type} (f : α → Hd → R β) : (R.stuck : R α).bind f = .stuck := id rfl

/-- how a statement ends -/
inductive RS where
  | nx (env : En) (h : Hd)
  | rt (d : D) (h : Hd)
  | bk (env : En) (h : Hd)
  | ct (env : En) (h : Hd)
  | exc (e : D) (env : En) (h : Hd)
  | stuck

/-! ### new objects become cells -/
mutual
def box : D → Hd → D × Hd
  | .lst xs, h => (.ref (boxL xs h).2.length, (boxL xs h).2 ++ [.lst (boxL xs h).1])
  | .tup xs, h => (.tup (boxL xs h).1, (boxL xs h).2)
  | .dct ks vs, h => (.ref (boxL vs h).2.length, (boxL vs h).2 ++ [.dct ks (boxL vs h).1])
  | d, h => (d, h)
def boxL : List D → Hd → List D × Hd
  | [], h => ([], h)
  | x :: xs, h => ((box x h).1 :: (boxL xs (box x h).2).1, (boxL xs (box x h).2).2)
end

/-! ### a value without cells and new objects -/
mutual
def D.pure : D → Bool
  | .tup xs => pureL xs
  | .lst _ => false
  | .dct _ _ => false
  | .ref _ => false
  | .exc _ _ xs => pureL xs
  | _ => true
def pureL : List D → Bool
  | [] => true
  | x :: xs => x.pure && pureL xs
end
theorem pureL_iff {xs : List D} : pureL xs = true ↔ ∀ x ∈ xs, x.pure = true := by
  induction xs with
  | nil => simp [pureL]
  | cons x xs ih => simp [pureL, ih]

mutual
theorem box_pure : ∀ (d : D) (h : Hd), d.pure = true → box d h = (d, h)
  | .tup xs, h, p => by
    have e := boxL_pure xs h (by simpa [D.pure] using p)
    simp [box, e]
  | .lst _, _, p => by simp [D.pure] at p
  | .dct _ _, _, p => by simp [D.pure] at p
  | .ref _, _, _ => rfl
  | .non, _, _ => rfl
  | .bl _, _, _ => rfl
  | .int _, _, _ => rfl
  | .str _, _, _ => rfl
  | .rol _, _, _ => rfl
  | .glb _, _, _ => rfl
  | .ty _, _, _ => rfl
  | .exc _ _ _, _, _ => rfl
theorem boxL_pure : ∀ (xs : List D) (h : Hd), pureL xs = true → boxL xs h = (xs, h)
  | [], _, _ => rfl
  | x :: xs, h, p => by
    have p' : x.pure = true ∧ pureL xs = true := by simpa [pureL] using p
    simp [boxL, box_pure x h p'.1, boxL_pure xs h p'.2]
end

/-! ### the real side -/
/-- objects that may change: none of these is a tuple, a locked list or an exception's dict -/
def mutO : HO → Bool
  | .lst _ => true
  | .dK _ => true
  | .dT _ => true
  | .ins _ _ _ => true
  | .ext _ => true
  | _ => false
/-- a tuple that is read: tracked and no cell, or an object of the module -/
def TupAt (K : PySem.W.Frag) (ρ : List Addr) (H : Hp) (a : Addr) (vs : List V) : Prop :=
  (H a = some (.tup vs) ∧ a ∉ ρ) ∨
    ∃ (o : Obj) (its : Array Value) (n : Nat), K.lookup a = some o ∧ o.cls = .type "tuple" ∧ o.data = .seq its n ∧ its.size ≤ sizeLine ∧ Vals vs its.toList
theorem TupAt.sq {K : PySem.W.Frag} {ρ : List Addr} {H : Hp} {a : Addr} {vs : List V} (h : TupAt K ρ H a vs) : SqT K H a vs := by
  rcases h with ⟨h, _⟩ | h
  · exact .inl (.inl h)
  · exact .inr h
/-- the script's list -/
def RolAt (K : PySem.W.Frag) (ρ : List Addr) (H : Hp) (a : Addr) (vs : List V) : Prop :=
  ((∃ o, H a = some (.frz o (.lst vs))) ∧ a ∉ ρ) ∨
    ∃ (o : Obj) (its : Array Value) (n : Nat), K.lookup a = some o ∧ o.cls = .type "list" ∧ o.dict = none ∧ o.data = .seq its n ∧ its.size ≤ sizeLine ∧ Vals vs its.toList
theorem RolAt.sq {K : PySem.W.Frag} {ρ : List Addr} {H : Hp} {a : Addr} {vs : List V} (h : RolAt K ρ H a vs) : SqL K H a vs := by
  rcases h with ⟨⟨o, h⟩, _⟩ | h
  · exact .inl (.inr ⟨o, h⟩)
  · exact .inr h

/-! ### how a tree lies in the heap: S, the new lists that it owns -/
section
variable (K : PySem.W.Frag) (mg : Str → Option Value) (ρ : List Addr) (H : Hp)
mutual
inductive Rep : D → V → List Addr → Prop
  | non : Rep .non .non []
  | bl (b : Bool) : Rep (.bl b) (.bl b) []
  | int (i : Int) : Rep (.int i) (.int i) []
  | str (s : Str) : Rep (.str s) (.str s) []
  | tup {a : Addr} {xs : List D} {vs : List V} {S : List Addr} : TupAt K ρ H a vs → RepL xs vs S → Rep (.tup xs) (.ref a) S
  | lst {a : Addr} {xs : List D} {vs : List V} {S : List Addr} : H a = some (.lst vs) → RepL xs vs S → Rep (.lst xs) (.ref a) (S ++ [a])
  | rol {a : Addr} {xs : List D} {vs : List V} : RolAt K ρ H a vs → RepL xs vs [] → Rep (.rol xs) (.ref a) []
  | ref {n : Nat} {a : Addr} : ρ[n]? = some a → Rep (.ref n) (.ref a) []
  | glb {x : Str} {a : Addr} : mg x = some (.ref a) → Rep (.glb x) (.ref a) []
  | ty (n : String) : Rep (.ty n) (.ty n) []
inductive RepL : List D → List V → List Addr → Prop
  | nil : RepL [] [] []
  | cons {x : D} {xs : List D} {v : V} {vs : List V} {S T : List Addr} : Rep x v S → RepL xs vs T → RepL (x :: xs) (v :: vs) (S ++ T)
end
def CellOk (a : Addr) : Cell → Prop
  | .lst xs => ∃ vs, H a = some (.lst vs) ∧ RepL K mg ρ H xs vs []
  | .dct _ _ => False
  | .ins _ _ _ => False
structure HRel (h : Hd) : Prop where
  len : ρ.length = h.length
  nd : ρ.Nodup
  cell : ∀ (n : Nat) (c : Cell) (a : Addr), h[n]? = some c → ρ[n]? = some a → CellOk K mg ρ H a c
def EnvRel (env : En) (σ : L2.St) : Prop := env.length = σ.length ∧ ∀ (i : Nat) (d : D), env[i]? = some (some d) → ∃ v, σ[i]? = some (some v) ∧ Rep K mg ρ H d v []
end
/-- from one state to a later one; T: new lists of the start that are given up -/
structure Step (T : List Addr) (ρ : List Addr) (H : Hp) (ρ' : List Addr) (H' : Hp) : Prop where
  pre : ρ <+: ρ'
  new : ∀ a ∈ ρ', a ∉ ρ → H a = none ∨ a ∈ T
  frame : ∀ a o, H a = some o → a ∉ ρ → a ∉ T → H' a = some o

section
variable {K : PySem.W.Frag} {mg : Str → Option Value} {ρ ρ' : List Addr} {H H' : Hp}
theorem RepL.length : ∀ {xs : List D} {vs : List V} {S : List Addr}, RepL K mg ρ H xs vs S → xs.length = vs.length
  | _, _, _, .nil => rfl
  | _, _, _, .cons _ t => by simp [RepL.length t]
theorem TupAt.to {T : List Addr} {a : Addr} {vs : List V} (s : Step T ρ H ρ' H') (hT : ∀ b ∈ T, ∃ o, H b = some o ∧ mutO o = true) (h : TupAt K ρ H a vs) : TupAt K ρ' H' a vs := by
  rcases h with ⟨h, n⟩ | h
  · have nT : a ∉ T := fun z => by
      obtain ⟨o, e, m⟩ := hT a z
      rw [h] at e; cases e; cases m
    refine .inl ⟨s.frame a _ h n nT, fun z => ?_⟩
    rcases s.new a z n with e | e
    · rw [h] at e; cases e
    · exact nT e
  · exact .inr h
theorem RolAt.to {T : List Addr} {a : Addr} {vs : List V} (s : Step T ρ H ρ' H') (hT : ∀ b ∈ T, ∃ o, H b = some o ∧ mutO o = true) (h : RolAt K ρ H a vs) : RolAt K ρ' H' a vs := by
  rcases h with ⟨⟨o, h⟩, n⟩ | h
  · have nT : a ∉ T := fun z => by
      obtain ⟨o, e, m⟩ := hT a z
      rw [h] at e; cases e; cases m
    refine .inl ⟨⟨o, s.frame a _ h n nT⟩, fun z => ?_⟩
    rcases s.new a z n with e | e
    · rw [h] at e; cases e
    · exact nT e
  · exact .inr h
theorem pre_get {α : Type} {l l' : List α} {n : Nat} {a : α} (p : l <+: l') (h : l[n]? = some a) : l'[n]? = some a := by
  obtain ⟨t, rfl⟩ := p
  rw [List.getElem?_append_left (List.getElem?_eq_some_iff.mp h).1]
  exact h
mutual
/-- a value stays, if the new lists that it owns are not given up -/
theorem Rep.to {T : List Addr} (s : Step T ρ H ρ' H') (hT : ∀ b ∈ T, ∃ o, H b = some o ∧ mutO o = true) : ∀ {d : D} {v : V} {S : List Addr}, Rep K mg ρ H d v S → (∀ a ∈ S, a ∉ ρ ∧ a ∉ T) → Rep K mg ρ' H' d v S
  | _, _, _, .non, _ => .non
  | _, _, _, .bl b, _ => .bl b
  | _, _, _, .int i, _ => .int i
  | _, _, _, .str z, _ => .str z
  | _, _, _, .tup h r, n => .tup (h.to s hT) (RepL.to s hT r n)
  | _, _, _, .lst h r, n => by
    have na := n _ (List.mem_append_right _ (List.mem_singleton.mpr rfl))
    exact .lst (s.frame _ _ h na.1 na.2) (RepL.to s hT r fun b hb => n b (List.mem_append_left _ hb))
  | _, _, _, .rol h r, n => .rol (h.to s hT) (RepL.to s hT r n)
  | _, _, _, .ref h, _ => .ref (pre_get s.pre h)
  | _, _, _, .glb h, _ => .glb h
  | _, _, _, .ty n, _ => .ty n
theorem RepL.to {T : List Addr} (s : Step T ρ H ρ' H') (hT : ∀ b ∈ T, ∃ o, H b = some o ∧ mutO o = true) : ∀ {xs : List D} {vs : List V} {S : List Addr}, RepL K mg ρ H xs vs S → (∀ a ∈ S, a ∉ ρ ∧ a ∉ T) → RepL K mg ρ' H' xs vs S
  | _, _, _, .nil, _ => .nil
  | _, _, _, .cons r t, n => .cons (Rep.to s hT r fun a ha => n a (List.mem_append_left _ ha)) (RepL.to s hT t fun a ha => n a (List.mem_append_right _ ha))
end
theorem Step.refl {T : List Addr} : Step T ρ H ρ H := ⟨List.prefix_refl _, fun _ h n => absurd h n, fun _ _ h _ _ => h⟩
theorem mem_pre {α : Type} {l l' : List α} {a : α} (p : l <+: l') (h : a ∈ l) : a ∈ l' := p.subset h
theorem Step.trans {T : List Addr} {ρ1 ρ2 : List Addr} {H1 H2 : Hp} (s : Step T ρ H ρ1 H1) (t : Step [] ρ1 H1 ρ2 H2) : Step T ρ H ρ2 H2 where
  pre := s.pre.trans t.pre
  new := fun a h n => by
    by_cases m : a ∈ ρ1
    · exact s.new a m n
    · by_cases k : a ∈ T
      · exact .inr k
      · rcases t.new a h m with e | e
        · left
          cases q : H a with
          | none => rfl
          | some o => rw [s.frame a o q n k] at e; cases e
        · cases e
  frame := fun a o e n nT => by
    refine t.frame a o (s.frame a o e n nT) (fun m => ?_) (fun z => nomatch z)
    rcases s.new a m n with z | z
    · rw [e] at z; cases z
    · exact nT z
/-- the second step gives up lists that the first one made -/
theorem Step.transT {T : List Addr} {ρ1 ρ2 : List Addr} {H1 H2 : Hp} (s : Step [] ρ H ρ1 H1) (t : Step T ρ1 H1 ρ2 H2) (hT : ∀ a ∈ T, H a = none ∧ a ∉ ρ1) : Step [] ρ H ρ2 H2 where
  pre := s.pre.trans t.pre
  new := fun a h n => by
    by_cases m : a ∈ ρ1
    · exact s.new a m n
    · rcases t.new a h m with e | e
      · left
        cases q : H a with
        | none => rfl
        | some o => rw [s.frame a o q n (fun z => nomatch z)] at e; cases e
      · exact .inl (hT a e).1
  frame := fun a o e n nT => by
    refine t.frame a o (s.frame a o e n nT) (fun m => ?_) (fun z => ?_)
    · rcases s.new a m n with z | z
      · rw [e] at z; cases z
      · cases z
    · rw [(hT a z).1] at e; cases e
/-- more is given up -/
theorem Step.mono {T T' : List Addr} (s : Step T ρ H ρ' H') (h : ∀ a ∈ T, a ∈ T') : Step T' ρ H ρ' H' :=
  ⟨s.pre, fun a m n => (s.new a m n).imp id (h a), fun a o e n nT => s.frame a o e n fun z => nT (h a z)⟩
/-- what is new at the later state was not there at the earlier -/
theorem Step.fresh {ρ1 : List Addr} {H1 : Hp} (s : Step [] ρ H ρ1 H1) {a : Addr} (e : H1 a = none) (n : a ∉ ρ) : H a = none := by
  cases q : H a with
  | none => rfl
  | some o => rw [s.frame a o q n (fun z => nomatch z)] at e; cases e
theorem EnvRel.to {env : En} {σ : L2.St} (s : Step [] ρ H ρ' H') (r : EnvRel K mg ρ H env σ) : EnvRel K mg ρ' H' env σ :=
  ⟨r.1, fun i d e => by
    obtain ⟨v, h1, h2⟩ := r.2 i d e
    exact ⟨v, h1, h2.to s (fun _ z => nomatch z) fun _ z => nomatch z⟩⟩
theorem CellOk.there {a : Addr} {c : Cell} (h : CellOk K mg ρ H a c) : ∃ o, H a = some o ∧ mutO o = true := by
  cases c with
  | lst xs => obtain ⟨vs, e, _⟩ := h; exact ⟨_, e, rfl⟩
  | dct _ _ => exact h.elim
  | ins _ _ _ => exact h.elim
theorem HRel.there {h : Hd} (r : HRel K mg ρ H h) {a : Addr} (m : a ∈ ρ) : ∃ o, H a = some o ∧ mutO o = true := by
  obtain ⟨n, hn, e⟩ := List.mem_iff_getElem.mp m
  have hl : n < h.length := by rw [← r.len]; exact hn
  exact (r.cell n h[n] a (List.getElem?_eq_getElem hl) (by rw [List.getElem?_eq_getElem hn, e])).there
theorem HRel.notin {h : Hd} (r : HRel K mg ρ H h) {a : Addr} (e : H a = none) : a ∉ ρ := fun m => by
  obtain ⟨o, q, _⟩ := r.there m
  rw [e] at q; cases q
theorem HRel.get {h : Hd} (r : HRel K mg ρ H h) {n : Nat} {c : Cell} (e : h[n]? = some c) : ∃ a, ρ[n]? = some a ∧ CellOk K mg ρ H a c := by
  have hn : n < ρ.length := by rw [r.len]; exact (List.getElem?_eq_some_iff.mp e).1
  exact ⟨ρ[n], List.getElem?_eq_getElem hn, r.cell n c _ e (List.getElem?_eq_getElem hn)⟩
mutual
/-- a value that owns nothing, as a list of owned: empty -/
theorem Rep.nodup_of : ∀ {d : D} {v : V} {S : List Addr}, d.pure = true → Rep K mg ρ H d v S → S = []
  | _, _, _, _, .non => rfl
  | _, _, _, _, .bl _ => rfl
  | _, _, _, _, .int _ => rfl
  | _, _, _, _, .str _ => rfl
  | _, _, _, p, .tup _ r => RepL.nodup_of (by simpa [D.pure] using p) r
  | _, _, _, p, .lst _ _ => by simp [D.pure] at p
  | _, _, _, _, .rol _ _ => rfl
  | _, _, _, _, .ref _ => rfl
  | _, _, _, _, .glb _ => rfl
  | _, _, _, _, .ty _ => rfl
theorem RepL.nodup_of : ∀ {xs : List D} {vs : List V} {S : List Addr}, pureL xs = true → RepL K mg ρ H xs vs S → S = []
  | _, _, _, _, .nil => rfl
  | _, _, _, p, .cons r t => by
    simp [pureL] at p
    rw [Rep.nodup_of p.1 r, RepL.nodup_of p.2 t]; rfl
end
/-- all cells of a heap keep their state over a step that changes no cell -/
theorem HRel.kept {h : Hd} (r : HRel K mg ρ H h) (k : ∀ a o, H a = some o → H' a = some o) : HRel K mg ρ H' h := by
  refine ⟨r.len, r.nd, fun n c a e1 e2 => ?_⟩
  have s : Step [] ρ H ρ H' := ⟨List.prefix_refl _, fun _ m n => absurd m n, fun a o e _ _ => k a o e⟩
  have q := r.cell n c a e1 e2
  cases c with
  | lst xs => obtain ⟨vs, e, t⟩ := q; exact ⟨vs, k a _ e, t.to s (fun _ z => nomatch z) fun _ z => nomatch z⟩
  | dct _ _ => exact q.elim
  | ins _ _ _ => exact q.elim
end

/-! ### boxing -/
section
variable {K : PySem.W.Frag} {mg : Str → Option Value} {ρ ρ' : List Addr} {H H' : Hp}
mutual
theorem Rep.owned : ∀ {d : D} {v : V} {S : List Addr}, Rep K mg ρ H d v S → ∀ b ∈ S, ∃ o, H b = some o ∧ mutO o = true
  | _, _, _, .non, _, z => nomatch z
  | _, _, _, .bl _, _, z => nomatch z
  | _, _, _, .int _, _, z => nomatch z
  | _, _, _, .str _, _, z => nomatch z
  | _, _, _, .tup _ r, b, z => RepL.owned r b z
  | _, _, _, .lst h r, b, z => by
    rcases List.mem_append.mp z with z | z
    · exact RepL.owned r b z
    · rw [List.mem_singleton.mp z]; exact ⟨_, h, rfl⟩
  | _, _, _, .rol _ _, _, z => nomatch z
  | _, _, _, .ref _, _, z => nomatch z
  | _, _, _, .glb _, _, z => nomatch z
  | _, _, _, .ty _, _, z => nomatch z
theorem RepL.owned : ∀ {xs : List D} {vs : List V} {S : List Addr}, RepL K mg ρ H xs vs S → ∀ b ∈ S, ∃ o, H b = some o ∧ mutO o = true
  | _, _, _, .nil, _, z => nomatch z
  | _, _, _, .cons r t, b, z => by
    rcases List.mem_append.mp z with z | z
    · exact Rep.owned r b z
    · exact RepL.owned t b z
end
theorem Step.boxed (ρ : List Addr) (H : Hp) (S : List Addr) : Step S ρ H (ρ ++ S) H :=
  ⟨List.prefix_append _ _, fun a m n => by
    rcases List.mem_append.mp m with m | m
    · exact absurd m n
    · exact .inr m, fun a o e _ _ => e⟩
structure Boxed (K : PySem.W.Frag) (mg : Str → Option Value) (ρ : List Addr) (H : Hp) (h : Hd) (S : List Addr) (h' : Hd) : Prop where
  rel : HRel K mg (ρ ++ S) H h'
  pre : h <+: h'
theorem HRel.push {h : Hd} (r : HRel K mg ρ H h) {a : Addr} {c : Cell} (na : a ∉ ρ) (ha : ∃ o, H a = some o ∧ mutO o = true) (hc : CellOk K mg (ρ ++ [a]) H a c) : HRel K mg (ρ ++ [a]) H (h ++ [c]) := by
  refine ⟨by simp [r.len], ?_, fun n c' b e1 e2 => ?_⟩
  · rw [List.nodup_append]
    refine ⟨r.nd, by simp, fun x hx y hy z => ?_⟩
    rw [List.mem_singleton.mp hy] at z
    subst z
    exact na hx
  · by_cases hn : n < h.length
    · rw [List.getElem?_append_left hn] at e1
      rw [List.getElem?_append_left (by rw [r.len]; exact hn)] at e2
      have q := r.cell n c' b e1 e2
      have st := Step.boxed ρ H [a]
      have hT : ∀ b ∈ [a], ∃ o, H b = some o ∧ mutO o = true := fun b hb => by rw [List.mem_singleton.mp hb]; exact ha
      cases c' with
      | lst xs => obtain ⟨vs, e, t⟩ := q; exact ⟨vs, e, t.to st hT fun _ z => nomatch z⟩
      | dct _ _ => exact q.elim
      | ins _ _ _ => exact q.elim
    · have hn' : n = h.length := by
        have := (List.getElem?_eq_some_iff.mp e1).1
        simp at this
        omega
      subst hn'
      rw [List.getElem?_append_right (Nat.le_refl _)] at e1
      rw [← r.len, List.getElem?_append_right (Nat.le_refl _)] at e2
      simp at e1 e2
      subst e1 e2
      exact hc
mutual
theorem box_ok : ∀ {d : D} {v : V} {S : List Addr} {ρ : List Addr} {h : Hd}, HRel K mg ρ H h → Rep K mg ρ H d v S → S.Nodup → (∀ a ∈ S, a ∉ ρ) → Boxed K mg ρ H h S (box d h).2 ∧ Rep K mg (ρ ++ S) H (box d h).1 v []
  | _, _, _, _, _, r, .non, _, _ => ⟨⟨by simpa [box] using r, List.prefix_refl _⟩, by simpa [box] using .non⟩
  | _, _, _, _, _, r, .bl b, _, _ => ⟨⟨by simpa [box] using r, List.prefix_refl _⟩, by simpa [box] using .bl b⟩
  | _, _, _, _, _, r, .int b, _, _ => ⟨⟨by simpa [box] using r, List.prefix_refl _⟩, by simpa [box] using .int b⟩
  | _, _, _, _, _, r, .str b, _, _ => ⟨⟨by simpa [box] using r, List.prefix_refl _⟩, by simpa [box] using .str b⟩
  | _, _, _, _, _, r, .tup (xs := xs) ht t, nd, na => by
    obtain ⟨b, t'⟩ := boxL_ok r t nd na
    refine ⟨by simpa [box] using b, ?_⟩
    simp only [box]
    refine .tup (ht.to (Step.boxed _ _ _) t.owned) t'
  | _, _, _, ρ, h, r, .lst (a := a) (S := S) (xs := xs) (vs := vs) ha t, nd, na => by
    rw [List.nodup_append] at nd
    obtain ⟨nd1, _, nd2⟩ := nd
    obtain ⟨b, t'⟩ := boxL_ok r t nd1 fun x hx => na x (List.mem_append_left _ hx)
    have na1 : a ∉ ρ ++ S := fun z => by
      rcases List.mem_append.mp z with z | z
      · exact na a (by simp) z
      · exact nd2 a z a (by simp) rfl
    have st := Step.boxed (ρ ++ S) H [a]
    have hT : ∀ b ∈ [a], ∃ o, H b = some o ∧ mutO o = true := fun b hb => by rw [List.mem_singleton.mp hb]; exact ⟨_, ha, rfl⟩
    have q := b.rel.push (c := .lst (boxL xs h).1) na1 ⟨_, ha, rfl⟩ ⟨vs, ha, t'.to st hT fun _ z => nomatch z⟩
    simp only [box]
    rw [← List.append_assoc (as := ρ)]
    refine ⟨⟨by rw [← List.append_assoc]; exact q, b.pre.trans (List.prefix_append _ _)⟩, .ref ?_⟩
    rw [← b.rel.len, List.getElem?_append_right (Nat.le_refl _)]
    simp
  | _, _, _, _, _, r, .rol ha t, _, _ => ⟨⟨by simpa [box] using r, List.prefix_refl _⟩, by simpa [box] using .rol ha t⟩
  | _, _, _, _, _, r, .ref e, _, _ => ⟨⟨by simpa [box] using r, List.prefix_refl _⟩, by simpa [box] using .ref e⟩
  | _, _, _, _, _, r, .glb e, _, _ => ⟨⟨by simpa [box] using r, List.prefix_refl _⟩, by simpa [box] using .glb e⟩
  | _, _, _, _, _, r, .ty n, _, _ => ⟨⟨by simpa [box] using r, List.prefix_refl _⟩, by simpa [box] using .ty n⟩
theorem boxL_ok : ∀ {xs : List D} {vs : List V} {S : List Addr} {ρ : List Addr} {h : Hd}, HRel K mg ρ H h → RepL K mg ρ H xs vs S → S.Nodup → (∀ a ∈ S, a ∉ ρ) → Boxed K mg ρ H h S (boxL xs h).2 ∧ RepL K mg (ρ ++ S) H (boxL xs h).1 vs []
  | _, _, _, _, _, r, .nil, _, _ => ⟨⟨by simpa [boxL] using r, List.prefix_refl _⟩, by simpa [boxL] using .nil⟩
  | _, _, _, ρ, h, r, .cons (x := x) (xs := xs) (S := S) (T := T) t u, nd, na => by
    rw [List.nodup_append] at nd
    obtain ⟨nd1, nd2, nd3⟩ := nd
    obtain ⟨b, t'⟩ := box_ok r t nd1 fun x hx => na x (List.mem_append_left _ hx)
    have u1 := u.to (Step.boxed ρ H S) t.owned fun a ha => ⟨na a (List.mem_append_right _ ha), fun z => nd3 a z a ha rfl⟩
    obtain ⟨b2, u'⟩ := boxL_ok b.rel u1 nd2 fun a ha z => by
      rcases List.mem_append.mp z with z | z
      · exact na a (List.mem_append_right _ ha) z
      · exact nd3 a z a ha rfl
    simp only [boxL]
    rw [← List.append_assoc (as := ρ)]
    exact ⟨⟨by rw [← List.append_assoc]; exact b2.rel, b.pre.trans b2.pre⟩, .cons (S := []) (t'.to (Step.boxed _ _ _) u1.owned fun _ z => nomatch z) u'⟩
end
end

/-! ### at a def's end: what nobody holds any more is let go, and the value is a tree again -/
mutual
def refsLt (n0 : Nat) : D → Bool
  | .ref n => decide (n < n0)
  | .tup xs => refsLtL n0 xs
  | .lst xs => refsLtL n0 xs
  | .dct ks vs => refsLtL n0 ks && refsLtL n0 vs
  | .rol xs => refsLtL n0 xs
  | .exc _ _ xs => refsLtL n0 xs
  | _ => true
def refsLtL (n0 : Nat) : List D → Bool
  | [] => true
  | x :: xs => refsLt n0 x && refsLtL n0 xs
end
def Cell.refsLt (n0 : Nat) : Cell → Bool
  | .lst xs => refsLtL n0 xs
  | .dct ks vs => refsLtL n0 ks && refsLtL n0 vs
  | .ins _ _ xs => refsLtL n0 xs
def unboxL (f : D → Option (D × List Nat)) : List D → Option (List D × List Nat)
  | [] => some ([], [])
  | x :: xs => match f x, unboxL f xs with
    | some (y, u), some (ys, us) => some (y :: ys, u ++ us)
    | _, _ => none
def unbox (h : Hd) (n0 : Nat) : Nat → D → Option (D × List Nat)
  | 0, _ => none
  | k + 1, .ref n => if n < n0 then some (.ref n, []) else match h[n]? with
    | some (.lst xs) => match unboxL (unbox h n0 k) xs with
      | some (ys, us) => some (.lst ys, us ++ [n])
      | none => none
    | _ => none
  | k + 1, .tup xs => match unboxL (unbox h n0 k) xs with
    | some (ys, us) => some (.tup ys, us)
    | none => none
  | k + 1, .lst xs => match unboxL (unbox h n0 k) xs with
    | some (ys, us) => some (.lst ys, us)
    | none => none
  | _ + 1, .dct _ _ => none
  | _ + 1, d => if refsLt n0 d then some (d, []) else none
def gc (n0 : Nat) (d : D) (h : Hd) : R D :=
  if (h.take n0).all (Cell.refsLt n0) then match unbox h n0 20 d with
    | some (d', us) => if us.Nodup then .ok d' (h.take n0) else .ok d h
    | none => .ok d h
  else .ok d h
section
variable {K : PySem.W.Frag} {mg : Str → Option Value} {ρ ρ' : List Addr} {H H' : Hp}
theorem notin_take {a : Addr} {n : Nat} (h : a ∉ ρ) : a ∉ ρ.take n := fun z => h (List.mem_of_mem_take z)
theorem TupAt.take {a : Addr} {vs : List V} (n : Nat) (h : TupAt K ρ H a vs) : TupAt K (ρ.take n) H a vs := h.imp (fun h => ⟨h.1, notin_take h.2⟩) id
theorem RolAt.take {a : Addr} {vs : List V} (n : Nat) (h : RolAt K ρ H a vs) : RolAt K (ρ.take n) H a vs := h.imp (fun h => ⟨h.1, notin_take h.2⟩) id
mutual
theorem Rep.take (n0 : Nat) : ∀ {d : D} {v : V} {S : List Addr}, Rep K mg ρ H d v S → refsLt n0 d = true → Rep K mg (ρ.take n0) H d v S
  | _, _, _, .non, _ => .non
  | _, _, _, .bl b, _ => .bl b
  | _, _, _, .int i, _ => .int i
  | _, _, _, .str z, _ => .str z
  | _, _, _, .tup h r, p => .tup (h.take n0) (RepL.take n0 r (by simpa [refsLt] using p))
  | _, _, _, .lst h r, p => .lst h (RepL.take n0 r (by simpa [refsLt] using p))
  | _, _, _, .rol h r, p => .rol (h.take n0) (RepL.take n0 r (by simpa [refsLt] using p))
  | _, _, _, .ref h, p => .ref (by
    have p' := of_decide_eq_true (by simpa only [refsLt] using p)
    rw [List.getElem?_take, if_pos p']; exact h)
  | _, _, _, .glb h, _ => .glb h
  | _, _, _, .ty n, _ => .ty n
theorem RepL.take (n0 : Nat) : ∀ {xs : List D} {vs : List V} {S : List Addr}, RepL K mg ρ H xs vs S → refsLtL n0 xs = true → RepL K mg (ρ.take n0) H xs vs S
  | _, _, _, .nil, _ => .nil
  | _, _, _, .cons (x := x) (xs := xs) r t, p => by
    have p' : refsLt n0 x = true ∧ refsLtL n0 xs = true := by simpa [refsLtL] using p
    exact .cons (Rep.take n0 r p'.1) (RepL.take n0 t p'.2)
end
theorem HRel.take {h : Hd} (n0 : Nat) (r : HRel K mg ρ H h) (p : (h.take n0).all (Cell.refsLt n0) = true) : HRel K mg (ρ.take n0) H (h.take n0) := by
  refine ⟨by simp [r.len], r.nd.sublist (List.take_sublist _ _), fun n c a e1 e2 => ?_⟩
  have pc := List.all_eq_true.mp p c (List.mem_of_getElem? e1)
  have e1' : h[n]? = some c := by
    rw [List.getElem?_take] at e1
    split at e1
    · exact e1
    · cases e1
  have e2' : ρ[n]? = some a := by
    rw [List.getElem?_take] at e2
    split at e2
    · exact e2
    · cases e2
  have q := r.cell n c a e1' e2'
  cases c with
  | lst xs => obtain ⟨vs, e, t⟩ := q; exact ⟨vs, e, t.take n0 (by simpa [Cell.refsLt] using pc)⟩
  | dct _ _ => exact q.elim
  | ins _ _ _ => exact q.elim
/-- the addresses of cells -/
def ats (ρ : List Addr) (us : List Nat) : List Addr := us.filterMap fun n => ρ[n]?
theorem ats_append {us ws : List Nat} : ats ρ (us ++ ws) = ats ρ us ++ ats ρ ws := by simp [ats, List.filterMap_append]
theorem unboxL_ok {n0 : Nat} {f : D → Option (D × List Nat)} (hf : ∀ d d' us v S, f d = some (d', us) → Rep K mg ρ H d v S → (∀ n ∈ us, n0 ≤ n) ∧ ∃ S', Rep K mg (ρ.take n0) H d' v S' ∧ S'.Perm (S ++ ats ρ us)) :
    ∀ (xs ys : List D) (us : List Nat) (vs : List V) (S : List Addr), unboxL f xs = some (ys, us) → RepL K mg ρ H xs vs S → (∀ n ∈ us, n0 ≤ n) ∧ ∃ S', RepL K mg (ρ.take n0) H ys vs S' ∧ S'.Perm (S ++ ats ρ us)
  | [], ys, us, _, _, e, .nil => by
    simp [unboxL] at e
    obtain ⟨rfl, rfl⟩ := e
    exact ⟨(fun _ z => nomatch z), [], .nil, by simp [ats]⟩
  | x :: xs, ys, us, _, _, e, .cons (S := S) (T := T) r t => by
    unfold unboxL at e
    split at e
    · rename_i y u ys' us' e1 e2
      simp at e
      obtain ⟨rfl, rfl⟩ := e
      obtain ⟨k1, S1, r1, p1⟩ := hf _ _ _ _ _ e1 r
      obtain ⟨k2, S2, r2, p2⟩ := unboxL_ok hf xs ys' us' _ _ e2 t
      refine ⟨fun n hn => (List.mem_append.mp hn).elim (k1 n) (k2 n), S1 ++ S2, .cons r1 r2, ?_⟩
      rw [ats_append]
      refine (p1.append p2).trans ?_
      rw [List.append_assoc, List.append_assoc]
      refine List.Perm.append_left _ ?_
      rw [← List.append_assoc, ← List.append_assoc]
      exact List.Perm.append_right _ List.perm_append_comm
    · cases e
theorem unbox_ok {h : Hd} {n0 : Nat} (r : HRel K mg ρ H h) : ∀ (k : Nat) (d d' : D) (us : List Nat) (v : V) (S : List Addr), unbox h n0 k d = some (d', us) → Rep K mg ρ H d v S →
    (∀ n ∈ us, n0 ≤ n) ∧ ∃ S', Rep K mg (ρ.take n0) H d' v S' ∧ S'.Perm (S ++ ats ρ us)
  | 0, _, _, _, _, _, e, _ => by simp [unbox] at e
  | k + 1, d, d', us, v, S, e, t => by
    have leaf : ∀ d : D, Rep K mg ρ H d v S → (if refsLt n0 d = true then some (d, ([] : List Nat)) else none) = some (d', us) → (∀ n ∈ us, n0 ≤ n) ∧ ∃ S', Rep K mg (ρ.take n0) H d' v S' ∧ S'.Perm (S ++ ats ρ us) := fun d t e => by
      split at e
      · rename_i p
        simp at e
        obtain ⟨rfl, rfl⟩ := e
        exact ⟨(fun _ z => nomatch z), S, t.take n0 p, by simp [ats]⟩
      · cases e
    cases d with
    | ref n =>
      cases t with
      | ref ha =>
        rename_i a
        simp only [unbox] at e
        split at e
        · rename_i p
          simp at e
          obtain ⟨rfl, rfl⟩ := e
          refine ⟨(fun _ z => nomatch z), [], .ref ?_, by simp [ats]⟩
          rw [List.getElem?_take, if_pos p]; exact ha
        · rename_i p
          split at e
          · rename_i xs hx
            split at e
            · rename_i ys us' e1
              simp at e
              obtain ⟨rfl, rfl⟩ := e
              obtain ⟨vs, hv, tv⟩ := r.cell n _ a hx ha
              obtain ⟨k1, S1, r1, p1⟩ := unboxL_ok (fun d d' us v S => unbox_ok r k d d' us v S) xs ys us' _ _ e1 tv
              refine ⟨fun m hm => ?_, S1 ++ [a], .lst hv r1, ?_⟩
              · rcases List.mem_append.mp hm with hm | hm
                · exact k1 m hm
                · rw [List.mem_singleton.mp hm]; omega
              · rw [ats_append]
                have : ats ρ [n] = [a] := by simp [ats, ha]
                rw [this]
                simpa using p1.append_right [a]
            · cases e
          · cases e
    | tup xs =>
      cases t with
      | tup ht tl =>
        simp only [unbox] at e
        split at e
        · rename_i ys us' e1
          simp at e
          obtain ⟨rfl, rfl⟩ := e
          obtain ⟨k1, S1, r1, p1⟩ := unboxL_ok (fun d d' us v S => unbox_ok r k d d' us v S) xs ys us' _ _ e1 tl
          exact ⟨k1, S1, .tup (ht.take n0) r1, p1⟩
        · cases e
    | lst xs =>
      cases t with
      | lst ht tl =>
        rename_i a vs S
        simp only [unbox] at e
        split at e
        · rename_i ys us' e1
          simp at e
          obtain ⟨rfl, rfl⟩ := e
          obtain ⟨k1, S1, r1, p1⟩ := unboxL_ok (fun d d' us v S => unbox_ok r k d d' us v S) xs ys us' _ _ e1 tl
          refine ⟨k1, S1 ++ [a], .lst ht r1, ?_⟩
          refine (p1.append_right [a]).trans ?_
          rw [List.append_assoc, List.append_assoc]
          exact List.Perm.append_left _ List.perm_append_comm
        · cases e
    | dct _ _ => cases t
    | exc _ _ _ => cases t
    | non => exact leaf _ t (by simpa only [unbox] using e)
    | bl _ => exact leaf _ t (by simpa only [unbox] using e)
    | int _ => exact leaf _ t (by simpa only [unbox] using e)
    | str _ => exact leaf _ t (by simpa only [unbox] using e)
    | rol _ => exact leaf _ t (by simpa only [unbox] using e)
    | glb _ => exact leaf _ t (by simpa only [unbox] using e)
    | ty _ => exact leaf _ t (by simpa only [unbox] using e)
theorem nd_at {α : Type} {l : List α} (hN : l.Nodup) {i j : Nat} {x : α} (a : l[i]? = some x) (b : l[j]? = some x) : i = j := by
  obtain ⟨h1, e1⟩ := List.getElem?_eq_some_iff.mp a
  obtain ⟨h2, e2⟩ := List.getElem?_eq_some_iff.mp b
  exact (List.getElem_inj hN).mp (e1.trans e2.symm)
theorem mem_ats {us : List Nat} {a : Addr} : a ∈ ats ρ us ↔ ∃ n ∈ us, ρ[n]? = some a := by simp [ats, List.mem_filterMap]
theorem ats_nodup (nd : ρ.Nodup) : ∀ {us : List Nat}, us.Nodup → (ats ρ us).Nodup
  | [], _ => by simp [ats]
  | n :: us, h => by
    rw [List.nodup_cons] at h
    have ih := ats_nodup nd h.2
    cases q : ρ[n]? with
    | none => simpa [ats, q] using ih
    | some a =>
      have : ats ρ (n :: us) = a :: ats ρ us := by simp [ats, q]
      rw [this, List.nodup_cons]
      refine ⟨fun z => ?_, ih⟩
      obtain ⟨m, hm, e⟩ := mem_ats.mp z
      have := nd_at nd q e
      subst this
      exact h.1 hm
/-- what lies behind a def's end -/
theorem gc_ok {T : List Addr} {ρ0 : List Addr} {H0 : Hp} {h h' : Hd} {n0 : Nat} {d d' : D} {v : V} {S : List Addr} (l : ρ0.length = n0) (r : HRel K mg ρ H h) (s : Step T ρ0 H0 ρ H) (t : Rep K mg ρ H d v S) (nd : S.Nodup) (na : ∀ a ∈ S, a ∉ ρ ∧ (H0 a = none ∨ a ∈ T))
    (e : gc n0 d h = .ok d' h') : ∃ ρ' S', HRel K mg ρ' H h' ∧ Step T ρ0 H0 ρ' H ∧ Rep K mg ρ' H d' v S' ∧ S'.Nodup ∧ ∀ a ∈ S', a ∉ ρ' ∧ (H0 a = none ∨ a ∈ T) := by
  have same : d' = d → h' = h → ∃ ρ' S', HRel K mg ρ' H h' ∧ Step T ρ0 H0 ρ' H ∧ Rep K mg ρ' H d' v S' ∧ S'.Nodup ∧ ∀ a ∈ S', a ∉ ρ' ∧ (H0 a = none ∨ a ∈ T) := fun e1 e2 => by
    subst e1 e2
    exact ⟨ρ, S, r, s, t, nd, na⟩
  have ht : ρ.take n0 = ρ0 := by
    obtain ⟨m, rfl⟩ := s.pre
    rw [← l, List.take_left]
  unfold gc at e
  split at e
  · rename_i p
    split at e
    · rename_i d1 us e1
      split at e
      · rename_i nu
        cases e
        obtain ⟨k, S', r', pm⟩ := unbox_ok r 20 d d' us v S e1 t
        have rt := r.take n0 p
        rw [ht] at rt r'
        have nots : ∀ a ∈ ats ρ us, a ∉ ρ0 := fun a ha z => by
          obtain ⟨n, hn, e⟩ := mem_ats.mp ha
          obtain ⟨j, hj, ej⟩ := List.mem_iff_getElem.mp z
          have e2 : ρ[j]? = some a := pre_get s.pre (by rw [List.getElem?_eq_getElem hj, ej])
          have := nd_at r.nd e e2
          have := k n hn
          omega
        refine ⟨ρ0, S', rt, ⟨List.prefix_refl _, fun _ m n => absurd m n, fun a o e n nT => s.frame a o e n nT⟩, r', ?_, fun a ha => ?_⟩
        · refine pm.nodup_iff.mpr (List.nodup_append.mpr ⟨nd, ats_nodup r.nd nu, fun a ha b hb z => ?_⟩)
          subst z
          obtain ⟨n, _, e⟩ := mem_ats.mp hb
          exact (na a ha).1 (List.mem_of_getElem? e)
        · rcases List.mem_append.mp (pm.mem_iff.mp ha) with ha | ha
          · exact ⟨fun z => (na a ha).1 (s.pre.subset z), (na a ha).2⟩
          · refine ⟨nots a ha, ?_⟩
            obtain ⟨n, _, e⟩ := mem_ats.mp ha
            exact s.new a (List.mem_of_getElem? e) (nots a ha)
      · cases e; exact same rfl rfl
    · cases e; exact same rfl rfl
  · cases e; exact same rfl rfl
theorem gc_isok {n0 : Nat} {d : D} {h : Hd} : ∃ d' h', gc n0 d h = .ok d' h' := by
  unfold gc
  split
  · split
    · split
      · exact ⟨_, _, rfl⟩
      · exact ⟨_, _, rfl⟩
    · exact ⟨_, _, rfl⟩
  · exact ⟨_, _, rfl⟩
end
end Tw

/-! TwJudge: what an expression, a test, a statement does, as a function on trees and cells. -/
namespace Tw
open PySem PySem.Spec PyProof.Rows L2

abbrev ME := En → Hd → R D
abbrev MT := En → Hd → R Bool
abbrev MA := En → Hd → R (List D)
abbrev MS := En → Hd → RS

section
variable (K : PySem.W.Frag) (mg : Str → Option Value)
/-- the end of an expression from (ρ, H), T given up -/
structure Fin (T : List Addr) (ρ : List Addr) (H : Hp) (d : D) (h' : Hd) (v : V) (ρ' : List Addr) (H' : Hp) (S : List Addr) : Prop where
  hr : HRel K mg ρ' H' h'
  st : Step T ρ H ρ' H'
  rp : Rep K mg ρ' H' d v S
  nd : S.Nodup
  fr : ∀ a ∈ S, a ∉ ρ' ∧ (H a = none ∨ a ∈ T)
structure FinL (T : List Addr) (ρ : List Addr) (H : Hp) (ds : List D) (h' : Hd) (vs : List V) (ρ' : List Addr) (H' : Hp) (S : List Addr) : Prop where
  hr : HRel K mg ρ' H' h'
  st : Step T ρ H ρ' H'
  rp : RepL K mg ρ' H' ds vs S
  nd : S.Nodup
  fr : ∀ a ∈ S, a ∉ ρ' ∧ (H a = none ∨ a ∈ T)
/-- an exception: its class, its own dict -/
def RepX (ρ : List Addr) (H : Hp) (e : D) (cls : Value) (dd : Option Addr) : Prop := match e with
  | .exc C ns xs => ∃ c, mg C = some (.ref c) ∧ cls = .ref c ∧ ∃ vs, RepL K mg ρ H xs vs [] ∧ xs.length = ns.length ∧
      ((ns = [] ∧ dd = none) ∨ ∃ da, dd = some da ∧ H da = some (.xd (ns.zip vs)) ∧ da ∉ ρ)
  | _ => False
def XEnd (Wx : WX) (T : List Addr) (ρ : List Addr) (H : Hp) (e : D) (h' : Hd) (σ : L2.St) : Prop :=
  ∀ cls dd ρ' H', HRel K mg ρ' H' h' → Step T ρ H ρ' H' → RepX K mg ρ' H' e cls dd → Wx cls dd σ H'
/-- what is to be shown of a result -/
def REnd (Wx : WX) (T : List Addr) (ρ : List Addr) (H : Hp) (σ : L2.St) (Q : VK) : R D → Prop
  | .ok d h' => ∀ v ρ' H' S, Fin K mg T ρ H d h' v ρ' H' S → Q v H'
  | .exc e h' => XEnd K mg Wx T ρ H e h' σ
  | .stuck => False
def REndL (Wx : WX) (T : List Addr) (ρ : List Addr) (H : Hp) (σ : L2.St) (Q : List V → Hp → Prop) : R (List D) → Prop
  | .ok ds h' => ∀ vs ρ' H' S, FinL K mg T ρ H ds h' vs ρ' H' S → Q vs H'
  | .exc e h' => XEnd K mg Wx T ρ H e h' σ
  | .stuck => False
def REndB (Wx : WX) (T : List Addr) (ρ : List Addr) (H : Hp) (σ : L2.St) (Q : Bool → Hp → Prop) : R Bool → Prop
  | .ok b h' => ∀ ρ' H', HRel K mg ρ' H' h' → Step T ρ H ρ' H' → Q b H'
  | .exc e h' => XEnd K mg Wx T ρ H e h' σ
  | .stuck => False
def SEnd (Wx : WX) (ρ : List Addr) (H : Hp) (D : Ends) : RS → Prop
  | .nx env' h' => ∀ σ' ρ' H', HRel K mg ρ' H' h' → EnvRel K mg ρ' H' env' σ' → Step [] ρ H ρ' H' → D.nx σ' H'
  | .bk env' h' => ∀ σ' ρ' H', HRel K mg ρ' H' h' → EnvRel K mg ρ' H' env' σ' → Step [] ρ H ρ' H' → D.bk σ' H'
  | .ct env' h' => ∀ σ' ρ' H', HRel K mg ρ' H' h' → EnvRel K mg ρ' H' env' σ' → Step [] ρ H ρ' H' → D.ct σ' H'
  | .rt d h' => ∀ v ρ' H' S, Fin K mg [] ρ H d h' v ρ' H' S → D.rt v H'
  | .exc e env' h' => ∀ cls dd σ' ρ' H', HRel K mg ρ' H' h' → EnvRel K mg ρ' H' env' σ' → Step [] ρ H ρ' H' → RepX K mg ρ' H' e cls dd → Wx cls dd σ' H'
  | .stuck => False
def tE (Wx : WX) (m : ME) : TE := fun σ H Q => ∃ ρ env h, HRel K mg ρ H h ∧ EnvRel K mg ρ H env σ ∧ REnd K mg Wx [] ρ H σ Q (m env h)
def tT (Wx : WX) (m : MT) : TT := fun σ H Q => ∃ ρ env h, HRel K mg ρ H h ∧ EnvRel K mg ρ H env σ ∧ REndB K mg Wx [] ρ H σ Q (m env h)
def tA (Wx : WX) (m : MA) : TA := fun σ H Q => ∃ ρ env h, HRel K mg ρ H h ∧ EnvRel K mg ρ H env σ ∧ REndL K mg Wx [] ρ H σ Q (m env h)
def tS (Wx : WX) (m : MS) : TS := fun D σ H => ∃ ρ env h, HRel K mg ρ H h ∧ EnvRel K mg ρ H env σ ∧ SEnd K mg Wx ρ H D (m env h)
end

abbrev JE (X : Cx) (Wx : WX) (e : Expr) (m : ME) : Prop := PE X e (tE X.K X.mg Wx m)
abbrev JT (X : Cx) (Wx : WX) (e : Expr) (m : MT) : Prop := PT X e (tT X.K X.mg Wx m)
abbrev JW (X : Cx) (Wx : WX) (e : Expr) (m : MT) : Prop := PW X e (tT X.K X.mg Wx m)
abbrev JA (X : Cx) (Wx : WX) (es : List Expr) (m : MA) : Prop := PA X es (tA X.K X.mg Wx m)
abbrev JS (X : Cx) (Wx : WX) (s : Stmt) (m : MS) : Prop := PS X s (tS X.K X.mg Wx m)
abbrev JB (X : Cx) (Wx : WX) (ss : List Stmt) (m : MS) : Prop := PSs X ss (tS X.K X.mg Wx m)

/-! ### consequence -/
section
variable {X : Cx} {e : Expr} {es : List Expr} {s : Stmt} {ss : List Stmt}
theorem PE.mono {t t' : TE} (h : PE X e t) (i : ∀ σ H Q, t' σ H Q → t σ H Q) : PE X e t' := ⟨fun pins s σ H Q I q => h.run pins s σ H Q I (i σ H Q q)⟩
theorem PT.mono {t t' : TT} (h : PT X e t) (i : ∀ σ H Q, t' σ H Q → t σ H Q) : PT X e t' := ⟨fun pins s σ H Q I q => h.run pins s σ H Q I (i σ H Q q)⟩
theorem PW.mono {t t' : TT} (h : PW X e t) (i : ∀ σ H Q, t' σ H Q → t σ H Q) : PW X e t' := ⟨fun w pins s σ H Q I q => h.run w pins s σ H Q I (i σ H Q q)⟩
theorem PA.mono {t t' : TA} (h : PA X es t) (i : ∀ σ H Q, t' σ H Q → t σ H Q) : PA X es t' := ⟨fun pos pins s σ H Q I q => h.run pos pins s σ H Q I (i σ H Q q)⟩
theorem PS.mono {t t' : TS} (h : PS X s t) (i : ∀ D σ H, t' D σ H → t D σ H) : PS X s t' := ⟨fun pins s σ H D I q => h.run pins s σ H D I (i D σ H q)⟩
theorem PSs.mono {t t' : TS} (h : PSs X ss t) (i : ∀ D σ H, t' D σ H → t D σ H) : PSs X ss t' := ⟨fun pins s σ H D I q => h.run pins s σ H D I (i D σ H q)⟩
end

section
variable {K : PySem.W.Frag} {mg : Str → Option Value} {Wx : WX} {ρ ρ1 : List Addr} {H H1 : Hp} {σ : L2.St} {h : Hd}
theorem XEnd.later {T : List Addr} {e : D} (s : Step [] ρ H ρ1 H1) (hT : ∀ a ∈ T, H a = none ∧ a ∉ ρ1) (x : XEnd K mg Wx [] ρ H e h σ) : XEnd K mg Wx T ρ1 H1 e h σ :=
  fun cls dd ρ' H' r st rx => x cls dd ρ' H' r (s.transT st hT) rx
theorem Fin.later {T : List Addr} {d : D} {v : V} {ρ' S : List Addr} {H' : Hp} (s : Step [] ρ H ρ1 H1) (hr1 : HRel K mg ρ1 H1 h) {h' : Hd} (hT : ∀ a ∈ T, H a = none ∧ a ∉ ρ1) (f : Fin K mg T ρ1 H1 d h' v ρ' H' S) (n : ∀ a, H a = none → a ∉ ρ) : Fin K mg [] ρ H d h' v ρ' H' S :=
  ⟨f.hr, s.transT f.st hT, f.rp, f.nd, fun a ha => ⟨(f.fr a ha).1, .inl (by
    rcases (f.fr a ha).2 with z | z
    · cases q : H a with
      | none => rfl
      | some o =>
        by_cases m : a ∈ ρ
        · obtain ⟨o', e, _⟩ := hr1.there (s.pre.subset m)
          rw [z] at e; cases e
        · rw [s.frame a o q m (fun z => nomatch z)] at z; cases z
    · exact (hT a z).1)⟩⟩
/-- the general step: a result behind a first part -/
theorem REnd.later {T : List Addr} {Q : VK} {r : R D} (s : Step [] ρ H ρ1 H1) (hr : HRel K mg ρ H h) {h1 : Hd} (hr1 : HRel K mg ρ1 H1 h1) (hT : ∀ a ∈ T, H a = none ∧ a ∉ ρ1) (x : REnd K mg Wx [] ρ H σ Q r) : REnd K mg Wx T ρ1 H1 σ Q r := by
  cases r with
  | ok d h' => exact fun v ρ' H' S f => x v ρ' H' S (f.later s hr1 hT fun a e => hr.notin e)
  | exc e h' => exact XEnd.later s hT x
  | stuck => exact x
end
end Tw

/-! TwExpr: expressions. -/
namespace Tw
open PySem PySem.Spec PyProof.Rows L2

/-! ### the functions -/
def eVar (i : Nat) : ME := fun env h => match env[i]? with
  | some (some d) => .ok d h
  | _ => .stuck
def eC (d : D) : ME := fun _ h => .ok d h
def R.lift (h : Hd) : Option D → R D
  | some d => .ok d h
  | none => .stuck
@[simp] theorem R.lift_some (h : Hd) (d : D) : R.lift h (some d) = .ok d h := id rfl
@[simp] theorem R.lift_none (h : Hd) : R.lift h none = .stuck := id rfl
def eUn (op : D → Hd → Option D) (a : ME) : ME := fun env h => (a env h).bind fun x h1 => R.lift h1 (op x h1)
def eBin (op : D → D → Hd → Option D) (a b : ME) : ME := fun env h => (a env h).bind fun x h1 => (b env h1).bind fun y h2 => R.lift h2 (op x y h2)
def aNil : MA := fun _ h => .ok [] h
def aCons (a : ME) (as : MA) : MA := fun env h => (a env h).bind fun x h1 => (as env h1).bind fun xs h2 => .ok (x :: xs) h2
def eN (op : List D → Hd → Option D) (as : MA) : ME := fun env h => (as env h).bind fun xs h1 => R.lift h1 (op xs h1)
/-- a value that is a bool, as a test -/
def asB (h : Hd) : D → R Bool
  | .bl b => .ok b h
  | _ => .stuck
def tVal (a : ME) : MT := fun env h => (a env h).bind fun x h1 => asB h1 x
def tNot (a : MT) : MT := fun env h => (a env h).bind fun b h1 => .ok (!b) h1
def tAnd (a b : MT) : MT := fun env h => (a env h).bind fun c h1 => if c = true then b env h1 else .ok false h1
def tOr (a b : MT) : MT := fun env h => (a env h).bind fun c h1 => if c = true then .ok true h1 else b env h1
def eIf (t : MT) (a b : ME) : ME := fun env h => (t env h).bind fun c h1 => if c = true then a env h1 else b env h1
def asBD (h : Hd) (x : D) (f : Bool → R D) : R D := match x with
  | .bl b => f b
  | _ => .stuck
def eAnd (a b : ME) : ME := fun env h => (a env h).bind fun x h1 => asBD h1 x fun c => if c = true then b env h1 else .ok (.bl false) h1
def eOr (a b : ME) : ME := fun env h => (a env h).bind fun x h1 => asBD h1 x fun c => if c = true then .ok (.bl true) h1 else b env h1
def eNot (a : ME) : ME := fun env h => (a env h).bind fun x h1 => asBD h1 x fun c => .ok (.bl (!c)) h1

/-! ### operations by values -/
section
variable (K : PySem.W.Frag) (mg : Str → Option Value)
/-- the value d comes of what S owned, the cells stay -/
def Op1 (op : D → Hd → Option D) (r : V → Hp → VK → Prop) : Prop :=
  ∀ x h d, op x h = some d → ∀ ρ H vx S Q, HRel K mg ρ H h → Rep K mg ρ H x vx S → S.Nodup → (∀ a ∈ S, a ∉ ρ) →
    (∀ v H' S', Same H H' → Rep K mg ρ H' d v S' → S'.Nodup → (∀ a ∈ S', a ∉ ρ ∧ (H a = none ∨ a ∈ S)) → Q v H') → r vx H Q
def Op2 (op : D → D → Hd → Option D) (r : R2) : Prop :=
  ∀ x y h d, op x y h = some d → ∀ ρ H vx vy S1 S2 Q, HRel K mg ρ H h → Rep K mg ρ H x vx S1 → Rep K mg ρ H y vy S2 → (S1 ++ S2).Nodup → (∀ a ∈ S1 ++ S2, a ∉ ρ) →
    (∀ v H' S', Same H H' → Rep K mg ρ H' d v S' → S'.Nodup → (∀ a ∈ S', a ∉ ρ ∧ (H a = none ∨ a ∈ S1 ++ S2)) → Q v H') → r vx vy H Q
def OpN (op : List D → Hd → Option D) (r : List V → Hp → VK → Prop) : Prop :=
  ∀ xs h d, op xs h = some d → ∀ ρ H vs S Q, HRel K mg ρ H h → RepL K mg ρ H xs vs S → S.Nodup → (∀ a ∈ S, a ∉ ρ) →
    (∀ v H' S', Same H H' → Rep K mg ρ H' d v S' → S'.Nodup → (∀ a ∈ S', a ∉ ρ ∧ (H a = none ∨ a ∈ S)) → Q v H') → r vs H Q
end
section
variable {K : PySem.W.Frag} {mg : Str → Option Value} {Wx : WX} {ρ ρ1 ρ' : List Addr} {H H1 H' : Hp} {σ : L2.St} {h h' : Hd}
theorem Step.same {T : List Addr} (s : Same H H') : Step T ρ H ρ H' := ⟨List.prefix_refl _, fun _ m n => absurd m n, fun a o e _ _ => s a o e⟩
theorem Fin.same {T S : List Addr} {d : D} {v : V} (hr : HRel K mg ρ H h) (s : Same H H') (r : Rep K mg ρ H' d v S) (nd : S.Nodup) (fr : ∀ a ∈ S, a ∉ ρ ∧ (H a = none ∨ a ∈ T)) : Fin K mg T ρ H d h v ρ H' S :=
  ⟨hr.kept s, Step.same s, r, nd, fr⟩
theorem same_refl : Same H H := fun _ _ e => e
/-- behind the value of an expression, in a later state -/
theorem Fin.owns {d : D} {v : V} {S : List Addr} (f : Fin K mg [] ρ H d h' v ρ' H' S) : ∀ a ∈ S, a ∉ ρ' := fun a ha => (f.fr a ha).1
theorem Fin.isnew {d : D} {v : V} {S : List Addr} (f : Fin K mg [] ρ H d h' v ρ' H' S) : ∀ a ∈ S, H a = none := fun a ha => (f.fr a ha).2.elim id fun z => nomatch z
theorem FinL.owns {d : List D} {v : List V} {S : List Addr} (f : FinL K mg [] ρ H d h' v ρ' H' S) : ∀ a ∈ S, a ∉ ρ' := fun a ha => (f.fr a ha).1
theorem FinL.isnew {d : List D} {v : List V} {S : List Addr} (f : FinL K mg [] ρ H d h' v ρ' H' S) : ∀ a ∈ S, H a = none := fun a ha => (f.fr a ha).2.elim id fun z => nomatch z
/-- two values one behind the other: both stand, and own different things -/
theorem Fin.two {d1 d2 : D} {v1 v2 : V} {S1 S2 : List Addr} {ρ2 : List Addr} {H2 : Hp} {h2 : Hd} (f1 : Fin K mg [] ρ H d1 h' v1 ρ1 H1 S1) (f2 : Fin K mg [] ρ1 H1 d2 h2 v2 ρ2 H2 S2) :
    Rep K mg ρ2 H2 d1 v1 S1 ∧ (S1 ++ S2).Nodup ∧ ∀ a ∈ S1 ++ S2, a ∉ ρ2 := by
  have own : ∀ a ∈ S1, ∃ o, H1 a = some o := fun a ha => let ⟨o, e, _⟩ := f1.rp.owned a ha; ⟨o, e⟩
  refine ⟨f1.rp.to f2.st (fun _ z => nomatch z) fun a ha => ⟨f1.owns a ha, fun z => nomatch z⟩, ?_, fun a ha z => ?_⟩
  · refine List.nodup_append.mpr ⟨f1.nd, f2.nd, fun a ha b hb e => ?_⟩
    subst e
    obtain ⟨o, e⟩ := own a ha
    rw [f2.isnew a hb] at e; cases e
  · rcases List.mem_append.mp ha with ha | ha
    · rcases f2.st.new a z (f1.owns a ha) with e | e
      · obtain ⟨o, q⟩ := own a ha
        rw [e] at q; cases q
      · cases e
    · exact f2.owns a ha z
theorem Fin.twoL {d1 : D} {d2 : List D} {v1 : V} {v2 : List V} {S1 S2 : List Addr} {ρ2 : List Addr} {H2 : Hp} {h2 : Hd} (f1 : Fin K mg [] ρ H d1 h' v1 ρ1 H1 S1) (f2 : FinL K mg [] ρ1 H1 d2 h2 v2 ρ2 H2 S2) :
    Rep K mg ρ2 H2 d1 v1 S1 ∧ (S1 ++ S2).Nodup ∧ ∀ a ∈ S1 ++ S2, a ∉ ρ2 := by
  have own : ∀ a ∈ S1, ∃ o, H1 a = some o := fun a ha => let ⟨o, e, _⟩ := f1.rp.owned a ha; ⟨o, e⟩
  refine ⟨f1.rp.to f2.st (fun _ z => nomatch z) fun a ha => ⟨f1.owns a ha, fun z => nomatch z⟩, ?_, fun a ha z => ?_⟩
  · refine List.nodup_append.mpr ⟨f1.nd, f2.nd, fun a ha b hb e => ?_⟩
    subst e
    obtain ⟨o, e⟩ := own a ha
    rw [f2.isnew a hb] at e; cases e
  · rcases List.mem_append.mp ha with ha | ha
    · rcases f2.st.new a z (f1.owns a ha) with e | e
      · obtain ⟨o, q⟩ := own a ha
        rw [e] at q; cases q
      · cases e
    · exact f2.owns a ha z
/-- nothing is new among what was not there -/
theorem none_back (s : Step [] ρ H ρ1 H1) (hr1 : HRel K mg ρ1 H1 h) {a : Addr} (e : H1 a = none) : H a = none := by
  cases q : H a with
  | none => rfl
  | some o =>
    by_cases m : a ∈ ρ
    · obtain ⟨o', e', _⟩ := hr1.there (s.pre.subset m)
      rw [e] at e'; cases e'
    · rw [s.frame a o q m (fun z => nomatch z)] at e; cases e
theorem Fin.one {d1 d : D} {v1 v : V} {S1 S : List Addr} {H2 : Hp} (f1 : Fin K mg [] ρ H d1 h' v1 ρ1 H1 S1) (s : Same H1 H2) (r : Rep K mg ρ1 H2 d v S) (nd : S.Nodup) (fr : ∀ a ∈ S, a ∉ ρ1 ∧ (H1 a = none ∨ a ∈ S1)) :
    Fin K mg [] ρ H d h' v ρ1 H2 S :=
  ⟨f1.hr.kept s, f1.st.trans (Step.same s), r, nd, fun a ha => ⟨(fr a ha).1, .inl ((fr a ha).2.elim (none_back f1.st f1.hr) (f1.isnew a))⟩⟩
end

section
variable {X : Cx} {Wx : WX} {a b c : Expr} {ma mb mc : ME} {pos : Pos}
theorem je_var {i : Nat} {x : Str} (hN : X.N[i]? = some x := by rfl) (hv : Vis X.env.scope x := by first | exact Or.inl rfl | exact Or.inr (Or.inl rfl) | exact Or.inr (Or.inr rfl)) (hd : (x == ("__debug__" : Str)) = false := by decide) (hcd : (x == ("__classdict__" : Str)) = false := by decide) : JE X Wx (.Name x pos) (eVar i) := by
  refine PE.mono (pe_var hN hv hd hcd) fun σ H Q ⟨ρ, env, h, hr, er, q⟩ => ?_
  unfold eVar at q
  split at q
  · rename_i d e
    obtain ⟨v, e1, r⟩ := er.2 i d e
    exact ⟨v, e1, q v ρ H [] ⟨hr, Step.refl, r, List.nodup_nil, fun _ z => nomatch z⟩⟩
  · exact q.elim
theorem je_const {v : V} {d : D} (h0 : PE X a (tC v)) (hd : ∀ ρ H, Rep X.K X.mg ρ H d v []) : JE X Wx a (eC d) := by
  refine PE.mono h0 fun σ H Q ⟨ρ, env, h, hr, er, q⟩ => ?_
  exact q v ρ H [] ⟨hr, Step.refl, hd _ _, List.nodup_nil, fun _ z => nomatch z⟩
theorem je_int {i : Int} {j : Nat} : JE X Wx (.Constant (.int i) j pos) (eC (.int i)) := je_const pe_int fun _ _ => .int i
theorem je_bl {i : Bool} {j : Nat} : JE X Wx (.Constant (.bool i) j pos) (eC (.bl i)) := je_const pe_bl fun _ _ => .bl i
theorem je_str {i : Str} {j : Nat} : JE X Wx (.Constant (.str i) j pos) (eC (.str i)) := je_const pe_str fun _ _ => .str i
theorem je_non {j : Nat} : JE X Wx (.Constant .none j pos) (eC .non) := je_const pe_non fun _ _ => .non
/-- a def or a class of the module, as a value -/
theorem je_glb {x : Str} {f : Addr} (hm : X.mg x = some (.ref f)) (hg : Gl X x := by rfl) (hd : (x == ("__debug__" : Str)) = false := by decide) : JE X Wx (.Name x pos) (eC (.glb x)) :=
  je_const (pe_glob hg hm (v := .ref f) rfl hd) fun _ _ => .glb hm
/-- an int of the module -/
theorem je_gint {x : Str} {i : Int} {t : Tok} (hm : X.mg x = some (.int i t)) (hg : Gl X x := by rfl) (hd : (x == ("__debug__" : Str)) = false := by decide) : JE X Wx (.Name x pos) (eC (.int i)) :=
  je_const (pe_glob hg hm (v := .int i) ⟨_, rfl⟩ hd) fun _ _ => .int i
theorem je_gstr {x : Str} {i : Str} {t : Tok} (hm : X.mg x = some (.str i t)) (hg : Gl X x := by rfl) (hd : (x == ("__debug__" : Str)) = false := by decide) : JE X Wx (.Name x pos) (eC (.str i)) :=
  je_const (pe_glob hg hm (v := .str i) ⟨_, rfl⟩ hd) fun _ _ => .str i
/-- a built-in class as a value -/
theorem je_bty {x : Str} {n : String} (hm : X.mg x = none) (hv : bootBuiltins x = some (.type n) := by decide +kernel) (hg : Gl X x := by rfl) (hn : x ≠ "__name__" := by decide) (hd : (x == ("__debug__" : Str)) = false := by decide) : JE X Wx (.Name x pos) (eC (.ty n)) :=
  je_const (pe_bltn hg hm hv (v := .ty n) rfl hn hd) fun _ _ => .ty n

/-- one operand -/
theorem tE_un {K mg} {σ : L2.St} {H : Hp} {Q : VK} {op : D → Hd → Option D} {r : V → Hp → VK → Prop} (ho : Op1 K mg op r) (q : tE K mg Wx (eUn op ma) σ H Q) : tE K mg Wx ma σ H fun x H1 => r x H1 Q := by
  obtain ⟨ρ, env, h, hr, er, q⟩ := q
  refine ⟨ρ, env, h, hr, er, ?_⟩
  unfold eUn at q
  cases ea : ma env h with
  | ok x h1 =>
    rw [ea] at q
    simp only [R.bind_ok] at q
    intro v1 ρ1 H1 S1 f1
    cases eo : op x h1 with
    | none => rw [eo] at q; exact q.elim
    | some d =>
      rw [eo] at q
      refine ho x h1 d eo ρ1 H1 v1 S1 Q f1.hr f1.rp f1.nd f1.owns fun v H' S' sm rp nd fr => ?_
      exact q v ρ1 H' S' (f1.one sm rp nd fr)
  | exc e h1 => rw [ea] at q; exact q
  | stuck => rw [ea] at q; exact q
theorem tE_bin {K mg} {σ : L2.St} {H : Hp} {Q : VK} {op : D → D → Hd → Option D} {r : R2} (ho : Op2 K mg op r) (q : tE K mg Wx (eBin op ma mb) σ H Q) : tE K mg Wx ma σ H fun x H1 => tE K mg Wx mb σ H1 fun y H2 => r x y H2 Q := by
  obtain ⟨ρ, env, h, hr, er, q⟩ := q
  refine ⟨ρ, env, h, hr, er, ?_⟩
  unfold eBin at q
  cases ea : ma env h with
  | ok x h1 =>
    rw [ea] at q
    simp only [R.bind_ok] at q
    intro v1 ρ1 H1 S1 f1
    refine ⟨ρ1, env, h1, f1.hr, er.to f1.st, ?_⟩
    cases eb : mb env h1 with
    | ok y h2 =>
      rw [eb] at q
      simp only [R.bind_ok] at q
      intro v2 ρ2 H2 S2 f2
      obtain ⟨r1, nd, na⟩ := f1.two f2
      cases eo : op x y h2 with
      | none => rw [eo] at q; exact q.elim
      | some d =>
        rw [eo] at q
        refine ho x y h2 d eo ρ2 H2 v1 v2 S1 S2 Q f2.hr r1 f2.rp nd na fun v H' S' sm rp nd' fr => ?_
        refine q v ρ2 H' S' ⟨f2.hr.kept sm, (f1.st.trans f2.st).trans (Step.same sm), rp, nd', fun a ha => ⟨(fr a ha).1, .inl ?_⟩⟩
        rcases (fr a ha).2 with z | z
        · exact none_back (f1.st.trans f2.st) f2.hr z
        · rcases List.mem_append.mp z with z | z
          · exact f1.isnew a z
          · exact none_back f1.st f1.hr (f2.isnew a z)
    | exc e h2 => rw [eb] at q; exact XEnd.later f1.st (fun _ z => nomatch z) q
    | stuck => rw [eb] at q; exact q
  | exc e h1 => rw [ea] at q; exact q
  | stuck => rw [ea] at q; exact q
theorem je_bin {op : Operator} {f : D → D → Hd → Option D} {r : R2} (hr : OpR X (binaryOp op) r) (ho : Op2 X.K X.mg f r) (ha : JE X Wx a ma) (hb : JE X Wx b mb) : JE X Wx (.BinOp a op b pos) (eBin f ma mb) :=
  PE.mono (pe_op hr ha hb) fun _ _ _ q => tE_bin ho q
theorem je_un {op : UnaryOp} {f : D → Hd → Option D} {r : V → Hp → VK → Prop} (hr : UnR X (unaryOp op) r) (ho : Op1 X.K X.mg f r) (ha : JE X Wx a ma) : JE X Wx (.UnaryOp op a pos) (eUn f ma) :=
  PE.mono (pe_un hr ha) fun _ _ _ q => tE_un ho q
/-- a comparison as a value -/
theorem je_cmp {op : CmpOp} {f : D → D → Hd → Option D} {r : R2} (hr : OpR X (compareOp op) r) (ho : Op2 X.K X.mg f r) (ha : JE X Wx a ma) (hb : JE X Wx b mb) (hm : behindInMarks op b = false := by first | exact nomark _ | rfl) : JE X Wx (.Compare a [op] [b] pos) (eBin f ma mb) :=
  PE.mono (pe_cmpR hr ha hb hm) fun _ _ _ q => tE_bin ho q
theorem Fin.bl {K mg} {ρ ρ' : List Addr} {H H' : Hp} {h' : Hd} {b : Bool} (hr : HRel K mg ρ' H' h') (s : Step [] ρ H ρ' H') : Fin K mg [] ρ H (.bl b) h' (.bl b) ρ' H' [] := ⟨hr, s, .bl b, List.nodup_nil, fun _ z => nomatch z⟩
/-- the value of a test -/
theorem tT_val {K mg} {σ : L2.St} {H : Hp} {Q : Bool → Hp → Prop} (q : tT K mg Wx (tVal ma) σ H Q) : tE K mg Wx ma σ H fun x H1 => ∃ k, x = .bl k ∧ Q k H1 := by
  obtain ⟨ρ, env, h, hr, er, q⟩ := q
  refine ⟨ρ, env, h, hr, er, ?_⟩
  unfold tVal at q
  cases ea : ma env h with
  | ok x h1 =>
    rw [ea] at q
    simp only [R.bind_ok] at q
    intro v1 ρ1 H1 S1 f1
    cases x with
    | bl b =>
      have rp := f1.rp
      cases rp
      exact ⟨b, rfl, q ρ1 H1 f1.hr f1.st⟩
    | _ => exact q.elim
  | exc e h1 => rw [ea] at q; exact q
  | stuck => rw [ea] at q; exact q
theorem jt_val (ha : JE X Wx a ma) (he : ∀ whole, isTrue a X.env whole = (do let v ← whole; standAt a.pos; holding [v] (truthy v)) := by intro _; rfl) : JT X Wx a (tVal ma) :=
  PT.mono (pt_val ha he) fun _ _ _ q => tT_val q
theorem jt_cmp {op : CmpOp} {f : D → D → Hd → Option D} {r : R2} (hr : OpR X (compareOp op) r) (ho : Op2 X.K X.mg f r) (ha : JE X Wx a ma) (hb : JE X Wx b mb) (hm : behindInMarks op b = false := by first | exact nomark _ | rfl) : JT X Wx (.Compare a [op] [b] pos) (tVal (eBin f ma mb)) := by
  refine PT.mono (pt_cmpR hr ha hb hm) fun σ H Q q => ?_
  have := tT_val q
  exact tE_bin ho this
theorem jt_not {mt : MT} (ha : JT X Wx a mt) : JT X Wx (.UnaryOp .Not a pos) (tNot mt) := by
  refine PT.mono (pt_not ha) fun σ H Q ⟨ρ, env, h, hr, er, q⟩ => ⟨ρ, env, h, hr, er, ?_⟩
  unfold Tw.tNot at q
  cases ea : mt env h with
  | ok x h1 => rw [ea] at q; exact fun ρ' H' h1 s => q ρ' H' h1 s
  | exc e h1 => rw [ea] at q; exact q
  | stuck => rw [ea] at q; exact q
theorem jw_one {op : BoolOp} {mt : MT} (ha : JT X Wx a mt) : JW X Wx (.BoolOp op [a] pos) mt := by
  cases op with
  | And => exact pw_and1 ha
  | Or => exact pw_or1 ha
theorem jw_and {rest : List Expr} {mt mu : MT} (ha : JT X Wx a mt) (hb : JW X Wx (.BoolOp .And (b :: rest) pos) mu) : JW X Wx (.BoolOp .And (a :: b :: rest) pos) (tAnd mt mu) := by
  refine PW.mono (pw_and ha hb) fun σ H Q ⟨ρ, env, h, hr, er, q⟩ => ⟨ρ, env, h, hr, er, ?_⟩
  unfold Tw.tAnd at q
  cases ea : mt env h with
  | ok c h1 =>
    rw [ea] at q
    intro ρ1 H1 hr1 s1
    cases c with
    | false => exact (if_neg (by decide)).mpr (q ρ1 H1 hr1 s1)
    | true =>
      refine (if_pos rfl).mpr ⟨ρ1, env, h1, hr1, er.to s1, ?_⟩
      simp only [R.bind_ok, if_true] at q
      cases eb : mu env h1 with
      | ok b h2 => rw [eb] at q; exact fun ρ2 H2 hr2 s2 => q ρ2 H2 hr2 (s1.trans s2)
      | exc e h2 => rw [eb] at q; exact XEnd.later s1 (fun _ z => nomatch z) q
      | stuck => rw [eb] at q; exact q
  | exc e h1 => rw [ea] at q; exact q
  | stuck => rw [ea] at q; exact q
theorem jw_or {rest : List Expr} {mt mu : MT} (ha : JT X Wx a mt) (hb : JW X Wx (.BoolOp .Or (b :: rest) pos) mu) : JW X Wx (.BoolOp .Or (a :: b :: rest) pos) (tOr mt mu) := by
  refine PW.mono (pw_or ha hb) fun σ H Q ⟨ρ, env, h, hr, er, q⟩ => ⟨ρ, env, h, hr, er, ?_⟩
  unfold Tw.tOr at q
  cases ea : mt env h with
  | ok c h1 =>
    rw [ea] at q
    intro ρ1 H1 hr1 s1
    cases c with
    | true => exact (if_pos rfl).mpr (q ρ1 H1 hr1 s1)
    | false =>
      refine (if_neg (by decide)).mpr ⟨ρ1, env, h1, hr1, er.to s1, ?_⟩
      simp only [R.bind_ok, Bool.false_eq_true, if_false] at q
      cases eb : mu env h1 with
      | ok b h2 => rw [eb] at q; exact fun ρ2 H2 hr2 s2 => q ρ2 H2 hr2 (s1.trans s2)
      | exc e h2 => rw [eb] at q; exact XEnd.later s1 (fun _ z => nomatch z) q
      | stuck => rw [eb] at q; exact q
  | exc e h1 => rw [ea] at q; exact q
  | stuck => rw [ea] at q; exact q
theorem jt_w {mt : MT} (h : JW X Wx a mt) : JT X Wx a mt := PW.pt h
/-- a if t else b -/
theorem je_if {mt : MT} (hc : JT X Wx c mt) (ha : JE X Wx a ma) (hb : JE X Wx b mb) : JE X Wx (.IfExp c a b pos) (eIf mt ma mb) := by
  refine PE.mono (pe_ifExp hc ha hb) fun σ H Q ⟨ρ, env, h, hr, er, q⟩ => ⟨ρ, env, h, hr, er, ?_⟩
  unfold eIf at q
  cases ea : mt env h with
  | ok c h1 =>
    rw [ea] at q
    intro ρ1 H1 hr1 s1
    cases c with
    | true =>
      refine (if_pos rfl).mpr ⟨ρ1, env, h1, hr1, er.to s1, ?_⟩
      simp only [R.bind_ok, if_true] at q
      exact q.later s1 hr hr1 (fun _ z => nomatch z)
    | false =>
      refine (if_neg (by decide)).mpr ⟨ρ1, env, h1, hr1, er.to s1, ?_⟩
      simp only [R.bind_ok, Bool.false_eq_true, if_false] at q
      exact q.later s1 hr hr1 (fun _ z => nomatch z)
  | exc e h1 => rw [ea] at q; exact q
  | stuck => rw [ea] at q; exact q
/-- and, or, not as values (bools) -/
theorem je_one {op : BoolOp} (ha : JE X Wx a ma) : JE X Wx (.BoolOp op [a] pos) ma := pe_one ha
theorem je_and {rest : List Expr} (ha : JE X Wx a ma) (hb : JE X Wx (.BoolOp .And (b :: rest) pos) mb) : JE X Wx (.BoolOp .And (a :: b :: rest) pos) (eAnd ma mb) := by
  refine PE.mono (pe_and ha hb) fun σ H Q ⟨ρ, env, h, hr, er, q⟩ => ⟨ρ, env, h, hr, er, ?_⟩
  unfold eAnd at q
  cases ea : ma env h with
  | ok x h1 =>
    rw [ea] at q
    simp only [R.bind_ok] at q
    intro v1 ρ1 H1 S1 f1
    cases x with
    | bl c =>
      have rp := f1.rp
      cases rp
      refine ⟨c, rfl, ?_⟩
      cases c with
      | true =>
        refine (if_pos rfl).mpr ⟨ρ1, env, h1, f1.hr, er.to f1.st, ?_⟩
        simp only [asBD, if_true] at q
        exact q.later f1.st hr f1.hr (fun _ z => nomatch z)
      | false =>
        refine (if_neg (by decide)).mpr ?_
        simp only [asBD, Bool.false_eq_true, if_false] at q
        exact q _ ρ1 H1 [] (.bl f1.hr f1.st)
    | _ => exact q.elim
  | exc e h1 => rw [ea] at q; exact q
  | stuck => rw [ea] at q; exact q
theorem je_or {rest : List Expr} (ha : JE X Wx a ma) (hb : JE X Wx (.BoolOp .Or (b :: rest) pos) mb) : JE X Wx (.BoolOp .Or (a :: b :: rest) pos) (eOr ma mb) := by
  refine PE.mono (pe_or ha hb) fun σ H Q ⟨ρ, env, h, hr, er, q⟩ => ⟨ρ, env, h, hr, er, ?_⟩
  unfold eOr at q
  cases ea : ma env h with
  | ok x h1 =>
    rw [ea] at q
    simp only [R.bind_ok] at q
    intro v1 ρ1 H1 S1 f1
    cases x with
    | bl c =>
      have rp := f1.rp
      cases rp
      refine ⟨c, rfl, ?_⟩
      cases c with
      | false =>
        refine (if_neg (by decide)).mpr ⟨ρ1, env, h1, f1.hr, er.to f1.st, ?_⟩
        simp only [asBD, Bool.false_eq_true, if_false] at q
        exact q.later f1.st hr f1.hr (fun _ z => nomatch z)
      | true =>
        refine (if_pos rfl).mpr ?_
        simp only [asBD, if_true] at q
        exact q _ ρ1 H1 [] (.bl f1.hr f1.st)
    | _ => exact q.elim
  | exc e h1 => rw [ea] at q; exact q
  | stuck => rw [ea] at q; exact q
theorem je_not (ha : JE X Wx a ma) : JE X Wx (.UnaryOp .Not a pos) (eNot ma) := by
  refine PE.mono (pe_not ha) fun σ H Q ⟨ρ, env, h, hr, er, q⟩ => ⟨ρ, env, h, hr, er, ?_⟩
  unfold eNot at q
  cases ea : ma env h with
  | ok x h1 =>
    rw [ea] at q
    simp only [R.bind_ok] at q
    intro v1 ρ1 H1 S1 f1
    cases x with
    | bl c =>
      have rp := f1.rp
      cases rp
      exact ⟨c, rfl, q _ ρ1 H1 [] (.bl f1.hr f1.st)⟩
    | _ => exact q.elim
  | exc e h1 => rw [ea] at q; exact q
  | stuck => rw [ea] at q; exact q

/-! ### argument lists, displays, built-in calls -/
theorem ja_nil : JA X Wx [] aNil := by
  refine PA.mono pa_nil fun σ H Q ⟨ρ, env, h, hr, er, q⟩ => ?_
  exact q [] ρ H [] ⟨hr, Step.refl, .nil, List.nodup_nil, fun _ z => nomatch z⟩
theorem tA_cons {K mg} {σ : L2.St} {H : Hp} {Q : List V → Hp → Prop} {mas : MA} (q : tA K mg Wx (aCons ma mas) σ H Q) : tE K mg Wx ma σ H fun x H1 => tA K mg Wx mas σ H1 fun xs H2 => Q (x :: xs) H2 := by
  obtain ⟨ρ, env, h, hr, er, q⟩ := q
  refine ⟨ρ, env, h, hr, er, ?_⟩
  unfold aCons at q
  cases ea : ma env h with
  | ok x h1 =>
    rw [ea] at q
    simp only [R.bind_ok] at q
    intro v1 ρ1 H1 S1 f1
    refine ⟨ρ1, env, h1, f1.hr, er.to f1.st, ?_⟩
    cases eb : mas env h1 with
    | ok ys h2 =>
      rw [eb] at q
      simp only [R.bind_ok] at q
      intro v2 ρ2 H2 S2 f2
      obtain ⟨r1, nd, na⟩ := f1.twoL f2
      refine q (v1 :: v2) ρ2 H2 (S1 ++ S2) ⟨f2.hr, f1.st.trans f2.st, .cons r1 f2.rp, nd, fun a ha => ⟨na a ha, .inl ?_⟩⟩
      rcases List.mem_append.mp ha with z | z
      · exact f1.isnew a z
      · exact none_back f1.st f1.hr (f2.isnew a z)
    | exc e h2 => rw [eb] at q; exact XEnd.later f1.st (fun _ z => nomatch z) q
    | stuck => rw [eb] at q; exact q
  | exc e h1 => rw [ea] at q; exact q
  | stuck => rw [ea] at q; exact q
theorem ja_cons {es : List Expr} {mas : MA} (ha : JE X Wx a ma) (hr : JA X Wx es mas) (hs : starEach (a :: es) X.env = (false, eval a X.env) :: starEach es X.env := by rfl) : JA X Wx (a :: es) (aCons ma mas) :=
  PA.mono (pa_cons ha hr hs) fun _ _ _ q => tA_cons q
/-- behind all arguments an operation -/
theorem tE_N {K mg} {σ : L2.St} {H : Hp} {Q : VK} {mas : MA} {op : List D → Hd → Option D} {r : List V → Hp → VK → Prop} (ho : OpN K mg op r) (q : tE K mg Wx (eN op mas) σ H Q) : tA K mg Wx mas σ H fun xs H1 => r xs H1 Q := by
  obtain ⟨ρ, env, h, hr, er, q⟩ := q
  refine ⟨ρ, env, h, hr, er, ?_⟩
  unfold eN at q
  cases ea : mas env h with
  | ok xs h1 =>
    rw [ea] at q
    simp only [R.bind_ok] at q
    intro v1 ρ1 H1 S1 f1
    cases eo : op xs h1 with
    | none => rw [eo] at q; exact q.elim
    | some d =>
      rw [eo] at q
      refine ho xs h1 d eo ρ1 H1 v1 S1 Q f1.hr f1.rp f1.nd f1.owns fun v H' S' sm rp nd fr => ?_
      exact q v ρ1 H' S' ⟨f1.hr.kept sm, f1.st.trans (Step.same sm), rp, nd, fun a ha => ⟨(fr a ha).1, .inl ((fr a ha).2.elim (none_back f1.st f1.hr) (f1.isnew a))⟩⟩
  | exc e h1 => rw [ea] at q; exact q
  | stuck => rw [ea] at q; exact q
variable {es : List Expr} {mas : MA}
theorem je_callB {x : Str} {p : Pos} {e : Expr} {id : String} {f : List D → Hd → Option D} {r : List V → Hp → VK → Prop} (hc : CallR X (.builtin id) r) (ho : OpN X.K X.mg f r) (hm : X.mg x = none) (ha : JA X Wx (e :: es) mas) (hv : bootBuiltins x = some (.builtin id) := by decide +kernel) (hg : Gl X x := by rfl) (hn : x ≠ "__name__" := by decide) (hdb : (x == ("__debug__" : Str)) = false := by decide)
    (he : starEach (e :: es) X.env = (false, eval e X.env) :: starEach es X.env := by rfl) (hpl : (backTo pos (starEach es X.env)).any (·.1) = false := by rfl) : JE X Wx (.Call (.Name x p) (e :: es) [] pos) (eN f mas) :=
  PE.mono (pe_callB hc hg hm hv ha hn hdb he hpl) fun _ _ _ q => tE_N ho q
theorem je_callTy {x : Str} {p : Pos} {e : Expr} {T : String} {f : List D → Hd → Option D} {r : List V → Hp → VK → Prop} (hc : CallR X (.type T) r) (ho : OpN X.K X.mg f r) (hm : X.mg x = none) (ha : JA X Wx (e :: es) mas) (hv : bootBuiltins x = some (.type T) := by decide +kernel) (hg : Gl X x := by rfl) (hn : x ≠ "__name__" := by decide) (hdb : (x == ("__debug__" : Str)) = false := by decide)
    (he : starEach (e :: es) X.env = (false, eval e X.env) :: starEach es X.env := by rfl) (hpl : (backTo pos (starEach es X.env)).any (·.1) = false := by rfl) : JE X Wx (.Call (.Name x p) (e :: es) [] pos) (eN f mas) :=
  PE.mono (pe_callTy hc hg hm hv ha hn hdb he hpl) fun _ _ _ q => tE_N ho q
end

/-! ### displays -/
def dTup (xs : List D) (_ : Hd) : Option D := if xs.length ≤ sizeLine then some (.tup xs) else none
def dLst (xs : List D) (_ : Hd) : Option D := if xs.length ≤ sizeLine then some (.lst xs) else none
theorem same_upd {H : Hp} {p : Addr} {o : HO} (n : H p = none) : Same H (upd H p o) := fun b x e => by
  rw [upd_ne (ne_of_none e n)]; exact e
section
variable {K : PySem.W.Frag} {mg : Str → Option Value} {ρ : List Addr} {H H' : Hp} {h : Hd}
theorem Rep.same {d : D} {v : V} {S : List Addr} (s : Same H H') (r : Rep K mg ρ H d v S) (n : ∀ a ∈ S, a ∉ ρ) : Rep K mg ρ H' d v S := r.to (Step.same s : Step [] ρ H ρ H') (fun _ z => nomatch z) fun a ha => ⟨n a ha, fun z => nomatch z⟩
theorem RepL.same {d : List D} {v : List V} {S : List Addr} (s : Same H H') (r : RepL K mg ρ H d v S) (n : ∀ a ∈ S, a ∉ ρ) : RepL K mg ρ H' d v S := r.to (Step.same s : Step [] ρ H ρ H') (fun _ z => nomatch z) fun a ha => ⟨n a ha, fun z => nomatch z⟩
/-- a new tuple -/
theorem Rep.newTup (hr : HRel K mg ρ H h) {xs : List D} {vs : List V} {S : List Addr} (r : RepL K mg ρ H xs vs S) (n : ∀ a ∈ S, a ∉ ρ) {p : Addr} (np : H p = none) : Rep K mg ρ (upd H p (.tup vs)) (.tup xs) (.ref p) S :=
  .tup (.inl ⟨upd_same, hr.notin np⟩) (r.same (same_upd np) n)
theorem Rep.newLst (hr : HRel K mg ρ H h) {xs : List D} {vs : List V} {S : List Addr} (r : RepL K mg ρ H xs vs S) (n : ∀ a ∈ S, a ∉ ρ) {p : Addr} (np : H p = none) : Rep K mg ρ (upd H p (.lst vs)) (.lst xs) (.ref p) (S ++ [p]) :=
  .lst upd_same (r.same (same_upd np) n)
theorem fresh_p {xs : List D} {vs : List V} {S : List Addr} (hr : HRel K mg ρ H h) (r : RepL K mg ρ H xs vs S) (nd : S.Nodup) (n : ∀ a ∈ S, a ∉ ρ) {p : Addr} (np : H p = none) : (S ++ [p]).Nodup ∧ ∀ a ∈ S ++ [p], a ∉ ρ ∧ (H a = none ∨ a ∈ S) := by
  refine ⟨List.nodup_append.mpr ⟨nd, by simp, fun a ha b hb e => ?_⟩, fun a ha => ?_⟩
  · rw [List.mem_singleton.mp hb] at e
    subst e
    obtain ⟨o, q, _⟩ := r.owned a ha
    rw [np] at q; cases q
  · rcases List.mem_append.mp ha with ha | ha
    · exact ⟨n a ha, .inr ha⟩
    · rw [List.mem_singleton.mp ha]; exact ⟨hr.notin np, .inl np⟩
theorem opTup : OpN K mg dTup (fun xs H Q => xs.length ≤ sizeLine ∧ ∀ p, H p = none → Q (.ref p) (upd H p (.tup xs))) := by
  intro xs h d e ρ H vs S Q hr r nd na q
  unfold dTup at e
  split at e
  · rename_i z
    cases e
    rw [r.length] at z
    refine ⟨z, fun p np => q _ _ S (same_upd np) (.newTup hr r na np) nd fun a ha => ⟨na a ha, .inr ha⟩⟩
  · cases e
theorem opLst : OpN K mg dLst (fun xs H Q => xs.length ≤ sizeLine ∧ ∀ p, H p = none → Q (.ref p) (upd H p (.lst xs))) := by
  intro xs h d e ρ H vs S Q hr r nd na q
  unfold dLst at e
  split at e
  · rename_i z
    cases e
    rw [r.length] at z
    refine ⟨z, fun p np => ?_⟩
    obtain ⟨n1, n2⟩ := fresh_p hr r nd na np
    exact q _ _ (S ++ [p]) (same_upd np) (.newLst hr r na np) n1 n2
  · cases e
end
section
variable {X : Cx} {Wx : WX} {es : List Expr} {mas : MA} {pos : Pos}
theorem je_tup {k : Nat} (ha : JA X Wx es mas) : JE X Wx (.Tuple es k pos) (eN dTup mas) := PE.mono (pe_tup ha) fun _ _ _ q => tE_N opTup q
theorem je_lst (ha : JA X Wx es mas) : JE X Wx (.List es pos) (eN dLst mas) := PE.mono (pe_lst ha) fun _ _ _ q => tE_N opLst q
end
end Tw

/-! TwStmt: statements, targets, loops, comprehensions. -/
namespace Tw
open PySem PySem.Spec PyProof.Rows L2

/-! ### equality of trees -/
mutual
def D.beq : D → D → Bool
  | .non, .non => true
  | .bl a, .bl b => a == b
  | .int a, .int b => a == b
  | .str a, .str b => a == b
  | .tup a, .tup b => beqL a b
  | .lst a, .lst b => beqL a b
  | .dct a b, .dct c d => beqL a c && beqL b d
  | .rol a, .rol b => beqL a b
  | .ref a, .ref b => a == b
  | .glb a, .glb b => a == b
  | .ty a, .ty b => a == b
  | .exc a b c, .exc d e f => a == d && b == e && beqL c f
  | _, _ => false
def beqL : List D → List D → Bool
  | [], [] => true
  | x :: xs, y :: ys => D.beq x y && beqL xs ys
  | _, _ => false
end
mutual
theorem D.beq_eq : ∀ {x y : D}, D.beq x y = true → x = y
  | .non, y, h => by cases y <;> simp [D.beq] at h; rfl
  | .bl a, y, h => by cases y <;> simp [D.beq] at h; rw [h]
  | .int a, y, h => by cases y <;> simp [D.beq] at h; rw [h]
  | .str a, y, h => by cases y <;> simp [D.beq] at h; rw [h]
  | .tup a, y, h => by
    cases y <;> simp [D.beq] at h
    rw [beqL_eq h]
  | .lst a, y, h => by
    cases y <;> simp [D.beq] at h
    rw [beqL_eq h]
  | .dct a b, y, h => by
    cases y <;> simp [D.beq] at h
    rw [beqL_eq h.1, beqL_eq h.2]
  | .rol a, y, h => by
    cases y <;> simp [D.beq] at h
    rw [beqL_eq h]
  | .ref a, y, h => by cases y <;> simp [D.beq] at h; rw [h]
  | .glb a, y, h => by cases y <;> simp [D.beq] at h; rw [h]
  | .ty a, y, h => by cases y <;> simp [D.beq] at h; rw [h]
  | .exc a b c, y, h => by
    cases y <;> simp [D.beq] at h
    rw [h.1.1, h.1.2, beqL_eq h.2]
theorem beqL_eq : ∀ {xs ys : List D}, beqL xs ys = true → xs = ys
  | [], [], _ => rfl
  | [], _ :: _, h => by simp [beqL] at h
  | _ :: _, [], h => by simp [beqL] at h
  | x :: xs, y :: ys, h => by
    have h' : D.beq x y = true ∧ beqL xs ys = true := by simpa [beqL] using h
    rw [D.beq_eq h'.1, beqL_eq h'.2]
end
mutual
theorem D.beq_refl : ∀ (x : D), D.beq x x = true
  | .non => rfl
  | .bl a => by simp [D.beq]
  | .int a => by simp [D.beq]
  | .str a => by simp [D.beq]
  | .tup a => by simp [D.beq, beqL_refl a]
  | .lst a => by simp [D.beq, beqL_refl a]
  | .dct a b => by simp [D.beq, beqL_refl a, beqL_refl b]
  | .rol a => by simp [D.beq, beqL_refl a]
  | .ref a => by simp [D.beq]
  | .glb a => by simp [D.beq]
  | .ty a => by simp [D.beq]
  | .exc a b c => by simp [D.beq, beqL_refl c]
theorem beqL_refl : ∀ (xs : List D), beqL xs xs = true
  | [] => rfl
  | x :: xs => by simp [beqL, D.beq_refl x, beqL_refl xs]
end

/-! ### the functions -/
def RS.of (env : En) : R D → (D → Hd → RS) → RS
  | .ok d h, f => f d h
  | .exc e h, _ => .exc e env h
  | .stuck, _ => .stuck
def RS.ofB (env : En) : R Bool → (Bool → Hd → RS) → RS
  | .ok d h, f => f d h
  | .exc e h, _ => .exc e env h
  | .stuck, _ => .stuck
@[simp] theorem RS.of_ok (env : En) (d : D) (h : Hd) (f : D → Hd → RS) : RS.of env (.ok d h) f = f d h := id rfl
@[simp] theorem RS.ofB_ok (env : En) (d : Bool) (h : Hd) (f : Bool → Hd → RS) : RS.ofB env (.ok d h) f = f d h := id rfl
def sNil : MS := fun env h => .nx env h
def sSeq (a b : MS) : MS := fun env h => match a env h with
  | .nx env' h' => b env' h'
  | r => r
def sDrop (a : ME) : MS := fun env h => RS.of env (a env h) fun _ h1 => .nx env h1
def sRet (a : ME) : MS := fun env h => RS.of env (a env h) fun d h1 => .rt d h1
def sRetN : MS := fun _ h => .rt .non h
def sBk : MS := fun env h => .bk env h
def sCt : MS := fun env h => .ct env h
def sIf (t : MT) (a b : MS) : MS := fun env h => RS.ofB env (t env h) fun c h1 => if c = true then a env h1 else b env h1
/-- what a target takes: slots and values -/
abbrev MG := D → Hd → Option (List (Nat × D))
def setAll (env : En) (ps : List (Nat × D)) : En := ps.foldl (fun e p => e.set p.1 (some p.2)) env
def gNm (i : Nat) : MG := fun d _ => some [(i, d)]
def gAll : List MG → List D → Hd → Option (List (Nat × D))
  | [], [], _ => some []
  | g :: gs, d :: ds, h => match g d h, gAll gs ds h with
    | some a, some b => some (a ++ b)
    | _, _ => none
  | _, _, _ => none
def gTp (gs : List MG) : MG := fun d h => match d with
  | .tup ds => gAll gs ds h
  | .ref n => match h[n]? with
    | some (.lst ds) => gAll gs ds h
    | _ => none
  | _ => none
/-- target = value: what is new is boxed -/
def sAsg (g : MG) (a : ME) : MS := fun env h => RS.of env (a env h) fun d h1 => match g (box d h1).1 (box d h1).2 with
  | some ps => .nx (setAll env ps) (box d h1).2
  | none => .stuck
/-- what a loop walks: its items, and the cell that they stand in -/
abbrev Src := List (Nat × List D)
abbrev MI := En → Hd → R (List D × Src)
def srcOk : Src → Hd → Bool
  | [], _ => true
  | (n, xs) :: r, h => (match h[n]? with
    | some (.lst ys) => beqL ys xs
    | _ => false) && srcOk r h
def forGo (g : MG) (body : MS) (src : Src) : List D → En → Hd → RS
  | [], env, h => if srcOk src h = true then .nx env h else .stuck
  | x :: xs, env, h => if srcOk src h = true then match g x h with
      | none => .stuck
      | some ps => match body (setAll env ps) h with
        | .nx env' h' => forGo g body src xs env' h'
        | .ct env' h' => forGo g body src xs env' h'
        | .bk env' h' => .nx env' h'
        | .rt d h' => .rt d h'
        | .exc e env' h' => .exc e env' h'
        | .stuck => .stuck
    else .stuck
def sFor (mi : MI) (g : MG) (body : MS) : MS := fun env h => match mi env h with
  | .ok (items, src) h1 => forGo g body src items env h1
  | .exc e h1 => .exc e env h1
  | .stuck => .stuck
def whileGo (t : MT) (body : MS) : Nat → En → Hd → RS
  | 0, _, _ => .stuck
  | k + 1, env, h => match t env h with
    | .ok true h1 => match body env h1 with
      | .nx env' h' => whileGo t body k env' h'
      | .ct env' h' => whileGo t body k env' h'
      | .bk env' h' => .nx env' h'
      | .rt d h' => .rt d h'
      | .exc e env' h' => .exc e env' h'
      | .stuck => .stuck
    | .ok false h1 => .nx env h1
    | .exc e h1 => .exc e env h1
    | .stuck => .stuck
/-- more turns than any loop takes -/
def sWhile (t : MT) (body : MS) : MS := fun env h => whileGo t body (10 ^ 40) env h
def wipeE (env : En) : List Nat → En
  | [] => env
  | v :: vs => (wipeE env vs).set v none
def compGo (env : En) (g : MG) (tt : MT) (te : ME) (src : Src) : List D → Hd → R (List D)
  | [], h => if srcOk src h = true then .ok [] h else .stuck
  | x :: xs, h => if srcOk src h = true then match g x h with
      | none => .stuck
      | some ps => match tt (setAll env ps) h with
        | .ok true h1 => match te (setAll env ps) h1 with
          | .ok d h2 => (compGo env g tt te src xs h2).bind fun ds h3 => .ok (d :: ds) h3
          | _ => .stuck
        | .ok false h1 => compGo env g tt te src xs h1
        | _ => .stuck
    else .stuck
def eComp (vs : List Nat) (mi : MI) (g : MG) (tt : MT) (te : ME) : ME := fun env h => match mi env h with
  | .ok (items, src) h1 => (compGo (wipeE env vs) g tt te src items h1).bind fun ds h2 => if ds.length ≤ sizeLine then .ok (.lst ds) h2 else .stuck
  | .exc e h1 => .exc e h1
  | .stuck => .stuck
def tTrue : MT := fun _ h => .ok true h

/-! ### targets -/
section
variable (K : PySem.W.Frag) (mg : Str → Option Value)
inductive PRel (ρ : List Addr) (H : Hp) : List (Nat × D) → List (Nat × V) → Prop
  | nil : PRel ρ H [] []
  | cons {i : Nat} {d : D} {v : V} {ps : List (Nat × D)} {ws : List (Nat × V)} : Rep K mg ρ H d v [] → PRel ρ H ps ws → PRel ρ H ((i, d) :: ps) ((i, v) :: ws)
def setV (σ : L2.St) (ws : List (Nat × V)) : L2.St := ws.foldl (fun e p => e.set p.1 (some p.2)) σ
def tG (g : MG) : TG := fun v σ H Q => ∃ ρ h d ps, HRel K mg ρ H h ∧ Rep K mg ρ H d v [] ∧ g d h = some ps ∧ ∀ ws, PRel K mg ρ H ps ws → Q (setV σ ws) H
def tGs (gs : List MG) : TGs := fun vs σ H Q => ∃ ρ h ds ps, HRel K mg ρ H h ∧ RepL K mg ρ H ds vs [] ∧ gAll gs ds h = some ps ∧ ∀ ws, PRel K mg ρ H ps ws → Q (setV σ ws) H
end
section
variable {K : PySem.W.Frag} {mg : Str → Option Value} {ρ : List Addr} {H : Hp}
theorem PRel.append {ps ps' : List (Nat × D)} {ws ws' : List (Nat × V)} (a : PRel K mg ρ H ps ws) (b : PRel K mg ρ H ps' ws') : PRel K mg ρ H (ps ++ ps') (ws ++ ws') := by
  induction a with
  | nil => exact b
  | cons r _ ih => exact .cons r ih
theorem setV_append (σ : L2.St) (ws ws' : List (Nat × V)) : setV σ (ws ++ ws') = setV (setV σ ws) ws' := List.foldl_append
theorem RepL.split : ∀ {x : D} {xs : List D} {vs : List V}, RepL K mg ρ H (x :: xs) vs [] → ∃ v ws, vs = v :: ws ∧ Rep K mg ρ H x v [] ∧ RepL K mg ρ H xs ws [] := by
  intro x xs vs h
  generalize hS : ([] : List Addr) = S at h
  cases h with
  | cons r t =>
    obtain ⟨e1, e2⟩ := List.append_eq_nil_iff.mp hS.symm
    subst e1 e2
    exact ⟨_, _, rfl, r, t⟩
theorem setAll_length (env : En) (ps : List (Nat × D)) : (setAll env ps).length = env.length := by
  induction ps generalizing env with
  | nil => rfl
  | cons p ps ih => simp only [setAll, List.foldl_cons] at ih ⊢; rw [ih]; simp
theorem EnvRel.set {env : En} {σ : L2.St} (r : EnvRel K mg ρ H env σ) {i : Nat} {d : D} {v : V} (h : Rep K mg ρ H d v []) : EnvRel K mg ρ H (env.set i (some d)) (σ.set i (some v)) := by
  refine ⟨by simpa using r.1, fun j d' e => ?_⟩
  by_cases hj : j = i
  · subst hj
    have hl : j < env.length := by simpa using (List.getElem?_eq_some_iff.mp e).1
    rw [List.getElem?_set_self hl] at e
    cases e
    exact ⟨v, by rw [List.getElem?_set_self (by rw [← r.1]; exact hl)], h⟩
  · rw [List.getElem?_set_ne (Ne.symm hj)] at e ⊢
    exact r.2 j d' e
theorem EnvRel.setAll {ps : List (Nat × D)} {ws : List (Nat × V)} {env : En} {σ : L2.St} (r : EnvRel K mg ρ H env σ) (p : PRel K mg ρ H ps ws) : EnvRel K mg ρ H (Tw.setAll env ps) (setV σ ws) := by
  induction p generalizing env σ with
  | nil => exact r
  | cons h _ ih => exact ih (r.set h)
end
abbrev JG (X : Cx) (e : Expr) (g : MG) : Prop := PG X e (tG X.K X.mg g)
abbrev JGs (X : Cx) (es : List Expr) (gs : List MG) : Prop := PGs X es (tGs X.K X.mg gs)
section
variable {X : Cx} {pos : Pos} {e : Expr} {es : List Expr} {g : MG} {gs : List MG}
theorem PG.mono {t t' : TG} (h : PG X e t) (i : ∀ v σ H Q, t' v σ H Q → t v σ H Q) : PG X e t' := ⟨fun pins s σ H v u Q I r q => h.run pins s σ H v u Q I r (i v σ H Q q)⟩
theorem PGs.mono {t t' : TGs} (h : PGs X es t) (i : ∀ v σ H Q, t' v σ H Q → t v σ H Q) : PGs X es t' := ⟨fun pins s σ H v u Q I r q => h.run pins s σ H v u Q I r (i v σ H Q q)⟩
theorem jg_name {i : Nat} {x : Str} (hN : X.N.Nodup) (hi : X.N[i]? = some x := by rfl) (hx : Loc X.env.scope x := by first | exact Or.inl rfl | exact Or.inr rfl) (hf : X.fn x = true ∨ X.env.scope.names.lookup x = some .local := by first | exact .inl rfl | exact .inr rfl | assumption) : JG X (.Name x pos) (gNm i) := by
  refine PG.mono (pg_name hN hi hx hf) fun v σ H Q ⟨ρ, h, d, ps, hr, r, e, q⟩ => ?_
  cases e
  exact q [(i, v)] (.cons r .nil)
theorem jgs_nil : JGs X [] [] := by
  refine PGs.mono pgs_nil fun vs σ H Q ⟨ρ, h, ds, ps, hr, r, e, q⟩ => ?_
  cases ds with
  | nil => cases e; cases r; exact ⟨rfl, q [] .nil⟩
  | cons _ _ => cases e
theorem jgs_cons (h1 : JG X e g) (h2 : JGs X es gs) (hs : (assignEach (e :: es) X.env).map (·.2) = assign e X.env :: (assignEach es X.env).map (·.2) := by rfl) : JGs X (e :: es) (g :: gs) := by
  refine PGs.mono (pgs_cons h1 h2 hs) fun vs σ H Q ⟨ρ, h, ds, ps, hr, r, e, q⟩ => ?_
  cases ds with
  | nil => cases e
  | cons d ds =>
    obtain ⟨v, ws, rfl, r1, r2⟩ := r.split
    unfold gAll at e
    split at e
    · rename_i a b e1 e2
      cases e
      refine ⟨v, ws, rfl, ρ, h, d, a, hr, r1, e1, fun wa pa => ⟨ρ, h, ds, b, hr, r2, e2, fun wb pb => ?_⟩⟩
      rw [← setV_append]
      exact q _ (pa.append pb)
    · cases e
theorem jg_tup {k : Nat} (hc : X.calm = true) (h : JGs X es gs) (hl : es.length = gs.length := by rfl) (hn : (assignEach es X.env).length = es.length := by rfl) (hst : (assignEach es X.env).findIdx? (·.1) = none := by rfl) : JG X (.Tuple es k pos) (gTp gs) := by
  have both : PG X (.Tuple es k pos) (fun v σ H Q => gTup X.K es.length (tGs X.K X.mg gs) v σ H Q ∨ gLst X.K es.length (tGs X.K X.mg gs) v σ H Q) :=
    ⟨fun pins s σ H v u Q I r q => q.elim (fun q => (pg_tup hc h hn hst).run pins s σ H v u Q I r q) fun q => (pg_lst hc h hn hst).run pins s σ H v u Q I r q⟩
  have len : ∀ {gs : List MG} {ds : List D} {hh : Hd} {ps : List (Nat × D)}, gAll gs ds hh = some ps → gs.length = ds.length := by
    intro gs
    induction gs with
    | nil => intro ds hh ps e; cases ds with
      | nil => rfl
      | cons _ _ => cases e
    | cons g gs ih => intro ds hh ps e; cases ds with
      | nil => cases e
      | cons d ds =>
        unfold gAll at e
        split at e
        · rename_i e2
          simp [ih e2]
        · cases e
  refine PG.mono both fun v σ H Q ⟨ρ, hh, d, ps, hr, r, e, q⟩ => ?_
  unfold gTp at e
  cases d with
  | tup ds =>
    cases r with
    | tup ht t => exact .inl ⟨_, _, rfl, ht.sq, by rw [← t.length, hl, len e], ρ, hh, ds, ps, hr, t, e, q⟩
  | ref n =>
    cases r with
    | ref ha =>
      simp only at e
      split at e
      · rename_i ds hd
        obtain ⟨vs, hv, t⟩ := hr.cell n _ _ hd ha
        exact .inr ⟨_, _, rfl, SqL.of hv, by rw [← t.length, hl, len e], ρ, hh, ds, ps, hr, t, e, q⟩
      · cases e
  | _ => cases e
end

/-! ### statements -/
section
variable {X : Cx} {Wx : WX} {pos : Pos} {e : Expr} {s : Stmt} {ss : List Stmt} {a : ME} {ma mb : MS} {g : MG}
theorem jb_nil : JB X Wx [] sNil := PSs.mono pss_nil fun D σ H ⟨ρ, env, h, hr, er, q⟩ => q σ ρ H hr er Step.refl
section
variable {K : PySem.W.Frag} {mg : Str → Option Value} {ρ ρ1 : List Addr} {H H1 : Hp} {σ : L2.St} {h h1 : Hd} {D : Ends}
theorem SEnd.later {r : RS} (hr : HRel K mg ρ H h) (hr1 : HRel K mg ρ1 H1 h1) (s : Step [] ρ H ρ1 H1) (q : SEnd K mg Wx ρ H D r) : SEnd K mg Wx ρ1 H1 D r := by
  cases r with
  | nx env' h' => exact fun σ' ρ' H' a b c => q σ' ρ' H' a b (s.trans c)
  | bk env' h' => exact fun σ' ρ' H' a b c => q σ' ρ' H' a b (s.trans c)
  | ct env' h' => exact fun σ' ρ' H' a b c => q σ' ρ' H' a b (s.trans c)
  | rt d h' => exact fun v ρ' H' S f => q v ρ' H' S (f.later (T := []) s hr1 (fun _ z => nomatch z) fun a e => hr.notin e)
  | exc e env' h' => exact fun cls dd σ' ρ' H' a b c => q cls dd σ' ρ' H' a b (s.trans c)
  | stuck => exact q
/-- the statement's end, seen with another wish for what follows -/
theorem SEnd.nx {D' : Ends} {r : RS} (q : SEnd K mg Wx ρ H D r) (hnx : ∀ σ' H', D.nx σ' H' → D'.nx σ' H') (hbk : ∀ σ' H', D.bk σ' H' → D'.bk σ' H') (hct : ∀ σ' H', D.ct σ' H' → D'.ct σ' H') (hrt : ∀ v H', D.rt v H' → D'.rt v H') : SEnd K mg Wx ρ H D' r := by
  cases r with
  | nx env' h' => exact fun σ' ρ' H' a b c => hnx _ _ (q σ' ρ' H' a b c)
  | bk env' h' => exact fun σ' ρ' H' a b c => hbk _ _ (q σ' ρ' H' a b c)
  | ct env' h' => exact fun σ' ρ' H' a b c => hct _ _ (q σ' ρ' H' a b c)
  | rt d h' => exact fun v ρ' H' S f => hrt _ _ (q v ρ' H' S f)
  | exc e env' h' => exact q
  | stuck => exact q
end
theorem jb_cons (h1 : JS X Wx s ma) (h2 : JB X Wx ss mb) : JB X Wx (s :: ss) (sSeq ma mb) := by
  refine PSs.mono (pss_cons h1 h2) fun D σ H ⟨ρ, env, h, hr, er, q⟩ => ⟨ρ, env, h, hr, er, ?_⟩
  unfold sSeq at q
  cases ea : ma env h with
  | nx env' h' =>
    rw [ea] at q
    exact fun σ' ρ' H' a b c => ⟨ρ', env', h', a, b, SEnd.later hr a c q⟩
  | bk env' h' => rw [ea] at q; exact q
  | ct env' h' => rw [ea] at q; exact q
  | rt d h' => rw [ea] at q; exact q
  | exc e env' h' => rw [ea] at q; exact q
  | stuck => rw [ea] at q; exact q
theorem jb_one (h1 : JS X Wx s ma) : JB X Wx [s] ma := pss_one h1
/-- code that is never reached -/
def sNo : MS := fun _ _ => .stuck
theorem jb_never : JB X Wx ss sNo := PSs.mono pss_never fun D σ H q => by obtain ⟨ρ, env, h, hr, er, q⟩ := q; exact q
theorem js_never : JS X Wx s sNo := PS.mono ps_never fun D σ H q => by obtain ⟨ρ, env, h, hr, er, q⟩ := q; exact q
theorem js_pass : JS X Wx (.Pass pos) sNil := PS.mono ps_pass fun D σ H ⟨ρ, env, h, hr, er, q⟩ => q σ ρ H hr er Step.refl
theorem js_bk : JS X Wx (.Break pos) sBk := PS.mono ps_break fun D σ H ⟨ρ, env, h, hr, er, q⟩ => q σ ρ H hr er Step.refl
theorem js_ct : JS X Wx (.Continue pos) sCt := PS.mono ps_continue fun D σ H ⟨ρ, env, h, hr, er, q⟩ => q σ ρ H hr er Step.refl
theorem js_doc {x : Str} {j : Nat} {p p' : Pos} : JS X Wx (.Expr (.Constant (.str x) j p) p') sNil := PS.mono ps_doc fun D σ H ⟨ρ, env, h, hr, er, q⟩ => q σ ρ H hr er Step.refl
theorem js_expr (he : JE X Wx e a) (hs : swapsWith e none pos.line X.env = pure false := by rfl) : JS X Wx (.Expr e pos) (sDrop a) := by
  refine PS.mono (ps_expr he hs) fun D σ H ⟨ρ, env, h, hr, er, q⟩ => ⟨ρ, env, h, hr, er, ?_⟩
  unfold sDrop at q
  cases ea : a env h with
  | ok d h1 => rw [ea] at q; exact fun v ρ1 H1 S f => q σ ρ1 H1 f.hr (er.to f.st) f.st
  | exc e h1 => rw [ea] at q; exact fun cls dd ρ' H' a b c => q cls dd σ ρ' H' a (er.to b) b c
  | stuck => rw [ea] at q; exact q
theorem js_ret (he : JE X Wx e a) : JS X Wx (.Return (some e) pos) (sRet a) := by
  refine PS.mono (ps_ret he) fun D σ H ⟨ρ, env, h, hr, er, q⟩ => ⟨ρ, env, h, hr, er, ?_⟩
  unfold sRet at q
  cases ea : a env h with
  | ok d h1 => rw [ea] at q; exact q
  | exc e h1 => rw [ea] at q; exact fun cls dd ρ' H' a b c => q cls dd σ ρ' H' a (er.to b) b c
  | stuck => rw [ea] at q; exact q
theorem js_retN : JS X Wx (.Return none pos) sRetN := PS.mono ps_retN fun D σ H ⟨ρ, env, h, hr, er, q⟩ => q .non ρ H [] ⟨hr, Step.refl, .non, List.nodup_nil, fun _ z => nomatch z⟩
theorem js_if {c : Expr} {b1 b2 : List Stmt} {t : MT} (hc : JT X Wx c t) (h1 : JB X Wx b1 ma) (h2 : JB X Wx b2 mb) : JS X Wx (.If c b1 b2 pos) (sIf t ma mb) := by
  refine PS.mono (ps_if hc h1 h2) fun D σ H ⟨ρ, env, h, hr, er, q⟩ => ⟨ρ, env, h, hr, er, ?_⟩
  unfold sIf at q
  cases ea : t env h with
  | ok c h1 =>
    rw [ea] at q
    simp only [RS.ofB_ok] at q
    intro ρ1 H1 hr1 s1
    cases c with
    | true => exact (if_pos rfl).mpr ⟨ρ1, env, h1, hr1, er.to s1, SEnd.later hr hr1 s1 (by simpa using q)⟩
    | false => exact (if_neg (by decide)).mpr ⟨ρ1, env, h1, hr1, er.to s1, SEnd.later hr hr1 s1 (by simpa using q)⟩
  | exc e h1 => rw [ea] at q; exact fun cls dd ρ' H' a b c => q cls dd σ ρ' H' a (er.to b) b c
  | stuck => rw [ea] at q; exact q
theorem EnvRel.boxed {K mg} {ρ : List Addr} {H : Hp} {env : En} {S : List Addr} {σ : L2.St} (hS : ∀ b ∈ S, ∃ o, H b = some o ∧ mutO o = true) (r : EnvRel K mg ρ H env σ) : EnvRel K mg (ρ ++ S) H env σ :=
  ⟨r.1, fun i d e => by
    obtain ⟨v, h1, h2⟩ := r.2 i d e
    exact ⟨v, h1, h2.to (Step.boxed ρ H S) hS fun _ z => nomatch z⟩⟩
/-- a value taken: boxed, then stored by the target -/
theorem tS_asg {K mg} {D : Ends} {σ : L2.St} {H : Hp} (q : tS K mg Wx (sAsg g a) D σ H) : tE K mg Wx a σ H fun x H1 => tG K mg g x σ H1 D.nx := by
  obtain ⟨ρ, env, h, hr, er, q⟩ := q
  refine ⟨ρ, env, h, hr, er, ?_⟩
  unfold sAsg at q
  cases ea : a env h with
  | ok d h1 =>
    rw [ea] at q
    simp only [RS.of_ok] at q
    intro v ρ1 H1 S f
    obtain ⟨b, rb⟩ := box_ok f.hr f.rp f.nd f.owns
    cases eg : g (box d h1).1 (box d h1).2 with
    | none => rw [eg] at q; exact q.elim
    | some ps =>
      rw [eg] at q
      refine ⟨ρ1 ++ S, _, _, ps, b.rel, rb, eg, fun ws pw => ?_⟩
      refine q _ _ H1 b.rel (((er.to f.st).boxed f.rp.owned).setAll pw) ?_
      exact f.st.transT (Step.boxed ρ1 H1 S) fun x hx => ⟨f.isnew x hx, f.owns x hx⟩
  | exc e h1 => rw [ea] at q; exact fun cls dd ρ' H' a b c => q cls dd σ ρ' H' a (er.to b) b c
  | stuck => rw [ea] at q; exact q
theorem js_set {i : Nat} {x : Str} {p : Pos} (hN : X.N.Nodup) (he : JE X Wx e a) (hi : X.N[i]? = some x := by rfl) (hx : Loc X.env.scope x := by first | exact Or.inl rfl | exact Or.inr rfl) (hs : swapsWith e (some (.Name x p)) pos.line X.env = pure false := by rfl) (hf : X.fn x = true ∨ X.env.scope.names.lookup x = some .local := by first | exact .inl rfl | exact .inr rfl | assumption) :
    JS X Wx (.Assign [.Name x p] e pos) (sAsg (gNm i) a) := by
  refine PS.mono (ps_set hN hi hx he hs hf) fun D σ H q => ?_
  obtain ⟨ρ, env, h, hr, er, q'⟩ := tS_asg q
  refine ⟨ρ, env, h, hr, er, ?_⟩
  cases ea : a env h with
  | ok d h1 =>
    rw [ea] at q'
    intro v ρ1 H1 S f
    obtain ⟨ρ2, h2, d2, ps, hr2, r2, e2, q2⟩ := q' v ρ1 H1 S f
    cases e2
    exact q2 [(i, v)] (.cons r2 .nil)
  | exc e h1 => rw [ea] at q'; exact q'
  | stuck => rw [ea] at q'; exact q'
theorem js_asg {tg : Expr} (he : JE X Wx e a) (hg : JG X tg g) (hs : swapsWithSole [tg] e pos.line X.env = pure false := by rfl) (hw : swappedStores [tg] e X.env = pure none := by rfl) (h1 : (assignEach [tg] X.env).map (·.2) = [assign tg X.env] := by rfl) : JS X Wx (.Assign [tg] e pos) (sAsg g a) :=
  PS.mono (ps_asg he hg hs hw h1) fun D σ H q => tS_asg q
end
end Tw

/-! TwLoop: what is walked, for, while, comprehensions. -/
namespace Tw
open PySem PySem.Spec PyProof.Rows L2

section
variable (K : PySem.W.Frag) (mg : Str → Option Value)
/-- the iterator J yields these items, as long as their cell stands -/
def ItOk (ρ : List Addr) (H : Hp) (J : It) (items : List D) (src : Src) : Prop :=
  ∀ ρ2 H2 h2, HRel K mg ρ2 H2 h2 → Step [] ρ H ρ2 H2 → srcOk src h2 = true →
    (∀ (i : Nat) x, items[i]? = some x → J.go i H2 ∧ ∀ v H3, J.yld i H2 v H3 → Same H2 H3 ∧ Rep K mg ρ2 H3 x v []) ∧ J.stop items.length H2
def tI (Wx : WX) (mi : MI) : TI := fun σ H R => ∃ ρ env h, HRel K mg ρ H h ∧ EnvRel K mg ρ H env σ ∧ (match mi env h with
  | .ok (items, src) h' => ∀ J ρ' H', HRel K mg ρ' H' h' → Step [] ρ H ρ' H' → ItOk K mg ρ' H' J items src → R J H'
  | .exc e h' => XEnd K mg Wx [] ρ H e h' σ
  | .stuck => False)
end
abbrev JI (X : Cx) (Wx : WX) (tg iter : Expr) (mi : MI) : Prop := PI X tg iter (tI X.K X.mg Wx mi)
theorem PI.mono {X : Cx} {tg iter : Expr} {t t' : TI} (h : PI X tg iter t) (i : ∀ σ H R, t' σ H R → t σ H R) : PI X tg iter t' := ⟨fun pins s σ H R I q => h.run pins s σ H R I (i σ H R q)⟩
theorem srcOk_one {n : Nat} {xs : List D} {r : Src} {h : Hd} (e : srcOk ((n, xs) :: r) h = true) : h[n]? = some (.lst xs) ∧ srcOk r h = true := by
  unfold srcOk at e
  rw [Bool.and_eq_true] at e
  refine ⟨?_, e.2⟩
  have e1 := e.1
  split at e1
  · rename_i ys hy
    rw [hy, beqL_eq e1]
  · cases e1
theorem srcOk_get {n : Nat} {items : List D} {h : Hd} (e : srcOk [(n, items)] h = true) : h[n]? = some (.lst items) := (srcOk_one e).1
theorem srcOk_cons {n : Nat} {items : List D} {r : Src} {h : Hd} (e : h[n]? = some (.lst items)) : srcOk ((n, items) :: r) h = srcOk r h := by
  rw [srcOk]
  simp only [e, beqL_refl, Bool.true_and]
theorem srcOk_self {n : Nat} {items : List D} {h : Hd} (e : h[n]? = some (.lst items)) : srcOk [(n, items)] h = true := by rw [srcOk_cons e]; rfl

section
variable {X : Cx} {Wx : WX} {pos : Pos} {tg iter : Expr} {body : List Stmt} {mi : MI} {g : MG} {mb : MS}
theorem js_for (hp : PassesOwn (model X.prog X.w) X.A X.env X.xe) (hc : X.calm = true) (hi : JI X Wx tg iter mi) (hg : JG X tg g) (hb : JB X Wx body mb) (hs : ∀ x, foldedSetIterable iter X.env x = pure x := by intro _; rfl) : JS X Wx (.For tg iter body [] pos) (sFor mi g mb) := by
  refine PS.mono (ps_for hp hc hi hg hb hs) fun D σ H ⟨ρ, env, h, hr, er, q⟩ => ⟨ρ, env, h, hr, er, ?_⟩
  unfold sFor at q
  cases ei : mi env h with
  | exc e h1 => rw [ei] at q; exact fun cls dd ρ' H' a b c => q cls dd σ ρ' H' a (er.to b) b c
  | stuck => rw [ei] at q; exact q
  | ok p h1 =>
    obtain ⟨items, src⟩ := p
    rw [ei] at q
    simp only at q ⊢
    intro J ρ1 H1 hr1 s1 it
    generalize hres : forGo g mb src items env h1 = r at q
    refine ⟨fun i m σ2 H2 => m = items.length - i ∧ i ≤ items.length ∧ ∃ ρ2 env2 h2, HRel X.K X.mg ρ2 H2 h2 ∧ EnvRel X.K X.mg ρ2 H2 env2 σ2 ∧ Step [] ρ1 H1 ρ2 H2 ∧ forGo g mb src (items.drop i) env2 h2 = r,
      ⟨items.length, rfl, Nat.zero_le _, ρ1, env, h1, hr1, er.to s1, Step.refl, by simpa using hres⟩, ?_⟩
    rintro i m σ2 H2 ⟨rfl, hi', ρ2, env2, h2, hr2, er2, s2, e2⟩
    have s02 := s1.trans s2
    by_cases hlt : i < items.length
    · have hd : items.drop i = items[i] :: items.drop (i + 1) := (List.drop_eq_getElem_cons hlt)
      rw [hd] at e2
      unfold forGo at e2
      split at e2
      · rename_i so
        obtain ⟨hy, _⟩ := it ρ2 H2 h2 hr2 s2 so
        obtain ⟨hgo, hyl⟩ := hy i _ (List.getElem?_eq_getElem hlt)
        refine .inr ⟨hgo, _, fun σ' H' z => z, fun v H3 yy => ?_⟩
        · obtain ⟨sm, rv⟩ := hyl v H3 yy
          cases eg : g items[i] h2 with
          | none =>
            rw [eg] at e2
            simp only at e2
            subst e2
            exact q.elim
          | some ps =>
            rw [eg] at e2
            simp only at e2
            have hr3 := hr2.kept sm
            have s3 : Step [] ρ2 H2 ρ2 H3 := Step.same sm
            have er3 := er2.to s3
            refine ⟨ρ2, h2, items[i], ps, hr3, rv, eg, fun ws pw => ⟨ρ2, setAll env2 ps, h2, hr3, er3.setAll pw, ?_⟩⟩
            have s03 := s02.trans s3
            cases eb : mb (setAll env2 ps) h2 with
            | nx env' h' =>
              rw [eb] at e2
              exact fun σ' ρ' H' a b c => ⟨_, by omega, rfl, hlt, ρ', env', h', a, b, (s2.trans s3).trans c, e2⟩
            | ct env' h' =>
              rw [eb] at e2
              exact fun σ' ρ' H' a b c => ⟨_, by omega, rfl, hlt, ρ', env', h', a, b, (s2.trans s3).trans c, e2⟩
            | bk env' h' =>
              rw [eb] at e2
              simp only at e2
              subst e2
              exact fun σ' ρ' H' a b c => q σ' ρ' H' a b (s03.trans c)
            | rt d h' =>
              rw [eb] at e2
              simp only at e2
              subst e2
              exact fun v ρ' H' S f => q v ρ' H' S (f.later (T := []) s03 hr3 (fun _ z => nomatch z) fun a e => hr.notin e)
            | exc e env' h' =>
              rw [eb] at e2
              simp only at e2
              subst e2
              exact fun cls dd σ' ρ' H' a b c => q cls dd σ' ρ' H' a b (s03.trans c)
            | stuck =>
              rw [eb] at e2
              simp only at e2
              subst e2
              exact q
      · subst e2; exact q.elim
    · have hn : i = items.length := by omega
      subst hn
      rw [List.drop_length] at e2
      unfold forGo at e2
      split at e2
      · rename_i so
        subst e2
        obtain ⟨_, hst⟩ := it ρ2 H2 h2 hr2 s2 so
        exact .inl ⟨hst, q σ2 ρ2 H2 hr2 er2 s02⟩
      · subst e2; exact q.elim
theorem js_while {c : Expr} {t : MT} (hp : PassesOwn (model X.prog X.w) X.A X.env X.xe) (hc : JT X Wx c t) (hb : JB X Wx body mb) : JS X Wx (.While c body [] pos) (sWhile t mb) := by
  refine PS.mono (ps_while hp hc hb) fun D σ H ⟨ρ, env, h, hr, er, q⟩ => ?_
  unfold sWhile at q
  generalize hN : (10 ^ 40 : Nat) = N at q
  generalize hres : whileGo t mb N env h = r at q
  refine ⟨fun m σ2 H2 => ∃ ρ2 env2 h2, HRel X.K X.mg ρ2 H2 h2 ∧ EnvRel X.K X.mg ρ2 H2 env2 σ2 ∧ Step [] ρ H ρ2 H2 ∧ whileGo t mb m env2 h2 = r, ⟨N, ρ, env, h, hr, er, Step.refl, hres⟩, ?_⟩
  rintro m σ2 H2 ⟨ρ2, env2, h2, hr2, er2, s2, e2⟩
  cases m with
  | zero => simp only [whileGo] at e2; subst e2; exact q.elim
  | succ k =>
    refine ⟨ρ2, env2, h2, hr2, er2, ?_⟩
    unfold whileGo at e2
    cases et : t env2 h2 with
    | ok b h3 =>
      rw [et] at e2
      intro ρ3 H3 hr3 s3
      have s03 := s2.trans s3
      cases b with
      | false =>
        simp only at e2
        subst e2
        exact (if_neg (by decide)).mpr (q σ2 ρ3 H3 hr3 (er2.to s3) s03)
      | true =>
        refine (if_pos rfl).mpr ⟨fun σ' H' => ∃ ρ2 env2 h2, HRel X.K X.mg ρ2 H' h2 ∧ EnvRel X.K X.mg ρ2 H' env2 σ' ∧ Step [] ρ H ρ2 H' ∧ whileGo t mb k env2 h2 = r, fun σ' H' z => ⟨k, Nat.lt_succ_self k, z⟩, ρ3, env2, h3, hr3, er2.to s3, ?_⟩
        simp only at e2
        cases eb : mb env2 h3 with
        | nx env' h' =>
          rw [eb] at e2
          exact fun σ' ρ' H' a b c => ⟨ρ', env', h', a, b, s03.trans c, e2⟩
        | ct env' h' =>
          rw [eb] at e2
          exact fun σ' ρ' H' a b c => ⟨ρ', env', h', a, b, s03.trans c, e2⟩
        | bk env' h' =>
          rw [eb] at e2
          simp only at e2
          subst e2
          exact fun σ' ρ' H' a b c => q σ' ρ' H' a b (s03.trans c)
        | rt d h' =>
          rw [eb] at e2
          simp only at e2
          subst e2
          exact fun v ρ' H' S f => q v ρ' H' S (f.later (T := []) s03 hr3 (fun _ z => nomatch z) fun a e => hr.notin e)
        | exc e env' h' =>
          rw [eb] at e2
          simp only at e2
          subst e2
          exact fun cls dd σ' ρ' H' a b c => q cls dd σ' ρ' H' a b (s03.trans c)
        | stuck =>
          rw [eb] at e2
          simp only at e2
          subst e2
          exact q
    | exc e h3 =>
      rw [et] at e2
      simp only at e2
      subst e2
      exact fun cls dd ρ' H' a b c => q cls dd σ2 ρ' H' a (er2.to b) (s2.trans b) c
    | stuck =>
      rw [et] at e2
      simp only at e2
      subst e2
      exact q

/-! ### comprehensions -/
abbrev Wn : WX := fun _ _ _ _ => False
theorem takesN {X : Cx} : Takes X Wn := fun u s' x => by
  obtain ⟨_, _, _, _, _, _, _, _, _, _, _, _, _, _, _, _, z⟩ := x
  exact z.elim
/-- a clause's tests -/
abbrev JTs (X : Cx) (ifs : List Expr) (t : MT) : Prop := PTs X ifs (tT X.K X.mg Wn t)
theorem PTs.mono {X : Cx} {ifs : List Expr} {t t' : TT} (h : PTs X ifs t) (i : ∀ σ H Q, t' σ H Q → t σ H Q) : PTs X ifs t' := ⟨fun pins s σ H Q I q => h.run pins s σ H Q I (i σ H Q q)⟩
theorem jts_nil {X : Cx} : JTs X [] tTrue := PTs.mono pts_nil fun σ H Q ⟨ρ, env, h, hr, er, q⟩ => q ρ H hr Step.refl
theorem jts_one {X : Cx} {c : Expr} {t : MT} (h : JT X Wn c t) : JTs X [c] t := pts_one h
theorem wipeE_length (env : En) : ∀ vs : List Nat, (wipeE env vs).length = env.length
  | [] => rfl
  | v :: vs => by simp [wipeE, wipeE_length env vs]
theorem wipeE_get {env : En} {i : Nat} {d : D} : ∀ {vs : List Nat}, (wipeE env vs)[i]? = some (some d) → env[i]? = some (some d) ∧ i ∉ vs
  | [], e => ⟨e, fun z => nomatch z⟩
  | v :: vs, e => by
    simp only [wipeE] at e
    by_cases h : i = v
    · subst h
      rw [List.getElem?_set, if_pos rfl] at e
      split at e <;> cases e
    · rw [List.getElem?_set_ne (Ne.symm h)] at e
      obtain ⟨e1, e2⟩ := wipeE_get e
      exact ⟨e1, fun z => (List.mem_cons.mp z).elim h e2⟩
theorem wipe_keep {σ : L2.St} {i : Nat} {v : Option V} : ∀ {vs : List Nat}, σ[i]? = some v → i ∉ vs → (wipe σ vs)[i]? = some v
  | [], e, _ => e
  | w :: vs, e, n => by
    simp only [wipe]
    rw [List.getElem?_set_ne (fun z => n (by rw [z]; exact List.mem_cons_self))]
    exact wipe_keep e fun z => n (List.mem_cons_of_mem _ z)
theorem EnvRel.wiped {K mg} {ρ : List Addr} {H : Hp} {env : En} {σ : L2.St} (r : EnvRel K mg ρ H env σ) (vs : List Nat) : EnvRel K mg ρ H (wipeE env vs) (wipe σ vs) := by
  refine ⟨by rw [wipeE_length, wipe_length]; exact r.1, fun i d e => ?_⟩
  obtain ⟨e1, n⟩ := wipeE_get e
  obtain ⟨v, h1, h2⟩ := r.2 i d e1
  exact ⟨v, wipe_keep h1 n, h2⟩
theorem wipe_set_mem {σ : L2.St} {i : Nat} {x : Option V} : ∀ {vs : List Nat}, i ∈ vs → wipe (σ.set i x) vs = wipe σ vs
  | w :: vs, m => by
    by_cases h : i = w
    · subst h
      by_cases k : i ∈ vs
      · simp only [wipe]; rw [wipe_set_mem k]
      · have c : ∀ {us : List Nat}, i ∉ us → wipe (σ.set i x) us = (wipe σ us).set i x := by
          intro us
          induction us with
          | nil => intro _; rfl
          | cons u us ih =>
            intro n
            simp only [wipe]
            rw [ih fun z => n (List.mem_cons_of_mem _ z), List.set_comm _ _ (fun z => n (by rw [z]; exact List.mem_cons_self))]
        simp only [wipe]
        rw [c k, List.set_set]
    · simp only [wipe]
      rw [wipe_set_mem ((List.mem_cons.mp m).resolve_left h)]
theorem wipe_setV {σ : L2.St} {vs : List Nat} : ∀ {ws : List (Nat × V)}, (∀ p ∈ ws, p.1 ∈ vs) → wipe (setV σ ws) vs = wipe σ vs := by
  intro ws
  induction ws generalizing σ with
  | nil => intro _; rfl
  | cons p ws ih =>
    intro h
    show wipe (setV (σ.set p.1 (some p.2)) ws) vs = _
    rw [ih fun q hq => h q (List.mem_cons_of_mem _ hq), wipe_set_mem (h p List.mem_cons_self)]
theorem PRel.ix {K mg} {ρ : List Addr} {H : Hp} {ps : List (Nat × D)} {ws : List (Nat × V)} (p : PRel K mg ρ H ps ws) : ws.map (·.1) = ps.map (·.1) := by
  induction p with
  | nil => rfl
  | cons _ _ ih => simp [ih]
/-- the slots that a target stores to -/
def Slots (g : MG) (vs : List Nat) : Prop := ∀ d h ps, g d h = some ps → ∀ p ∈ ps, p.1 ∈ vs
theorem slots_nm {i : Nat} {vs : List Nat} (h : i ∈ vs) : Slots (gNm i) vs := fun d h' ps e p hp => by
  cases e
  rw [List.mem_singleton.mp hp]
  exact h
def SlotsL (gs : List MG) (vs : List Nat) : Prop := ∀ ds h ps, gAll gs ds h = some ps → ∀ p ∈ ps, p.1 ∈ vs
theorem slotsL_nil {vs : List Nat} : SlotsL [] vs := fun ds h ps e p hp => by
  cases ds with
  | nil => cases e; cases hp
  | cons _ _ => cases e
theorem slotsL_cons {g : MG} {gs : List MG} {vs : List Nat} (h1 : Slots g vs) (h2 : SlotsL gs vs) : SlotsL (g :: gs) vs := fun ds h ps e p hp => by
  cases ds with
  | nil => cases e
  | cons d ds =>
    unfold gAll at e
    split at e
    · rename_i a b e1 e2
      cases e
      rcases List.mem_append.mp hp with z | z
      · exact h1 _ _ _ e1 p z
      · exact h2 _ _ _ e2 p z
    · cases e
theorem slots_tp {gs : List MG} {vs : List Nat} (h : SlotsL gs vs) : Slots (gTp gs) vs := fun d hh ps e p hp => by
  unfold gTp at e
  split at e
  · exact h _ _ _ e p hp
  · split at e
    · exact h _ _ _ e p hp
    · cases e
  · cases e
theorem Same.upd_back {H H' : Hp} {D : Addr} {o : HO} {xs : List V} (h : H' D = some (.lst xs)) : ∀ b u, b ≠ D → (upd H' D o) b = some u → H' b = some u := fun b u n e => by
  rw [upd_ne n] at e; exact e
section
variable {K : PySem.W.Frag} {mg : Str → Option Value} {ρ ρ' : List Addr} {H H' : Hp} {h : Hd}
theorem RepL.snoc {xs : List D} {vs : List V} {S T : List Addr} {x : D} {v : V} (t : RepL K mg ρ H xs vs S) (r : Rep K mg ρ H x v T) : RepL K mg ρ H (xs ++ [x]) (vs ++ [v]) (S ++ T) := by
  have key : ∀ {xs : List D} {vs : List V} {S : List Addr}, RepL K mg ρ H xs vs S → RepL K mg ρ H (xs ++ [x]) (vs ++ [v]) (S ++ T) := by
    intro xs
    induction xs with
    | nil => intro vs S t; cases t; simpa using RepL.cons r .nil
    | cons y ys ih =>
      intro vs S t
      cases t with
      | cons r1 t1 => rw [List.cons_append, List.cons_append, List.append_assoc]; exact .cons r1 (ih t1)
  exact key t
/-- a list that is no cell and is not owned may change -/
theorem poke_step {p : Addr} {o : HO} : Step [p] ρ H ρ (upd H p o) :=
  ⟨List.prefix_refl _, fun _ a b => absurd a b, fun a x ea na nT => by rw [upd_ne (fun z => nT (by rw [z]; exact List.mem_singleton.mpr rfl))]; exact ea⟩
theorem one_own {p : Addr} {u : HO} (e : H p = some u) (m : mutO u = true) : ∀ b ∈ [p], ∃ o, H b = some o ∧ mutO o = true := fun b hb => by rw [List.mem_singleton.mp hb]; exact ⟨u, e, m⟩
theorem Rep.poke {p : Addr} {o u : HO} (e : H p = some u) (m : mutO u = true) {d : D} {v : V} {S : List Addr} (r : Rep K mg ρ H d v S) (hS : ∀ a ∈ S, a ∉ ρ) (nS : p ∉ S) : Rep K mg ρ (upd H p o) d v S :=
  r.to poke_step (one_own e m) fun a ha => ⟨hS a ha, fun z => nS (by rw [← List.mem_singleton.mp z]; exact ha)⟩
theorem RepL.poke {p : Addr} {o u : HO} (e : H p = some u) (m : mutO u = true) {d : List D} {v : List V} {S : List Addr} (r : RepL K mg ρ H d v S) (hS : ∀ a ∈ S, a ∉ ρ) (nS : p ∉ S) : RepL K mg ρ (upd H p o) d v S :=
  r.to poke_step (one_own e m) fun a ha => ⟨hS a ha, fun z => nS (by rw [← List.mem_singleton.mp z]; exact ha)⟩
theorem HRel.poke {p : Addr} {o u : HO} (hr : HRel K mg ρ H h) (n : p ∉ ρ) (e : H p = some u) (m : mutO u = true) : HRel K mg ρ (upd H p o) h := by
  refine ⟨hr.len, hr.nd, fun k c a e1 e2 => ?_⟩
  have q := hr.cell k c a e1 e2
  have na : a ≠ p := fun z => n (by rw [← z]; exact List.mem_of_getElem? e2)
  cases c with
  | lst xs => obtain ⟨vs, ea, t⟩ := q; exact ⟨vs, by rw [upd_ne na]; exact ea, t.poke e m (fun _ z => nomatch z) (fun z => nomatch z)⟩
  | dct _ _ => exact q.elim
  | ins _ _ _ => exact q.elim
theorem EnvRel.poke {p : Addr} {o u : HO} {env : En} {σ : L2.St} (er : EnvRel K mg ρ H env σ) (e : H p = some u) (m : mutO u = true) : EnvRel K mg ρ (upd H p o) env σ :=
  ⟨er.1, fun i d ed => by
    obtain ⟨v, h1, h2⟩ := er.2 i d ed
    exact ⟨v, h1, h2.poke e m (fun _ z => nomatch z) (fun z => nomatch z)⟩⟩
end
/-- [elt for tg in iter if ..] -/
theorem tE_comp {K mg} {σ : L2.St} {H : Hp} {Q : VK} {vs : List Nat} {tt : MT} {te : ME} (hg : Slots g vs) (q : tE K mg Wx (eComp vs mi g tt te) σ H Q) : tLc (tI K mg Wx mi) (tG K mg g) (tT K mg Wn tt) (tE K mg Wn te) vs σ H Q := by
  obtain ⟨ρ, env, h, hr, er, q⟩ := q
  refine ⟨ρ, env, h, hr, er, ?_⟩
  unfold eComp at q
  cases ei : mi env h with
  | exc e h1 => rw [ei] at q; exact q
  | stuck => rw [ei] at q; exact q
  | ok p h1 =>
    obtain ⟨items, src⟩ := p
    rw [ei] at q
    simp only at q ⊢
    intro J ρ1 H1 hr1 s1 it Dl nD
    generalize hres : compGo (wipeE env vs) g tt te src items h1 = r at q
    -- the result is a value
    cases r with
    | exc e h2 =>
      exfalso
      have noexc : ∀ (xs : List D) (hh : Hd) e' h', compGo (wipeE env vs) g tt te src xs hh ≠ .exc e' h' := by
        intro xs
        induction xs with
        | nil => intro hh e' h' z; unfold compGo at z; split at z <;> cases z
        | cons x xs ih =>
          intro hh e' h' z
          unfold compGo at z
          split at z
          · split at z
            · cases z
            · split at z
              · split at z
                · rename_i d h2 _
                  cases ec : compGo (wipeE env vs) g tt te src xs h2 with
                  | ok ds h3 => rw [ec] at z; cases z
                  | exc e3 h3 => exact ih _ _ _ ec
                  | stuck => rw [ec] at z; cases z
                · cases z
              · exact ih _ _ _ z
              · cases z
          · cases z
      exact noexc _ _ _ _ hres
    | stuck => exact q.elim
    | ok ds h2 =>
      simp only [R.bind_ok] at q
      have hz : ds.length ≤ sizeLine := by
        by_cases z : ds.length ≤ sizeLine
        · exact z
        · rw [if_neg z] at q; exact q.elim
      rw [if_pos hz] at q
      have nρ1 : Dl ∉ ρ1 := hr1.notin nD
      have n0 : H Dl = none := none_back s1 hr1 nD
      -- the state ahead of turn i: done the made items, in the list
      refine ⟨fun i m H2 => m = items.length - i ∧ i ≤ items.length ∧ ∃ (ρ2 : List Addr) (h3 : Hd) (done : List D) (vd : List V) (S : List Addr), HRel K mg ρ2 H2 h3 ∧ Step [] ρ1 H1 ρ2 H2 ∧ H2 Dl = some (.lst vd) ∧ Dl ∉ ρ2 ∧ RepL K mg ρ2 H2 done vd S ∧ S.Nodup ∧ Dl ∉ S ∧
        (∀ a ∈ S, a ∉ ρ2 ∧ H a = none) ∧ done.length ≤ ds.length ∧ ∃ more, ds = done ++ more ∧ compGo (wipeE env vs) g tt te src (items.drop i) h3 = .ok more h2, ⟨items.length, ?_⟩, ?_⟩
      · refine ⟨rfl, Nat.zero_le _, ρ1, h1, [], [], [], hr1.kept (same_upd nD), Step.same (same_upd nD), upd_same, nρ1, .nil, List.nodup_nil, (fun z => nomatch z), (fun _ z => nomatch z), Nat.zero_le _, ds, rfl, by simpa using hres⟩
      · rintro i m H2 ⟨rfl, hi', ρ2, h3, done, vd, S, hr2, s2, eD, nD2, rd, ndS, nDS, fS, hl, more, hds, e2⟩
        have s02 := s1.trans s2
        by_cases hlt : i < items.length
        · have hd : items.drop i = items[i] :: items.drop (i + 1) := (List.drop_eq_getElem_cons hlt)
          rw [hd] at e2
          unfold compGo at e2
          split at e2
          case isFalse => cases e2
          rename_i so
          obtain ⟨hy, _⟩ := it ρ2 H2 h3 hr2 s2 so
          obtain ⟨hgo, hyl⟩ := hy i _ (List.getElem?_eq_getElem hlt)
          refine .inr ⟨hgo, _, fun H' z => z, fun v H3 yy => ?_⟩
          obtain ⟨sm, rv⟩ := hyl v H3 yy
          cases eg : g items[i] h3 with
          | none => rw [eg] at e2; cases e2
          | some ps =>
            rw [eg] at e2
            simp only at e2
            have hr3 := hr2.kept sm
            have s3 : Step [] ρ2 H2 ρ2 H3 := Step.same sm
            have er3 : EnvRel K mg ρ2 H3 (wipeE env vs) (wipe σ vs) := (er.to (s02.trans s3)).wiped vs
            refine ⟨ρ2, h3, items[i], ps, hr3, rv, eg, fun ws pw => ⟨wipe_setV ?_ |>.trans ?_, ?_⟩⟩
            · intro p hp
              have : p.1 ∈ ps.map (·.1) := by rw [← pw.ix]; exact List.mem_map_of_mem hp
              obtain ⟨p', hp', e'⟩ := List.mem_map.mp this
              rw [← e']
              exact hg _ _ _ eg p' hp'
            · have : ∀ {us ws : List Nat}, (∀ i ∈ us, i ∈ ws) → wipe (wipe σ us) ws = wipe σ ws := by
                intro us
                induction us with
                | nil => intro ws _; rfl
                | cons u us ih =>
                  intro ws hh
                  show wipe ((wipe σ us).set u none) ws = _
                  rw [wipe_set_mem (hh u List.mem_cons_self)]
                  exact ih fun i hi => hh i (List.mem_cons_of_mem _ hi)
              exact this fun _ z => z
            · refine ⟨ρ2, setAll (wipeE env vs) ps, h3, hr3, er3.setAll pw, ?_⟩
              have s03 := s02.trans s3
              have rd3 := rd.same sm fun a ha => (fS a ha).1
              have eD3 := sm _ _ eD
              cases et : tt (setAll (wipeE env vs) ps) h3 with
              | exc e h4 => rw [et] at e2; cases e2
              | stuck => rw [et] at e2; cases e2
              | ok b h4 =>
                rw [et] at e2
                intro ρ4 H4 hr4 s4
                have rd4 := rd3.to s4 (fun _ z => nomatch z) fun a ha => ⟨(fS a ha).1, fun z => nomatch z⟩
                have eD4 := s4.frame _ _ eD3 nD2 (fun z => nomatch z)
                have nD4 : Dl ∉ ρ4 := fun z => by
                  rcases s4.new _ z nD2 with y | y
                  · rw [eD3] at y; cases y
                  · cases y
                have nS4 : ∀ a ∈ S, a ∉ ρ4 := fun a ha z => by
                  obtain ⟨o, eo, _⟩ := rd3.owned a ha
                  rcases s4.new _ z (fS a ha).1 with y | y
                  · rw [eo] at y; cases y
                  · cases y
                cases b with
                | false =>
                  simp only at e2
                  refine (if_neg (by decide)).mpr ⟨_, by omega, rfl, hlt, ρ4, h4, done, vd, S, hr4, (s2.trans s3).trans s4, eD4, nD4, rd4, ndS, nDS, fun a ha => ⟨nS4 a ha, (fS a ha).2⟩, hl, more, hds, e2⟩
                | true =>
                  simp only at e2
                  refine (if_pos rfl).mpr ⟨ρ4, setAll (wipeE env vs) ps, h4, hr4, (er3.setAll pw).to s4, ?_⟩
                  cases ee : te (setAll (wipeE env vs) ps) h4 with
                  | exc e h5 => rw [ee] at e2; cases e2
                  | stuck => rw [ee] at e2; cases e2
                  | ok d h5 =>
                    rw [ee] at e2
                    simp only at e2
                    intro v5 ρ5 H5 S5 f5
                    have eD5 := f5.st.frame _ _ eD4 nD4 (fun z => nomatch z)
                    have rd5 := rd4.to f5.st (fun _ z => nomatch z) fun a ha => ⟨nS4 a ha, fun z => nomatch z⟩
                    have nD5 : Dl ∉ ρ5 := fun z => by
                      rcases f5.st.new _ z nD4 with y | y
                      · rw [eD4] at y; cases y
                      · cases y
                    have nS5 : ∀ a ∈ S, a ∉ ρ5 := fun a ha z => by
                      obtain ⟨o, eo, _⟩ := rd4.owned a ha
                      rcases f5.st.new _ z (nS4 a ha) with y | y
                      · rw [eo] at y; cases y
                      · cases y
                    have nDS5 : Dl ∉ S5 := fun z => by
                      have := f5.isnew _ z
                      rw [eD4] at this; cases this
                    have dj : ∀ a ∈ S, ∀ b ∈ S5, a ≠ b := fun a ha b hb z => by
                      subst z
                      obtain ⟨o, eo, _⟩ := rd4.owned a ha
                      rw [f5.isnew _ hb] at eo; cases eo
                    cases ec : compGo (wipeE env vs) g tt te src (items.drop (i + 1)) h5 with
                    | exc e h6 => rw [ec] at e2; cases e2
                    | stuck => rw [ec] at e2; cases e2
                    | ok ds' h6 =>
                      rw [ec] at e2
                      simp only [R.bind_ok, R.ok.injEq] at e2
                      obtain ⟨rfl, rfl⟩ := e2
                      have lvd : vd.length < sizeLine := by
                        rw [← rd.length]
                        have : ds.length = done.length + (ds'.length + 1) := by rw [hds]; simp
                        omega
                      refine ⟨vd, eD5, lvd, _, by omega, rfl, hlt, ρ5, h5, done ++ [d], vd ++ [v5], S ++ S5, f5.hr.poke nD5 eD5 rfl, ?_, upd_same, nD5, ?_, List.nodup_append.mpr ⟨ndS, f5.nd, dj⟩, fun z => ?_, fun a ha => ?_, ?_, ds', by rw [hds]; simp, ec⟩
                      · have st := ((s2.trans s3).trans s4).trans f5.st
                        refine ⟨st.pre, st.new, fun a o ea na nT => ?_⟩
                        rw [upd_ne (fun z => by rw [z, nD] at ea; cases ea)]
                        exact st.frame a o ea na nT
                      · exact (rd5.poke eD5 rfl nS5 nDS).snoc (f5.rp.poke eD5 rfl f5.owns nDS5)
                      · exact (List.mem_append.mp z).elim nDS nDS5
                      · rcases List.mem_append.mp ha with z | z
                        · exact ⟨nS5 a z, (fS a z).2⟩
                        · exact ⟨f5.owns a z, none_back (s03.trans s4) hr4 (f5.isnew a z)⟩
                      · have : ds.length = done.length + (ds'.length + 1) := by rw [hds]; simp
                        simp; omega
        · have hn : i = items.length := by omega
          subst hn
          rw [List.drop_length] at e2
          unfold compGo at e2
          split at e2
          case isFalse => cases e2
          rename_i so
          cases e2
          obtain ⟨_, hst⟩ := it ρ2 H2 _ hr2 s2 so
          refine .inl ⟨hst, ?_⟩
          rw [List.append_nil] at hds
          subst hds
          refine q (.ref Dl) ρ2 H2 (S ++ [Dl]) ⟨hr2, s02, .lst eD rd, List.nodup_append.mpr ⟨ndS, by simp, fun a ha b hb z => ?_⟩, fun a ha => ?_⟩
          · rw [List.mem_singleton.mp hb] at z; subst z; exact nDS ha
          · rcases List.mem_append.mp ha with z | z
            · exact ⟨(fS a z).1, .inl (fS a z).2⟩
            · rw [List.mem_singleton.mp z]; exact ⟨nD2, .inl n0⟩
end
end Tw

/-! TwIter: what is walked. -/
namespace Tw
open PySem PySem.Spec PyProof.Rows L2

theorem tE_imp {K mg} {Wx : WX} {m : ME} {σ : L2.St} {H : Hp} {Q Q' : VK} (q : tE K mg Wx m σ H Q) (i : ∀ v H', Q v H' → Q' v H') : tE K mg Wx m σ H Q' := by
  obtain ⟨ρ, env, h, hr, er, q⟩ := q
  refine ⟨ρ, env, h, hr, er, ?_⟩
  cases em : m env h with
  | ok d h1 => rw [em] at q; exact fun v ρ' H' S f => i _ _ (q v ρ' H' S f)
  | exc e h1 => rw [em] at q; exact q
  | stuck => rw [em] at q; exact q
theorem tG_nm {K mg} {i : Nat} {v : V} {σ : L2.St} {H : Hp} {Q : L2.St → Hp → Prop} (q : tG K mg (gNm i) v σ H Q) : gName i v σ H Q := by
  obtain ⟨ρ, h, d, ps, hr, r, e, q⟩ := q
  cases e
  exact q [(i, v)] (.cons r .nil)
section
variable {X : Cx} {Wx : WX} {pos spos : Pos} {tg iter elt : Expr} {ifs : List Expr} {scope : Scope} {own : List (Str × Nat)} {mi : MI} {g : MG} {tt : MT} {te : ME}
theorem je_comp (hc : X.calm = true) (hN : X.N.Nodup) (hi : JI X Wx tg iter mi) (ok : BlkOk X.N X.env.scope scope own) (sl : Slots g (own.map (·.2)))
    (hg : ∀ (s : Shared) (H : Hp) (C : Addr) (cl : List (Str × Addr)) (fp : List Addr), JG (X.blk s H scope (compEnvC scope cl C X.env) fp) tg g) (ht : ∀ (s : Shared) (H : Hp) (C : Addr) (cl : List (Str × Addr)) (fp : List Addr), JTs (X.blk s H scope (compEnvC scope cl C X.env) fp) ifs tt)
    (he : ∀ (s : Shared) (H : Hp) (C : Addr) (cl : List (Str × Addr)) (fp : List Addr), JE (X.blk s H scope (compEnvC scope cl C X.env) fp) Wn elt te) (hs : ∀ x, foldedSetIterable iter X.env x = pure x := by intro _; rfl) :
    JE X Wx (.ListComp elt [⟨tg, iter, ifs, 0⟩] scope pos) (eComp (own.map (·.2)) mi g tt te) :=
  PE.mono (pe_lc hc hN hi ok hg ht he hs) fun σ H Q q => tE_comp sl q
theorem js_setc {i : Nat} {y : Str} {py : Pos} (hc : X.calm = true) (hN : X.N.Nodup) (hyl : X.env.scope.names.lookup y = some .local) (hsw : swapsWith (.ListComp elt [⟨tg, iter, ifs, 0⟩] scope pos) (some (.Name y py)) spos.line X.env = pure true) (hi : JI X Wx tg iter mi) (ok : BlkOk X.N X.env.scope scope own) (sl : Slots g (own.map (·.2)))
    (hg : ∀ (s : Shared) (H : Hp) (C : Addr) (cl : List (Str × Addr)) (fp : List Addr), JG (X.blk s H scope (compEnvC scope cl C X.env) fp) tg g) (ht : ∀ (s : Shared) (H : Hp) (C : Addr) (cl : List (Str × Addr)) (fp : List Addr), JTs (X.blk s H scope (compEnvC scope cl C X.env) fp) ifs tt)
    (he : ∀ (s : Shared) (H : Hp) (C : Addr) (cl : List (Str × Addr)) (fp : List Addr), JE (X.blk s H scope (compEnvC scope cl C X.env) fp) Wn elt te) (hy : X.N[i]? = some y := by rfl) (hs : ∀ x, foldedSetIterable iter X.env x = pure x := by intro _; rfl) :
    JS X Wx (.Assign [.Name y py] (.ListComp elt [⟨tg, iter, ifs, 0⟩] scope pos) spos) (sAsg (gNm i) (eComp (own.map (·.2)) mi g tt te)) :=
  PS.mono (ps_setLc hc hN hy hyl hsw hi ok hg ht he hs) fun D σ H q => tE_comp sl (tE_imp (tS_asg q) fun v H' q' => tG_nm q')
end

/-! ### a list, a tuple, a text -/
mutual
/-- nothing new within -/
def D.set : D → Bool
  | .tup xs => setL xs
  | .lst _ => false
  | .dct _ _ => false
  | .exc _ _ xs => setL xs
  | _ => true
def setL : List D → Bool
  | [] => true
  | x :: xs => x.set && setL xs
end
mutual
theorem D.set_of_pure : ∀ {d : D}, d.pure = true → d.set = true
  | .tup xs, h => by simp only [D.set]; exact setL_of_pure (by simpa [D.pure] using h)
  | .exc _ _ xs, h => by simp only [D.set]; exact setL_of_pure (by simpa [D.pure] using h)
  | .lst _, h => by simp [D.pure] at h
  | .dct _ _, h => by simp [D.pure] at h
  | .ref _, h => rfl
  | .non, _ => rfl
  | .bl _, _ => rfl
  | .int _, _ => rfl
  | .str _, _ => rfl
  | .rol _, _ => rfl
  | .glb _, _ => rfl
  | .ty _, _ => rfl
theorem setL_of_pure : ∀ {xs : List D}, pureL xs = true → setL xs = true
  | [], _ => rfl
  | x :: xs, h => by
    have h' : x.pure = true ∧ pureL xs = true := by simpa [pureL] using h
    simp [setL, D.set_of_pure h'.1, setL_of_pure h'.2]
end
section
variable {K : PySem.W.Frag} {mg : Str → Option Value} {ρ ρ' : List Addr} {H H' : Hp} {h : Hd}
mutual
theorem Rep.set_nil : ∀ {d : D} {v : V} {S : List Addr}, Rep K mg ρ H d v S → d.set = true → S = []
  | _, _, _, .non, _ => rfl
  | _, _, _, .bl _, _ => rfl
  | _, _, _, .int _, _ => rfl
  | _, _, _, .str _, _ => rfl
  | _, _, _, .tup _ r, p => RepL.set_nil r (by simpa [D.set] using p)
  | _, _, _, .lst _ _, p => by simp [D.set] at p
  | _, _, _, .rol _ _, _ => rfl
  | _, _, _, .ref _, _ => rfl
  | _, _, _, .glb _, _ => rfl
  | _, _, _, .ty _, _ => rfl
theorem RepL.set_nil : ∀ {xs : List D} {vs : List V} {S : List Addr}, RepL K mg ρ H xs vs S → setL xs = true → S = []
  | _, _, _, .nil, _ => rfl
  | _, _, _, .cons (x := x) (xs := xs) r t, p => by
    have p' : x.set = true ∧ setL xs = true := by simpa [setL] using p
    rw [Rep.set_nil r p'.1, RepL.set_nil t p'.2]; rfl
end
theorem RepL.get : ∀ {xs : List D} {vs : List V} {i : Nat} {x : D}, RepL K mg ρ H xs vs [] → xs[i]? = some x → ∃ v, vs[i]? = some v ∧ Rep K mg ρ H x v [] := by
  intro xs
  induction xs with
  | nil => intro vs i x _ e; simp at e
  | cons y ys ih =>
    intro vs i x r e
    obtain ⟨v, ws, rfl, r1, r2⟩ := r.split
    cases i with
    | zero => simp at e; subst e; exact ⟨v, rfl, r1⟩
    | succ i => simpa using ih r2 (by simpa using e)
end
/-- the items of what is walked: a cell's or a tuple's, or of a new list -/
def seqI (h : Hd) : D → R (List D × Src)
  | .tup xs => if setL xs = true then .ok (xs, []) h else .stuck
  | .rol xs => .ok (xs, []) h
  | .ref n => match h[n]? with
    | some (.lst xs) => .ok (xs, [(n, xs)]) h
    | _ => .stuck
  | .lst xs => if setL xs = true then .ok (xs, []) h else .ok ((boxL xs h).1, [((boxL xs h).2.length, (boxL xs h).1)]) ((boxL xs h).2 ++ [.lst (boxL xs h).1])
  | .str s => .ok (s.cps.toList.map (fun c => .str ⟨#[c]⟩), []) h
  | _ => .stuck
def iSeq (a : ME) : MI := fun env h => match a env h with
  | .ok d h1 => seqI h1 d
  | .exc e h1 => .exc e h1
  | .stuck => .stuck
section
variable {K : PySem.W.Frag} {mg : Str → Option Value} {ρ : List Addr} {H : Hp} {h : Hd}
/-- at a, a list that stands while cells change as they may -/
theorem itOk_list {a : Addr} {items : List D} {src : Src} (hh : ∀ ρ2 H2 h2, HRel K mg ρ2 H2 h2 → Step [] ρ H ρ2 H2 → srcOk src h2 = true → ∃ vs, SqL K H2 a vs ∧ RepL K mg ρ2 H2 items vs []) : ItOk K mg ρ H (Itl K a) items src := by
  intro ρ2 H2 h2 hr s so
  obtain ⟨vs, sq, r⟩ := hh ρ2 H2 h2 hr s so
  refine ⟨fun i x e => ?_, ⟨vs, sq, by rw [r.length]; exact Nat.le_refl _⟩⟩
  obtain ⟨v, ev, rv⟩ := r.get e
  refine ⟨⟨vs, v, sq, ev⟩, fun w H3 ⟨e3, y⟩ => ?_⟩
  subst e3
  refine ⟨fun _ _ z => z, ?_⟩
  have : w = v := by
    have := y vs sq
    rw [ev] at this
    exact (Option.some.inj this).symm
  rw [this]; exact rv
theorem itOk_tup {a : Addr} {items : List D} (hh : ∀ ρ2 H2 h2, HRel K mg ρ2 H2 h2 → Step [] ρ H ρ2 H2 → ∃ vs, SqT K H2 a vs ∧ RepL K mg ρ2 H2 items vs []) : ItOk K mg ρ H (Itt K a) items [] := by
  intro ρ2 H2 h2 hr s so
  obtain ⟨vs, sq, r⟩ := hh ρ2 H2 h2 hr s
  refine ⟨fun i x e => ?_, ⟨vs, sq, by rw [r.length]; exact Nat.le_refl _⟩⟩
  obtain ⟨v, ev, rv⟩ := r.get e
  refine ⟨⟨vs, v, sq, ev⟩, fun w H3 ⟨e3, y⟩ => ?_⟩
  subst e3
  refine ⟨fun _ _ z => z, ?_⟩
  have : w = v := by
    have := y vs sq
    rw [ev] at this
    exact (Option.some.inj this).symm
  rw [this]; exact rv
theorem itOk_str {z : Str} : ItOk K mg ρ H (Its z) (z.cps.toList.map (fun c => .str ⟨#[c]⟩)) [] := by
  intro ρ2 H2 h2 hr s so
  refine ⟨fun i x e => ?_, by show z.cps.size ≤ (z.cps.toList.map _).length; simp⟩
  rw [List.getElem?_map] at e
  cases ec : z.cps.toList[i]? with
  | none => rw [ec] at e; cases e
  | some c =>
    rw [ec] at e
    cases e
    have hi : i < z.cps.size := by simpa using (List.getElem?_eq_some_iff.mp ec).1
    refine ⟨hi, fun v H3 ⟨e3, c', hc, hv⟩ => ?_⟩
    subst e3
    refine ⟨fun _ _ z => z, ?_⟩
    have : c' = c := by
      have e2 : z.cps.toList[i]? = some c' := by simpa using hc
      rw [ec] at e2
      exact (Option.some.inj e2).symm
    subst this
    rw [hv]
    exact .str _
theorem itOk_range {lo : Int} {n : Nat} : ItOk K mg ρ H (Itr lo n) ((List.range n).map fun i => .int (lo + (i : Nat))) [] := by
  intro ρ2 H2 h2 hr s so
  refine ⟨fun i x e => ?_, by show n ≤ ((List.range n).map _).length; simp⟩
  rw [List.getElem?_map] at e
  cases ei : (List.range n)[i]? with
  | none => rw [ei] at e; cases e
  | some j =>
    rw [ei] at e
    cases e
    obtain ⟨hi, hj⟩ := List.getElem?_eq_some_iff.mp ei
    simp at hi hj
    subst hj
    refine ⟨hi, fun v H3 ⟨e3, hv⟩ => ?_⟩
    subst e3
    refine ⟨fun _ _ z => z, ?_⟩
    rw [hv]
    exact .int _
end
/-- an iterator over a value: a list, a tuple, a text -/
def iVal (K : PySem.W.Frag) (te : TE) : TI := fun σ H R => te σ H fun x H1 =>
  (∃ a, x = .ref a ∧ (∃ xs, SqL K H1 a xs) ∧ R (Itl K a) H1) ∨ (∃ a, x = .ref a ∧ (∃ xs, SqT K H1 a xs) ∧ R (Itt K a) H1) ∨ ∃ z, x = .str z ∧ R (Its z) H1
theorem pi_val {X : Cx} {tg l : Expr} {tl : TE} (hl : PE X l tl) : PI X tg l (iVal X.K tl) := by
  refine ⟨fun pins s σ H R I h => ?_⟩
  refine thn (hl.run pins s σ H _ I h) fun v s1 ⟨x, H1, I1, r1, q1⟩ => ?_
  rcases q1 with ⟨a, e, ⟨xs, hq⟩, q⟩ | ⟨a, e, ⟨xs, hq⟩, q⟩ | ⟨z, e, q⟩
  · subst e
    cases r1
    obtain ⟨its, rv, p, hz⟩ := I1.list hq
    refine wpAny_pyIter_list p.isList ?_
    refine ⟨s1.heap.objs.size, [s1.heap.objs.size], _, _, H1, rfl, I1.kept (t' := s1.toks) fun b o e => Heap.get?_push_of_some _ e, turn_list a _, ⟨_, Heap.get?_push_size _ rfl, rfl, rfl⟩, fun b hb => ?_, q⟩
    have e : b = s1.heap.objs.size := by simpa using hb
    subst e
    exact I1.fpOk (Nat.le_refl _) (I1.hok.fresh (Nat.le_refl _))
  · subst e
    cases r1
    obtain ⟨its, rv, p, hz⟩ := I1.tuple hq
    refine wpAny_pyIter_tuple (show s1.heap.IsTuple a its.toArray from p) ?_
    refine ⟨s1.heap.objs.size, [s1.heap.objs.size], _, _, H1, rfl, I1.kept (t' := s1.toks) fun b o e => Heap.get?_push_of_some _ e, turn_tuple a _, ⟨_, Heap.get?_push_size _ rfl, rfl, rfl⟩, fun b hb => ?_, q⟩
    have e : b = s1.heap.objs.size := by simpa using hb
    subst e
    exact I1.fpOk (Nat.le_refl _) (I1.hok.fresh (Nat.le_refl _))
  · subst e
    obtain ⟨t, rfl⟩ := r1
    cases ha : z.cps.all (· < 128)
    · exact wpAny_pyIter_wide ha (pi_one (tk := s1.toks) I1 _ (turn_str _ z t "str_iterator" (.inr rfl)) ⟨_, Heap.get?_push_size _ rfl, rfl, rfl⟩ q)
    · exact wpAny_pyIter_ascii ha (pi_one (tk := s1.toks) I1 _ (turn_str _ z t "str_ascii_iterator" (.inl rfl)) ⟨_, Heap.get?_push_size _ rfl, rfl, rfl⟩ q)
theorem ji_val {X : Cx} {Wx : WX} {tg l : Expr} {ma : ME} (hl : JE X Wx l ma) : JI X Wx tg l (iSeq ma) := by
  refine PI.mono (pi_val hl) fun σ H R ⟨ρ, env, h, hr, er, q⟩ => ⟨ρ, env, h, hr, er, ?_⟩
  unfold iSeq at q
  cases ea : ma env h with
  | exc e h1 => rw [ea] at q; exact q
  | stuck => rw [ea] at q; exact q
  | ok d h1 =>
    rw [ea] at q
    simp only at q
    intro v ρ1 H1 S f
    cases d with
    | tup xs =>
      have rp := f.rp
      cases rp with
      | tup ht t =>
        simp only [seqI] at q
        by_cases hs : setL xs = true
        · rw [if_pos hs] at q
          cases (t.set_nil hs)
          refine .inr (.inl ⟨_, rfl, ⟨_, ht.sq⟩, q _ ρ1 H1 f.hr f.st (itOk_tup fun ρ2 H2 h2 hr2 s2 => ⟨_, (ht.to s2 fun _ z => nomatch z).sq, t.to s2 (fun _ z => nomatch z) fun _ z => nomatch z⟩)⟩)
        · rw [if_neg hs] at q; exact q.elim
    | rol xs =>
      have rp := f.rp
      cases rp with
      | rol ht t =>
        simp only [seqI] at q
        exact .inl ⟨_, rfl, ⟨_, ht.sq⟩, q _ ρ1 H1 f.hr f.st (itOk_list fun ρ2 H2 h2 hr2 s2 so => ⟨_, (ht.to s2 fun _ z => nomatch z).sq, t.to s2 (fun _ z => nomatch z) fun _ z => nomatch z⟩)⟩
    | ref n =>
      have rp := f.rp
      cases rp with
      | ref ha =>
        simp only [seqI] at q
        cases hx : h1[n]? with
        | none => rw [hx] at q; exact q.elim
        | some c =>
          rw [hx] at q
          cases c with
          | lst xs =>
            obtain ⟨vs, hv, t⟩ := f.hr.cell n _ _ hx ha
            refine .inl ⟨_, rfl, ⟨_, SqL.of hv⟩, q _ ρ1 H1 f.hr f.st (itOk_list fun ρ2 H2 h2 hr2 s2 so => ?_)⟩
            obtain ⟨ws, hw, u⟩ := hr2.cell n _ _ (srcOk_get so) (pre_get s2.pre ha)
            exact ⟨ws, SqL.of hw, u⟩
          | dct _ _ => exact q.elim
          | ins _ _ _ => exact q.elim
    | lst xs =>
      have rp := f.rp
      have fr := f.fr
      have nd := f.nd
      cases rp with
      | lst ha t =>
        rename_i a vs S0
        simp only [seqI] at q
        by_cases hs : setL xs = true
        · rw [if_pos hs] at q
          cases (t.set_nil hs)
          have na := (fr a (by simp)).1
          refine .inl ⟨_, rfl, ⟨_, SqL.of ha⟩, q _ ρ1 H1 f.hr f.st (itOk_list fun ρ2 H2 h2 hr2 s2 so => ⟨vs, SqL.of (s2.frame _ _ ha na fun z => nomatch z), t.to s2 (fun _ z => nomatch z) fun _ z => nomatch z⟩)⟩
        · rw [if_neg hs] at q
          obtain ⟨b, rb⟩ := box_ok f.hr f.rp f.nd f.owns
          simp only [box] at b rb
          cases rb with
          | ref hb =>
            have st : Step [] ρ H (ρ1 ++ (S0 ++ [a])) H1 := f.st.transT (Step.boxed ρ1 H1 _) fun x hx => ⟨f.isnew x hx, f.owns x hx⟩
            refine .inl ⟨_, rfl, ⟨_, SqL.of ha⟩, q _ _ H1 b.rel st (itOk_list fun ρ2 H2 h2 hr2 s2 so => ?_)⟩
            obtain ⟨ws, hw, u⟩ := hr2.cell _ _ _ (srcOk_get so) (pre_get s2.pre hb)
            exact ⟨ws, SqL.of hw, u⟩
    | str z =>
      have rp := f.rp
      cases rp with
      | str =>
        simp only [seqI] at q
        exact .inr (.inr ⟨z, rfl, q _ ρ1 H1 f.hr f.st itOk_str⟩)
    | _ => exact q.elim
/-! ### range -/
def rngOk (i : Int) : Bool := decide (-(2 ^ 62) ≤ i) && decide (i < 2 ^ 62)
def rngI (lo hi : Int) : List D := (List.range (hi - lo).toNat).map fun i => .int (lo + (i : Nat))
def rng1 : List D → Option (List D)
  | [.int j] => if rngOk j = true then some ((List.range j.toNat).map fun i => .int (0 + (i : Nat))) else none
  | _ => none
def rng2 : List D → Option (List D)
  | [.int i, .int j] => if (rngOk i && rngOk j) = true then some (rngI i j) else none
  | _ => none
def liftI (h : Hd) : Option (List D) → R (List D × Src)
  | some items => .ok (items, []) h
  | none => .stuck
def iN (f : List D → Option (List D)) (as : MA) : MI := fun env h => match as env h with
  | .ok ds h1 => liftI h1 (f ds)
  | .exc e h1 => .exc e h1
  | .stuck => .stuck
section
variable {X : Cx} {Wx : WX} {tg a b : Expr} {ma : MA} {p pos : Pos}
theorem ji_range1 (hm : X.mg "range" = none) (ha : JA X Wx [a] ma) (hg : Gl X "range" := by rfl) (hs : starEach [a] X.env = [(false, eval a X.env)] := by rfl) : JI X Wx tg (.Call (.Name "range" p) [a] [] pos) (iN rng1 ma) := by
  refine PI.mono (pi_range1 hg hm ha hs) fun σ H R ⟨ρ, env, h, hr, er, q⟩ => ⟨ρ, env, h, hr, er, ?_⟩
  unfold iN at q
  cases ea : ma env h with
  | exc e h1 => rw [ea] at q; exact q
  | stuck => rw [ea] at q; exact q
  | ok ds h1 =>
    rw [ea] at q
    simp only at q
    intro vs ρ1 H1 S f
    cases er1 : rng1 ds with
    | none => rw [er1] at q; exact q.elim
    | some items =>
      rw [er1] at q
      unfold rng1 at er1
      split at er1
      · rename_i j
        split at er1
        · rename_i hj
          cases er1
          have rp := f.rp
          cases rp with
          | cons r t =>
            cases r
            cases t
            simp [rngOk] at hj
            exact ⟨j, rfl, hj.1, hj.2, q _ ρ1 H1 f.hr f.st itOk_range⟩
        · cases er1
      · cases er1
theorem ji_range2 (hm : X.mg "range" = none) (ha : JA X Wx [a, b] ma) (hg : Gl X "range" := by rfl) (hs : starEach [a, b] X.env = [(false, eval a X.env), (false, eval b X.env)] := by rfl) (hs2 : starEach [b] X.env = [(false, eval b X.env)] := by rfl) : JI X Wx tg (.Call (.Name "range" p) [a, b] [] pos) (iN rng2 ma) := by
  refine PI.mono (pi_range2 hg hm ha hs hs2) fun σ H R ⟨ρ, env, h, hr, er, q⟩ => ⟨ρ, env, h, hr, er, ?_⟩
  unfold iN at q
  cases ea : ma env h with
  | exc e h1 => rw [ea] at q; exact q
  | stuck => rw [ea] at q; exact q
  | ok ds h1 =>
    rw [ea] at q
    simp only at q
    intro vs ρ1 H1 S f
    cases er1 : rng2 ds with
    | none => rw [er1] at q; exact q.elim
    | some items =>
      rw [er1] at q
      unfold rng2 at er1
      split at er1
      · rename_i i j
        split at er1
        · rename_i hj
          cases er1
          have rp := f.rp
          cases rp with
          | cons r t =>
            cases r
            cases t with
            | cons r t =>
              cases r
              cases t
              simp [rngOk] at hj
              exact ⟨i, j, rfl, ⟨hj.1.1, hj.1.2, hj.2.1, hj.2.2⟩, q _ ρ1 H1 f.hr f.st itOk_range⟩
        · cases er1
      · cases er1
end
end Tw

/-! TwOps: operations on values. -/
namespace Tw
open PySem PySem.Spec PyProof.Rows L2

/-! ### the functions -/
/-- both factors small, or together of less than a million bits -/
def mulOk (i j : Int) : Bool := (decide (-(2 ^ 64) < i) && decide (i < 2 ^ 64)) || (decide (-(2 ^ 64) < j) && decide (j < 2 ^ 64)) || (decide (i.natAbs < 2 ^ 400000) && decide (j.natAbs < 2 ^ 400000))
def seqOf (h : Hd) : D → Option (List D)
  | .tup xs => some xs
  | .lst xs => some xs
  | .rol xs => some xs
  | .ref n => match h[n]? with
    | some (.lst xs) => some xs
    | _ => none
  | _ => none
def isLst (h : Hd) : D → Option (List D)
  | .lst xs => some xs
  | .ref n => match h[n]? with
    | some (.lst xs) => some xs
    | _ => none
  | _ => none
def dAdd (x y : D) (h : Hd) : Option D := match x, y with
  | .int i, .int j => some (.int (i + j))
  | .str i, .str j => if i.length + j.length ≤ sizeLine then some (.str (i ++ j)) else none
  | .tup xs, .tup ys => if xs.length + ys.length ≤ sizeLine then some (.tup (xs ++ ys)) else none
  | x, y => match isLst h x, isLst h y with
    | some xs, some ys => if xs.length + ys.length ≤ sizeLine then some (.lst (xs ++ ys)) else none
    | _, _ => none
def dSub (x y : D) (_ : Hd) : Option D := match x, y with
  | .int i, .int j => some (.int (i - j))
  | _, _ => none
def dMul (x y : D) (_ : Hd) : Option D := match x, y with
  | .int i, .int j => if mulOk i j = true then some (.int (i * j)) else none
  | _, _ => none
def dFdiv (x y : D) (_ : Hd) : Option D := match x, y with
  | .int i, .int j => if (decide (0 < j) && decide (j.natAbs < 2 ^ 8000)) = true then some (.int (i / j)) else none
  | _, _ => none
def dMod (x y : D) (_ : Hd) : Option D := match x, y with
  | .int i, .int j => if 0 < j then some (.int (i % j)) else none
  | _, _ => none
def dPow (x y : D) (_ : Hd) : Option D := match x, y with
  | .int i, .int j => if (decide (0 ≤ j) && decide (j ≤ 1000000) && decide (i.natAbs < 2 ^ 64)) = true then some (.int (i ^ j.toNat)) else none
  | _, _ => none
def dNeg (x : D) (_ : Hd) : Option D := match x with
  | .int i => some (.int (-i))
  | _ => none
def dCmp (p : Int → Int → Bool) (x y : D) (_ : Hd) : Option D := match x, y with
  | .int i, .int j => some (.bl (p i j))
  | _, _ => none
def dLt := dCmp fun i j => decide (i < j)
def dLe := dCmp fun i j => decide (i ≤ j)
def dGt := dCmp fun i j => decide (j < i)
def dGe := dCmp fun i j => decide (j ≤ i)
def isNon : D → Bool
  | .non => true
  | _ => false
def dIs (x y : D) (_ : Hd) : Option D := match y with
  | .non => some (.bl (isNon x))
  | _ => none
def dIsNot (x y : D) (_ : Hd) : Option D := match y with
  | .non => some (.bl (!isNon x))
  | _ => none
def dLen (xs : List D) (h : Hd) : Option D := match xs with
  | [.str s] => if s.length ≤ sizeLine then some (.int s.length) else none
  | [x] => match seqOf h x with
    | some ys => some (.int ys.length)
    | none => none
  | _ => none
def dIx (x y : D) (h : Hd) : Option D := match y, x with
  | .int i, .str z => if z.length ≤ sizeLine then match atI z.cps.toList i with
      | some c => some (.str ⟨#[c]⟩)
      | none => none
    else none
  | .int i, x => match seqOf h x with
    | some xs => atI xs i
    | none => none
  | _, _ => none

/-! ### they are right -/
section
variable {X : Cx}
theorem OpR.or3 {f : Value → Value → Sem Value} {r r' r'' : R2} (h : OpR X f r) (h' : OpR X f r') (h'' : OpR X f r'') : OpR X f (fun x y H Q => r x y H Q ∨ r' x y H Q ∨ r'' x y H Q) := OpR.or h (OpR.or h' h'')
end
section
variable {K : PySem.W.Frag} {mg : Str → Option Value} {ρ : List Addr} {H : Hp} {h : Hd}
/-- a result that owns nothing and changes nothing -/
theorem q0 {d : D} {v : V} {S : List Addr} {Q : VK} (q : ∀ v H' S', Same H H' → Rep K mg ρ H' d v S' → S'.Nodup → (∀ a ∈ S', a ∉ ρ ∧ (H a = none ∨ a ∈ S)) → Q v H') (r : Rep K mg ρ H d v []) : Q v H :=
  q v H [] same_refl r List.nodup_nil fun _ z => nomatch z
theorem Rep.int_inv {i : Int} {v : V} {S : List Addr} (r : Rep K mg ρ H (.int i) v S) : v = .int i ∧ S = [] := by cases r; exact ⟨rfl, rfl⟩
theorem opII {f : D → D → Hd → Option D} {C : Int → Int → Prop} {g : Int → Int → V} {gd : Int → Int → D} (hf : ∀ x y h d, f x y h = some d → ∃ i j, x = .int i ∧ y = .int j ∧ C i j ∧ d = gd i j) (hg : ∀ i j ρ H, Rep K mg ρ H (gd i j) (g i j) []) : Op2 K mg f (rI C g) := by
  intro x y h d e ρ H vx vy S1 S2 Q hr r1 r2 nd na q
  obtain ⟨i, j, rfl, rfl, c, rfl⟩ := hf x y h d e
  obtain ⟨rfl, rfl⟩ := r1.int_inv
  obtain ⟨rfl, rfl⟩ := r2.int_inv
  exact ⟨i, j, rfl, rfl, c, q0 q (hg i j ρ H)⟩
theorem opII0 {f : D → D → Hd → Option D} {g : Int → Int → V} {gd : Int → Int → D} (hf : ∀ x y h d, f x y h = some d → ∃ i j, x = .int i ∧ y = .int j ∧ d = gd i j) (hg : ∀ i j ρ H, Rep K mg ρ H (gd i j) (g i j) []) : Op2 K mg f (rI0 g) := by
  intro x y h d e ρ H vx vy S1 S2 Q hr r1 r2 nd na q
  obtain ⟨i, j, rfl, rfl, rfl⟩ := hf x y h d e
  obtain ⟨rfl, rfl⟩ := r1.int_inv
  obtain ⟨rfl, rfl⟩ := r2.int_inv
  exact ⟨i, j, rfl, rfl, q0 q (hg i j ρ H)⟩
theorem op2_sub : Op2 K mg dSub (rI0 fun i j => .int (i - j)) := opII0 (gd := fun i j => .int (i - j)) (fun x y h d e => by
  unfold dSub at e
  split at e
  · cases e; exact ⟨_, _, rfl, rfl, rfl⟩
  · cases e) fun i j _ _ => .int _
theorem op2_cmp (p : Int → Int → Bool) : Op2 K mg (dCmp p) (rI0 fun i j => .bl (p i j)) := opII0 (gd := fun i j => .bl (p i j)) (fun x y h d e => by
  unfold dCmp at e
  split at e
  · cases e; exact ⟨_, _, rfl, rfl, rfl⟩
  · cases e) fun i j _ _ => .bl _
theorem op2_fdiv : Op2 K mg dFdiv (rI CDivW fun i j => .int (i / j)) := opII (gd := fun i j => .int (i / j)) (fun x y h d e => by
  unfold dFdiv at e
  split at e
  · split at e
    · rename_i c
      cases e
      simp only [Bool.and_eq_true, decide_eq_true_eq] at c
      exact ⟨_, _, rfl, rfl, wide_div c.1 c.2 (by decide) (by decide), rfl⟩
    · cases e
  · cases e) fun i j _ _ => .int _
theorem op2_mod : Op2 K mg dMod (rI (fun _ j => 0 < j) fun i j => .int (i % j)) := opII (gd := fun i j => .int (i % j)) (fun x y h d e => by
  unfold dMod at e
  split at e
  · split at e
    · rename_i c
      cases e
      exact ⟨_, _, rfl, rfl, c, rfl⟩
    · cases e
  · cases e) fun i j _ _ => .int _
theorem op2_pow : Op2 K mg dPow (rI CPow fun i j => .int (i ^ j.toNat)) := opII (gd := fun i j => .int (i ^ j.toNat)) (fun x y h d e => by
  unfold dPow at e
  split at e
  · split at e
    · rename_i c
      cases e
      simp only [Bool.and_eq_true, decide_eq_true_eq] at c
      exact ⟨_, _, rfl, rfl, ⟨c.1.1, c.1.2, c.2⟩, rfl⟩
    · cases e
  · cases e) fun i j _ _ => .int _
def rMul : R2 := fun x y H Q => rI CMul (fun i j => .int (i * j)) x y H Q ∨ rI CMulW (fun i j => .int (i * j)) x y H Q
theorem op_mulA {X : Cx} : OpR X (binaryOp .Mult) rMul := OpR.or op_mul op_mulW
theorem op2_mul : Op2 K mg dMul rMul := by
  intro x y h d e ρ H vx vy S1 S2 Q hr r1 r2 nd na q
  unfold dMul at e
  split at e
  · rename_i i j
    split at e
    · rename_i c
      cases e
      obtain ⟨rfl, rfl⟩ := r1.int_inv
      obtain ⟨rfl, rfl⟩ := r2.int_inv
      simp only [mulOk, Bool.or_eq_true, Bool.and_eq_true, decide_eq_true_eq] at c
      rcases c with c | c
      · exact .inl ⟨i, j, rfl, rfl, c, q0 q (.int _)⟩
      · exact .inr ⟨i, j, rfl, rfl, wide_mul c.1 c.2 (by decide) (by decide) (by decide), q0 q (.int _)⟩
    · cases e
  · cases e
theorem op1_neg : Op1 K mg dNeg (rU fun i => .int (-i)) := by
  intro x h d e ρ H vx S Q hr r nd na q
  unfold dNeg at e
  split at e
  · cases e
    obtain ⟨rfl, rfl⟩ := r.int_inv
    exact ⟨_, rfl, q0 q (.int _)⟩
  · cases e
theorem isNon_eq {d : D} {v : V} {S : List Addr} (r : Rep K mg ρ H d v S) : isNon d = decide (v = .non) := by
  cases r <;> rfl
theorem op2_is : Op2 K mg dIs (fun x y H Q => y = .non ∧ Q (.bl (decide (x = .non))) H) := by
  intro x y h d e ρ H vx vy S1 S2 Q hr r1 r2 nd na q
  unfold dIs at e
  split at e
  · cases e
    cases r2
    refine ⟨rfl, ?_⟩
    rw [← isNon_eq r1]
    exact q0 q (.bl _)
  · cases e
theorem op2_isNot : Op2 K mg dIsNot (fun x y H Q => y = .non ∧ Q (.bl (!decide (x = .non))) H) := by
  intro x y h d e ρ H vx vy S1 S2 Q hr r1 r2 nd na q
  unfold dIsNot at e
  split at e
  · cases e
    cases r2
    refine ⟨rfl, ?_⟩
    rw [← isNon_eq r1]
    exact q0 q (.bl _)
  · cases e

/-! ### sequences -/
theorem RepL.append {xs ys : List D} {vs ws : List V} {S T : List Addr} (r : RepL K mg ρ H xs vs S) (t : RepL K mg ρ H ys ws T) : RepL K mg ρ H (xs ++ ys) (vs ++ ws) (S ++ T) := by
  have key : ∀ {xs : List D} {vs : List V} {S : List Addr}, RepL K mg ρ H xs vs S → RepL K mg ρ H (xs ++ ys) (vs ++ ws) (S ++ T) := by
    intro xs
    induction xs with
    | nil => intro vs S r; cases r; exact t
    | cons x xs ih =>
      intro vs S r
      cases r with
      | cons r1 r2 => rw [List.cons_append, List.cons_append, List.append_assoc]; exact .cons r1 (ih r2)
  exact key r
/-- a sequence as it lies: its items, and what they own is owned -/
theorem seqOf_rep {x : D} {xs : List D} {v : V} {S : List Addr} (hr : HRel K mg ρ H h) (e : seqOf h x = some xs) (r : Rep K mg ρ H x v S) :
    ∃ a vs S', v = .ref a ∧ (SqL K H a vs ∨ SqT K H a vs) ∧ RepL K mg ρ H xs vs S' ∧ S'.Sublist S := by
  cases x with
  | tup ys => cases e; cases r with | tup ht t => exact ⟨_, _, _, rfl, .inr ht.sq, t, List.Sublist.refl _⟩
  | lst ys => cases e; cases r with | lst ha t => exact ⟨_, _, _, rfl, .inl (SqL.of ha), t, List.sublist_append_left _ _⟩
  | rol ys => cases e; cases r with | rol ha t => exact ⟨_, _, _, rfl, .inl ha.sq, t, List.Sublist.refl _⟩
  | ref n =>
    simp only [seqOf] at e
    split at e
    · rename_i ys hy
      cases e
      cases r with
      | ref ha =>
        obtain ⟨vs, hv, t⟩ := hr.cell n _ _ hy ha
        exact ⟨_, _, _, rfl, .inl (SqL.of hv), t, List.Sublist.refl _⟩
    · cases e
  | _ => cases e
theorem isLst_rep {x : D} {xs : List D} {v : V} {S : List Addr} (hr : HRel K mg ρ H h) (e : isLst h x = some xs) (r : Rep K mg ρ H x v S) :
    ∃ a vs S', v = .ref a ∧ H a = some (.lst vs) ∧ RepL K mg ρ H xs vs S' ∧ S'.Sublist S := by
  cases x with
  | lst ys => cases e; cases r with | lst ha t => exact ⟨_, _, _, rfl, ha, t, List.sublist_append_left _ _⟩
  | ref n =>
    simp only [isLst] at e
    split at e
    · rename_i ys hy
      cases e
      cases r with
      | ref ha =>
        obtain ⟨vs, hv, t⟩ := hr.cell n _ _ hy ha
        exact ⟨_, _, _, rfl, hv, t, List.Sublist.refl _⟩
    · cases e
  | _ => cases e
def rAdd (K : PySem.W.Frag) : R2 := fun x y H Q => rI0 (fun i j => .int (i + j)) x y H Q ∨ (∃ i j, x = .str i ∧ y = .str j ∧ i.length + j.length ≤ sizeLine ∧ Q (.str (i ++ j)) H) ∨ rCatA K x y H Q ∨ rCat x y H Q
theorem op_addA {X : Cx} : OpR X (binaryOp .Add) (rAdd X.K) := OpR.or op_add (OpR.or op_add_str (OpR.or op_catA op_cat))
theorem op2_add : Op2 K mg dAdd (rAdd K) := by
  intro x y h d e ρ H vx vy S1 S2 Q hr r1 r2 nd na q
  unfold dAdd at e
  split at e
  · cases e
    obtain ⟨rfl, rfl⟩ := r1.int_inv
    obtain ⟨rfl, rfl⟩ := r2.int_inv
    exact .inl ⟨_, _, rfl, rfl, q0 q (.int _)⟩
  · split at e
    · rename_i c
      cases e
      cases r1
      cases r2
      exact .inr (.inl ⟨_, _, rfl, rfl, c, q0 q (.str _)⟩)
    · cases e
  · split at e
    · rename_i xs ys c
      cases e
      cases r1 with
      | tup h1 t1 =>
        cases r2 with
        | tup h2 t2 =>
          refine .inr (.inr (.inl ⟨_, _, _, _, rfl, rfl, h1.sq, h2.sq, by rw [← t1.length, ← t2.length]; exact c, fun e1 => ?_, fun n1 e2 => ?_, fun n1 n2 p np => ?_⟩))
          · have : xs = [] := by
              have := t1.length
              rw [e1] at this
              exact List.eq_nil_of_length_eq_zero this
            subst this
            cases t1
            exact q _ H _ same_refl (.tup h2 t2) (by simpa using nd) fun a ha => ⟨na a (by simpa using ha), .inr (by simpa using ha)⟩
          · have : ys = [] := by
              have := t2.length
              rw [e2] at this
              exact List.eq_nil_of_length_eq_zero this
            subst this
            cases t2
            simp only [List.append_nil] at q nd na ⊢
            exact q _ H _ same_refl (.tup h1 t1) nd fun a ha => ⟨na a ha, .inr ha⟩
          · exact q _ _ _ (same_upd np) (.newTup hr (t1.append t2) na np) nd fun a ha => ⟨na a ha, .inr ha⟩
    · cases e
  · split at e
    · rename_i xs ys e1 e2
      split at e
      · rename_i c
        cases e
        obtain ⟨a1, v1, T1, rfl, h1, t1, s1⟩ := isLst_rep hr e1 r1
        obtain ⟨a2, v2, T2, rfl, h2, t2, s2⟩ := isLst_rep hr e2 r2
        refine .inr (.inr (.inr ⟨_, _, _, _, rfl, rfl, h1, h2, by rw [← t1.length, ← t2.length]; exact c, fun p np => ?_⟩))
        have sub : (T1 ++ T2).Sublist (S1 ++ S2) := s1.append s2
        have nd' := nd.sublist sub
        have na' : ∀ a ∈ T1 ++ T2, a ∉ ρ := fun a ha => na a (sub.subset ha)
        obtain ⟨n1, n2⟩ := fresh_p hr (t1.append t2) nd' na' np
        exact q _ _ _ (same_upd np) (.newLst hr (t1.append t2) na' np) n1 fun a ha => ⟨(n2 a ha).1, (n2 a ha).2.imp id fun z => sub.subset z⟩
      · cases e
    · cases e
theorem opN_len : OpN K mg dLen (fun xs H Q => ∃ x n, xs = [x] ∧ LenV K x H n ∧ Q (.int n) H) := by
  intro xs h d e ρ H vs S Q hr r nd na q
  unfold dLen at e
  split at e
  · split at e
    · rename_i c
      cases e
      cases r with
      | cons r t =>
        cases r
        cases t
        exact ⟨_, _, rfl, ⟨c, rfl⟩, q0 q (.int _)⟩
    · cases e
  · split at e
    · rename_i x _ ys ey
      cases e
      cases r with
      | cons r t =>
        cases t
        obtain ⟨a, ws, S', rfl, sq, rw', _⟩ := seqOf_rep hr ey r
        refine ⟨_, ys.length, rfl, ?_, q0 q (.int _)⟩
        rcases sq with sq | sq
        · exact .inl ⟨ws, sq, rw'.length⟩
        · exact .inr ⟨ws, sq, rw'.length⟩
    · cases e
  · cases e
theorem RepL.ix : ∀ {xs : List D} {vs : List V} {S : List Addr} {i : Nat} {x : D}, RepL K mg ρ H xs vs S → xs[i]? = some x → ∃ v T, vs[i]? = some v ∧ Rep K mg ρ H x v T ∧ T.Sublist S := by
  intro xs
  induction xs with
  | nil => intro vs S i x _ e; simp at e
  | cons y ys ih =>
    intro vs S i x r e
    cases r with
    | cons r1 r2 =>
      cases i with
      | zero => simp at e; subst e; exact ⟨_, _, rfl, r1, List.sublist_append_left _ _⟩
      | succ i =>
        obtain ⟨v, T, h1, h2, h3⟩ := ih r2 (by simpa using e)
        exact ⟨v, T, by simpa using h1, h2, h3.trans (List.sublist_append_right _ _)⟩
theorem atI_rep {xs : List D} {vs : List V} {S : List Addr} {i : Int} {x : D} (r : RepL K mg ρ H xs vs S) (e : atI xs i = some x) : ∃ v T, atI vs i = some v ∧ Rep K mg ρ H x v T ∧ T.Sublist S := by
  unfold atI at e ⊢
  rw [← r.length]
  cases ei : ixN xs.length i with
  | none => rw [ei] at e; cases e
  | some j =>
    rw [ei] at e
    exact r.ix (show xs[j]? = some x from e)
theorem op2_ix : Op2 K mg dIx (rIx K) := by
  intro x y h d e ρ H vx vy S1 S2 Q hr r1 r2 nd na q
  unfold dIx at e
  split at e
  · split at e
    · rename_i c
      split at e
      · rename_i cc ec
        cases e
        cases r1
        cases r2
        exact .inr (.inr ⟨_, _, cc, rfl, rfl, c, ec, q0 q (.str _)⟩)
      · cases e
    · cases e
  · split at e
    · rename_i i _ xs ex
      obtain ⟨rfl, rfl⟩ := r2.int_inv
      obtain ⟨a, vs, S', rfl, sq, rl, sub⟩ := seqOf_rep hr ex r1
      obtain ⟨v, T, ev, rv, sT⟩ := atI_rep rl e
      have sT' := sT.trans sub
      rw [List.append_nil] at nd na q
      have fin : Q v H := q v H T same_refl rv (nd.sublist sT') fun b hb => ⟨na b (sT'.subset hb), .inr (sT'.subset hb)⟩
      rcases sq with sq | sq
      · exact .inl ⟨_, _, _, _, rfl, rfl, sq, ev, fin⟩
      · exact .inr (.inl ⟨_, _, _, _, rfl, rfl, sq, ev, fin⟩)
    · cases e
  · cases e
end
section
variable {X : Cx} {Wx : WX} {a b : Expr} {ma mb : ME} {pos : Pos}
theorem je_add (ha : JE X Wx a ma) (hb : JE X Wx b mb) : JE X Wx (.BinOp a .Add b pos) (eBin dAdd ma mb) := je_bin op_addA op2_add ha hb
theorem je_sub (ha : JE X Wx a ma) (hb : JE X Wx b mb) : JE X Wx (.BinOp a .Sub b pos) (eBin dSub ma mb) := je_bin op_sub op2_sub ha hb
theorem je_mul (ha : JE X Wx a ma) (hb : JE X Wx b mb) : JE X Wx (.BinOp a .Mult b pos) (eBin dMul ma mb) := je_bin op_mulA op2_mul ha hb
theorem je_fdiv (ha : JE X Wx a ma) (hb : JE X Wx b mb) : JE X Wx (.BinOp a .FloorDiv b pos) (eBin dFdiv ma mb) := je_bin op_fdivW op2_fdiv ha hb
theorem je_mod (ha : JE X Wx a ma) (hb : JE X Wx b mb) : JE X Wx (.BinOp a .Mod b pos) (eBin dMod ma mb) := je_bin op_mod op2_mod ha hb
theorem je_pow (ha : JE X Wx a ma) (hb : JE X Wx b mb) : JE X Wx (.BinOp a .Pow b pos) (eBin dPow ma mb) := je_bin op_pow op2_pow ha hb
theorem je_neg (ha : JE X Wx a ma) : JE X Wx (.UnaryOp .USub a pos) (eUn dNeg ma) := je_un un_neg op1_neg ha
theorem je_lt (ha : JE X Wx a ma) (hb : JE X Wx b mb) : JE X Wx (.Compare a [.Lt] [b] pos) (eBin dLt ma mb) := je_cmp op_lt (op2_cmp _) ha hb
theorem je_le (ha : JE X Wx a ma) (hb : JE X Wx b mb) : JE X Wx (.Compare a [.LtE] [b] pos) (eBin dLe ma mb) := je_cmp op_le (op2_cmp _) ha hb
theorem je_gt (ha : JE X Wx a ma) (hb : JE X Wx b mb) : JE X Wx (.Compare a [.Gt] [b] pos) (eBin dGt ma mb) := je_cmp op_gt (op2_cmp _) ha hb
theorem je_ge (ha : JE X Wx a ma) (hb : JE X Wx b mb) : JE X Wx (.Compare a [.GtE] [b] pos) (eBin dGe ma mb) := je_cmp op_ge (op2_cmp _) ha hb
theorem jt_lt (ha : JE X Wx a ma) (hb : JE X Wx b mb) : JT X Wx (.Compare a [.Lt] [b] pos) (tVal (eBin dLt ma mb)) := jt_cmp op_lt (op2_cmp _) ha hb
theorem jt_le (ha : JE X Wx a ma) (hb : JE X Wx b mb) : JT X Wx (.Compare a [.LtE] [b] pos) (tVal (eBin dLe ma mb)) := jt_cmp op_le (op2_cmp _) ha hb
theorem jt_gt (ha : JE X Wx a ma) (hb : JE X Wx b mb) : JT X Wx (.Compare a [.Gt] [b] pos) (tVal (eBin dGt ma mb)) := jt_cmp op_gt (op2_cmp _) ha hb
theorem jt_ge (ha : JE X Wx a ma) (hb : JE X Wx b mb) : JT X Wx (.Compare a [.GtE] [b] pos) (tVal (eBin dGe ma mb)) := jt_cmp op_ge (op2_cmp _) ha hb
theorem je_is (ha : JE X Wx a ma) (hb : JE X Wx b mb) : JE X Wx (.Compare a [.Is] [b] pos) (eBin dIs ma mb) := je_cmp op_isN op2_is ha hb
theorem je_isNot (ha : JE X Wx a ma) (hb : JE X Wx b mb) : JE X Wx (.Compare a [.IsNot] [b] pos) (eBin dIsNot ma mb) := je_cmp op_notN op2_isNot ha hb
theorem jt_is (ha : JE X Wx a ma) (hb : JE X Wx b mb) : JT X Wx (.Compare a [.Is] [b] pos) (tVal (eBin dIs ma mb)) := jt_cmp op_isN op2_is ha hb
theorem jt_isNot (ha : JE X Wx a ma) (hb : JE X Wx b mb) : JT X Wx (.Compare a [.IsNot] [b] pos) (tVal (eBin dIsNot ma mb)) := jt_cmp op_notN op2_isNot ha hb
theorem je_ix (ha : JE X Wx a ma) (hb : JE X Wx b mb) (hs : PlainIx b := by intro _ _; rfl) : JE X Wx (.Subscript a b pos) (eBin dIx ma mb) := PE.mono (pe_ix ix_seq ha hb hs) fun _ _ _ q => tE_bin op2_ix q
theorem je_len {p : Pos} {e : Expr} {mas : MA} (hm : X.mg "len" = none) (ha : JA X Wx [e] mas) (hg : Gl X "len" := by rfl) (he : starEach [e] X.env = (false, eval e X.env) :: starEach [] X.env := by rfl) : JE X Wx (.Call (.Name "len" p) [e] [] pos) (eN dLen mas) := je_callB call_len opN_len hm ha (by decide +kernel) hg (by decide) (by decide) he
end
end Tw

/-! TwCall: defs and their calls. -/
namespace Tw
open PySem PySem.Spec PyProof.Rows L2

abbrev MF := List D → Hd → R D
/-- a def's body, run at its arguments; nl: its names -/
def runDef (np nl : Nat) (body : MS) : MF := fun ds h =>
  if ds.length = np then match body ((boxL ds h).1.map some ++ List.replicate (nl - np) none) (boxL ds h).2 with
    | .nx _ h' => gc h.length .non h'
    | .rt d h' => gc h.length d h'
    | .exc e _ h' => .exc e h'
    | _ => .stuck
  else .stuck
def eCall (mf : MF) (as : MA) : ME := fun env h => (as env h).bind fun ds h1 => mf ds h1

section
variable (K : PySem.W.Frag) (mg : Str → Option Value)
/-- the promise of a def that does what mf does -/
def spF (np : Nat) (mf : MF) : Sp := fun vs H Q E => vs.length = np ∧ ∃ ρ h ds S, HRel K mg ρ H h ∧ RepL K mg ρ H ds vs S ∧ S.Nodup ∧ (∀ a ∈ S, a ∉ ρ) ∧ (match mf ds h with
  | .ok d h' => ∀ v ρ' H' S', Fin K mg S ρ H d h' v ρ' H' S' → Q v H'
  | .exc e h' => ∀ cls dd ρ' H', HRel K mg ρ' H' h' → Step S ρ H ρ' H' → RepX K mg ρ' H' e cls dd → E cls dd H'
  | .stuck => False)
end
/-- a def of the module: x its name, mf what it does, ps its parameters -/
structure Df (P : Program) (w : World) (K : PySem.W.Frag) (mg : Str → Option Value) (base : Heap) (x : Str) (k : Nat) (ps : List Str) (mf : MF) : Prop where
  ex : ∃ f fd, FnOk P w K mg base (L2.CX P w) k f fd ps (spF K mg ps.length mf) ∧ mg x = some (.ref f) ∧ PySem.W.keepIn K (.ref f) = true ∧ Binds K fd ps []
  np : ∀ ds h, mf ds h ≠ .stuck → ds.length = ps.length
theorem Df.mono {P : Program} {w : World} {K : PySem.W.Frag} {mg : Str → Option Value} {base : Heap} {x : Str} {j k : Nat} {ps : List Str} {mf : MF} (d : Df P w K mg base x j ps mf) (h : j ≤ k) : Df P w K mg base x k ps mf := by
  obtain ⟨⟨f, fd, F, a, b, c⟩, n⟩ := d
  exact ⟨⟨f, fd, F.mono h, a, b, c⟩, n⟩
section
variable {X : Cx} {Wx : WX} {k : Nat} {x : Str} {ps : List Str} {mf : MF} {p pos : Pos} {e : Expr} {es : List Expr} {mas : MA}
theorem tE_call {K mg} {σ : L2.St} {H : Hp} {Q : VK} {np : Nat} (hn : ∀ ds h, mf ds h ≠ .stuck → ds.length = np) (q : tE K mg Wx (eCall mf mas) σ H Q) : tA K mg Wx mas σ H fun vs H1 => spF K mg np mf vs H1 Q (WE Wx σ) := by
  obtain ⟨ρ, env, h, hr, er, q⟩ := q
  refine ⟨ρ, env, h, hr, er, ?_⟩
  unfold eCall at q
  cases ea : mas env h with
  | ok ds h1 =>
    rw [ea] at q
    simp only [R.bind_ok] at q
    intro vs ρ1 H1 S f
    have hl : ds.length = np := hn ds h1 fun z => by rw [z] at q; exact q
    have hT : ∀ a ∈ S, H a = none ∧ a ∉ ρ1 := fun a ha => ⟨f.isnew a ha, f.owns a ha⟩
    refine ⟨by rw [← f.rp.length]; exact hl, ρ1, h1, ds, S, f.hr, f.rp, f.nd, f.owns, ?_⟩
    cases em : mf ds h1 with
    | ok d h' => rw [em] at q; exact fun v ρ' H' S' g => q v ρ' H' S' (g.later f.st f.hr hT fun a e => hr.notin e)
    | exc e h' => rw [em] at q; exact fun cls dd ρ' H' a b c => q cls dd ρ' H' a (f.st.transT b hT) c
    | stuck => rw [em] at q; exact q
  | exc e h1 => rw [ea] at q; exact q
  | stuck => rw [ea] at q; exact q
theorem je_call (d : Df X.prog X.w X.K X.mg X.base x k ps mf) (hr : Room k X.A) (tk : Takes X Wx) (ha : JA X Wx (e :: es) mas) (hg : Gl X x := by rfl) (hdb : (x == ("__debug__" : Str)) = false := by decide) (he : starEach (e :: es) X.env = (false, eval e X.env) :: starEach es X.env := by rfl) (hpl : (backTo pos (starEach es X.env)).any (·.1) = false := by rfl) :
    JE X Wx (.Call (.Name x p) (e :: es) [] pos) (eCall mf mas) := by
  obtain ⟨⟨f, fd, F, hm, hk, hb⟩, hn⟩ := d
  exact PE.mono (pe_callS F hr hg hm hk hb (fun σ => passAt tk σ) ha hdb he hpl) fun σ H Q q => tE_call hn q
end
section
variable {P : Program} {w : World} {K : PySem.W.Frag} {mg : Str → Option Value} {base : Heap}
theorem start_rel {ρ : List Addr} {H : Hp} {N : List Str} {ds : List D} {vs : List V} {nl np : Nat} (hl : N.length = nl) (hn : ds.length = np) (r : RepL K mg ρ H ds vs []) : EnvRel K mg ρ H (ds.map some ++ List.replicate (nl - np) none) (L2.start N vs) := by
  have l := r.length
  unfold L2.start
  refine ⟨by simp; omega, fun i d e => ?_⟩
  by_cases hi : i < ds.length
  · rw [List.getElem?_append_left (by simpa using hi)] at e
    rw [List.getElem?_map] at e
    cases ei : ds[i]? with
    | none => rw [ei] at e; cases e
    | some d' =>
      rw [ei] at e
      cases e
      obtain ⟨v, ev, rv⟩ := r.get ei
      refine ⟨v, ?_, rv⟩
      rw [List.getElem?_append_left (by simp; omega), List.getElem?_map, ev]
      rfl
  · rw [List.getElem?_append_right (by simp; omega)] at e
    have := List.mem_of_getElem? e
    simp at this
theorem boxL_length : ∀ (xs : List D) (h : Hd), (boxL xs h).1.length = xs.length
  | [], _ => rfl
  | x :: xs, h => by simp [boxL, boxL_length xs]
/-- THE RULE: a def by its body -/
theorem def_ok {x qual : Str} {st : Stmt} {f : Addr} {fd : FuncData} {N ps : List Str} {k nl np : Nat} {body : MS} (F : Fun K x qual st f fd) (S : FnScope N ps (defScope st)) (hN : N.length = nl := by rfl) (hp : ps.length = np := by rfl)
    (hb : ∀ (cdv : Value) (A : Around) (outer : List Env) (s : Shared) (H : Hp) (E : XK), Room k (A.deeper (envOfC qual (defScope st) s.heap.objs.size f cdv)) →
      JB (cxOf (L2.CX P w) P w K mg base N qual (defScope st) f cdv A outer s H E) (fun cls d _ H => E cls d H) (defBody st) body) : FnOk P w K mg base (L2.CX P w) (k + 1) f fd ps (spF K mg ps.length (runDef np nl body)) := by
  refine F.okX S (fun vs H Q E h => h.1) fun cdv A outer s H vs Q E hr h => ⟨_, hb cdv A outer s H E hr, ?_⟩
  obtain ⟨hl, ρ, h, ds, T, hr', rl, nd, na, q⟩ := h
  have hld : ds.length = np := by rw [rl.length, hl, hp]
  unfold runDef at q
  rw [if_pos hld] at q
  obtain ⟨b, rb⟩ := boxL_ok hr' rl nd na
  refine ⟨ρ ++ T, (boxL ds h).1.map some ++ List.replicate (nl - np) none, (boxL ds h).2, b.rel, start_rel hN (by rw [boxL_length]; exact hld) rb, ?_⟩
  have sb := Step.boxed ρ H T
  have hh : h.length = ρ.length := hr'.len.symm
  cases eb : body ((boxL ds h).1.map some ++ List.replicate (nl - np) none) (boxL ds h).2 with
  | nx env' h' =>
    rw [eb] at q
    intro σ' ρ' H' r1 _ s1
    obtain ⟨d', h'', eg⟩ := @gc_isok h.length .non h'
    simp only [eg] at q
    obtain ⟨ρ2, S2, a1, a2, a3, a4, a5⟩ := gc_ok hh.symm r1 (sb.trans s1) (.non) List.nodup_nil (fun _ z => nomatch z) eg
    exact q .non ρ2 H' S2 ⟨a1, a2, a3, a4, a5⟩
  | rt d h' =>
    rw [eb] at q
    intro v ρ' H' S' f'
    obtain ⟨d', h'', eg⟩ := @gc_isok h.length d h'
    simp only [eg] at q
    obtain ⟨ρ2, S2, a1, a2, a3, a4, a5⟩ := gc_ok hh.symm f'.hr (sb.trans f'.st) f'.rp f'.nd (fun a ha => ⟨f'.owns a ha, .inl (f'.isnew a ha)⟩) eg
    exact q v ρ2 H' S2 ⟨a1, a2, a3, a4, a5⟩
  | exc e env' h' =>
    rw [eb] at q
    exact fun cls dd σ' ρ' H' r1 _ s1 rx => q cls dd ρ' H' r1 (sb.trans s1) rx
  | bk _ _ => rw [eb] at q; exact q.elim
  | ct _ _ => rw [eb] at q; exact q.elim
  | stuck => rw [eb] at q; exact q.elim
theorem runDef_np {np nl : Nat} {body : MS} : ∀ ds h, runDef np nl body ds h ≠ .stuck → ds.length = np := fun ds h n => by
  unfold runDef at n
  split at n
  · assumption
  · exact absurd rfl n
theorem df_ok {x : Str} {st : Stmt} {f : Addr} {fd : FuncData} {N ps : List Str} {k nl np : Nat} {body : MS} (F : Fun K x x st f fd) (S : FnScope N ps (defScope st)) (gl : mg x = some (.ref f)) (bi : Binds K fd ps [])
    (hb : ∀ (cdv : Value) (A : Around) (outer : List Env) (s : Shared) (H : Hp) (E : XK), Room k (A.deeper (envOfC x (defScope st) s.heap.objs.size f cdv)) →
      JB (cxOf (L2.CX P w) P w K mg base N x (defScope st) f cdv A outer s H E) (fun cls d _ H => E cls d H) (defBody st) body) (hN : N.length = nl := by rfl) (hp : ps.length = np := by rfl) : Df P w K mg base x (k + 1) ps (runDef np nl body) :=
  ⟨⟨f, fd, def_ok F S hN hp hb, gl, F.kp, bi⟩, by rw [hp]; exact runDef_np⟩
end
end Tw

/-! TwOps2: equality, in, slices, built-in functions, methods of lists. -/
namespace Tw
open PySem PySem.Spec PyProof.Rows L2

/-! ### equality -/
def optL {α β : Type} (f : α → Option β) : List α → Option (List β)
  | [] => some []
  | x :: xs => match f x, optL f xs with
    | some y, some ys => some (y :: ys)
    | _, _ => none
/-- a value as data -/
def toPy (h : Hd) : Nat → D → Option PyData
  | 0, _ => none
  | _ + 1, .non => some .none
  | _ + 1, .bl b => some (.bool b)
  | _ + 1, .int i => some (.int i)
  | _ + 1, .str s => if PyData.strOk s = true then some (.str s) else none
  | k + 1, .tup xs => match optL (toPy h k) xs with
    | some ys => some (.tuple ys)
    | none => none
  | k + 1, .lst xs => match optL (toPy h k) xs with
    | some ys => some (.list ys)
    | none => none
  | k + 1, .rol xs => match optL (toPy h k) xs with
    | some ys => some (.list ys)
    | none => none
  | k + 1, .ref n => match h[n]? with
    | some (.lst xs) => match optL (toPy h k) xs with
      | some ys => some (.list ys)
      | none => none
    | _ => none
  | _, _ => none
def dEq (x y : D) (h : Hd) : Option D := match toPy h 20 x, toPy h 20 y with
  | some a, some b => some (.bl (PyData.eqv a b))
  | _, _ => none
def dNe (x y : D) (h : Hd) : Option D := match toPy h 20 x, toPy h 20 y with
  | some a, some b => some (.bl (!PyData.eqv a b))
  | _, _ => none
theorem optL_shaped {k : Nat} {f : D → Option PyData} (hf : ∀ d p, f d = some p → p.canLay0 = true ∧ p.depth ≤ k) : ∀ xs ys, optL f xs = some ys → PyData.canLayAll0 ys = true ∧ PyData.depthAll ys ≤ k
  | [], ys, e => by
    simp [optL] at e
    subst e
    exact ⟨rfl, Nat.zero_le _⟩
  | x :: xs, ys, e => by
    unfold optL at e
    split at e
    · rename_i y ys' e1 e2
      cases e
      obtain ⟨a, b⟩ := hf _ _ e1
      obtain ⟨c, d⟩ := optL_shaped hf xs ys' e2
      refine ⟨by simp [PyData.canLayAll0, a, c], ?_⟩
      simp only [PyData.depthAll]
      omega
    · cases e
theorem toPy_lay (h : Hd) : ∀ k d p, toPy h k d = some p → p.canLay0 = true ∧ p.depth ≤ k
  | 0, d, p, e => by simp [toPy] at e
  | k + 1, d, p, e => by
    have seq : ∀ {xs : List D} {c : List PyData → PyData}, (∀ ys, (c ys).canLay0 = PyData.canLayAll0 ys) → (∀ ys, (c ys).depth = PyData.depthAll ys + 1) → (match optL (toPy h k) xs with
        | some ys => some (c ys)
        | none => none) = some p → p.canLay0 = true ∧ p.depth ≤ k + 1 := fun {xs c} h1 h2 e => by
      split at e
      · rename_i ys e1
        cases e
        obtain ⟨a, b⟩ := optL_shaped (toPy_lay h k) xs ys e1
        exact ⟨by rw [h1]; exact a, by rw [h2]; omega⟩
      · cases e
    cases d with
    | non => cases e; exact ⟨rfl, Nat.zero_le _⟩
    | bl b => cases e; exact ⟨rfl, Nat.zero_le _⟩
    | int i => cases e; exact ⟨rfl, Nat.zero_le _⟩
    | str s =>
      simp only [toPy] at e
      split at e
      · rename_i z
        cases e
        exact ⟨z, Nat.zero_le _⟩
      · cases e
    | tup xs => exact seq (c := .tuple) (fun _ => rfl) (fun _ => rfl) (by simpa only [toPy] using e)
    | lst xs => exact seq (c := .list) (fun _ => rfl) (fun _ => rfl) (by simpa only [toPy] using e)
    | rol xs => exact seq (c := .list) (fun _ => rfl) (fun _ => rfl) (by simpa only [toPy] using e)
    | ref n =>
      simp only [toPy] at e
      split at e
      · exact seq (c := .list) (fun _ => rfl) (fun _ => rfl) e
      · cases e
    | _ => simp [toPy] at e
theorem toPy_shaped {h : Hd} {k : Nat} {d : D} {p : PyData} (hk : k ≤ 64) (e : toPy h k d = some p) : SeqAt.shaped p = true := by
  obtain ⟨a, b⟩ := toPy_lay h k d p e
  unfold SeqAt.shaped
  rw [a, Bool.true_and]
  exact decide_eq_true (Nat.le_trans b hk)
section
variable {K : PySem.W.Frag} {mg : Str → Option Value} {ρ : List Addr} {H : Hp} {h : Hd}
theorem optL_dp {k : Nat} (hf : ∀ d p v S, toPy h k d = some p → Rep K mg ρ H d v S → Dp K H v p) : ∀ xs ys vs S, optL (toPy h k) xs = some ys → RepL K mg ρ H xs vs S → DpAll K H vs ys
  | [], ys, vs, S, e, r => by
    simp [optL] at e
    subst e
    cases r
    exact .nil
  | x :: xs, ys, vs, S, e, r => by
    unfold optL at e
    split at e
    · rename_i y ys' e1 e2
      cases e
      cases r with
      | cons r t => exact .cons (hf _ _ _ _ e1 r) (optL_dp hf xs ys' _ _ e2 t)
    · cases e
theorem toPy_dp (hr : HRel K mg ρ H h) : ∀ k d p v S, toPy h k d = some p → Rep K mg ρ H d v S → Dp K H v p
  | 0, d, p, v, S, e, r => by simp [toPy] at e
  | k + 1, d, p, v, S, e, r => by
    cases r with
    | non => cases e; exact .non
    | bl b => cases e; exact .bl b
    | int i => cases e; exact .int i
    | str s =>
      simp only [toPy] at e
      split at e
      · cases e; exact .str s
      · cases e
    | tup ht t =>
      simp only [toPy] at e
      split at e
      · rename_i ys e1
        cases e
        exact .tup ht.sq (optL_dp (toPy_dp hr k) _ _ _ _ e1 t)
      · cases e
    | lst ht t =>
      simp only [toPy] at e
      split at e
      · rename_i ys e1
        cases e
        exact .lst (SqL.of ht) (optL_dp (toPy_dp hr k) _ _ _ _ e1 t)
      · cases e
    | rol ht t =>
      simp only [toPy] at e
      split at e
      · rename_i ys e1
        cases e
        exact .lst ht.sq (optL_dp (toPy_dp hr k) _ _ _ _ e1 t)
      · cases e
    | ref ha =>
      simp only [toPy] at e
      split at e
      · rename_i xs hx
        split at e
        · rename_i ys e1
          cases e
          obtain ⟨vs, hv, t⟩ := hr.cell _ _ _ hx ha
          exact .lst (SqL.of hv) (optL_dp (toPy_dp hr k) _ _ _ _ e1 t)
        · cases e
      · cases e
    | glb _ => simp [toPy] at e
    | ty _ => simp [toPy] at e
theorem op2_eq : Op2 K mg dEq (rEqD K) := by
  intro x y h d e ρ H vx vy S1 S2 Q hr r1 r2 nd na q
  unfold dEq at e
  split at e
  · rename_i a b e1 e2
    cases e
    exact ⟨a, b, toPy_dp hr _ _ _ _ _ e1 r1, toPy_dp hr _ _ _ _ _ e2 r2, toPy_shaped (by decide) e1, toPy_shaped (by decide) e2, q0 q (.bl _)⟩
  · cases e
theorem op2_ne : Op2 K mg dNe (rNeD K) := by
  intro x y h d e ρ H vx vy S1 S2 Q hr r1 r2 nd na q
  unfold dNe at e
  split at e
  · rename_i a b e1 e2
    cases e
    exact ⟨a, b, toPy_dp hr _ _ _ _ _ e1 r1, toPy_dp hr _ _ _ _ _ e2 r2, toPy_shaped (by decide) e1, toPy_shaped (by decide) e2, q0 q (.bl _)⟩
  · cases e
end

/-! ### in, not in -/
def flatD : D → Bool
  | .non => true
  | .bl _ => true
  | .int _ => true
  | .str _ => true
  | _ => false
def eqFlat : D → D → Bool
  | .non, .non => true
  | .bl a, .bl b => a == b
  | .bl a, .int b => (if a then 1 else 0) == b
  | .int a, .bl b => a == (if b then 1 else 0)
  | .int a, .int b => a == b
  | .str a, .str b => a == b
  | _, _ => false
/-- x in y: deep in a list; flat things in a tuple -/
def inD (neg : Bool) (x y : D) (h : Hd) : Option D := match y with
  | .tup ys => if flatD x && ys.all flatD then some (.bl (if neg then !ys.any (fun z => eqFlat z x) else ys.any (fun z => eqFlat z x))) else none
  | y => match toPy h 20 x, toPy h 20 y with
    | some d, some (.list ds) => some (.bl (if neg then !ds.any (fun z => PyData.eqv z d) else ds.any (fun z => PyData.eqv z d)))
    | _, _ => none
def dIn := inD false
def dNotIn := inD true
section
variable {K : PySem.W.Frag} {mg : Str → Option Value} {ρ : List Addr} {H : Hp} {h : Hd}
theorem flat_rep {d : D} {v : V} {S : List Addr} (f : flatD d = true) (r : Rep K mg ρ H d v S) : flatV v = true := by
  cases r <;> first | rfl | cases f
theorem flat_eq {d e : D} {v w : V} {S T : List Addr} (f : flatD d = true) (g : flatD e = true) (r : Rep K mg ρ H d v S) (t : Rep K mg ρ H e w T) : eqV v w = eqFlat d e := by
  cases r <;> first | (cases f; done) | (cases t <;> first | (cases g; done) | rfl)
theorem flat_all : ∀ {xs : List D} {vs : List V} {S : List Addr}, xs.all flatD = true → RepL K mg ρ H xs vs S → vs.all flatV = true
  | _, _, _, _, .nil => rfl
  | _, _, _, f, .cons r t => by
    simp only [List.all_cons, Bool.and_eq_true] at f ⊢
    exact ⟨flat_rep f.1 r, flat_all f.2 t⟩
theorem flat_any {x : D} {w : V} {T : List Addr} (g : flatD x = true) (t : Rep K mg ρ H x w T) : ∀ {xs : List D} {vs : List V} {S : List Addr}, xs.all flatD = true → RepL K mg ρ H xs vs S → inV w vs = xs.any fun z => eqFlat z x
  | _, _, _, _, .nil => rfl
  | _, _, _, f, .cons r u => by
    simp only [List.all_cons, Bool.and_eq_true] at f
    have ih := flat_any g t f.2 u
    unfold inV at ih ⊢
    rw [List.any_cons, List.any_cons, flat_eq f.1 g r t, ih]
def rInA (K : PySem.W.Frag) (neg : Bool) : R2 := fun x y H Q => rIn K neg x y H Q ∨ (∃ d ds, Dp K H x d ∧ Dp K H y (.list ds) ∧ SeqAt.shaped d = true ∧ SeqAt.shaped (.list ds) = true ∧ Q (.bl (if neg then !ds.any (fun z => PyData.eqv z d) else ds.any fun z => PyData.eqv z d)) H)
theorem op_inA {X : Cx} (hu : X.A.units + 65 < cLine) : OpR X (compareOp .In) (rInA X.K false) := OpR.or op_in_seq (op_inD hu)
theorem op_notInA {X : Cx} (hu : X.A.units + 65 < cLine) : OpR X (compareOp .NotIn) (rInA X.K true) := OpR.or op_notIn_seq (op_notInD hu)
theorem op2_in (neg : Bool) : Op2 K mg (inD neg) (rInA K neg) := by
  intro x y h d e ρ H vx vy S1 S2 Q hr r1 r2 nd na q
  unfold inD at e
  split at e
  · split at e
    · rename_i ys c
      cases e
      simp only [Bool.and_eq_true] at c
      cases r2 with
      | tup ht t =>
        refine .inl ⟨_, _, rfl, .inr ht.sq, flat_rep c.1 r1, flat_all c.2 t, ?_⟩
        rw [flat_any c.1 r1 c.2 t]
        exact q0 q (.bl _)
    · cases e
  · split at e
    · rename_i dx ds e1 e2
      cases e
      exact .inr ⟨dx, ds, toPy_dp hr _ _ _ _ _ e1 r1, toPy_dp hr _ _ _ _ _ e2 r2, toPy_shaped (by decide) e1, toPy_shaped (by decide) e2, q0 q (.bl _)⟩
    · cases e
end
section
variable {X : Cx} {Wx : WX} {a b : Expr} {ma mb : ME} {pos : Pos} {k : Nat}
theorem je_eq (hr : Room k X.A) (ha : JE X Wx a ma) (hb : JE X Wx b mb) : JE X Wx (.Compare a [.Eq] [b] pos) (eBin dEq ma mb) := je_cmp (op_eqD hr.units) op2_eq ha hb
theorem je_ne (hr : Room k X.A) (ha : JE X Wx a ma) (hb : JE X Wx b mb) : JE X Wx (.Compare a [.NotEq] [b] pos) (eBin dNe ma mb) := je_cmp (op_neD hr.units) op2_ne ha hb
theorem jt_eq (hr : Room k X.A) (ha : JE X Wx a ma) (hb : JE X Wx b mb) : JT X Wx (.Compare a [.Eq] [b] pos) (tVal (eBin dEq ma mb)) := jt_cmp (op_eqD hr.units) op2_eq ha hb
theorem jt_ne (hr : Room k X.A) (ha : JE X Wx a ma) (hb : JE X Wx b mb) : JT X Wx (.Compare a [.NotEq] [b] pos) (tVal (eBin dNe ma mb)) := jt_cmp (op_neD hr.units) op2_ne ha hb
theorem units65 {A : Around} (hr : Room k A) : A.units + 65 < cLine := by have := hr.un; omega
theorem je_in (hr : Room k X.A) (ha : JE X Wx a ma) (hb : JE X Wx b mb) (hm : behindInMarks .In b = false := by rfl) : JE X Wx (.Compare a [.In] [b] pos) (eBin dIn ma mb) := je_cmp (op_inA (units65 hr)) (op2_in _) ha hb hm
theorem je_notIn (hr : Room k X.A) (ha : JE X Wx a ma) (hb : JE X Wx b mb) (hm : behindInMarks .NotIn b = false := by rfl) : JE X Wx (.Compare a [.NotIn] [b] pos) (eBin dNotIn ma mb) := je_cmp (op_notInA (units65 hr)) (op2_in _) ha hb hm
theorem jt_in (hr : Room k X.A) (ha : JE X Wx a ma) (hb : JE X Wx b mb) (hm : behindInMarks .In b = false := by rfl) : JT X Wx (.Compare a [.In] [b] pos) (tVal (eBin dIn ma mb)) := jt_cmp (op_inA (units65 hr)) (op2_in _) ha hb hm
theorem jt_notIn (hr : Room k X.A) (ha : JE X Wx a ma) (hb : JE X Wx b mb) (hm : behindInMarks .NotIn b = false := by rfl) : JT X Wx (.Compare a [.NotIn] [b] pos) (tVal (eBin dNotIn ma mb)) := jt_cmp (op_notInA (units65 hr)) (op2_in _) ha hb hm
end

/-! ### chains a < b < c -/
def eChain (f g : D → D → Hd → Option D) (a b c : ME) : ME := fun env h => (a env h).bind fun x h1 => (b env h1).bind fun y h2 => match f x y h2 with
  | some (.bl true) => if y.set = true then (c env h2).bind fun z h3 => R.lift h3 (g y z h3) else .stuck
  | some (.bl false) => .ok (.bl false) h2
  | _ => .stuck
section
variable {X : Cx} {Wx : WX} {a b c : Expr} {ma mb mc : ME} {pos : Pos}
theorem tE_chain {K mg} {σ : L2.St} {H : Hp} {Q : VK} {f g : D → D → Hd → Option D} {r r' : R2} (hf : Op2 K mg f r) (hg : Op2 K mg g r') (q : tE K mg Wx (eChain f g ma mb mc) σ H Q) : tChain r r' (tE K mg Wx ma) (tE K mg Wx mb) (tE K mg Wx mc) σ H Q := by
  obtain ⟨ρ, env, h, hr, er, q⟩ := q
  refine ⟨ρ, env, h, hr, er, ?_⟩
  unfold eChain at q
  cases ea : ma env h with
  | exc e h1 => rw [ea] at q; exact q
  | stuck => rw [ea] at q; exact q
  | ok x h1 =>
    rw [ea] at q
    simp only [R.bind_ok] at q
    intro v1 ρ1 H1 S1 f1
    refine ⟨ρ1, env, h1, f1.hr, er.to f1.st, ?_⟩
    cases eb : mb env h1 with
    | exc e h2 => rw [eb] at q; exact XEnd.later f1.st (fun _ z => nomatch z) q
    | stuck => rw [eb] at q; exact q
    | ok y h2 =>
      rw [eb] at q
      simp only [R.bind_ok] at q
      intro v2 ρ2 H2 S2 f2
      obtain ⟨r1, nd, na⟩ := f1.two f2
      have s02 := f1.st.trans f2.st
      cases eo : f x y h2 with
      | none => rw [eo] at q; exact q.elim
      | some d =>
        rw [eo] at q
        refine hf x y h2 d eo ρ2 H2 v1 v2 S1 S2 _ f2.hr r1 f2.rp nd na fun v H3 S3 sm rp nd3 fr => ?_
        cases d with
        | bl k =>
          cases rp
          refine ⟨k, rfl, ?_⟩
          have hr3 := f2.hr.kept sm
          have s03 := s02.trans (Step.same sm)
          cases k with
          | false =>
            rw [if_neg (by decide)]
            exact q _ ρ2 H3 [] (.bl hr3 s03)
          | true =>
            rw [if_pos rfl]
            simp only at q
            by_cases ys : y.set = true
            · rw [if_pos ys] at q
              refine ⟨ρ2, env, h2, hr3, (er.to s02).to (Step.same sm), ?_⟩
              have e2 := f2.rp.set_nil ys
              subst e2
              have ry3 := f2.rp.same sm fun _ z => nomatch z
              cases ec : mc env h2 with
              | exc e h4 => rw [ec] at q; exact XEnd.later s03 (fun _ z => nomatch z) q
              | stuck => rw [ec] at q; exact q
              | ok z h4 =>
                rw [ec] at q
                simp only [R.bind_ok] at q
                intro v4 ρ4 H4 S4 f4
                have ry4 := ry3.to f4.st (fun _ z => nomatch z) fun _ z => nomatch z
                cases eg : g y z h4 with
                | none => rw [eg] at q; exact q.elim
                | some d =>
                  rw [eg] at q
                  refine hg y z h4 d eg ρ4 H4 v2 v4 [] S4 _ f4.hr ry4 f4.rp (by simpa using f4.nd) (by simpa using f4.owns) fun v H5 S5 sm5 rp5 nd5 fr5 => ?_
                  refine q v ρ4 H5 S5 ⟨f4.hr.kept sm5, (s03.trans f4.st).trans (Step.same sm5), rp5, nd5, fun a ha => ⟨(fr5 a ha).1, .inl ?_⟩⟩
                  rcases (fr5 a ha).2 with z | z
                  · exact none_back (s03.trans f4.st) f4.hr z
                  · exact none_back s03 hr3 (f4.isnew a (by simpa using z))
            · rw [if_neg ys] at q; exact q.elim
        | _ => exact q.elim
theorem je_chain {op op' : CmpOp} {f g : D → D → Hd → Option D} {r r' : R2} (ho : OpR X (compareOp op) r) (ho' : OpR X (compareOp op') r') (hf : Op2 X.K X.mg f r) (hg : Op2 X.K X.mg g r') (ha : JE X Wx a ma) (hb : JE X Wx b mb) (hc : JE X Wx c mc) (hm : lastMarks [op, op'] [b, c] = false := by with_unfolding_all rfl) : JE X Wx (.Compare a [op, op'] [b, c] pos) (eChain f g ma mb mc) :=
  PE.mono (pe_chain ho ho' ha hb hc hm) fun _ _ _ q => tE_chain hf hg q
theorem jt_chain {op op' : CmpOp} {f g : D → D → Hd → Option D} {r r' : R2} (ho : OpR X (compareOp op) r) (ho' : OpR X (compareOp op') r') (hf : Op2 X.K X.mg f r) (hg : Op2 X.K X.mg g r') (ha : JE X Wx a ma) (hb : JE X Wx b mb) (hc : JE X Wx c mc) (hm : lastMarks [op, op'] [b, c] = false := by with_unfolding_all rfl) : JT X Wx (.Compare a [op, op'] [b, c] pos) (tVal (eChain f g ma mb mc)) :=
  PT.mono (pt_chain ho ho' ha hb hc hm) fun _ _ _ q => tE_chain hf hg (tT_val q)
end

/-! ### slices -/
def cutL {α : Type} (xs : List α) (lo hi : Option Int) : List α := (xs.drop (HT.sIx xs.length 0 lo)).take (HT.sIx xs.length xs.length hi - HT.sIx xs.length 0 lo)
abbrev MO := En → Hd → R (Option Int)
def oNone : MO := fun _ h => .ok none h
def asI (h : Hd) : D → R (Option Int)
  | .int i => .ok (some i) h
  | _ => .stuck
def oSome (a : ME) : MO := fun env h => (a env h).bind fun x h1 => asI h1 x
def dSl (x : D) (lo hi : Option Int) (h : Hd) : Option D := match x with
  | .tup xs => some (.tup (cutL xs lo hi))
  | .str z => if z.length ≤ sizeLine then some (.str (cutS z lo hi)) else none
  | .rol xs => some (.lst (cutL xs lo hi))
  | x => match isLst h x with
    | some xs => some (.lst (cutL xs lo hi))
    | none => none
def eSl (a : ME) (lo hi : MO) : ME := fun env h => (a env h).bind fun x h1 => (lo env h1).bind fun l h2 => (hi env h2).bind fun u h3 => R.lift h3 (dSl x l u h3)
section
variable (K : PySem.W.Frag) (mg : Str → Option Value)
def tO (Wx : WX) (m : MO) : TO := fun σ H Q => ∃ ρ env h, HRel K mg ρ H h ∧ EnvRel K mg ρ H env σ ∧ (match m env h with
  | .ok o h' => ∀ ρ' H', HRel K mg ρ' H' h' → Step [] ρ H ρ' H' → Q o H'
  | .exc e h' => XEnd K mg Wx [] ρ H e h' σ
  | .stuck => False)
end
abbrev JO (X : Cx) (Wx : WX) (e : Option Expr) (m : MO) : Prop := PO X e (tO X.K X.mg Wx m)
section
variable {X : Cx} {Wx : WX} {a e : Expr} {ma : ME} {pos p2 : Pos}
theorem PO.mono {e : Option Expr} {t t' : TO} (h : PO X e t) (i : ∀ σ H Q, t' σ H Q → t σ H Q) : PO X e t' := ⟨fun pins s σ H Q I q => h.run pins s σ H Q I (i σ H Q q)⟩
theorem jo_none : JO X Wx none oNone := PO.mono po_none fun σ H Q q => by
  obtain ⟨ρ, env, h, hr, er, q⟩ := q
  exact q ρ H hr Step.refl
theorem jo_some (ha : JE X Wx a ma) : JO X Wx (some a) (oSome ma) := PO.mono (po_some ha) fun σ H Q q => by
  obtain ⟨ρ, env, h, hr, er, q⟩ := q
  refine ⟨ρ, env, h, hr, er, ?_⟩
  unfold oSome at q
  cases ea : ma env h with
  | exc e h1 => rw [ea] at q; exact q
  | stuck => rw [ea] at q; exact q
  | ok x h1 =>
    rw [ea] at q
    simp only [R.bind_ok] at q
    intro v ρ1 H1 S f
    cases x with
    | int i =>
      have rp := f.rp
      cases rp
      exact ⟨i, rfl, q ρ1 H1 f.hr f.st⟩
    | _ => exact q.elim
section
variable {K : PySem.W.Frag} {mg : Str → Option Value} {ρ : List Addr} {H : Hp} {h : Hd}
theorem RepL.drop : ∀ {xs : List D} {vs : List V} {S : List Addr} (n : Nat), RepL K mg ρ H xs vs S → ∃ T, RepL K mg ρ H (xs.drop n) (vs.drop n) T ∧ T.Sublist S
  | _, _, S, 0, r => ⟨S, r, List.Sublist.refl _⟩
  | _, _, _, n + 1, .nil => ⟨[], .nil, List.Sublist.refl _⟩
  | _, _, _, n + 1, .cons r t => by
    obtain ⟨T, a, b⟩ := RepL.drop n t
    exact ⟨T, a, b.trans (List.sublist_append_right _ _)⟩
theorem RepL.take' : ∀ {xs : List D} {vs : List V} {S : List Addr} (n : Nat), RepL K mg ρ H xs vs S → ∃ T, RepL K mg ρ H (xs.take n) (vs.take n) T ∧ T.Sublist S
  | _, _, _, 0, _ => ⟨[], .nil, List.nil_sublist _⟩
  | _, _, _, n + 1, .nil => ⟨[], .nil, List.Sublist.refl _⟩
  | _, _, _, n + 1, .cons r t => by
    obtain ⟨T, a, b⟩ := RepL.take' n t
    exact ⟨_, .cons r a, List.Sublist.append_left b _⟩
theorem RepL.cut {xs : List D} {vs : List V} {S : List Addr} (r : RepL K mg ρ H xs vs S) (lo hi : Option Int) : ∃ T, RepL K mg ρ H (cutL xs lo hi) (cutV vs lo hi) T ∧ T.Sublist S := by
  unfold cutL cutV
  rw [r.length]
  obtain ⟨T, a, b⟩ := r.drop (HT.sIx vs.length 0 lo)
  obtain ⟨T', a', b'⟩ := a.take' (HT.sIx vs.length vs.length hi - HT.sIx vs.length 0 lo)
  exact ⟨T', a', b'.trans b⟩
theorem cut_whole {α : Type} {xs : List α} {lo hi : Option Int} (h : HT.sIx xs.length 0 lo = 0 ∧ HT.sIx xs.length xs.length hi = xs.length) : cutL xs lo hi = xs := by
  unfold cutL
  rw [h.1, h.2]
  simp
end
def rSlX (K : PySem.W.Frag) : V → Option Int → Option Int → Hp → VK → Prop := fun x lo hi H Q => rSlA K x lo hi H Q ∨ rSlL K x lo hi H Q ∨ rSlS x lo hi H Q
theorem sl_any : SlR X (rSlX X.K) := SlR.or sl_tupA (SlR.or sl_list sl_str)
theorem je_slice {lo hi : Option Expr} {ml mh : MO} (he : JE X Wx e ma) (hl : JO X Wx lo ml) (hu : JO X Wx hi mh) : JE X Wx (.Subscript e (.Slice lo hi none p2) pos) (eSl ma ml mh) := by
  refine PE.mono (pe_slice sl_any he hl hu) fun σ H Q q => ?_
  obtain ⟨ρ, env, h, hr, er, q⟩ := q
  refine ⟨ρ, env, h, hr, er, ?_⟩
  unfold eSl at q
  cases ea : ma env h with
  | exc e h1 => rw [ea] at q; exact q
  | stuck => rw [ea] at q; exact q
  | ok x h1 =>
    rw [ea] at q
    simp only [R.bind_ok] at q
    intro v ρ1 H1 S f
    refine ⟨ρ1, env, h1, f.hr, er.to f.st, ?_⟩
    cases el : ml env h1 with
    | exc e h2 => rw [el] at q; exact XEnd.later f.st (fun _ z => nomatch z) q
    | stuck => rw [el] at q; exact q
    | ok l h2 =>
      rw [el] at q
      simp only [R.bind_ok] at q
      intro ρ2 H2 hr2 s2
      refine ⟨ρ2, env, h2, hr2, (er.to f.st).to s2, ?_⟩
      have s02 := f.st.trans s2
      cases eh : mh env h2 with
      | exc e h3 => rw [eh] at q; exact XEnd.later s02 (fun _ z => nomatch z) q
      | stuck => rw [eh] at q; exact q
      | ok u h3 =>
        rw [eh] at q
        simp only [R.bind_ok] at q
        intro ρ3 H3 hr3 s3
        have s03 := s02.trans s3
        have s13 := s2.trans s3
        have rv := f.rp.to s13 (fun _ z => nomatch z) fun a ha => ⟨f.owns a ha, fun z => nomatch z⟩
        have nS : ∀ a ∈ S, a ∉ ρ3 := fun a ha z => by
          obtain ⟨o, eo, _⟩ := f.rp.owned a ha
          rcases s13.new a z (f.owns a ha) with y | y
          · rw [eo] at y; cases y
          · cases y
        cases ed : dSl x l u h3 with
        | none => rw [ed] at q; exact q.elim
        | some d =>
          rw [ed] at q
          have fin : ∀ {v' : V} {H' : Hp} {S' : List Addr}, Same H3 H' → Rep X.K X.mg ρ3 H' d v' S' → S'.Nodup → (∀ a ∈ S', a ∉ ρ3 ∧ (H3 a = none ∨ a ∈ S)) → Q v' H' := fun sm rp nd fr =>
            q _ ρ3 _ _ ⟨hr3.kept sm, s03.trans (Step.same sm), rp, nd, fun a ha => ⟨(fr a ha).1, .inl ((fr a ha).2.elim (none_back s03 hr3) (f.isnew a))⟩⟩
          have lst : ∀ {a : Addr} {xs : List D} {vs : List V} {S0 : List Addr}, SqL X.K H3 a vs → RepL X.K X.mg ρ3 H3 xs vs S0 → S0.Sublist S → d = .lst (cutL xs l u) → v = .ref a → rSlX X.K v l u H3 Q := fun {a xs vs S0} sq rl sub e1 e2 => by
            obtain ⟨T, rc, sc⟩ := rl.cut l u
            have sub' := sc.trans sub
            have nd' := f.nd.sublist sub'
            have na' : ∀ a ∈ T, a ∉ ρ3 := fun a ha => nS a (sub'.subset ha)
            refine .inr (.inl ⟨a, vs, e2, sq, fun p np => ?_⟩)
            obtain ⟨n1, n2⟩ := fresh_p hr3 rc nd' na' np
            refine fin (same_upd np) (by rw [e1]; exact .newLst hr3 rc na' np) n1 fun b hb => ⟨(n2 b hb).1, (n2 b hb).2.imp id fun z => sub'.subset z⟩
          cases x with
          | tup xs =>
            cases ed
            cases rv with
            | tup ht t =>
              refine .inl ⟨_, _, rfl, ht.sq, fun w => ?_, fun w p np => ?_⟩
              · refine fin same_refl (S' := S) ?_ f.nd fun a ha => ⟨nS a ha, .inr ha⟩
                rw [← t.length] at w
                rw [cut_whole w]
                exact .tup ht t
              · obtain ⟨T, rc, sc⟩ := t.cut l u
                have na' : ∀ a ∈ T, a ∉ ρ3 := fun a ha => nS a (sc.subset ha)
                exact fin (same_upd np) (.newTup hr3 rc na' np) (f.nd.sublist sc) fun a ha => ⟨na' a ha, .inr (sc.subset ha)⟩
          | str z =>
            simp only [dSl] at ed
            split at ed
            · rename_i c
              cases ed
              cases rv
              exact .inr (.inr ⟨_, rfl, c, fin same_refl (.str _) List.nodup_nil fun _ z => nomatch z⟩)
            · cases ed
          | rol xs =>
            cases ed
            cases rv with
            | rol ht t => exact lst ht.sq t (List.Sublist.refl _) rfl rfl
          | lst xs =>
            cases ed
            cases rv with
            | lst ha t => exact lst (SqL.of ha) t (List.sublist_append_left _ _) rfl rfl
          | ref n =>
            simp only [dSl] at ed
            split at ed
            · rename_i xs ex
              cases ed
              obtain ⟨a, vs, S0, e1, e2, e3, e4⟩ := isLst_rep hr3 ex rv
              exact lst (SqL.of e2) e3 e4 rfl e1
            · cases ed
          | _ => cases ed
end

/-! ### built-in functions -/
def dAbs : List D → Hd → Option D
  | [.int i], _ => some (.int (if i < 0 then -i else i))
  | _, _ => none
def dMax2 : List D → Hd → Option D
  | [.int i, .int j], _ => some (.int (if j > i then j else i))
  | _, _ => none
def dMin2 : List D → Hd → Option D
  | [.int i, .int j], _ => some (.int (if j < i then j else i))
  | _, _ => none
def dInt : List D → Hd → Option D
  | [.int i], _ => some (.int i)
  | [.bl k], _ => some (.int (if k then 1 else 0))
  | _, _ => none
def dStr : List D → Hd → Option D
  | [.int i], _ => if i.natAbs.log2 < 1920 then some (.str (toString i : String)) else none
  | _, _ => none
def unI : D → Option Int
  | .int i => some i
  | _ => none
def unB : D → Option Bool
  | .bl b => some b
  | _ => none
def dSum : List D → Hd → Option D
  | [x], h => match isLst h x with
    | some xs => match optL unI xs with
      | some ns => some (.int ns.sum)
      | none => none
    | none => none
  | _, _ => none
def dAll : List D → Hd → Option D
  | [x], h => match isLst h x with
    | some xs => match optL unB xs with
      | some bs => some (.bl (bs.all id))
      | none => none
    | none => none
  | _, _ => none
def dAny : List D → Hd → Option D
  | [x], h => match isLst h x with
    | some xs => match optL unB xs with
      | some bs => some (.bl (bs.any id))
      | none => none
    | none => none
  | _, _ => none
def maxI : List Int → Int
  | [] => 0
  | [x] => x
  | x :: xs => max x (maxI xs)
def minI : List Int → Int
  | [] => 0
  | [x] => x
  | x :: xs => min x (minI xs)
def dMax1 : List D → Hd → Option D
  | [x], h => match isLst h x with
    | some xs => match optL unI xs with
      | some (n :: ns) => some (.int (maxI (n :: ns)))
      | _ => none
    | none => none
  | _, _ => none
def dMin1 : List D → Hd → Option D
  | [x], h => match isLst h x with
    | some xs => match optL unI xs with
      | some (n :: ns) => some (.int (minI (n :: ns)))
      | _ => none
    | none => none
  | _, _ => none
def dList : List D → Hd → Option D
  | [x], h => match seqOf h x with
    | some xs => some (.lst xs)
    | none => none
  | _, _ => none
def dTuple : List D → Hd → Option D
  | [x], h => match seqOf h x with
    | some xs => some (.tup xs)
    | none => none
  | _, _ => none
section
variable {K : PySem.W.Frag} {mg : Str → Option Value} {ρ : List Addr} {H : Hp} {h : Hd}
theorem RepL.one {x : D} {vs : List V} {S : List Addr} (r : RepL K mg ρ H [x] vs S) : ∃ v, vs = [v] ∧ Rep K mg ρ H x v S := by
  cases r with
  | cons r t => cases t; exact ⟨_, rfl, by simpa using r⟩
theorem RepL.two {x y : D} {vs : List V} {S : List Addr} (r : RepL K mg ρ H [x, y] vs S) : ∃ v w S1 S2, vs = [v, w] ∧ Rep K mg ρ H x v S1 ∧ Rep K mg ρ H y w S2 ∧ S = S1 ++ S2 := by
  cases r with
  | cons r t => cases t with
    | cons r2 t2 => cases t2; exact ⟨_, _, _, _, rfl, r, r2, by simp⟩
theorem optL_ints : ∀ {xs : List D} {ns : List Int} {vs : List V} {S : List Addr}, optL unI xs = some ns → RepL K mg ρ H xs vs S → vs = ns.map V.int
  | [], ns, vs, S, e, r => by simp [optL] at e; subst e; cases r; rfl
  | x :: xs, ns, vs, S, e, r => by
    unfold optL at e
    split at e
    · rename_i y ys e1 e2
      cases e
      cases r with
      | cons r t =>
        cases x <;> simp [unI] at e1
        subst e1
        cases r
        rw [optL_ints e2 t]; rfl
    · cases e
theorem optL_bls : ∀ {xs : List D} {ns : List Bool} {vs : List V} {S : List Addr}, optL unB xs = some ns → RepL K mg ρ H xs vs S → vs = ns.map V.bl
  | [], ns, vs, S, e, r => by simp [optL] at e; subst e; cases r; rfl
  | x :: xs, ns, vs, S, e, r => by
    unfold optL at e
    split at e
    · rename_i y ys e1 e2
      cases e
      cases r with
      | cons r t =>
        cases x <;> simp [unB] at e1
        subst e1
        cases r
        rw [optL_bls e2 t]; rfl
    · cases e
theorem opN_abs : OpN K mg dAbs (fun xs H Q => ∃ i, xs = [.int i] ∧ Q (.int (if i < 0 then -i else i)) H) := by
  intro xs h d e ρ H vs S Q hr r nd na q
  unfold dAbs at e
  split at e
  · cases e
    obtain ⟨v, rfl, r1⟩ := r.one
    cases r1
    exact ⟨_, rfl, q0 q (.int _)⟩
  · cases e
theorem opN_max2 : OpN K mg dMax2 (fun xs H Q => ∃ i j, xs = [.int i, .int j] ∧ Q (.int (if j > i then j else i)) H) := by
  intro xs h d e ρ H vs S Q hr r nd na q
  unfold dMax2 at e
  split at e
  · cases e
    obtain ⟨v, w, S1, S2, rfl, r1, t1, _⟩ := r.two
    cases r1
    cases t1
    exact ⟨_, _, rfl, q0 q (.int _)⟩
  · cases e
theorem opN_min2 : OpN K mg dMin2 (fun xs H Q => ∃ i j, xs = [.int i, .int j] ∧ Q (.int (if j < i then j else i)) H) := by
  intro xs h d e ρ H vs S Q hr r nd na q
  unfold dMin2 at e
  split at e
  · cases e
    obtain ⟨v, w, S1, S2, rfl, r1, t1, _⟩ := r.two
    cases r1
    cases t1
    exact ⟨_, _, rfl, q0 q (.int _)⟩
  · cases e
theorem opN_int : OpN K mg dInt (fun xs H Q => (∃ i, xs = [.int i] ∧ Q (.int i) H) ∨ ∃ k, xs = [.bl k] ∧ Q (.int (if k then 1 else 0)) H) := by
  intro xs h d e ρ H vs S Q hr r nd na q
  unfold dInt at e
  split at e
  · cases e
    obtain ⟨v, rfl, r1⟩ := r.one
    cases r1
    exact .inl ⟨_, rfl, q0 q (.int _)⟩
  · cases e
    obtain ⟨v, rfl, r1⟩ := r.one
    cases r1
    exact .inr ⟨_, rfl, q0 q (.int _)⟩
  · cases e
theorem opN_str : OpN K mg dStr (fun xs H Q => ∃ i, xs = [.int i] ∧ i.natAbs.log2 < 1920 ∧ Q (.str (toString i : String)) H) := by
  intro xs h d e ρ H vs S Q hr r nd na q
  unfold dStr at e
  split at e
  · split at e
    · rename_i c
      cases e
      obtain ⟨v, rfl, r1⟩ := r.one
      cases r1
      exact ⟨_, rfl, c, q0 q (.str _)⟩
    · cases e
  · cases e
theorem opN_sum : OpN K mg dSum (rSum K) := by
  intro xs h d e ρ H vs S Q hr r nd na q
  unfold dSum at e
  split at e
  · split at e
    · rename_i ex
      split at e
      · rename_i en
        cases e
        obtain ⟨v, rfl, r1⟩ := r.one
        obtain ⟨a, ws, S', rfl, h1, t1, _⟩ := isLst_rep hr ex r1
        refine ⟨a, _, rfl, SqL.of (by rw [h1, optL_ints en t1]), q0 q (.int _)⟩
      · cases e
    · cases e
  · cases e
theorem opN_all : OpN K mg dAll (rAll K) := by
  intro xs h d e ρ H vs S Q hr r nd na q
  unfold dAll at e
  split at e
  · split at e
    · rename_i ex
      split at e
      · rename_i en
        cases e
        obtain ⟨v, rfl, r1⟩ := r.one
        obtain ⟨a, ws, S', rfl, h1, t1, _⟩ := isLst_rep hr ex r1
        refine ⟨a, _, rfl, SqL.of (by rw [h1, optL_bls en t1]), q0 q (.bl _)⟩
      · cases e
    · cases e
  · cases e
theorem opN_any : OpN K mg dAny (rAny K) := by
  intro xs h d e ρ H vs S Q hr r nd na q
  unfold dAny at e
  split at e
  · split at e
    · rename_i ex
      split at e
      · rename_i en
        cases e
        obtain ⟨v, rfl, r1⟩ := r.one
        obtain ⟨a, ws, S', rfl, h1, t1, _⟩ := isLst_rep hr ex r1
        refine ⟨a, _, rfl, SqL.of (by rw [h1, optL_bls en t1]), q0 q (.bl _)⟩
      · cases e
    · cases e
  · cases e
theorem maxI_ge : ∀ {ns : List Int}, ∀ y ∈ ns, y ≤ maxI ns
  | [], _, z => nomatch z
  | [x], y, z => by rw [List.mem_singleton.mp z]; exact Int.le_refl _
  | x :: w :: ns, y, z => by
    simp only [maxI]
    rcases List.mem_cons.mp z with e | z
    · rw [e]; exact Int.le_max_left _ _
    · exact Int.le_trans (maxI_ge y z) (Int.le_max_right _ _)
theorem maxI_mem : ∀ {x : Int} {ns : List Int}, maxI (x :: ns) ∈ x :: ns
  | x, [] => by simp [maxI]
  | x, w :: ns => by
    have ih := @maxI_mem w ns
    simp only [maxI]
    rcases Int.le_total x (maxI (w :: ns)) with h | h
    · rw [Int.max_eq_right h]; exact List.mem_cons_of_mem _ ih
    · rw [Int.max_eq_left h]; exact List.mem_cons_self
theorem minI_le : ∀ {ns : List Int}, ∀ y ∈ ns, minI ns ≤ y
  | [], _, z => nomatch z
  | [x], y, z => by rw [List.mem_singleton.mp z]; exact Int.le_refl _
  | x :: w :: ns, y, z => by
    simp only [minI]
    rcases List.mem_cons.mp z with e | z
    · rw [e]; exact Int.min_le_left _ _
    · exact Int.le_trans (Int.min_le_right _ _) (minI_le y z)
theorem minI_mem : ∀ {x : Int} {ns : List Int}, minI (x :: ns) ∈ x :: ns
  | x, [] => by simp [minI]
  | x, w :: ns => by
    have ih := @minI_mem w ns
    simp only [minI]
    rcases Int.le_total x (minI (w :: ns)) with h | h
    · rw [Int.min_eq_left h]; exact List.mem_cons_self
    · rw [Int.min_eq_right h]; exact List.mem_cons_of_mem _ ih
theorem opN_max1 : OpN K mg dMax1 (rMax K) := by
  intro xs h d e ρ H vs S Q hr r nd na q
  unfold dMax1 at e
  split at e
  · split at e
    · rename_i ex
      split at e
      · rename_i n ns en
        cases e
        obtain ⟨v, rfl, r1⟩ := r.one
        obtain ⟨a, ws, S', rfl, h1, t1, _⟩ := isLst_rep hr ex r1
        refine ⟨a, _, rfl, SqL.of (by rw [h1, optL_ints en t1]), by simp, fun m hm hy => ?_⟩
        have : m = maxI (n :: ns) := Int.le_antisymm (maxI_ge m hm) (hy _ maxI_mem)
        rw [this]
        exact q0 q (.int _)
      · cases e
    · cases e
  · cases e
theorem opN_min1 : OpN K mg dMin1 (rMin K) := by
  intro xs h d e ρ H vs S Q hr r nd na q
  unfold dMin1 at e
  split at e
  · split at e
    · rename_i ex
      split at e
      · rename_i n ns en
        cases e
        obtain ⟨v, rfl, r1⟩ := r.one
        obtain ⟨a, ws, S', rfl, h1, t1, _⟩ := isLst_rep hr ex r1
        refine ⟨a, _, rfl, SqL.of (by rw [h1, optL_ints en t1]), by simp, fun m hm hy => ?_⟩
        have : m = minI (n :: ns) := Int.le_antisymm (hy _ minI_mem) (minI_le m hm)
        rw [this]
        exact q0 q (.int _)
      · cases e
    · cases e
  · cases e
theorem opN_list : OpN K mg dList (fun xs H Q => ∃ p ys, xs = [.ref p] ∧ (SqL K H p ys ∨ SqT K H p ys) ∧ ∀ l, H l = none → Q (.ref l) (upd H l (.lst ys))) := by
  intro xs h d e ρ H vs S Q hr r nd na q
  unfold dList at e
  split at e
  · split at e
    · rename_i ex
      cases e
      obtain ⟨v, rfl, r1⟩ := r.one
      obtain ⟨a, ws, S', rfl, sq, t1, sub⟩ := seqOf_rep hr ex r1
      have nd' := nd.sublist sub
      have na' : ∀ a ∈ S', a ∉ ρ := fun a ha => na a (sub.subset ha)
      refine ⟨a, ws, rfl, sq, fun p np => ?_⟩
      obtain ⟨n1, n2⟩ := fresh_p hr t1 nd' na' np
      exact q _ _ _ (same_upd np) (.newLst hr t1 na' np) n1 fun b hb => ⟨(n2 b hb).1, (n2 b hb).2.imp id fun z => sub.subset z⟩
    · cases e
  · cases e
theorem opN_tuple : OpN K mg dTuple (fun xs H Q => ∃ p ys, xs = [.ref p] ∧ ((SqL K H p ys ∧ ∀ l, H l = none → Q (.ref l) (upd H l (.tup ys))) ∨ (SqT K H p ys ∧ Q (.ref p) H))) := by
  intro xs h d e ρ H vs S Q hr r nd na q
  unfold dTuple at e
  split at e
  · split at e
    · rename_i x _ ys ex
      cases e
      obtain ⟨v, rfl, r1⟩ := r.one
      have nw : ∀ {a : Addr} {ws : List V} {S' : List Addr}, SqL K H a ws → RepL K mg ρ H ys ws S' → S'.Sublist S → ∃ p zs, [V.ref a] = [.ref p] ∧ ((SqL K H p zs ∧ ∀ l, H l = none → Q (.ref l) (upd H l (.tup zs))) ∨ (SqT K H p zs ∧ Q (.ref p) H)) := fun {a ws S'} sq t1 sub =>
        ⟨a, ws, rfl, .inl ⟨sq, fun p np => q _ _ _ (same_upd np) (.newTup hr t1 (fun a ha => na a (sub.subset ha)) np) (nd.sublist sub) fun b hb => ⟨na b (sub.subset hb), .inr (sub.subset hb)⟩⟩⟩
      cases x with
      | tup zs =>
        cases ex
        cases r1 with
        | tup ht t => exact ⟨_, _, rfl, .inr ⟨ht.sq, q _ H S same_refl (.tup ht t) nd fun a ha => ⟨na a ha, .inr ha⟩⟩⟩
      | lst zs =>
        cases ex
        cases r1 with
        | lst ha t => exact nw (SqL.of ha) t (List.sublist_append_left _ _)
      | rol zs =>
        cases ex
        cases r1 with
        | rol ha t => exact nw ha.sq t (List.Sublist.refl _)
      | ref n =>
        simp only [seqOf] at ex
        split at ex
        · rename_i zs hz
          cases ex
          cases r1 with
          | ref ha =>
            obtain ⟨ws, hw, t⟩ := hr.cell n _ _ hz ha
            exact nw (SqL.of hw) t (List.Sublist.refl _)
        · cases ex
      | _ => cases ex
    · cases e
  · cases e
end
section
variable {X : Cx} {Wx : WX} {a b : Expr} {mas : MA} {p pos : Pos}
theorem je_abs (hm : X.mg "abs" = none) (ha : JA X Wx [a] mas) (hg : Gl X "abs" := by rfl) (he : starEach [a] X.env = (false, eval a X.env) :: starEach [] X.env := by rfl) : JE X Wx (.Call (.Name "abs" p) [a] [] pos) (eN dAbs mas) := je_callB call_abs opN_abs hm ha (by decide +kernel) hg (by decide) (by decide) he
theorem je_max2 (hc : X.calm = true) (hm : X.mg "max" = none) (ha : JA X Wx [a, b] mas) (hg : Gl X "max" := by rfl) (he : starEach [a, b] X.env = (false, eval a X.env) :: starEach [b] X.env := by rfl) (hpl : (backTo pos (starEach [b] X.env)).any (·.1) = false := by rfl) : JE X Wx (.Call (.Name "max" p) [a, b] [] pos) (eN dMax2 mas) := je_callB (call_max2 hc) opN_max2 hm ha (by decide +kernel) hg (by decide) (by decide) he hpl
theorem je_min2 (hc : X.calm = true) (hm : X.mg "min" = none) (ha : JA X Wx [a, b] mas) (hg : Gl X "min" := by rfl) (he : starEach [a, b] X.env = (false, eval a X.env) :: starEach [b] X.env := by rfl) (hpl : (backTo pos (starEach [b] X.env)).any (·.1) = false := by rfl) : JE X Wx (.Call (.Name "min" p) [a, b] [] pos) (eN dMin2 mas) := je_callB (call_min2 hc) opN_min2 hm ha (by decide +kernel) hg (by decide) (by decide) he hpl
theorem je_max1 (hc : X.calm = true) (hm : X.mg "max" = none) (ha : JA X Wx [a] mas) (hg : Gl X "max" := by rfl) (he : starEach [a] X.env = (false, eval a X.env) :: starEach [] X.env := by rfl) : JE X Wx (.Call (.Name "max" p) [a] [] pos) (eN dMax1 mas) := je_callB (cr_max hc) opN_max1 hm ha (by decide +kernel) hg (by decide) (by decide) he
theorem je_min1 (hc : X.calm = true) (hm : X.mg "min" = none) (ha : JA X Wx [a] mas) (hg : Gl X "min" := by rfl) (he : starEach [a] X.env = (false, eval a X.env) :: starEach [] X.env := by rfl) : JE X Wx (.Call (.Name "min" p) [a] [] pos) (eN dMin1 mas) := je_callB (cr_min hc) opN_min1 hm ha (by decide +kernel) hg (by decide) (by decide) he
theorem je_sum (hc : X.calm = true) (hm : X.mg "sum" = none) (ha : JA X Wx [a] mas) (hg : Gl X "sum" := by rfl) (he : starEach [a] X.env = (false, eval a X.env) :: starEach [] X.env := by rfl) : JE X Wx (.Call (.Name "sum" p) [a] [] pos) (eN dSum mas) := je_callB (cr_sum hc) opN_sum hm ha (by decide +kernel) hg (by decide) (by decide) he
theorem je_all (hc : X.calm = true) (hm : X.mg "all" = none) (ha : JA X Wx [a] mas) (hg : Gl X "all" := by rfl) (he : starEach [a] X.env = (false, eval a X.env) :: starEach [] X.env := by rfl) : JE X Wx (.Call (.Name "all" p) [a] [] pos) (eN dAll mas) := je_callB (cr_all hc) opN_all hm ha (by decide +kernel) hg (by decide) (by decide) he
theorem je_any (hc : X.calm = true) (hm : X.mg "any" = none) (ha : JA X Wx [a] mas) (hg : Gl X "any" := by rfl) (he : starEach [a] X.env = (false, eval a X.env) :: starEach [] X.env := by rfl) : JE X Wx (.Call (.Name "any" p) [a] [] pos) (eN dAny mas) := je_callB (cr_any hc) opN_any hm ha (by decide +kernel) hg (by decide) (by decide) he
theorem je_toInt (hm : X.mg "int" = none) (ha : JA X Wx [a] mas) (hg : Gl X "int" := by rfl) (he : starEach [a] X.env = (false, eval a X.env) :: starEach [] X.env := by rfl) : JE X Wx (.Call (.Name "int" p) [a] [] pos) (eN dInt mas) := je_callTy call_int1 opN_int hm ha (by decide +kernel) hg (by decide) (by decide) he
theorem je_toStr (hm : X.mg "str" = none) (ha : JA X Wx [a] mas) (hg : Gl X "str" := by rfl) (he : starEach [a] X.env = (false, eval a X.env) :: starEach [] X.env := by rfl) : JE X Wx (.Call (.Name "str" p) [a] [] pos) (eN dStr mas) := je_callTy call_str_int opN_str hm ha (by decide +kernel) hg (by decide) (by decide) he
theorem je_list (hm : X.mg "list" = none) (ha : JA X Wx [a] mas) (hg : Gl X "list" := by rfl) (he : starEach [a] X.env = (false, eval a X.env) :: starEach [] X.env := by rfl) : JE X Wx (.Call (.Name "list" p) [a] [] pos) (eN dList mas) := je_callTy call_list_of opN_list hm ha (by decide +kernel) hg (by decide) (by decide) he
theorem je_tuple (hm : X.mg "tuple" = none) (ha : JA X Wx [a] mas) (hg : Gl X "tuple" := by rfl) (he : starEach [a] X.env = (false, eval a X.env) :: starEach [] X.env := by rfl) : JE X Wx (.Call (.Name "tuple" p) [a] [] pos) (eN dTuple mas) := je_callTy call_tuple_of opN_tuple hm ha (by decide +kernel) hg (by decide) (by decide) he
end
end Tw

/-! TwZip: zip and enumerate of lists and tuples, in any mix. -/
namespace Tw
open PySem PySem.Spec PyProof.Rows L2

/-- b: a list, else a tuple -/
def SqA (b : Bool) (K : PySem.W.Frag) (H : Hp) (a : Addr) (xs : List V) : Prop := if b = true then SqL K H a xs else SqT K H a xs
def SqI (b : Bool) (h : Heap) (it a : Addr) (i : Nat) : Prop := if b = true then h.IsListIter it a i else h.IsTupleIter it a i
def SqP (b : Bool) (h : Heap) (a : Addr) (its : Array Value) : Prop := if b = true then h.IsList a its else h.IsTuple a its
theorem SqI.there {b : Bool} {h : Heap} {it a : Addr} {i : Nat} (s : SqI b h it a i) : ∃ o vs, h.get? it = some o ∧ o.data = .fields vs := by
  cases b with
  | true => obtain ⟨o, e, _, d⟩ := (show h.IsListIter it a i from s); exact ⟨o, _, e, d⟩
  | false => obtain ⟨o, e, _, d⟩ := (show h.IsTupleIter it a i from s); exact ⟨o, _, e, d⟩
theorem SqI.at' {b : Bool} {h h' : Heap} {it a : Addr} {i : Nat} (s : SqI b h it a i) (k : ∀ o, h.get? it = some o → h'.get? it = some o) : SqI b h' it a i := by
  cases b with
  | true => exact (show h.IsListIter it a i from s).at k
  | false => exact (show h.IsTupleIter it a i from s).at k
section
variable {X : Cx} {pins : List (Addr × Obj)} {σ : L2.St} {H : Hp} {s : Shared}
theorem SqA.reads (I : Inv X pins σ H s) {b : Bool} {a : Addr} {xs : List V} (h : SqA b X.K H a xs) : ∃ its : List Value, Vals xs its ∧ SqP b s.heap a its.toArray ∧ a < s.heap.objs.size := by
  cases b with
  | true =>
    obtain ⟨its, r, p, _⟩ := I.list (show SqL X.K H a xs from h)
    exact ⟨its, r, show s.heap.IsList a its.toArray from p.isList, p.lt⟩
  | false =>
    obtain ⟨its, r, p, _⟩ := I.tuple (show SqT X.K H a xs from h)
    exact ⟨its, r, show s.heap.IsTuple a its.toArray from p, p.lt⟩
theorem SqA.inj (I : Inv X pins σ H s) {b : Bool} {a : Addr} {xs ys : List V} (h : SqA b X.K H a xs) (h' : SqA b X.K H a ys) : xs = ys := by
  cases b with
  | true => exact I.list_inj (show SqL X.K H a xs from h) h'
  | false => exact I.tuple_inj (show SqT X.K H a xs from h) h'
end
/-- an iterator over such a thing draws its items -/
theorem sq_draws {P : Program} {w : World} {A : Around} (b : Bool) (hh : A.handled = none) (it a : Addr) (hne : a ≠ it) (its : Array Value) : Draws P w A it [it, a] its.size (fun i v => its[i]? = some v) (fun i h => SqI b h it a i ∧ SqP b h a its) := by
  cases b with
  | true => exact Draws.list hh it a hne its
  | false => exact Draws.tuple hh it a hne its
def sqO (b : Bool) (a : Addr) : Obj := if b = true then { cls := .type "list_iterator", data := .fields #[.ref a, .int 0 0] } else { cls := .type "tuple_iterator", data := .fields #[.ref a, .int 0 0] }
theorem sq_begins (b : Bool) (a : Addr) (its : Array Value) : Begins (.ref a) (sqO b a) fun h => SqP b h a its := by
  cases b with
  | true => exact begins_list a its
  | false => exact begins_tuple a its
theorem sq_first (b : Bool) {h : Heap} {it a : Addr} (e : h.get? it = some (sqO b a)) : SqI b h it a 0 := by
  cases b with
  | true => exact ⟨_, e, rfl, rfl⟩
  | false => exact ⟨_, e, rfl, rfl⟩
theorem SqP.keep {b : Bool} {h h' : Heap} {a : Addr} {its : Array Value} (s : SqP b h a its) (k : ∀ o, h.get? a = some o → h'.get? a = some o) : SqP b h' a its := by
  cases b with
  | true => exact (show h.IsList a its from s).at k
  | false => exact (show h.IsTuple a its from s).at k

/-! ### zip of two -/
/-- the things at a and b as they stand at each turn, the items in new pairs -/
def ItZ (K : PySem.W.Frag) (b1 b2 : Bool) (a1 a2 : Addr) : It :=
  ⟨fun i H => ∃ (xs ys : List V) (x y : V), SqA b1 K H a1 xs ∧ SqA b2 K H a2 ys ∧ xs[i]? = some x ∧ ys[i]? = some y,
    fun i H v H' => ∃ T x y, v = .ref T ∧ H T = none ∧ H' = upd H T (.tup [x, y]) ∧ (∀ xs, SqA b1 K H a1 xs → xs[i]? = some x) ∧ ∀ ys, SqA b2 K H a2 ys → ys[i]? = some y,
    fun i H => ∃ xs ys : List V, SqA b1 K H a1 xs ∧ SqA b2 K H a2 ys ∧ i ≤ xs.length ∧ i ≤ ys.length ∧ (xs.length = i ∨ ys.length = i)⟩
structure ZSep (z TI TO i1 i2 a1 a2 : Addr) : Prop where
  sep : ZipSep2 z TI TO i1 i2 [i1, a1] [i2, a2]
  n1 : a1 ≠ i1
  n2 : a2 ≠ i2
  i12 : i1 ≠ i2
theorem turn_Z {P : Program} {w : World} {K : PySem.W.Frag} {elts : List Expr} {kk : Nat} {tpos : Pos} {b1 b2 : Bool} {a1 a2 z TI TO i1 i2 : Addr} (S : ZSep z TI TO i1 i2 a1 a2) :
    Turn P w K (.Tuple elts kk tpos) (ItZ K b1 b2 a1 a2) [z, TI, TO, i1, i2] z (fun i h => IsZip h z TI TO .none ∧ IsTupOf2 h TI (.ref i1) (.ref i2) ∧ (∃ x y, IsTupOf2 h TO x y) ∧ SqI b1 h i1 a1 i ∧ SqI b2 h i2 a2 i) where
  mem := by simp
  obj := fun i h st c hc => by
    obtain ⟨hz, hTI, ⟨x, y, hTO⟩, h1, h2⟩ := st
    obtain ⟨o1, v1, e1, d1⟩ := h1.there
    obtain ⟨o2, v2, e2, d2⟩ := h2.there
    have e' : c = z ∨ c = TI ∨ c = TO ∨ c = i1 ∨ c = i2 := by simpa using hc
    rcases e' with q | q | q | q | q
    · rw [q]; exact ⟨_, hz, fun v q => nomatch q⟩
    · rw [q]; exact ⟨_, hTI, fun v q => nomatch q⟩
    · rw [q]; exact ⟨_, hTO, fun v q => nomatch q⟩
    · rw [q]; exact ⟨o1, e1, fun v q => by rw [d1] at q; cases q⟩
    · rw [q]; exact ⟨o2, e2, fun v q => by rw [d2] at q; cases q⟩
  keep := fun i h h' st k => by
    obtain ⟨hz, hTI, ⟨x, y, hTO⟩, h1, h2⟩ := st
    exact ⟨k z (by simp) _ hz, k TI (by simp) _ hTI, ⟨x, y, k TO (by simp) _ hTO⟩, h1.at' fun o q => k i1 (by simp) o q, h2.at' fun o q => k i2 (by simp) o q⟩
  item := by
    intro X hP hw hK hc i pins s σ H E I hf st hg
    subst hP hw hK
    obtain ⟨hz, hTI, ⟨x0, y0, hTO⟩, h1, h2⟩ := st
    obtain ⟨xs, ys, x, y, hqx, hqy, hx, hy⟩ := hg
    obtain ⟨its, rv, p, _⟩ := hqx.reads I
    obtain ⟨its2, rv2, p2, _⟩ := hqy.reads I
    obtain ⟨u, hu, ru⟩ := rv.get hx
    obtain ⟨u2, hu2, ru2⟩ := rv2.get hy
    have l1 : i < its.toArray.size := by simpa using (List.getElem?_eq_some_iff.mp hu).1
    have l2 : i < its2.toArray.size := by simpa using (List.getElem?_eq_some_iff.mp hu2).1
    have hzl : z < s.heap.objs.size := Heap.lt_size hz
    have hh : X.A.in1.handled = none := I.ok.hd hc
    refine wpAny_pyNext_zipD2_item S.sep (sq_draws b1 hh i1 a1 S.n1 its.toArray) (sq_draws b2 hh i2 a2 S.n2 its2.toArray) hz hTI hTO ⟨h1, p⟩ ⟨h2, p2⟩ l1 l2 fun w1 w2 h' tk hw1 hw2 z' TO' st1' st2' hT hsz hk => ?_
    have ew1 : w1 = u := by
      have : its[i]? = some w1 := by simpa using hw1
      rw [hu] at this; exact (Option.some.inj this).symm
    have ew2 : w2 = u2 := by
      have : its2[i]? = some w2 := by simpa using hw2
      rw [hu2] at this; exact (Option.some.inj this).symm
    subst ew1 ew2
    refine ⟨_, rfl, wpAny_letOwnedTupleGo_zip (s := { s with heap := h', toks := tk }) z' fun h'' z'' sb => ?_⟩
    have hT2 : h''.get? s.heap.objs.size = some { cls := .type "tuple", data := .seq #[w1, w2] } := (sb.2 _ (Nat.ne_of_gt hzl)).trans hT
    have new : ObjOk X.prog X.w (upd H s.heap.objs.size (.tup [x, y])) h'' s.heap.objs.size (.tup [x, y]) :=
      ⟨by show 2 ≤ sizeLine; decide, [w1, w2], .cons ru (.cons ru2 .nil), ⟨_, hT2, rfl, _, rfl⟩⟩
    have I1 : Inv X pins σ (upd H s.heap.objs.size (.tup [x, y])) { s with heap := h'', toks := tk } :=
      I.turnedNew (ch := [z, TI, TO, i1, i2]) (fun c o hb q => (sb.2 c (fun q' => hb (by simp [q']))).trans (hk c o (fun q' => hb (by simp [q'])) (fun q' => hb (by simp [q'])) (fun q' => hb (by simp [q'])) (fun q' => hb (by simp [q'])) q)) hf (Nat.le_refl _) new
    refine ⟨.ref s.heap.objs.size, _, I1, rfl, ⟨_, x, y, rfl, I.hok.fresh (Nat.le_refl _), rfl, fun l hl => by rw [hl.inj I hqx]; exact hx, fun l hl => by rw [hl.inj I hqy]; exact hy⟩, ⟨z'', ?_, ⟨w1, w2, ?_⟩, ?_, ?_⟩, fun c hcm => ?_⟩
    · exact (sb.2 _ S.sep.TIz).trans (hk _ _ S.sep.TIz S.sep.TITO S.sep.TIi1 S.sep.TIi2 hTI)
    · exact (sb.2 _ S.sep.TOz).trans TO'
    · exact st1'.1.at' fun o q => (sb.2 _ (Ne.symm S.sep.zi1)).trans q
    · exact st2'.1.at' fun o q => (sb.2 _ (Ne.symm S.sep.zi2)).trans q
    · have hlt : c < s.heap.objs.size := by
        have e' : c = z ∨ c = TI ∨ c = TO ∨ c = i1 ∨ c = i2 := by simpa using hcm
        rcases e' with q | q | q | q | q
        · rw [q]; exact hzl
        · rw [q]; exact Heap.lt_size hTI
        · rw [q]; exact Heap.lt_size hTO
        · rw [q]; obtain ⟨_, _, e1, _⟩ := h1.there; exact Heap.lt_size e1
        · rw [q]; obtain ⟨_, _, e2, _⟩ := h2.there; exact Heap.lt_size e2
      rw [upd_ne (Nat.ne_of_lt hlt)]
      exact (hf c hcm).1
  done := by
    intro X hP hw hK hc i pins s σ H E I hf st hg
    subst hP hw hK
    obtain ⟨hz, hTI, ⟨x0, y0, hTO⟩, h1, h2⟩ := st
    obtain ⟨xs, ys, hqx, hqy, le1, le2, hend⟩ := hg
    obtain ⟨its, rv, p, _⟩ := hqx.reads I
    obtain ⟨its2, rv2, p2, _⟩ := hqy.reads I
    have l1 := rv.length
    have l2 := rv2.length
    have hh : X.A.in1.handled = none := I.ok.hd hc
    exact wpAny_pyNext_zipD2_end S.sep (sq_draws b1 hh i1 a1 S.n1 its.toArray) (sq_draws b2 hh i2 a2 S.n2 its2.toArray) hz hTI hTO ⟨h1, p⟩ ⟨h2, p2⟩ (by simp; omega) (by simp; omega) (by simp; omega)
      fun h' tk hk => ⟨rfl, I.turnedL (t' := tk) (ch := [z, TI, TO, i1, i2]) (fun c o hb q =>
      hk c o (fun q' => hb (by simp [q'])) (fun q' => hb (by simp [q'])) (fun q' => hb (by simp [q'])) (fun q' => hb (by simp [q'])) q) hf⟩
  self := fun A i s Q E st h => wpAny_pyIter_zip st.1 h
def iZ2 (K : PySem.W.Frag) (ta : TA) : TI := fun σ H R => ta σ H fun vs H1 => ∃ b1 b2 a1 a2 xs ys, vs = [.ref a1, .ref a2] ∧ SqA b1 K H1 a1 xs ∧ SqA b2 K H1 a2 ys ∧ R (ItZ K b1 b2 a1 a2) H1
theorem zsep_new {N a1 a2 : Nat} (h1 : a1 < N) (h2 : a2 < N) : ZSep (N + 4) (N + 2) (N + 3) N (N + 1) a1 a2 :=
  ⟨zip_sep2 (fp1 := [a1]) (fp2 := [a2]) (fun b hb => by rw [List.mem_singleton.mp hb]; exact h1) (fun b hb => by rw [List.mem_singleton.mp hb]; exact h2), Nat.ne_of_lt h1, Nat.ne_of_lt (Nat.lt_succ_of_lt h2), Nat.ne_of_lt (Nat.lt_succ_self N)⟩
theorem pi_Z2 {X : Cx} {e e2 : Expr} {ta : TA} {p pos tpos : Pos} {elts : List Expr} {kk : Nat} (hg : Gl X "zip") (hm : X.mg "zip" = none) (ha : PA X [e, e2] ta)
    (hs : starEach [e, e2] X.env = (false, eval e X.env) :: starEach [e2] X.env := by rfl) (hpl : (backTo pos (starEach [e2] X.env)).any (·.1) = false := by rfl) :
    PI X (.Tuple elts kk tpos) (.Call (.Name "zip" p) [e, e2] [] pos) (iZ2 X.K ta) := by
  refine ⟨fun pins s σ H R I h => ?_⟩
  refine Call_ (ld_blt I hg hm PyProof.Rows.boot_zip (PyProof.Rows.callWith_type1 (thn (ha.run pos pins s σ H _ I h) fun us s1 ⟨vs, H1, I1, r1, q1⟩ => ?_) hs hpl))
  obtain ⟨b1, b2, a, b, xs, ys, ex, hqx, hqy, q⟩ := q1
  subst ex
  cases r1 with
  | cons r rr =>
    cases rr with
    | cons r' rr =>
      cases rr
      cases r
      cases r'
      obtain ⟨its, rv, p1, la⟩ := hqx.reads I1
      obtain ⟨its2, rv2, p2, lb⟩ := hqy.reads I1
      refine zip_begins2 (sq_begins b1 a its.toArray) (sq_begins b2 b its2.toArray) p1 p2 fun h' hz hTI hTO h1 h2 hsz hk => wpAny_pyIter_zip hz ?_
      have I2 : Inv X pins σ H1 { s1 with heap := h' } := I1.kept (t' := s1.toks) hk
      refine ⟨s1.heap.objs.size + 4, [s1.heap.objs.size + 4, s1.heap.objs.size + 2, s1.heap.objs.size + 3, s1.heap.objs.size, s1.heap.objs.size + 1], _, _, H1, rfl, I2, turn_Z (zsep_new la lb), ⟨hz, hTI, ⟨_, _, hTO⟩, sq_first b1 h1, sq_first b2 h2⟩, fun c hcm => ?_, q⟩
      have e' : c = s1.heap.objs.size + 4 ∨ c = s1.heap.objs.size + 2 ∨ c = s1.heap.objs.size + 3 ∨ c = s1.heap.objs.size ∨ c = s1.heap.objs.size + 1 := by simpa using hcm
      have hle : s1.heap.objs.size ≤ c := by
        rcases e' with z | z | z | z | z
        · rw [z]; exact Nat.le_add_right _ _
        · rw [z]; exact Nat.le_add_right _ _
        · rw [z]; exact Nat.le_add_right _ _
        · rw [z]; exact Nat.le_refl _
        · rw [z]; exact Nat.le_add_right _ _
      exact I1.fpOk hle (I1.hok.fresh hle)

/-! ### a zip's next, whether its last pair is still held or not -/
/-- a zip of two: g, f what it remembers of its last pair -/
abbrev ZObj (g : Value) (f : Bool) (TI TO : Addr) : Obj := { cls := .type "zip", dict := none, data := .fields #[g, .bool f, .bool false, .ref TI, .ref TO], slots := #[] }
def ZAny (h : Heap) (z TI TO : Addr) : Prop := ∃ g f, h.get? z = some (ZObj g f TI TO) ∧ (g = .none ∨ ∃ T : Addr, g = rawInt T)
section
variable {P : Program} {w : World} {A : Around} {E : Value → Shared → Prop} {s : Shared} {z TI TO i1 i2 : Addr} {fp1 fp2 : List Addr} {n1 n2 i : Nat} {P1 P2 : Nat → Value → Prop} {St1 St2 : Nat → Heap → Prop} {x0 y0 : Value}
theorem wp_alive {a : Addr} {Q : Option Obj → Shared → Prop} (h : Q (s.heap.get? a) s) : wpAny (model P w) A (loadIfAlive a) Q E s := fun _ _ _ => h
theorem z_free {g : Value} {f : Bool} {Q : Bool → Shared → Prop} (hz : s.heap.get? z = some (ZObj g f TI TO)) (hg : g = .none ∨ ∃ T : Addr, g = rawInt T) (ht : Q true s)
    (hn : ∀ (T : Addr) h', g = rawInt T → h'.get? z = some (ZObj g true TI TO) → Heap.SameBut z s.heap h' → Q false { s with heap := h' }) : wpAny (model P w) A (Builtin.SmallTypes.ownedTupleIsFree (.ref z)) Q E s := by
  unfold Builtin.SmallTypes.ownedTupleIsFree
  rcases hg with rfl | ⟨T, rfl⟩
  · exact wpAny_bind (wpAny_field hz rfl (x := .none) rfl (wpAny_pure ht))
  · refine wpAny_bind (wpAny_field hz rfl (x := rawInt T) rfl ?_)
    show wpAny _ _ (loadIfAlive ((T : Int).toNat) >>= _) _ _ _
    rw [Int.toNat_natCast]
    refine wpAny_bind (wp_alive ?_)
    cases hT : s.heap.get? T with
    | none => exact wpAny_pure ht
    | some oT =>
      simp only [Option.isNone_some, Bool.false_eq_true, if_false]
      refine wpAny_bind (wpAny_field hz rfl (x := .bool f) rfl ?_)
      cases f with
      | true =>
        rw [if_neg (show ¬ ((Value.bool true != Value.bool true) = true) from Bool.false_ne_true)]
        exact wpAny_pure (hn T s.heap rfl hz (Heap.SameBut.refl _ _))
      | false =>
        rw [if_pos (show (Value.bool false != Value.bool true) = true from rfl)]
        exact wpAny_bind (wpAny_setField_rec hz (by simp) fun h₁ hz₁ hs₁ => wpAny_pure (hn T h₁ rfl hz₁ hs₁))
/-- the next pair, new at the heap's end -/
theorem z_next {Q : Value → Shared → Prop} (S : ZipSep2 z TI TO i1 i2 fp1 fp2) (D1 : Draws P w A i1 fp1 n1 P1 St1) (D2 : Draws P w A i2 fp2 n2 P2 St2) (hz : ZAny s.heap z TI TO) (hTI : IsTupOf2 s.heap TI (.ref i1) (.ref i2)) (hTO : IsTupOf2 s.heap TO x0 y0)
    (st1 : St1 i s.heap) (st2 : St2 i s.heap) (l1 : i < n1) (l2 : i < n2)
    (hQ : ∀ x1 x2 h' tk, P1 i x1 → P2 i x2 → ZAny h' z TI TO → (∃ x y, IsTupOf2 h' TO x y) → St1 (i + 1) h' → St2 (i + 1) h' → IsTupOf2 h' s.heap.objs.size x1 x2 → h'.objs.size = s.heap.objs.size + 1 →
      (∀ c o, c ≠ z → c ≠ TO → c ≠ i1 → c ≠ i2 → s.heap.get? c = some o → h'.get? c = some o) → Q (.ref s.heap.objs.size) { s with heap := h', toks := tk }) :
    wpAny (model P w) A (Builtin.«zip.__next__» ⟨[.ref z], []⟩) (fun fin s' => ∃ v, fin = .done (.ret v) ∧ Q v s') E s := by
  obtain ⟨hp, gs, dr, tk0, os⟩ := s
  obtain ⟨g, f, hz, hg⟩ := hz
  show wpAny _ _ (field (.ref z) 2 >>= _) _ _ _
  refine wpAny_bind (wpAny_field hz rfl (x := .bool false) rfl ?_)
  show wpAny _ _ (field (.ref z) 3 >>= _) _ _ _
  refine wpAny_bind (wpAny_field hz rfl (x := .ref TI) rfl ?_)
  refine wpAny_bind (wpAny_seqItems hTI rfl ?_)
  show wpAny _ _ (Builtin.SmallTypes.ownedTupleIsFree (.ref z) >>= _) _ _ _
  refine wpAny_bind (z_free hz hg ?_ fun T ha eg hza sa => ?_)
  · -- the pair of its own is filled again
    simp only [if_true]
    refine wpAny_bind (wpAny_rule ?_)
    refine wpAny_bind (wpAny_field hz rfl (x := .ref TO) rfl ?_)
    refine wpAny_bind (wpAny_setField_rec hz (by simp) fun ga za sa => ?_)
    replace za : ga.get? z = some (ZObj .ellipsis f TI TO) := za
    replace sa : Heap.SameBut z hp ga := sa
    refine wpAny_bind ?_
    simp only [List.zipIdx_cons, List.zipIdx_nil, List.forIn_cons, List.forIn_nil]
    refine wpAny_bind (wpAny_bind (wpAny_onRaise ?_))
    show wpAny _ _ (Builtin.SmallTypes.nextOf (.ref i1) >>= _) _ _ ⟨ga, gs, dr, tk0, os⟩
    refine wpAny_bind (D1.item i _ _ _ l1 (D1.over st1 sa S.zf1) fun x1 gb tk1 hx1 sn1 sb => wpAny_pure ?_)
    replace sb : Heap.SameBut i1 ga gb := sb
    have ub : IsTupOf2 gb TO x0 y0 := sb.extBut _ _ S.Ti1 (sa.extBut _ _ S.TOz hTO)
    refine wpAny_bind (wpAny_seqItems (s := ⟨gb, gs, dr, tk1, os⟩) ub rfl ?_)
    refine wpAny_bind (updateSeq_IsTupOf2 (s := ⟨gb, gs, dr, tk1, os⟩) ub fun gc uc sc => ?_)
    replace uc : IsTupOf2 gc TO x1 y0 := uc
    replace sc : Heap.SameBut TO gb gc := sc
    refine wpAny_bind (wpAny_letGo (wpAny_pure ?_))
    refine wpAny_bind (wpAny_bind (wpAny_onRaise ?_))
    show wpAny _ _ (Builtin.SmallTypes.nextOf (.ref i2) >>= _) _ _ ⟨gc, gs, dr, tk1, os⟩
    refine wpAny_bind (D2.item i _ _ _ l2 (D2.over (D2.over (D2.over st2 sa S.zf2) sb S.sep1_2) sc S.Tf2) fun x2 gd tk2 hx2 sn2 sd => wpAny_pure ?_)
    replace sd : Heap.SameBut i2 gc gd := sd
    have ud : IsTupOf2 gd TO x1 y0 := sd.extBut _ _ S.Ti2 uc
    refine wpAny_bind (wpAny_seqItems (s := ⟨gd, gs, dr, tk2, os⟩) ud rfl ?_)
    refine wpAny_bind (updateSeq_IsTupOf2 (s := ⟨gd, gs, dr, tk2, os⟩) ud fun ge ue se => ?_)
    replace ue : IsTupOf2 ge TO x1 x2 := ue
    replace se : Heap.SameBut TO gd ge := se
    refine wpAny_bind (wpAny_letGo (wpAny_pure (wpAny_pure ?_)))
    refine wpAny_bind (wpAny_seqItems (s := ⟨ge, gs, dr, tk2, os⟩) ue rfl ?_)
    refine wpAny_bind (wpAny_newTuple ?_)
    have size : ge.objs.size = hp.objs.size := by rw [se.1, sd.1, sc.1, sb.1, sa.1]
    have ze : ge.get? z = some (ZObj .ellipsis f TI TO) := se.extBut _ _ S.TOz.symm (sd.extBut _ _ S.zi2 (sc.extBut _ _ S.TOz.symm (sb.extBut _ _ S.zi1 za)))
    have ke : ∀ c o, c ≠ z → c ≠ TO → c ≠ i1 → c ≠ i2 → hp.get? c = some o → ge.get? c = some o := fun c o cz cT c1 c2 e =>
      se.extBut _ _ cT (sd.extBut _ _ c2 (sc.extBut _ _ cT (sb.extBut _ _ c1 (sa.extBut _ _ cz e))))
    have j1 : St1 (i + 1) ge := D1.over (D1.over (D1.over sn1 sc S.Tf1) sd S.sep2_1) se S.Tf1
    have j2 : St2 (i + 1) ge := D2.over sn2 se S.Tf2
    have zlt : z < ge.objs.size := Heap.lt_size ze
    show wpAny _ _ (Builtin.SmallTypes.ownedTupleHandOut (.ref z) (.ref ge.objs.size) >>= _) _ _ ⟨ge.push { cls := .type "tuple", data := .seq #[x1, x2] }, gs, dr, tk2, os⟩
    refine wpAny_bind ?_
    unfold Builtin.SmallTypes.ownedTupleHandOut
    have zf : (ge.push { cls := .type "tuple", data := .seq #[x1, x2] }).get? z = some (ZObj .ellipsis f TI TO) := Heap.get?_push_of_some _ ze
    refine wpAny_bind (wpAny_setField_rec zf (by simp) fun gf zg sg => ?_)
    replace zg : gf.get? z = some (ZObj (rawInt ge.objs.size) f TI TO) := zg
    refine wpAny_setField_rec zg (by simp) fun gg zh sh => ?_
    replace zh : gg.get? z = some (ZObj (rawInt ge.objs.size) false TI TO) := zh
    replace sg : Heap.SameBut z (ge.push { cls := .type "tuple", data := .seq #[x1, x2] }) gf := sg
    replace sh : Heap.SameBut z gf gg := sh
    have up : ∀ c o, c ≠ z → ge.get? c = some o → gg.get? c = some o := fun c o c1 e => sh.extBut _ _ c1 (sg.extBut _ _ c1 (Heap.get?_push_of_some _ e))
    have tn : IsTupOf2 gg ge.objs.size x1 x2 := sh.extBut _ _ (Nat.ne_of_gt zlt) (sg.extBut _ _ (Nat.ne_of_gt zlt) (Heap.get?_push_size _ rfl))
    have sz : gg.objs.size = ge.objs.size + 1 := by rw [sh.1, sg.1, Heap.size_push]
    rw [size] at zh tn sz
    refine wpAny_pure ⟨_, rfl, ?_⟩
    show Q (.ref ge.objs.size) ⟨gg, gs, dr, tk2, os⟩
    rw [size]
    exact hQ x1 x2 gg tk2 hx1 hx2 ⟨_, _, zh, .inr ⟨_, rfl⟩⟩ ⟨x1, x2, up _ _ S.TOz ue⟩ (D1.frame _ _ _ j1 fun b hb o e => up b o (fun q => S.zf1 (q ▸ hb)) e) (D2.frame _ _ _ j2 fun b hb o e => up b o (fun q => S.zf2 (q ▸ hb)) e) tn sz
      fun c o cz cT c1 c2 e => up c o cz (ke c o cz cT c1 c2 e)
  · -- a pair is made
    replace sa : Heap.SameBut z hp ha := sa
    simp only [Bool.false_eq_true, if_false]
    refine wpAny_bind ?_
    rw [← Array.forIn_toList]
    simp only [List.forIn_cons, List.forIn_nil]
    refine wpAny_bind (wpAny_bind (wpAny_holding ?_))
    show wpAny _ _ (Builtin.SmallTypes.nextOf (.ref i1) >>= _) _ _ ⟨ha, gs, dr, tk0, os⟩
    refine wpAny_bind (D1.item i _ _ _ l1 (D1.over st1 sa S.zf1) fun x1 hb tk1 hx1 sn1 sb => wpAny_pure ?_)
    replace sb : Heap.SameBut i1 ha hb := sb
    refine wpAny_pure ?_
    refine wpAny_bind (wpAny_bind (wpAny_holding ?_))
    show wpAny _ _ (Builtin.SmallTypes.nextOf (.ref i2) >>= _) _ _ ⟨hb, gs, dr, tk1, os⟩
    refine wpAny_bind (D2.item i _ _ _ l2 (D2.over (D2.over st2 sa S.zf2) sb S.sep1_2) fun x2 hc tk2 hx2 sn2 sc => wpAny_pure ?_)
    replace sc : Heap.SameBut i2 hb hc := sc
    refine wpAny_pure (wpAny_pure ?_)
    show wpAny _ _ (newTuple [x1, x2] >>= _) _ _ _
    refine wpAny_bind (wpAny_newTuple ?_)
    have size : hc.objs.size = hp.objs.size := by rw [sc.1, sb.1, sa.1]
    have zc : hc.get? z = some (ZObj g true TI TO) := sc.extBut _ _ S.zi2 (sb.extBut _ _ S.zi1 hza)
    have kc : ∀ c o, c ≠ z → c ≠ i1 → c ≠ i2 → hp.get? c = some o → hc.get? c = some o := fun c o c1 c2 c3 e => sc.extBut _ _ c3 (sb.extBut _ _ c2 (sa.extBut _ _ c1 e))
    refine wpAny_pure ⟨_, rfl, ?_⟩
    show Q (.ref hc.objs.size) _
    have tn : IsTupOf2 (hc.push { cls := .type "tuple", data := .seq #[x1, x2] }) hc.objs.size x1 x2 := Heap.get?_push_size _ rfl
    have sz : (hc.push { cls := .type "tuple", data := .seq #[x1, x2] }).objs.size = hc.objs.size + 1 := Heap.size_push ..
    rw [size] at tn sz ⊢
    exact hQ x1 x2 _ tk2 hx1 hx2 ⟨_, _, Heap.get?_push_of_some _ zc, hg⟩ ⟨x0, y0, Heap.get?_push_of_some _ (kc _ _ S.TOz S.Ti1 S.Ti2 hTO)⟩ (D1.frame _ _ _ (D1.over sn1 sc S.sep2_1) fun b hb o e => Heap.get?_push_of_some _ e)
      (D2.frame _ _ _ sn2 fun b hb o e => Heap.get?_push_of_some _ e) tn sz fun c o cz cT c1 c2 e => Heap.get?_push_of_some _ (kc c o cz c1 c2 e)
/-- a zip's end -/
theorem z_end {Q : PySem.Fin → Shared → Prop} (S : ZipSep2 z TI TO i1 i2 fp1 fp2) (D1 : Draws P w A i1 fp1 n1 P1 St1) (D2 : Draws P w A i2 fp2 n2 P2 St2) (hz : ZAny s.heap z TI TO) (hTI : IsTupOf2 s.heap TI (.ref i1) (.ref i2)) (hTO : IsTupOf2 s.heap TO x0 y0)
    (st1 : St1 i s.heap) (st2 : St2 i s.heap) (l1 : i ≤ n1) (l2 : i ≤ n2) (he : i = n1 ∨ i = n2)
    (hE : ∀ h' tk e, (∀ c o, c ≠ z → c ≠ TO → c ≠ i1 → c ≠ i2 → s.heap.get? c = some o → h'.get? c = some o) → (∃ o, h'.get? e = some o ∧ o.cls = .type "StopIteration") → E (.ref e) { s with heap := h', toks := tk }) :
    wpAny (model P w) A (Builtin.«zip.__next__» ⟨[.ref z], []⟩) Q E s := by
  obtain ⟨hp, gs, dr, tk0, os⟩ := s
  obtain ⟨g, f, hz, hg⟩ := hz
  show wpAny _ _ (field (.ref z) 2 >>= _) _ _ _
  refine wpAny_bind (wpAny_field hz rfl (x := .bool false) rfl ?_)
  show wpAny _ _ (field (.ref z) 3 >>= _) _ _ _
  refine wpAny_bind (wpAny_field hz rfl (x := .ref TI) rfl ?_)
  refine wpAny_bind (wpAny_seqItems hTI rfl ?_)
  show wpAny _ _ (Builtin.SmallTypes.ownedTupleIsFree (.ref z) >>= _) _ _ _
  refine wpAny_bind (z_free hz hg ?_ fun T ha eg hza sa => ?_)
  · simp only [if_true]
    refine wpAny_bind (wpAny_rule ?_)
    refine wpAny_bind (wpAny_field hz rfl (x := .ref TO) rfl ?_)
    refine wpAny_bind (wpAny_setField_rec hz (by simp) fun ga za sa => ?_)
    replace za : ga.get? z = some (ZObj .ellipsis f TI TO) := za
    replace sa : Heap.SameBut z hp ga := sa
    refine wpAny_bind ?_
    simp only [List.zipIdx_cons, List.zipIdx_nil, List.forIn_cons, List.forIn_nil]
    refine wpAny_bind (wpAny_bind (wpAny_onRaise ?_))
    show wpAny _ _ (Builtin.SmallTypes.nextOf (.ref i1) >>= _) _ _ ⟨ga, gs, dr, tk0, os⟩
    by_cases k1 : i < n1
    · refine wpAny_bind (D1.item i _ _ _ k1 (D1.over st1 sa S.zf1) fun x1 gb tk1 hx1 sn1 sb => wpAny_pure ?_)
      replace sb : Heap.SameBut i1 ga gb := sb
      have ub : IsTupOf2 gb TO x0 y0 := sb.extBut _ _ S.Ti1 (sa.extBut _ _ S.TOz hTO)
      refine wpAny_bind (wpAny_seqItems (s := ⟨gb, gs, dr, tk1, os⟩) ub rfl ?_)
      refine wpAny_bind (updateSeq_IsTupOf2 (s := ⟨gb, gs, dr, tk1, os⟩) ub fun gc uc sc => ?_)
      replace uc : IsTupOf2 gc TO x1 y0 := uc
      replace sc : Heap.SameBut TO gb gc := sc
      refine wpAny_bind (wpAny_letGo (wpAny_pure ?_))
      have k2 : i = n2 := by omega
      refine wpAny_bind (wpAny_bind (wpAny_onRaise ?_))
      show wpAny _ _ (Builtin.SmallTypes.nextOf (.ref i2) >>= _) _ _ ⟨gc, gs, dr, tk1, os⟩
      refine wpAny_bind (D2.done ⟨gc, gs, dr, tk1, os⟩ _ _ (by rw [← k2]; exact D2.over (D2.over (D2.over st2 sa S.zf2) sb S.sep1_2) sc S.Tf2) fun gd e sd hx => ?_)
      replace sd : Heap.ExtBut i2 gc gd := sd
      obtain ⟨oe, hoe, hce⟩ := hx
      replace hoe : gd.get? e = some oe := hoe
      have zd : gd.get? z = some (ZObj .ellipsis f TI TO) := sd _ _ S.zi2 (sc.extBut _ _ S.TOz.symm (sb.extBut _ _ S.zi1 za))
      have ez : e ≠ z := fun q => by subst q; rw [zd] at hoe; cases hoe; simp at hce
      refine wpAny_setField_rec (s := ⟨gd, gs, dr, tk1, os⟩) zd (by simp) fun gf _ sf => ?_
      replace sf : Heap.SameBut z gd gf := sf
      exact hE gf tk1 e (fun c o cz cT c1 c2 q => sf.extBut _ _ cz (sd _ _ c2 (sc.extBut _ _ cT (sb.extBut _ _ c1 (sa.extBut _ _ cz q))))) ⟨oe, sf.extBut _ _ ez hoe, hce⟩
    · have k2 : i = n1 := by omega
      refine wpAny_bind (D1.done ⟨ga, gs, dr, tk0, os⟩ _ _ (by rw [← k2]; exact D1.over st1 sa S.zf1) fun gd e sd hx => ?_)
      replace sd : Heap.ExtBut i1 ga gd := sd
      obtain ⟨oe, hoe, hce⟩ := hx
      replace hoe : gd.get? e = some oe := hoe
      have zd : gd.get? z = some (ZObj .ellipsis f TI TO) := sd _ _ S.zi1 za
      have ez : e ≠ z := fun q => by subst q; rw [zd] at hoe; cases hoe; simp at hce
      refine wpAny_setField_rec (s := ⟨gd, gs, dr, tk0, os⟩) zd (by simp) fun gf _ sf => ?_
      replace sf : Heap.SameBut z gd gf := sf
      exact hE gf tk0 e (fun c o cz cT c1 c2 q => sf.extBut _ _ cz (sd _ _ c1 (sa.extBut _ _ cz q))) ⟨oe, sf.extBut _ _ ez hoe, hce⟩
  · replace sa : Heap.SameBut z hp ha := sa
    simp only [Bool.false_eq_true, if_false]
    refine wpAny_bind ?_
    rw [← Array.forIn_toList]
    simp only [List.forIn_cons, List.forIn_nil]
    refine wpAny_bind (wpAny_bind (wpAny_holding ?_))
    show wpAny _ _ (Builtin.SmallTypes.nextOf (.ref i1) >>= _) _ _ ⟨ha, gs, dr, tk0, os⟩
    by_cases k1 : i < n1
    · refine wpAny_bind (D1.item i _ _ _ k1 (D1.over st1 sa S.zf1) fun x1 hb tk1 hx1 sn1 sb => wpAny_pure ?_)
      replace sb : Heap.SameBut i1 ha hb := sb
      have k2 : i = n2 := by omega
      refine wpAny_pure ?_
      refine wpAny_bind (wpAny_bind (wpAny_holding ?_))
      show wpAny _ _ (Builtin.SmallTypes.nextOf (.ref i2) >>= _) _ _ ⟨hb, gs, dr, tk1, os⟩
      refine wpAny_bind (D2.done ⟨hb, gs, dr, tk1, os⟩ _ _ (by rw [← k2]; exact D2.over (D2.over st2 sa S.zf2) sb S.sep1_2) fun hc e sc hx => ?_)
      replace sc : Heap.ExtBut i2 hb hc := sc
      exact hE hc tk1 e (fun c o cz cT c1 c2 q => sc _ _ c2 (sb.extBut _ _ c1 (sa.extBut _ _ cz q))) hx
    · have k2 : i = n1 := by omega
      refine wpAny_bind (D1.done ⟨ha, gs, dr, tk0, os⟩ _ _ (by rw [← k2]; exact D1.over st1 sa S.zf1) fun hc e sc hx => ?_)
      replace sc : Heap.ExtBut i1 ha hc := sc
      exact hE hc tk0 e (fun c o cz cT c1 c2 q => sc _ _ c1 (sa.extBut _ _ cz q)) hx
end
end Tw

/-! TwEnum: enumerate of lists and tuples, and of a zip of two. -/
namespace Tw
open PySem PySem.Spec PyProof.Rows L2

section
variable {P : Program} {w : World} {A : Around} {E : Value → Shared → Prop} {s : Shared} {e it : Addr} {c : Int} {old : Value}
/-- enumerate's next over an iterator whose next is told by R: the pair is new at the heap's end -/
theorem e_next {R : Value → Heap → Prop} {Q : Value → Shared → Prop} (he : IsEnum s.heap e it c old)
    (inner : ∀ Q' : Value → Shared → Prop, (∀ x h1 tk, R x h1 → IsEnum h1 e it c old → Q' x { s with heap := h1, toks := tk }) → wpAny (model P w) A (Builtin.SmallTypes.nextOf (.ref it)) Q' E s)
    (hQ : ∀ x h1 h' tk, R x h1 → IsEnumOut h' e it (c + 1) x h1.objs.size → h'.get? h1.objs.size = some { cls := .type "tuple", data := .seq #[.int c tk, x] } → h'.objs.size = h1.objs.size + 1 →
      (∀ b o, b ≠ e → h1.get? b = some o → h'.get? b = some o) → e < h1.objs.size → Q (.ref h1.objs.size) { s with heap := h', toks := tk + 1 }) :
    wpAny (model P w) A (Builtin.«enumerate.__next__» ⟨[.ref e], []⟩) (fun fin s' => ∃ v, fin = .done (.ret v) ∧ Q v s') E s := by
  obtain ⟨hp, gs, dr, tk0, os⟩ := s
  show wpAny _ _ (field (.ref e) 2 >>= _) _ _ _
  refine wpAny_bind (wpAny_field he rfl (x := .ref it) rfl ?_)
  refine wpAny_bind (inner _ fun x ha tk hR ea => ?_)
  replace ea : IsEnum ha e it c old := ea
  show wpAny _ _ (field (.ref e) 3 >>= _) _ _ ⟨ha, gs, dr, tk, os⟩
  refine wpAny_bind (wpAny_field ea rfl (x := rawInt c) rfl ?_)
  show wpAny _ _ (field (.ref e) 4 >>= _) _ _ ⟨ha, gs, dr, tk, os⟩
  refine wpAny_bind (wpAny_field ea rfl (x := .none) rfl ?_)
  show wpAny _ _ (mkInt c >>= _) _ _ ⟨ha, gs, dr, tk, os⟩
  refine wpAny_bind (wpAny_mkInt ?_)
  show wpAny _ _ (setField (.ref e) 3 (rawInt (c + 1)) >>= _) _ _ ⟨ha, gs, dr, tk + 1, os⟩
  refine wpAny_bind (wpAny_setField_rec ea (by simp) fun hb eb sb => ?_)
  replace sb : Heap.SameBut e ha hb := sb
  replace eb : IsEnum hb e it (c + 1) old := eb
  show wpAny _ _ (setField (.ref e) 4 .none >>= _) _ _ ⟨hb, gs, dr, tk + 1, os⟩
  refine wpAny_bind (wpAny_setField_rec eb (by simp) fun hc ec sc => ?_)
  replace sc : Heap.SameBut e hb hc := sc
  replace ec : IsEnum hc e it (c + 1) old := ec
  show wpAny _ _ (newTuple [.int c tk, x] >>= _) _ _ ⟨hc, gs, dr, tk + 1, os⟩
  refine wpAny_bind (wpAny_newTuple ?_)
  have ed : IsEnum (hc.push { cls := .type "tuple", data := .seq #[.int c tk, x] }) e it (c + 1) old := Heap.get?_push_of_some _ ec
  generalize hhd : hc.push { cls := .type "tuple", data := .seq #[.int c tk, x] } = hd at ed
  have size : hc.objs.size = ha.objs.size := by rw [sc.1, sb.1]
  have elt : e < ha.objs.size := Heap.lt_size ea
  have td : hd.get? ha.objs.size = some { cls := .type "tuple", data := .seq #[.int c tk, x] } := by rw [← hhd, ← size]; exact Heap.get?_push_size _ rfl
  have zd : hd.objs.size = ha.objs.size + 1 := by rw [← hhd, Heap.size_push, size]
  have kd : ∀ b o, b ≠ e → ha.get? b = some o → hd.get? b = some o := fun b o hbe q => by
    rw [← hhd]; exact Heap.get?_push_of_some _ (sc.extBut b o hbe (sb.extBut b o hbe q))
  show wpAny _ _ (Builtin.SmallTypes.ownedTupleIsFree (.ref e) >>= _) _ _ ⟨hd, gs, dr, tk + 1, os⟩
  rw [size]
  refine wpAny_bind ?_
  unfold Builtin.SmallTypes.ownedTupleIsFree
  refine wpAny_bind (wpAny_field ed rfl (x := .none) rfl (wpAny_pure ?_))
  simp only [if_true]
  refine wpAny_bind (wpAny_rule ?_)
  refine wpAny_bind (wpAny_field ed rfl (x := old) rfl ?_)
  refine wpAny_bind (wpAny_setField_rec ed (by simp) fun hf ef sf => ?_)
  replace sf : Heap.SameBut e hd hf := sf
  replace ef : IsEnum hf e it (c + 1) x := ef
  show wpAny _ _ (Builtin.SmallTypes.ownedTupleHandOut (.ref e) (.ref ha.objs.size) >>= _) _ _ ⟨hf, gs, dr, tk + 1, os⟩
  refine wpAny_bind ?_
  unfold Builtin.SmallTypes.ownedTupleHandOut
  refine wpAny_bind (wpAny_setField_rec ef (by simp) fun hg eg sg => ?_)
  replace sg : Heap.SameBut e hf hg := sg
  replace eg : IsEnumOut hg e it (c + 1) x ha.objs.size := eg
  refine wpAny_setField_rec eg (by simp) fun hi ei si => ?_
  replace si : Heap.SameBut e hg hi := si
  replace ei : IsEnumOut hi e it (c + 1) x ha.objs.size := ei
  have up : ∀ b o, b ≠ e → hd.get? b = some o → hi.get? b = some o := fun b o hbe q => si.extBut b o hbe (sg.extBut b o hbe (sf.extBut b o hbe q))
  refine wpAny_bind (wpAny_letGo (wpAny_pure ⟨_, rfl, hQ x ha hi tk hR ei (up _ _ (Nat.ne_of_gt elt) td) ?_ (fun b o hbe q => up b o hbe (kd b o hbe q)) elt⟩))
  rw [si.1, sg.1, sf.1, zd]
theorem e_pyNext {R : Value → Heap → Prop} {Q : Option Value → Shared → Prop} (he : IsEnum s.heap e it c old)
    (inner : ∀ Q' : Value → Shared → Prop, (∀ x h1 tk, R x h1 → IsEnum h1 e it c old → Q' x { s with heap := h1, toks := tk }) → wpAny (model P w) A.in1 (Builtin.SmallTypes.nextOf (.ref it)) Q' (fun e s' => ∃ o, s'.heap.get? 0 = o ∧ False) s)
    (hQ : ∀ x h1 h' tk, R x h1 → IsEnumOut h' e it (c + 1) x h1.objs.size → h'.get? h1.objs.size = some { cls := .type "tuple", data := .seq #[.int c tk, x] } → h'.objs.size = h1.objs.size + 1 →
      (∀ b o, b ≠ e → h1.get? b = some o → h'.get? b = some o) → e < h1.objs.size → Q (some (.ref h1.objs.size)) { s with heap := h', toks := tk + 1 }) : wpAny (model P w) A (pyNext (.ref e)) Q E s := by
  have hT : s.TypeIs (.ref e) "enumerate" := ⟨_, he, rfl⟩
  unfold pyNext
  refine wpAny_bind (wpAny_attempt (wpAny_callSpecial?_slot (name := Str.ofString "__next__") hT F.slot_enumerate_next
    (wpAny_call_entry F.slot_enumerate_next hT F.entry_enumerate_next (wpAny_mono (e_next he inner fun x h1 h' tk a b c d k l => wpAny_pure (hQ x h1 h' tk a b c d k l)) (fun _ _ z => z) ?_) (F.args_enumerate_next_1 _))))
  rintro x s' ⟨o, _, z⟩
  exact z.elim
end
/-- its making, over what begins as B says or is an iterator itself -/
theorem meets_enum {v it : Value} {s0 : Heap} {h1 : Heap} (hi : ∀ (prog : Program) (w : World) (A : Around) (E : Value → Shared → Prop) (s : Shared) (Q : Value → Shared → Prop), s.heap = s0 → Q it { s with heap := h1 } → wpAny (model prog w) A (pyIter v) Q E s) :
    Meets (Builtin.«enumerate.__new__» ⟨[.type "enumerate", v], []⟩) (fun _ R s => s.heap = s0 ∧ R (.ok (.ret (.ref h1.objs.size))) { s with heap := h1.push { cls := .type "enumerate", data := .fields #[.none, .bool false, it, rawInt 0, .none, .none] } }) :=
  .of_wp fun prog w A R s h => by
    obtain ⟨hp, g, d, tk, os⟩ := s
    obtain ⟨e0, h⟩ := h
    have hsub := sub_enumerate
    have q1 : ∀ {A' : Around} {E : Value → Shared → Prop} {Q : Value → Shared → Prop}, Q it ⟨h1, g, d, tk, os⟩ → wpAny (model prog w) A' (pyIter v) Q E ⟨hp, g, d, tk, os⟩ := fun q => hi prog w _ _ ⟨hp, g, d, tk, os⟩ _ e0 q
    wp_walk using q1
    refine wpAny_stack_any fun st => wpAny_pure ?_
    split
    · rename_i c _ _ _ _ _
      cases (c == Value.type "enumerate")
      · wp_walk using q1
        exact ⟨_, rfl, h⟩
      · wp_walk using q1
        exact ⟨_, rfl, h⟩
    · wp_walk using q1
      exact ⟨_, rfl, h⟩
theorem call_enum {P : Program} {w : World} {A : Around} {E : Value → Shared → Prop} {s : Shared} {v : Value} {it : Addr} {h1 : Heap} {Q : Value → Shared → Prop}
    (hi : ∀ (prog : Program) (w : World) (A : Around) (E : Value → Shared → Prop) (s' : Shared) (Q : Value → Shared → Prop), s'.heap = s.heap → Q (.ref it) { s' with heap := h1 } → wpAny (model prog w) A (pyIter v) Q E s')
    (h : ∀ h', IsEnum h' h1.objs.size it 0 .none → h'.objs.size = h1.objs.size + 1 → (∀ b o, h1.get? b = some o → h'.get? b = some o) → Q (.ref h1.objs.size) { s with heap := h' }) : wpAny (model P w) A (call (.type "enumerate") [v]) Q E s := by
  refine callType_new F.called_enumerate (by decide) (F.typeCall_enumerate_1 _) (F.newCall_enumerate_1 _) (fun obj => F.args_object_init_2 obj _) F.entry_enumerate_new (meets_enum (it := .ref it) hi) ⟨rfl, ?_⟩
  have he : IsEnum (h1.push { cls := .type "enumerate", data := .fields #[.none, .bool false, .ref it, rawInt 0, .none, .none] }) h1.objs.size it 0 .none := Heap.get?_push_size _ rfl
  exact ⟨⟨_, he, rfl⟩, h _ he (Heap.size_push ..) fun b o x => Heap.get?_push_of_some _ x⟩

/-! ### enumerate of a list, a tuple -/
def ItE (K : PySem.W.Frag) (b : Bool) (a : Addr) : It :=
  ⟨fun i H => ∃ (xs : List V) (x : V), SqA b K H a xs ∧ xs[i]? = some x, fun i H v H' => ∃ T x, v = .ref T ∧ H T = none ∧ H' = upd H T (.tup [.int (i : Nat), x]) ∧ ∀ xs, SqA b K H a xs → xs[i]? = some x, fun i H => ∃ xs : List V, SqA b K H a xs ∧ xs.length = i⟩
theorem turn_E {P : Program} {w : World} {K : PySem.W.Frag} {elts : List Expr} {kk : Nat} {tpos : Pos} {b : Bool} {a e it : Addr} (na : a ≠ it) (ne : e ≠ it) (nea : e ≠ a) :
    Turn P w K (.Tuple elts kk tpos) (ItE K b a) [e, it] e (fun i h => (∃ old, IsEnum h e it ((i : Nat) : Int) old) ∧ SqI b h it a i) where
  mem := by simp
  obj := fun i h st c hc => by
    obtain ⟨⟨old, he⟩, hi⟩ := st
    obtain ⟨o, vs, ho, hd⟩ := hi.there
    have e' : c = e ∨ c = it := by simpa using hc
    rcases e' with z | z
    · rw [z]; exact ⟨_, he, fun v q => nomatch q⟩
    · rw [z]; exact ⟨o, ho, fun v q => by rw [hd] at q; cases q⟩
  keep := fun i h h' st k => let ⟨⟨old, he⟩, hi⟩ := st; ⟨⟨old, k e (by simp) _ he⟩, hi.at' fun o q => k it (by simp) o q⟩
  item := by
    intro X hP hw hK hc i pins s σ H E I hf st hg
    subst hP hw hK
    obtain ⟨⟨old, he⟩, hit⟩ := st
    obtain ⟨xs, x, hq, hx⟩ := hg
    obtain ⟨its, rv, p, _⟩ := hq.reads I
    obtain ⟨u, hu, ru⟩ := rv.get hx
    have l1 : i < its.toArray.size := by simpa using (List.getElem?_eq_some_iff.mp hu).1
    have hh : X.A.in1.handled = none := I.ok.hd hc
    have D := sq_draws (P := X.prog) (w := X.w) b hh it a na its.toArray
    refine e_pyNext (R := fun v h1 => v = u ∧ SqI b h1 it a (i + 1) ∧ Heap.SameBut it s.heap h1) he (fun Q' hQ' => ?_) fun v h1 h' tk hR eo ht hsz hk elt => ?_
    · refine D.item i s Q' _ l1 ⟨hit, p⟩ fun v h1 tk hv st1 sb => ?_
      have ev : v = u := by
        have : its[i]? = some v := by simpa using hv
        rw [hu] at this; exact (Option.some.inj this).symm
      exact hQ' v h1 tk ⟨ev, st1.1, sb⟩ ((sb.2 e ne).trans he)
    · obtain ⟨rfl, si, sb⟩ := hR
      have es : h1.objs.size = s.heap.objs.size := sb.1
      refine ⟨_, rfl, wpAny_letOwnedTupleGo_enum (s := { s with heap := h', toks := tk + 1 }) eo fun h'' e2 sb2 => ?_⟩
      have ht2 : h''.get? h1.objs.size = some { cls := .type "tuple", data := .seq #[.int i tk, v] } := (sb2.2 _ (Nat.ne_of_gt elt)).trans ht
      have new : ObjOk X.prog X.w (upd H h1.objs.size (.tup [.int (i : Nat), x])) h'' h1.objs.size (.tup [.int (i : Nat), x]) :=
        ⟨by show 2 ≤ sizeLine; decide, [.int i tk, v], .cons ⟨_, rfl⟩ (.cons ru .nil), ⟨_, ht2, rfl, _, rfl⟩⟩
      have keep : ∀ c o, c ∉ [e, it] → s.heap.get? c = some o → h''.get? c = some o := fun c o hb q =>
        (sb2.2 c (fun z => hb (by simp [z]))).trans (hk c o (fun z => hb (by simp [z])) (sb.extBut c o (fun z => hb (by simp [z])) q))
      have I1 : Inv X pins σ (upd H h1.objs.size (.tup [.int (i : Nat), x])) { s with heap := h'', toks := tk + 1 } := I.turnedNew (ch := [e, it]) keep hf (by rw [es]; exact Nat.le_refl _) new
      refine ⟨.ref h1.objs.size, _, I1, rfl, ⟨_, x, rfl, by rw [es]; exact I.hok.fresh (Nat.le_refl _), rfl, fun ys hy => by rw [hy.inj I hq]; exact hx⟩, ⟨⟨v, ?_⟩, ?_⟩, fun c hcm => ?_⟩
      · have e1 : ((i + 1 : Nat) : Int) = (i : Int) + 1 := by omega
        rw [e1]; exact e2
      · exact si.at' fun o q => (sb2.2 it (Ne.symm ne)).trans (hk it o (Ne.symm ne) q)
      · have hlt : c < h1.objs.size := by
          have e' : c = e ∨ c = it := by simpa using hcm
          rcases e' with z | z
          · rw [z]; exact elt
          · rw [z, es]; obtain ⟨_, _, q, _⟩ := hit.there; exact Heap.lt_size q
        rw [upd_ne (Nat.ne_of_lt hlt)]
        exact (hf c hcm).1
  done := by
    intro X hP hw hK hc i pins s σ H E I hf st hg
    subst hP hw hK
    obtain ⟨⟨old, he⟩, hit⟩ := st
    obtain ⟨xs, hq, hl⟩ := hg
    obtain ⟨its, rv, p, _⟩ := hq.reads I
    have l := rv.length
    have hh : X.A.in1.handled = none := I.ok.hd hc
    obtain ⟨f0, f1, f2, f3, f4, f5⟩ := hf it (by simp)
    have e1 : its.toArray.size = i := by simp; omega
    exact wpAny_pyNext_enum_endD (sq_draws b hh it a na its.toArray) he (by rw [e1]; exact ⟨hit, p⟩) fun h' eb => ⟨rfl, I.turned (t' := s.toks) (fun c o hb q => eb c o hb q) f0 f1 f3 f4 f5⟩
  self := fun A i s Q E st h => let ⟨⟨_, he⟩, _⟩ := st; wpAny_pyIter_enum he h
def iE (K : PySem.W.Frag) (ta : TA) : TI := fun σ H R => ta σ H fun vs H1 => ∃ b a xs, vs = [.ref a] ∧ SqA b K H1 a xs ∧ R (ItE K b a) H1
theorem pi_E {X : Cx} {e : Expr} {ta : TA} {p pos tpos : Pos} {elts : List Expr} {kk : Nat} (hg : Gl X "enumerate") (hm : X.mg "enumerate" = none) (ha : PA X [e] ta) (hs : starEach [e] X.env = [(false, eval e X.env)] := by rfl) :
    PI X (.Tuple elts kk tpos) (.Call (.Name "enumerate" p) [e] [] pos) (iE X.K ta) := by
  refine ⟨fun pins s σ H R I h => ?_⟩
  refine Call_ (ld_blt I hg hm boot_enumerate (PyProof.Rows.callWith_type1 (thn (ha.run pos pins s σ H _ I h) fun us s1 ⟨vs, H1, I1, r1, q1⟩ => ?_) hs rfl))
  obtain ⟨b, a, xs, ex, hq, q⟩ := q1
  subst ex
  cases r1 with
  | cons r rr =>
    cases rr
    cases r
    obtain ⟨its, rv, p', la⟩ := hq.reads I1
    have B := sq_begins b a its.toArray
    refine call_enum (it := s1.heap.objs.size) (h1 := s1.heap.push (sqO b a)) (fun prog w A E s' Q e0 hQ => B.iter prog w A E s' Q (by rw [e0]; exact p') (by rw [e0]; exact hQ)) fun h' he hsz hk => wpAny_pyIter_enum he ?_
    have z1 : (s1.heap.push (sqO b a)).objs.size = s1.heap.objs.size + 1 := Heap.size_push ..
    have kk : ∀ c o, s1.heap.get? c = some o → h'.get? c = some o := fun c o q => hk c o (Heap.get?_push_of_some _ q)
    have I2 : Inv X pins σ H1 { s1 with heap := h' } := I1.kept (t' := s1.toks) kk
    have hi : SqI b h' s1.heap.objs.size a 0 := sq_first b (hk _ _ (Heap.get?_push_size _ B.free))
    rw [z1] at he ⊢
    refine ⟨s1.heap.objs.size + 1, [s1.heap.objs.size + 1, s1.heap.objs.size], _, _, H1, rfl, I2, turn_E (Nat.ne_of_lt la) (Nat.succ_ne_self _) (fun z => ?_), ⟨⟨.none, he⟩, hi⟩, fun c hb => ?_, q⟩
    · have l2 := la
      rw [← z] at l2
      exact absurd l2 (by simp)
    · have e' : c = s1.heap.objs.size + 1 ∨ c = s1.heap.objs.size := by simpa using hb
      have hle : s1.heap.objs.size ≤ c := by
        rcases e' with z | z
        · rw [z]; exact Nat.le_add_right _ _
        · rw [z]; exact Nat.le_refl _
      exact I1.fpOk hle (I1.hok.fresh hle)

/-! ### enumerate of a zip of two -/
/-- the things at a1 and a2 as they stand at each turn: a new pair of the turn and a new pair of the items -/
def ItEZ (K : PySem.W.Frag) (b1 b2 : Bool) (a1 a2 : Addr) : It :=
  ⟨fun i H => ∃ (xs ys : List V) (x y : V), SqA b1 K H a1 xs ∧ SqA b2 K H a2 ys ∧ xs[i]? = some x ∧ ys[i]? = some y,
    fun i H v H' => ∃ T U x y, v = .ref U ∧ H T = none ∧ H U = none ∧ U ≠ T ∧ H' = upd (upd H T (.tup [x, y])) U (.tup [.int (i : Nat), .ref T]) ∧ (∀ xs, SqA b1 K H a1 xs → xs[i]? = some x) ∧ ∀ ys, SqA b2 K H a2 ys → ys[i]? = some y,
    fun i H => ∃ xs ys : List V, SqA b1 K H a1 xs ∧ SqA b2 K H a2 ys ∧ i ≤ xs.length ∧ i ≤ ys.length ∧ (xs.length = i ∨ ys.length = i)⟩
structure EZSep (e z TI TO i1 i2 a1 a2 : Addr) : Prop where
  s : ZSep z TI TO i1 i2 a1 a2
  ez : e ≠ z
  eTI : e ≠ TI
  eTO : e ≠ TO
  e1 : e ≠ i1
  e2 : e ≠ i2
theorem turn_EZ {P : Program} {w : World} {K : PySem.W.Frag} {elts : List Expr} {kk : Nat} {tpos : Pos} {b1 b2 : Bool} {a1 a2 e z TI TO i1 i2 : Addr} (S : EZSep e z TI TO i1 i2 a1 a2) :
    Turn P w K (.Tuple elts kk tpos) (ItEZ K b1 b2 a1 a2) [e, z, TI, TO, i1, i2] e (fun i h => (∃ old, IsEnum h e z ((i : Nat) : Int) old) ∧ ZAny h z TI TO ∧ IsTupOf2 h TI (.ref i1) (.ref i2) ∧ (∃ x y, IsTupOf2 h TO x y) ∧ SqI b1 h i1 a1 i ∧ SqI b2 h i2 a2 i) where
  mem := by simp
  obj := fun i h st c hc => by
    obtain ⟨⟨old, he⟩, ⟨g, f, hz, _⟩, hTI, ⟨x, y, hTO⟩, h1, h2⟩ := st
    obtain ⟨o1, v1, e1, d1⟩ := h1.there
    obtain ⟨o2, v2, e2, d2⟩ := h2.there
    have e' : c = e ∨ c = z ∨ c = TI ∨ c = TO ∨ c = i1 ∨ c = i2 := by simpa using hc
    rcases e' with q | q | q | q | q | q
    · rw [q]; exact ⟨_, he, fun v q => nomatch q⟩
    · rw [q]; exact ⟨_, hz, fun v q => nomatch q⟩
    · rw [q]; exact ⟨_, hTI, fun v q => nomatch q⟩
    · rw [q]; exact ⟨_, hTO, fun v q => nomatch q⟩
    · rw [q]; exact ⟨o1, e1, fun v q => by rw [d1] at q; cases q⟩
    · rw [q]; exact ⟨o2, e2, fun v q => by rw [d2] at q; cases q⟩
  keep := fun i h h' st k => by
    obtain ⟨⟨old, he⟩, ⟨g, f, hz, hg⟩, hTI, ⟨x, y, hTO⟩, h1, h2⟩ := st
    exact ⟨⟨old, k e (by simp) _ he⟩, ⟨g, f, k z (by simp) _ hz, hg⟩, k TI (by simp) _ hTI, ⟨x, y, k TO (by simp) _ hTO⟩, h1.at' fun o q => k i1 (by simp) o q, h2.at' fun o q => k i2 (by simp) o q⟩
  item := by
    intro X hP hw hK hc i pins s σ H E I hf st hg
    subst hP hw hK
    obtain ⟨⟨old, he⟩, hz, hTI, ⟨x0, y0, hTO⟩, h1, h2⟩ := st
    obtain ⟨xs, ys, x, y, hqx, hqy, hx, hy⟩ := hg
    obtain ⟨its, rv, p, _⟩ := hqx.reads I
    obtain ⟨its2, rv2, p2, _⟩ := hqy.reads I
    obtain ⟨u, hu, ru⟩ := rv.get hx
    obtain ⟨u2, hu2, ru2⟩ := rv2.get hy
    have l1 : i < its.toArray.size := by simpa using (List.getElem?_eq_some_iff.mp hu).1
    have l2 : i < its2.toArray.size := by simpa using (List.getElem?_eq_some_iff.mp hu2).1
    have hzT : s.TypeIs (.ref z) "zip" := let ⟨_, _, q, _⟩ := hz; ⟨_, q, rfl⟩
    have hh : X.A.in1.in1.handled = none := I.ok.hd hc
    have sep := S.s.sep
    refine e_pyNext (R := fun v ha => v = .ref s.heap.objs.size ∧ ha.objs.size = s.heap.objs.size + 1 ∧ IsTupOf2 ha s.heap.objs.size u u2 ∧ ZAny ha z TI TO ∧ (∃ x y, IsTupOf2 ha TO x y) ∧ SqI b1 ha i1 a1 (i + 1) ∧ SqI b2 ha i2 a2 (i + 1) ∧
        ∀ c o, c ≠ z → c ≠ TO → c ≠ i1 → c ≠ i2 → s.heap.get? c = some o → ha.get? c = some o) he (fun Q' hQ' => ?_) fun v ha h' tk hR eo ht hsz hk elt => ?_
    · unfold Builtin.SmallTypes.nextOf
      refine wpAny_bind (wpAny_callSpecial?_slot (name := Str.ofString "__next__") hzT F.slot_zip_next (wpAny_call_entry F.slot_zip_next hzT F.entry_zip_next
        (z_next sep (sq_draws b1 hh i1 a1 S.s.n1 its.toArray) (sq_draws b2 hh i2 a2 S.s.n2 its2.toArray) hz hTI hTO ⟨h1, p⟩ ⟨h2, p2⟩ l1 l2 fun w1 w2 ha tk hw1 hw2 za ta s1' s2' tn sz kz => ?_) (F.args_zip_next_1 _)))
      have ew1 : w1 = u := by
        have : its[i]? = some w1 := by simpa using hw1
        rw [hu] at this; exact (Option.some.inj this).symm
      have ew2 : w2 = u2 := by
        have : its2[i]? = some w2 := by simpa using hw2
        rw [hu2] at this; exact (Option.some.inj this).symm
      subst ew1 ew2
      exact wpAny_pure (hQ' _ ha tk ⟨rfl, sz, tn, za, ta, s1'.1, s2'.1, kz⟩ (kz _ _ S.ez S.eTO S.e1 S.e2 he))
    · obtain ⟨rfl, sz, tn, za, ⟨x1, y1, ta⟩, si1, si2, kz⟩ := hR
      refine ⟨_, rfl, wpAny_letOwnedTupleGo_enum (s := { s with heap := h', toks := tk + 1 }) eo fun h'' e2 sb2 => ?_⟩
      have up : ∀ c o, c ≠ e → ha.get? c = some o → h''.get? c = some o := fun c o ce q => (sb2.2 c ce).trans (hk c o ce q)
      have eltS : e < s.heap.objs.size := Heap.lt_size he
      have nes : s.heap.objs.size ≠ e := Nat.ne_of_gt eltS
      have tn2 : h''.get? s.heap.objs.size = some { cls := .type "tuple", data := .seq #[u, u2] } := up _ _ nes tn
      have tm2 : h''.get? ha.objs.size = some { cls := .type "tuple", data := .seq #[.int i tk, .ref s.heap.objs.size] } := (sb2.2 _ (Nat.ne_of_gt elt)).trans ht
      have new1 : ObjOk X.prog X.w (upd H s.heap.objs.size (.tup [x, y])) ha s.heap.objs.size (.tup [x, y]) :=
        ⟨by show 2 ≤ sizeLine; decide, [u, u2], .cons ru (.cons ru2 .nil), ⟨_, tn, rfl, _, rfl⟩⟩
      have I1 : Inv X pins σ (upd H s.heap.objs.size (.tup [x, y])) { s with heap := ha, toks := tk } := I.turnedNew (ch := [z, TI, TO, i1, i2])
        (fun c o hb q => kz c o (fun z => hb (by simp [z])) (fun z => hb (by simp [z])) (fun z => hb (by simp [z])) (fun z => hb (by simp [z])) q) (fun c hcm => hf c (List.mem_cons_of_mem _ hcm)) (Nat.le_refl _) new1
      have fr2 : (upd H s.heap.objs.size (.tup [x, y])) ha.objs.size = none := by
        rw [upd_ne (by rw [sz]; exact Nat.succ_ne_self _)]
        exact I.hok.fresh (by rw [sz]; exact Nat.le_succ _)
      have new2 : ObjOk X.prog X.w (upd (upd H s.heap.objs.size (.tup [x, y])) ha.objs.size (.tup [.int (i : Nat), .ref s.heap.objs.size])) h'' ha.objs.size (.tup [.int (i : Nat), .ref s.heap.objs.size]) :=
        ⟨by show 2 ≤ sizeLine; decide, [.int i tk, .ref s.heap.objs.size], .cons ⟨_, rfl⟩ (.cons rfl .nil), ⟨_, tm2, rfl, _, rfl⟩⟩
      have lt6 : ∀ c ∈ [e, z, TI, TO, i1, i2], c < s.heap.objs.size := fun c hcm => by
        have e' : c = e ∨ c = z ∨ c = TI ∨ c = TO ∨ c = i1 ∨ c = i2 := by simpa using hcm
        rcases e' with q | q | q | q | q | q
        · rw [q]; exact eltS
        · rw [q]; obtain ⟨_, _, q, _⟩ := hz; exact Heap.lt_size q
        · rw [q]; exact Heap.lt_size hTI
        · rw [q]; exact Heap.lt_size hTO
        · rw [q]; obtain ⟨_, _, q, _⟩ := h1.there; exact Heap.lt_size q
        · rw [q]; obtain ⟨_, _, q, _⟩ := h2.there; exact Heap.lt_size q
      have I2 : Inv X pins σ (upd (upd H s.heap.objs.size (.tup [x, y])) ha.objs.size (.tup [.int (i : Nat), .ref s.heap.objs.size])) { s with heap := h'', toks := tk + 1 } :=
        I1.turnedNew (h' := h'') (t' := tk + 1) (ch := [e]) (fun c o hb q => up c o (fun z => hb (by simp [z])) q) (fun c hcm => by
          rw [List.mem_singleton.mp hcm]
          obtain ⟨f0, f1⟩ := hf e (by simp)
          exact ⟨by rw [upd_ne (Ne.symm nes)]; exact f0, f1⟩) (Nat.le_refl _) new2
      refine ⟨.ref ha.objs.size, _, I2, rfl, ⟨s.heap.objs.size, ha.objs.size, x, y, rfl, I.hok.fresh (Nat.le_refl _), I.hok.fresh (by rw [sz]; exact Nat.le_succ _), by rw [sz]; exact Nat.succ_ne_self _, rfl, fun l hl => by rw [hl.inj I hqx]; exact hx, fun l hl => by rw [hl.inj I hqy]; exact hy⟩, ⟨⟨.ref s.heap.objs.size, ?_⟩, ?_, ?_, ⟨x1, y1, ?_⟩, ?_, ?_⟩, fun c hcm => ?_⟩
      · have e1 : ((i + 1 : Nat) : Int) = (i : Int) + 1 := by omega
        rw [e1]; exact e2
      · obtain ⟨g, f, q, hg⟩ := za
        exact ⟨g, f, up _ _ (Ne.symm S.ez) q, hg⟩
      · exact up _ _ (Ne.symm S.eTI) (kz _ _ sep.TIz sep.TITO sep.TIi1 sep.TIi2 hTI)
      · exact up _ _ (Ne.symm S.eTO) ta
      · exact si1.at' fun o q => up _ _ (Ne.symm S.e1) q
      · exact si2.at' fun o q => up _ _ (Ne.symm S.e2) q
      · have l := lt6 c hcm
        rw [upd_ne (by rw [sz]; exact Nat.ne_of_lt (Nat.lt_succ_of_lt l)), upd_ne (Nat.ne_of_lt l)]
        exact (hf c hcm).1
  done := by
    intro X hP hw hK hc i pins s σ H E I hf st hg
    subst hP hw hK
    obtain ⟨⟨old, he⟩, hz, hTI, ⟨x0, y0, hTO⟩, h1, h2⟩ := st
    obtain ⟨xs, ys, hqx, hqy, le1, le2, hend⟩ := hg
    obtain ⟨its, rv, p, _⟩ := hqx.reads I
    obtain ⟨its2, rv2, p2, _⟩ := hqy.reads I
    have l1 := rv.length
    have l2 := rv2.length
    have hzT : s.TypeIs (.ref z) "zip" := let ⟨_, _, q, _⟩ := hz; ⟨_, q, rfl⟩
    have hh : X.A.in1.in1.handled = none := I.ok.hd hc
    have hT : s.TypeIs (.ref e) "enumerate" := ⟨_, he, rfl⟩
    unfold pyNext
    refine wpAny_bind (wpAny_attempt (wpAny_callSpecial?_slot (name := Str.ofString "__next__") hT F.slot_enumerate_next (wpAny_call_entry F.slot_enumerate_next hT F.entry_enumerate_next ?_ (F.args_enumerate_next_1 _))))
    show wpAny _ _ (field (.ref e) 2 >>= _) _ _ _
    refine wpAny_bind (wpAny_field he rfl (x := .ref z) rfl ?_)
    refine wpAny_bind ?_
    unfold Builtin.SmallTypes.nextOf
    refine wpAny_bind (wpAny_callSpecial?_slot (name := Str.ofString "__next__") hzT F.slot_zip_next (wpAny_call_entry F.slot_zip_next hzT F.entry_zip_next
      (z_end S.s.sep (sq_draws b1 hh i1 a1 S.s.n1 its.toArray) (sq_draws b2 hh i2 a2 S.s.n2 its2.toArray) hz hTI hTO ⟨h1, p⟩ ⟨h2, p2⟩ (by simp; omega) (by simp; omega) (by simp; omega) fun h' tk x kz hx => ?_) (F.args_zip_next_1 _)))
    obtain ⟨o, ho, hc'⟩ := hx
    refine wpAny_bind (wpAny_isInstance (T := "StopIteration") (b := true) ⟨o, ho, hc'⟩ isSubtype_stop ?_)
    exact wpAny_pure ⟨rfl, I.turnedL (t' := tk) (ch := [e, z, TI, TO, i1, i2]) (fun c o hb q => kz c o (fun z => hb (by simp [z])) (fun z => hb (by simp [z])) (fun z => hb (by simp [z])) (fun z => hb (by simp [z])) q) hf⟩
  self := fun A i s Q E st h => let ⟨⟨_, he⟩, _⟩ := st; wpAny_pyIter_enum he h
def iEZ (K : PySem.W.Frag) (ta : TA) : TI := fun σ H R => ta σ H fun vs H1 => ∃ b1 b2 a b xs ys, vs = [.ref a, .ref b] ∧ SqA b1 K H1 a xs ∧ SqA b2 K H1 b ys ∧ R (ItEZ K b1 b2 a b) H1
theorem pi_EZ {X : Cx} {e1 e2 : Expr} {ta : TA} {p p2 pos pos2 tpos : Pos} {elts : List Expr} {kk : Nat} (hg : Gl X "enumerate") (hm : X.mg "enumerate" = none) (hg2 : Gl X "zip") (hm2 : X.mg "zip" = none) (ha : PA X [e1, e2] ta)
    (hs : starEach [Expr.Call (.Name "zip" p2) [e1, e2] [] pos2] X.env = [(false, eval (.Call (.Name "zip" p2) [e1, e2] [] pos2) X.env)] := by rfl) (hs2 : starEach [e1, e2] X.env = (false, eval e1 X.env) :: starEach [e2] X.env := by rfl) (hpl : (backTo pos2 (starEach [e2] X.env)).any (·.1) = false := by rfl) :
    PI X (.Tuple elts kk tpos) (.Call (.Name "enumerate" p) [.Call (.Name "zip" p2) [e1, e2] [] pos2] [] pos) (iEZ X.K ta) := by
  refine ⟨fun pins s σ H R I h => ?_⟩
  refine Call_ (ld_blt I hg hm boot_enumerate (PyProof.Rows.callWith_type1 ?_ hs rfl))
  rw [hs]
  show wpAny _ _ (spliced [(false, eval (.Call (.Name "zip" p2) [e1, e2] [] pos2) X.env)]) _ _ _
  refine Calls.spliced_cons (Call_ (ld_blt I hg2 hm2 PyProof.Rows.boot_zip (PyProof.Rows.callWith_type1 (thn (ha.run pos2 pins s σ H _ I h) fun us s1 ⟨vs, H1, I1, r1, q1⟩ => ?_) hs2 hpl)))
  obtain ⟨b1, b2, a, b, xs, ys, ex, hqx, hqy, q⟩ := q1
  subst ex
  cases r1 with
  | cons r rr =>
    cases rr with
    | cons r' rr =>
      cases rr
      cases r
      cases r'
      obtain ⟨its, rv, p1, la⟩ := hqx.reads I1
      obtain ⟨its2, rv2, p2, lb⟩ := hqy.reads I1
      refine zip_begins2 (sq_begins b1 a its.toArray) (sq_begins b2 b its2.toArray) p1 p2 fun h' hz hTI hTO h1 h2 hsz hk => ?_
      refine Calls.spliced_nil ?_
      have N5 : h'.objs.size = s1.heap.objs.size + 5 := hsz
      refine call_enum (it := s1.heap.objs.size + 4) (h1 := h') (fun prog w A E s' Q e0 hQ => by obtain ⟨_, _, _, _, _⟩ := s'; cases e0; exact wpAny_pyIter_zip hz hQ) fun h2' he hsz2 hk2 => wpAny_pyIter_enum he ?_
      have kk : ∀ c o, s1.heap.get? c = some o → h2'.get? c = some o := fun c o q => hk2 c o (hk c o q)
      have I2 : Inv X pins σ H1 { s1 with heap := h2' } := I1.kept (t' := s1.toks) kk
      refine ⟨h'.objs.size, [h'.objs.size, s1.heap.objs.size + 4, s1.heap.objs.size + 2, s1.heap.objs.size + 3, s1.heap.objs.size, s1.heap.objs.size + 1], _, _, H1, rfl, I2, turn_EZ (a1 := a) (a2 := b) ⟨zsep_new la lb, ?_, ?_, ?_, ?_, ?_⟩, ⟨⟨.none, he⟩, ⟨_, _, hk2 _ _ hz, .inl rfl⟩, hk2 _ _ hTI, ⟨_, _, hk2 _ _ hTO⟩, (sq_first b1 h1).at' fun o q => hk2 _ o q, (sq_first b2 h2).at' fun o q => hk2 _ o q⟩, fun c hcm => ?_, q⟩
      all_goals try (rw [N5]; simp)
      have e' : c = h'.objs.size ∨ c = s1.heap.objs.size + 4 ∨ c = s1.heap.objs.size + 2 ∨ c = s1.heap.objs.size + 3 ∨ c = s1.heap.objs.size ∨ c = s1.heap.objs.size + 1 := by simpa using hcm
      have hle : s1.heap.objs.size ≤ c := by
        rcases e' with q | q | q | q | q | q
        · rw [q, N5]; exact Nat.le_add_right _ _
        all_goals (rw [q]; simp)
      exact I1.fpOk hle (I1.hok.fresh hle)
end Tw

/-! TwJI: zip, enumerate and enumerate of a zip, as what is walked. -/
namespace Tw
open PySem PySem.Spec PyProof.Rows L2

/-- the items of a list or a tuple -/
def seqP (h : Hd) : D → Option (List D × Src)
  | .tup xs => if setL xs = true then some (xs, []) else none
  | .rol xs => some (xs, [])
  | .ref n => match h[n]? with
    | some (.lst xs) => some (xs, [(n, xs)])
    | _ => none
  | .lst xs => if setL xs = true then some (xs, []) else none
  | _ => none
def zipD (xs ys : List D) : List D := List.zipWith (fun x y => .tup [x, y]) xs ys
def enumFrom (i : Nat) : List D → List D
  | [] => []
  | x :: xs => .tup [.int (i : Nat), x] :: enumFrom (i + 1) xs
def twoM (f : List D → List D → List D) (h : Hd) : List D → Option (List D × Src)
  | [a, b] => (seqP h a).bind fun p => (seqP h b).map fun q => (f p.1 q.1, p.2 ++ q.2)
  | _ => none
def zip2M : Hd → List D → Option (List D × Src) := twoM zipD
def enumZM : Hd → List D → Option (List D × Src) := twoM fun xs ys => enumFrom 0 (zipD xs ys)
def enumM (h : Hd) : List D → Option (List D × Src)
  | [a] => (seqP h a).map fun p => (enumFrom 0 p.1, p.2)
  | _ => none
def liftS (h : Hd) : Option (List D × Src) → R (List D × Src)
  | some r => .ok r h
  | none => .stuck
def iS (f : Hd → List D → Option (List D × Src)) (as : MA) : MI := fun env h => match as env h with
  | .ok ds h1 => liftS h1 (f h1 ds)
  | .exc e h1 => .exc e h1
  | .stuck => .stuck
theorem enumFrom_length : ∀ (i : Nat) (xs : List D), (enumFrom i xs).length = xs.length
  | _, [] => rfl
  | i, _ :: xs => by simp [enumFrom, enumFrom_length (i + 1) xs]
theorem enumFrom_get : ∀ (k i : Nat) (xs : List D), (enumFrom k xs)[i]? = (xs[i]?).map fun x => .tup [.int ((k + i : Nat) : Int), x]
  | _, _, [] => by simp [enumFrom]
  | k, 0, x :: xs => by simp [enumFrom]
  | k, i + 1, x :: xs => by
    simp only [enumFrom, List.getElem?_cons_succ]
    rw [enumFrom_get (k + 1) i xs]
    have : k + 1 + i = k + (i + 1) := by omega
    rw [this]
theorem srcOk_append : ∀ {s1 s2 : Src} {h : Hd}, srcOk (s1 ++ s2) h = true → srcOk s1 h = true ∧ srcOk s2 h = true
  | [], s2, h, e => ⟨rfl, e⟩
  | (n, xs) :: r, s2, h, e => by
    have e' : srcOk ((n, xs) :: (r ++ s2)) h = true := e
    obtain ⟨a, b⟩ := srcOk_one e'
    obtain ⟨c, d⟩ := srcOk_append b
    exact ⟨by rw [srcOk_cons a]; exact c, d⟩

section
variable (K : PySem.W.Frag) (mg : Str → Option Value)
/-- at a, a list or a tuple that stands while cells change as they may -/
def SqOk (ρ : List Addr) (H : Hp) (b : Bool) (a : Addr) (items : List D) (src : Src) : Prop :=
  ∀ ρ2 H2 h2, HRel K mg ρ2 H2 h2 → Step [] ρ H ρ2 H2 → srcOk src h2 = true → ∃ vs, SqA b K H2 a vs ∧ RepL K mg ρ2 H2 items vs []
end
section
variable {K : PySem.W.Frag} {mg : Str → Option Value} {ρ : List Addr} {H : Hp} {h : Hd}
theorem seqP_ok (hr : HRel K mg ρ H h) {d : D} {v : V} {S : List Addr} (r : Rep K mg ρ H d v S) (n : ∀ a ∈ S, a ∉ ρ) {items : List D} {src : Src} (e : seqP h d = some (items, src)) :
    ∃ b a, v = .ref a ∧ SqOk K mg ρ H b a items src ∧ srcOk src h = true := by
  cases r with
  | tup ht t =>
    simp only [seqP] at e
    split at e
    · rename_i hs
      cases e
      cases (t.set_nil hs)
      exact ⟨false, _, rfl, fun ρ2 H2 h2 hr2 s2 so => ⟨_, (ht.to s2 fun _ z => nomatch z).sq, t.to s2 (fun _ z => nomatch z) fun _ z => nomatch z⟩, rfl⟩
    · cases e
  | rol ht t =>
    simp only [seqP] at e
    cases e
    exact ⟨true, _, rfl, fun ρ2 H2 h2 hr2 s2 so => ⟨_, (ht.to s2 fun _ z => nomatch z).sq, t.to s2 (fun _ z => nomatch z) fun _ z => nomatch z⟩, rfl⟩
  | ref ha =>
    rename_i m a
    simp only [seqP] at e
    cases hx : h[m]? with
    | none => rw [hx] at e; cases e
    | some c =>
      rw [hx] at e
      cases c with
      | lst xs =>
        cases e
        refine ⟨true, _, rfl, fun ρ2 H2 h2 hr2 s2 so => ?_, srcOk_self hx⟩
        obtain ⟨ws, hw, u⟩ := hr2.cell m _ _ (srcOk_get so) (pre_get s2.pre ha)
        exact ⟨ws, SqL.of hw, u⟩
      | dct _ _ => cases e
      | ins _ _ _ => cases e
  | lst ha t =>
    rename_i a xs vs S0
    simp only [seqP] at e
    split at e
    · rename_i hs
      cases e
      cases (t.set_nil hs)
      have na := n a (by simp)
      exact ⟨true, _, rfl, fun ρ2 H2 h2 hr2 s2 so => ⟨vs, SqL.of (s2.frame _ _ ha na fun z => nomatch z), t.to s2 (fun _ z => nomatch z) fun _ z => nomatch z⟩, rfl⟩
    · cases e
  | _ => cases e
theorem SqOk.now (hr : HRel K mg ρ H h) {b : Bool} {a : Addr} {items : List D} {src : Src} (s : SqOk K mg ρ H b a items src) (so : srcOk src h = true) : ∃ vs, SqA b K H a vs := let ⟨vs, q, _⟩ := s ρ H h hr Step.refl so; ⟨vs, q⟩
theorem pair_rep {ρ2 : List Addr} {H2 : Hp} {h2 : Hd} (hr2 : HRel K mg ρ2 H2 h2) {x y : D} {v w : V} (rx : Rep K mg ρ2 H2 x v []) (ry : Rep K mg ρ2 H2 y w []) {T : Addr} (np : H2 T = none) : Rep K mg ρ2 (upd H2 T (.tup [v, w])) (.tup [x, y]) (.ref T) [] :=
  Rep.newTup hr2 (.cons rx (.cons ry .nil) : RepL K mg ρ2 H2 [x, y] [v, w] ([] ++ ([] ++ []))) (fun _ z => nomatch z) np
theorem itOk_Z {b1 b2 : Bool} {a1 a2 : Addr} {xs ys : List D} {s1 s2 : Src} (h1 : SqOk K mg ρ H b1 a1 xs s1) (h2' : SqOk K mg ρ H b2 a2 ys s2) : ItOk K mg ρ H (ItZ K b1 b2 a1 a2) (zipD xs ys) (s1 ++ s2) := by
  intro ρ2 H2 h2 hr st so
  obtain ⟨o1, o2⟩ := srcOk_append so
  obtain ⟨vs, q1, r1⟩ := h1 ρ2 H2 h2 hr st o1
  obtain ⟨ws, q2, r2⟩ := h2' ρ2 H2 h2 hr st o2
  refine ⟨fun i x e => ?_, ?_⟩
  · unfold zipD at e
    rw [List.getElem?_zipWith] at e
    cases ex : xs[i]? with
    | none => rw [ex] at e; cases e
    | some x1 =>
      cases ey : ys[i]? with
      | none => rw [ex, ey] at e; cases e
      | some y1 =>
        rw [ex, ey] at e
        cases e
        obtain ⟨v, ev, rv⟩ := r1.get ex
        obtain ⟨w, ew, rw_⟩ := r2.get ey
        refine ⟨⟨vs, ws, v, w, q1, q2, ev, ew⟩, fun u H3 ⟨T, x', y', eu, nT, e3, fx, fy⟩ => ?_⟩
        have ex' : v = x' := by
          have := fx vs q1
          rw [ev] at this
          exact Option.some.inj this
        have ey' : w = y' := by
          have := fy ws q2
          rw [ew] at this
          exact Option.some.inj this
        subst eu e3 ex' ey'
        exact ⟨same_upd nT, pair_rep hr rv rw_ nT⟩
  · have l1 := r1.length
    have l2 := r2.length
    have l3 : (zipD xs ys).length = min xs.length ys.length := by simp [zipD]
    exact ⟨vs, ws, q1, q2, by omega, by omega, by omega⟩
theorem itOk_E {b : Bool} {a : Addr} {xs : List D} {s1 : Src} (h1 : SqOk K mg ρ H b a xs s1) : ItOk K mg ρ H (ItE K b a) (enumFrom 0 xs) s1 := by
  intro ρ2 H2 h2 hr st so
  obtain ⟨vs, q1, r1⟩ := h1 ρ2 H2 h2 hr st so
  refine ⟨fun i x e => ?_, ⟨vs, q1, by rw [enumFrom_length, r1.length]⟩⟩
  rw [enumFrom_get] at e
  cases ex : xs[i]? with
  | none => rw [ex] at e; cases e
  | some x1 =>
    rw [ex] at e
    cases e
    obtain ⟨v, ev, rv⟩ := r1.get ex
    refine ⟨⟨vs, v, q1, ev⟩, fun u H3 ⟨T, x', eu, nT, e3, fx⟩ => ?_⟩
    have ex' : v = x' := by
      have := fx vs q1
      rw [ev] at this
      exact Option.some.inj this
    subst eu e3 ex'
    refine ⟨same_upd nT, ?_⟩
    have : (0 + i : Nat) = i := Nat.zero_add i
    rw [this]
    exact pair_rep hr (.int _) rv nT
theorem itOk_EZ {b1 b2 : Bool} {a1 a2 : Addr} {xs ys : List D} {s1 s2 : Src} (h1 : SqOk K mg ρ H b1 a1 xs s1) (h2' : SqOk K mg ρ H b2 a2 ys s2) : ItOk K mg ρ H (ItEZ K b1 b2 a1 a2) (enumFrom 0 (zipD xs ys)) (s1 ++ s2) := by
  intro ρ2 H2 h2 hr st so
  obtain ⟨o1, o2⟩ := srcOk_append so
  obtain ⟨vs, q1, r1⟩ := h1 ρ2 H2 h2 hr st o1
  obtain ⟨ws, q2, r2⟩ := h2' ρ2 H2 h2 hr st o2
  refine ⟨fun i x e => ?_, ?_⟩
  · rw [enumFrom_get] at e
    unfold zipD at e
    rw [List.getElem?_zipWith] at e
    cases ex : xs[i]? with
    | none => rw [ex] at e; cases e
    | some x1 =>
      cases ey : ys[i]? with
      | none => rw [ex, ey] at e; cases e
      | some y1 =>
        rw [ex, ey] at e
        cases e
        obtain ⟨v, ev, rv⟩ := r1.get ex
        obtain ⟨w, ew, rw_⟩ := r2.get ey
        refine ⟨⟨vs, ws, v, w, q1, q2, ev, ew⟩, fun u H3 ⟨T, U, x', y', eu, nT, nU, ne, e3, fx, fy⟩ => ?_⟩
        have ex' : v = x' := by
          have := fx vs q1
          rw [ev] at this
          exact Option.some.inj this
        have ey' : w = y' := by
          have := fy ws q2
          rw [ew] at this
          exact Option.some.inj this
        subst eu e3 ex' ey'
        have nU' : upd H2 T (.tup [v, w]) U = none := by rw [upd_ne ne]; exact nU
        refine ⟨fun b o q => same_upd nU' b o (same_upd nT b o q), ?_⟩
        have : (0 + i : Nat) = i := Nat.zero_add i
        rw [this]
        have hr3 : HRel K mg ρ2 (upd H2 T (.tup [v, w])) h2 := hr.kept (same_upd nT)
        exact pair_rep hr3 (.int _) (pair_rep hr rv rw_ nT) nU'
  · have l1 := r1.length
    have l2 := r2.length
    have l3 : (enumFrom 0 (zipD xs ys)).length = min xs.length ys.length := by rw [enumFrom_length]; simp [zipD]
    exact ⟨vs, ws, q1, q2, by omega, by omega, by omega⟩
end
section
variable {X : Cx} {Wx : WX} {elts : List Expr} {kk : Nat} {tpos : Pos} {a b : Expr} {ma : MA} {p p2 pos pos2 : Pos}
theorem two_of {K mg ρ H h} {f : List D → List D → List D} {ds : List D} {vs : List V} {S : List Addr} {items : List D} {src : Src} (hr : HRel K mg ρ H h) (rp : RepL K mg ρ H ds vs S) (n : ∀ a ∈ S, a ∉ ρ)
    (e : twoM f h ds = some (items, src)) :
    ∃ b1 b2 a1 a2 xs ys s1 s2, vs = [.ref a1, .ref a2] ∧ SqOk K mg ρ H b1 a1 xs s1 ∧ SqOk K mg ρ H b2 a2 ys s2 ∧ srcOk s1 h = true ∧ srcOk s2 h = true ∧ items = f xs ys ∧ src = s1 ++ s2 := by
  unfold twoM at e
  split at e
  · rename_i da db
    cases rp with
    | cons r t =>
      cases t with
      | cons r' t' =>
        cases t'
        cases e1 : seqP h da with
        | none => rw [e1] at e; cases e
        | some p =>
          cases e2 : seqP h db with
          | none => rw [e1, e2] at e; cases e
          | some q =>
            rw [e1, e2] at e
            cases e
            obtain ⟨b1, a1, rfl, o1, s1⟩ := seqP_ok hr r (fun a ha => n a (by simp [ha])) (items := p.1) (src := p.2) e1
            obtain ⟨b2, a2, rfl, o2, s2⟩ := seqP_ok hr r' (fun a ha => n a (by simp [ha])) (items := q.1) (src := q.2) e2
            exact ⟨b1, b2, a1, a2, p.1, q.1, p.2, q.2, rfl, o1, o2, s1, s2, rfl, rfl⟩
  · cases e
theorem ji_zip2 (hm : X.mg "zip" = none) (ha : JA X Wx [a, b] ma) (hg : Gl X "zip" := by rfl) (hs : starEach [a, b] X.env = (false, eval a X.env) :: starEach [b] X.env := by rfl) (hpl : (backTo pos (starEach [b] X.env)).any (·.1) = false := by rfl) : JI X Wx (.Tuple elts kk tpos) (.Call (.Name "zip" p) [a, b] [] pos) (iS zip2M ma) := by
  refine PI.mono (pi_Z2 hg hm ha hs hpl) fun σ H R ⟨ρ, env, h, hr, er, q⟩ => ⟨ρ, env, h, hr, er, ?_⟩
  unfold iS at q
  cases ea : ma env h with
  | exc e h1 => rw [ea] at q; exact q
  | stuck => rw [ea] at q; exact q
  | ok ds h1 =>
    rw [ea] at q
    simp only at q
    intro vs ρ1 H1 S f
    cases er1 : zip2M h1 ds with
    | none => rw [er1] at q; exact q.elim
    | some r =>
      rw [er1] at q
      obtain ⟨items, src⟩ := r
      obtain ⟨b1, b2, a1, a2, xs, ys, s1, s2, e1, o1, o2, n1, n2, rfl, rfl⟩ := two_of (f := zipD) f.hr f.rp f.owns er1
      obtain ⟨vs1, q1⟩ := o1.now f.hr n1
      obtain ⟨vs2, q2⟩ := o2.now f.hr n2
      exact ⟨b1, b2, a1, a2, vs1, vs2, e1, q1, q2, q _ ρ1 H1 f.hr f.st (itOk_Z o1 o2)⟩
theorem ji_enum (hm : X.mg "enumerate" = none) (ha : JA X Wx [a] ma) (hg : Gl X "enumerate" := by rfl) (hs : starEach [a] X.env = [(false, eval a X.env)] := by rfl) : JI X Wx (.Tuple elts kk tpos) (.Call (.Name "enumerate" p) [a] [] pos) (iS enumM ma) := by
  refine PI.mono (pi_E hg hm ha hs) fun σ H R ⟨ρ, env, h, hr, er, q⟩ => ⟨ρ, env, h, hr, er, ?_⟩
  unfold iS at q
  cases ea : ma env h with
  | exc e h1 => rw [ea] at q; exact q
  | stuck => rw [ea] at q; exact q
  | ok ds h1 =>
    rw [ea] at q
    simp only at q
    intro vs ρ1 H1 S f
    cases er1 : enumM h1 ds with
    | none => rw [er1] at q; exact q.elim
    | some r =>
      rw [er1] at q
      unfold enumM at er1
      split at er1
      · rename_i da
        have rp := f.rp
        cases rp with
        | cons r t =>
          cases t
          cases e1 : seqP h1 da with
          | none => rw [e1] at er1; cases er1
          | some p =>
            rw [e1] at er1
            cases er1
            obtain ⟨b1, a1, e2, o1, n1⟩ := seqP_ok f.hr r (fun a ha => f.owns a (by simp [ha])) (items := p.1) (src := p.2) e1
            subst e2
            obtain ⟨vs1, q1⟩ := o1.now f.hr n1
            exact ⟨b1, a1, vs1, rfl, q1, q _ ρ1 H1 f.hr f.st (itOk_E o1)⟩
      · cases er1
theorem ji_enumZip (hm : X.mg "enumerate" = none) (hm2 : X.mg "zip" = none) (ha : JA X Wx [a, b] ma) (hg : Gl X "enumerate" := by rfl) (hg2 : Gl X "zip" := by rfl)
    (hs : starEach [Expr.Call (.Name "zip" p2) [a, b] [] pos2] X.env = [(false, eval (.Call (.Name "zip" p2) [a, b] [] pos2) X.env)] := by rfl) (hs2 : starEach [a, b] X.env = (false, eval a X.env) :: starEach [b] X.env := by rfl) (hpl : (backTo pos2 (starEach [b] X.env)).any (·.1) = false := by rfl) :
    JI X Wx (.Tuple elts kk tpos) (.Call (.Name "enumerate" p) [.Call (.Name "zip" p2) [a, b] [] pos2] [] pos) (iS enumZM ma) := by
  refine PI.mono (pi_EZ hg hm hg2 hm2 ha hs hs2 hpl) fun σ H R ⟨ρ, env, h, hr, er, q⟩ => ⟨ρ, env, h, hr, er, ?_⟩
  unfold iS at q
  cases ea : ma env h with
  | exc e h1 => rw [ea] at q; exact q
  | stuck => rw [ea] at q; exact q
  | ok ds h1 =>
    rw [ea] at q
    simp only at q
    intro vs ρ1 H1 S f
    cases er1 : enumZM h1 ds with
    | none => rw [er1] at q; exact q.elim
    | some r =>
      rw [er1] at q
      obtain ⟨items, src⟩ := r
      obtain ⟨b1, b2, a1, a2, xs, ys, s1, s2, e1, o1, o2, n1, n2, rfl, rfl⟩ := two_of (f := fun xs ys => enumFrom 0 (zipD xs ys)) f.hr f.rp f.owns er1
      obtain ⟨vs1, q1⟩ := o1.now f.hr n1
      obtain ⟨vs2, q2⟩ := o2.now f.hr n2
      exact ⟨b1, b2, a1, a2, vs1, vs2, e1, q1, q2, q _ ρ1 H1 f.hr f.st (itOk_EZ o1 o2)⟩
end
end Tw

/-! TwMeth: methods, stored items, op=, isinstance, raise. -/
namespace Tw
open PySem PySem.Spec PyProof.Rows L2

section
variable {K : PySem.W.Frag} {mg : Str → Option Value} {ρ : List Addr} {H : Hp} {h : Hd}
theorem Step.upd {a : Addr} {o : HO} (m : a ∈ ρ) : Step [] ρ H ρ (L2.upd H a o) := ⟨List.prefix_refl _, fun _ m n => absurd m n, fun b o' e n _ => by rw [upd_ne (fun z => n (by rw [z]; exact m))]; exact e⟩
/-- a cell is written -/
theorem HRel.write (r : HRel K mg ρ H h) {n : Nat} {a : Addr} {xs ys : List D} {vs : List V} (ha : ρ[n]? = some a) (hc : h[n]? = some (.lst ys)) (t : RepL K mg ρ H xs vs []) : HRel K mg ρ (upd H a (.lst vs)) (h.set n (.lst xs)) := by
  have m : a ∈ ρ := List.mem_of_getElem? ha
  have st : Step [] ρ H ρ (L2.upd H a (.lst vs)) := Step.upd m
  refine ⟨by rw [List.length_set]; exact r.len, r.nd, fun i c b e1 e2 => ?_⟩
  by_cases hin : i = n
  · subst hin
    rw [ha] at e2
    cases e2
    have hl : i < h.length := (List.getElem?_eq_some_iff.mp hc).1
    rw [List.getElem?_set_self hl] at e1
    cases e1
    exact ⟨vs, upd_same, t.to st (fun _ z => nomatch z) fun _ z => nomatch z⟩
  · rw [List.getElem?_set_ne (Ne.symm hin)] at e1
    have q := r.cell i c b e1 e2
    have nb : b ≠ a := fun z => by
      subst z
      have h1 := (List.getElem?_eq_some_iff.mp e2)
      have h2 := (List.getElem?_eq_some_iff.mp ha)
      obtain ⟨l1, g1⟩ := h1
      obtain ⟨l2, g2⟩ := h2
      exact hin ((List.getElem_inj r.nd).mp (g1.trans g2.symm))
    cases c with
    | lst zs =>
      obtain ⟨ws, e, u⟩ := q
      exact ⟨ws, by rw [upd_ne nb]; exact e, u.to st (fun _ z => nomatch z) fun _ z => nomatch z⟩
    | dct _ _ => exact q.elim
    | ins _ _ _ => exact q.elim
end

/-! ### methods -/
def tyD (T : String) (h : Hd) : D → Bool
  | .str _ => T == "str"
  | .ref n => match h[n]? with
    | some (.lst _) => T == "list"
    | _ => false
  | .lst _ => T == "list"
  | .rol _ => T == "list"
  | _ => false
def liftM : Option (D × Hd) → R D
  | some (d, h) => .ok d h
  | none => .stuck
def eBM (T : String) (f : D → List D → Hd → Option (D × Hd)) (mo : ME) (as : MA) : ME := fun env h => (mo env h).bind fun x h1 => if tyD T h1 x = true then (as env h1).bind fun ds h2 => liftM (f x ds h2) else .stuck
def eBM0 (T : String) (f : D → List D → Hd → Option (D × Hd)) (mo : ME) : ME := fun env h => (mo env h).bind fun x h1 => if tyD T h1 x = true then liftM (f x [] h1) else .stuck
def OpM (K : PySem.W.Frag) (mg : Str → Option Value) (f : D → List D → Hd → Option (D × Hd)) (r : V → List V → Hp → VK → Prop) : Prop :=
  ∀ x ds h d h', f x ds h = some (d, h') → ∀ ρ H v vs S T Q, HRel K mg ρ H h → Rep K mg ρ H x v S → RepL K mg ρ H ds vs T → (S ++ T).Nodup → (∀ a ∈ S ++ T, a ∉ ρ) →
    (∀ v' ρ' H' S', Tw.Fin K mg (S ++ T) ρ H d h' v' ρ' H' S' → Q v' H') → r v vs H Q
section
variable {K : PySem.W.Frag} {mg : Str → Option Value} {ρ : List Addr} {H : Hp} {h : Hd}
theorem tyD_v (hr : HRel K mg ρ H h) {T : String} {d : D} {v : V} {S : List Addr} (r : Rep K mg ρ H d v S) (e : tyD T h d = true) : tyV K T v H := by
  cases r with
  | str s => exact eq_of_beq e
  | lst ha t => exact .inl ⟨eq_of_beq e, _, SqL.of ha⟩
  | rol ha t => exact .inl ⟨eq_of_beq e, _, ha.sq⟩
  | ref ha =>
    rename_i n a
    simp only [tyD] at e
    split at e
    · rename_i xs hx
      obtain ⟨vs, hv, _⟩ := hr.cell n _ _ hx ha
      exact .inl ⟨eq_of_beq e, _, SqL.of hv⟩
    · cases e
  | _ => cases e
end
section
variable {X : Cx} {Wx : WX} {o e : Expr} {es : List Expr} {mo : ME} {mas : MA} {name : Str} {apos cpos : Pos} {T id : String} {f : D → List D → Hd → Option (D × Hd)} {r : V → List V → Hp → VK → Prop}
theorem tE_BM {K mg} {σ : L2.St} {H : Hp} {Q : VK} (ho : OpM K mg f r) (q : tE K mg Wx (eBM T f mo mas) σ H Q) : tE K mg Wx mo σ H fun x H1 => tyV K T x H1 ∧ tA K mg Wx mas σ H1 fun xs H2 => r x xs H2 Q := by
  obtain ⟨ρ, env, h, hr, er, q⟩ := q
  refine ⟨ρ, env, h, hr, er, ?_⟩
  unfold eBM at q
  cases ea : mo env h with
  | ok x h1 =>
    rw [ea] at q
    simp only [R.bind_ok] at q
    intro v1 ρ1 H1 S1 f1
    split at q
    · rename_i ht
      refine ⟨tyD_v f1.hr f1.rp ht, ρ1, env, h1, f1.hr, er.to f1.st, ?_⟩
      cases eb : mas env h1 with
      | ok ys h2 =>
        rw [eb] at q
        simp only [R.bind_ok] at q
        intro v2 ρ2 H2 S2 f2
        obtain ⟨r1, nd, na⟩ := f1.twoL f2
        cases eo : f x ys h2 with
        | none => rw [eo] at q; exact q.elim
        | some p =>
          obtain ⟨d, h3⟩ := p
          rw [eo] at q
          refine ho x ys h2 d h3 eo ρ2 H2 v1 v2 S1 S2 Q f2.hr r1 f2.rp nd na fun v' ρ' H' S' g => ?_
          refine q v' ρ' H' S' (g.later (f1.st.trans f2.st) f2.hr (fun a ha => ⟨?_, na a ha⟩) fun a e => hr.notin e)
          rcases List.mem_append.mp ha with z | z
          · exact f1.isnew a z
          · exact none_back f1.st f1.hr (f2.isnew a z)
      | exc e h2 => rw [eb] at q; exact XEnd.later f1.st (fun _ z => nomatch z) q
      | stuck => rw [eb] at q; exact q
    · exact q.elim
  | exc e h1 => rw [ea] at q; exact q
  | stuck => rw [ea] at q; exact q
theorem tE_BM0 {K mg} {σ : L2.St} {H : Hp} {Q : VK} (ho : OpM K mg f r) (q : tE K mg Wx (eBM0 T f mo) σ H Q) : tE K mg Wx mo σ H fun x H1 => tyV K T x H1 ∧ r x [] H1 Q := by
  obtain ⟨ρ, env, h, hr, er, q⟩ := q
  refine ⟨ρ, env, h, hr, er, ?_⟩
  unfold eBM0 at q
  cases ea : mo env h with
  | ok x h1 =>
    rw [ea] at q
    simp only [R.bind_ok] at q
    intro v1 ρ1 H1 S1 f1
    split at q
    · rename_i ht
      refine ⟨tyD_v f1.hr f1.rp ht, ?_⟩
      cases eo : f x [] h1 with
      | none => rw [eo] at q; exact q.elim
      | some p =>
        obtain ⟨d, h3⟩ := p
        rw [eo] at q
        refine ho x [] h1 d h3 eo ρ1 H1 v1 [] S1 [] Q f1.hr f1.rp .nil (by simpa using f1.nd) (by simpa using f1.owns) fun v' ρ' H' S' g => ?_
        exact q v' ρ' H' S' (g.later f1.st f1.hr (fun a ha => ⟨f1.isnew a (by simpa using ha), f1.owns a (by simpa using ha)⟩) fun a e => hr.notin e)
    · exact q.elim
  | exc e h1 => rw [ea] at q; exact q
  | stuck => rw [ea] at q; exact q
theorem je_bm (pa : PlainAttrs T) (slot : Slot T name id) (hty : typeOf (.builtin id) = pure (.type "method_descriptor")) (hm : MtR X id r) (hf : OpM X.K X.mg f r) (ho : JE X Wx o mo) (ha : JA X Wx (e :: es) mas)
    (hbase : attributeBase o name X.env (eval o X.env) = eval o X.env := by rfl)
    (hfew : ((backTo cpos (starEach (e :: es) X.env)).all (fun x => !x.1) && (backToKw cpos (keywordEach [] X.env)).all (fun x => x.1.isSome)
      && decide ((e :: es).length + ([] : List Keyword).length + (if ([] : List Keyword).isEmpty then 0 else 1) < 30)) = true := by rfl)
    (hline : (apos.endLine == cpos.line) = true := by rfl) (hs : starEach (e :: es) X.env = (false, eval e X.env) :: starEach es X.env := by rfl) (hplain : (backTo cpos (starEach es X.env)).any (·.1) = false := by rfl) :
    JE X Wx (.Call (.Attribute o name apos) (e :: es) [] cpos) (eBM T f mo mas) :=
  PE.mono (pe_bm pa slot hty hm ho ha hbase hfew hline hs hplain) fun _ _ _ q => tE_BM hf q
theorem je_bm0 (pa : PlainAttrs T) (slot : Slot T name id) (hty : typeOf (.builtin id) = pure (.type "method_descriptor")) (hm : MtR X id r) (hf : OpM X.K X.mg f r) (ho : JE X Wx o mo)
    (hbase : attributeBase o name X.env (eval o X.env) = eval o X.env := by rfl) (hline : (apos.endLine == cpos.line) = true := by rfl) : JE X Wx (.Call (.Attribute o name apos) [] [] cpos) (eBM0 T f mo) :=
  PE.mono (pe_bm0 pa slot hty hm ho hbase hline) fun _ _ _ q => tE_BM0 hf q
end
/-- x.append(y) -/
def mAppend : D → List D → Hd → Option (D × Hd)
  | .ref n, [y], h => match (box y h).2[n]? with
    | some (.lst xs) => if xs.length < sizeLine then some (.non, (box y h).2.set n (.lst (xs ++ [(box y h).1]))) else none
    | _ => none
  | _, _, _ => none
/-- x.extend(y), y a list -/
def mExtend : D → List D → Hd → Option (D × Hd)
  | .ref n, [.lst ys], h => match h[n]? with
    | some (.lst xs) => if setL ys = true ∧ xs.length + ys.length ≤ sizeLine then some (.non, h.set n (.lst (xs ++ ys))) else none
    | _ => none
  | .ref n, [.ref m], h => match h[n]?, h[m]? with
    | some (.lst xs), some (.lst ys) => if xs.length + ys.length ≤ sizeLine then some (.non, h.set n (.lst (xs ++ ys))) else none
    | _, _ => none
  | _, _, _ => none
def popIx (n : Nat) : List D → Option Nat
  | [] => if 0 < n then some (n - 1) else none
  | [.int i] => if -(2 ^ 63) ≤ i ∧ i < 2 ^ 63 then seqIndex? i n else none
  | _ => none
/-- x.pop(), x.pop(i) -/
def mPop : D → List D → Hd → Option (D × Hd)
  | .ref n, as, h => match h[n]? with
    | some (.lst xs) => match popIx xs.length as with
      | some k => match xs[k]? with
        | some y => some (y, h.set n (.lst (xs.eraseIdx k)))
        | none => none
      | none => none
    | _ => none
  | _, _, _ => none
def mReverse : D → List D → Hd → Option (D × Hd)
  | .ref n, [], h => match h[n]? with
    | some (.lst xs) => some (.non, h.set n (.lst xs.reverse))
    | _ => none
  | _, _, _ => none
section
variable {K : PySem.W.Frag} {mg : Str → Option Value} {ρ : List Addr} {H : Hp} {h : Hd}
theorem Fin.cell {S : List Addr} {n : Nat} {a : Addr} {xs ys : List D} {vs : List V} {d : D} {v : V} {ρ' : List Addr} {h' : Hd} (st : Step S ρ H ρ' H) (hr : HRel K mg ρ' H h') (ha : ρ'[n]? = some a) (hc : h'[n]? = some (.lst ys)) (t : RepL K mg ρ' H xs vs []) (rv : Rep K mg ρ' H d v []) : Tw.Fin K mg S ρ H d (h'.set n (.lst xs)) v ρ' (upd H a (.lst vs)) [] :=
  have m : a ∈ ρ' := List.mem_of_getElem? ha
  have st2 : Step [] ρ' H ρ' (L2.upd H a (.lst vs)) := Step.upd m
  ⟨hr.write ha hc t, st.trans st2, rv.to st2 (fun _ z => nomatch z) (fun _ z => nomatch z), List.nodup_nil, (fun _ z => nomatch z)⟩
theorem om_append : OpM K mg mAppend rAppend := by
  intro x ds h d h' e ρ H v vs S T Q hr r rs nd na q
  unfold mAppend at e
  split at e
  · rename_i n y
    cases r with
    | ref ha =>
      rename_i a
      cases rs with
      | cons ry t =>
        rename_i vy vt S1 S2
        cases t
        simp only [List.append_nil, List.nil_append] at nd na q
        obtain ⟨b, rb⟩ := box_ok hr ry nd na
        split at e
        · rename_i xs hx
          split at e
          · rename_i hz
            cases e
            have ha' : (ρ ++ S1)[n]? = some a := pre_get (List.prefix_append _ _) ha
            obtain ⟨ws, hw, t⟩ := b.rel.cell n _ _ hx ha'
            refine ⟨a, ws, vy, rfl, rfl, hw, by rw [← t.length]; exact hz, ?_⟩
            exact q .non _ _ [] (Fin.cell (Step.boxed ρ H S1) b.rel ha' hx (t.snoc rb) .non)
          · cases e
        · cases e
  · cases e
theorem om_extend : OpM K mg mExtend rExtend := by
  intro x ds h d h' e ρ H v vs S T Q hr r rs nd na q
  unfold mExtend at e
  split at e
  · rename_i n ys
    cases r with
    | ref ha =>
      rename_i a
      cases rs with
      | cons ry t =>
        cases t
        cases ry with
        | lst hb u =>
          rename_i b zs S0
          simp only [List.append_nil, List.nil_append] at nd na q
          split at e
          · rename_i xs hx
            split at e
            · rename_i hz
              cases e
              cases (u.set_nil hz.1)
              obtain ⟨ws, hw, t⟩ := hr.cell n _ _ hx ha
              refine ⟨a, b, ws, zs, rfl, rfl, hw, hb, by rw [← t.length, ← u.length]; exact hz.2, ?_⟩
              exact q .non _ _ [] (Fin.cell Step.refl hr ha hx (t.append u) .non)
            · cases e
          · cases e
  · rename_i n m
    cases r with
    | ref ha =>
      rename_i a
      cases rs with
      | cons ry t =>
        cases t
        cases ry with
        | ref hb =>
          rename_i b
          split at e
          · rename_i xs ys hx hy
            split at e
            · rename_i hz
              cases e
              obtain ⟨ws, hw, t⟩ := hr.cell n _ _ hx ha
              obtain ⟨zs, hz', u⟩ := hr.cell m _ _ hy hb
              refine ⟨a, b, ws, zs, rfl, rfl, hw, hz', by rw [← t.length, ← u.length]; exact hz, ?_⟩
              exact q .non _ _ [] (Fin.cell Step.refl hr ha hx (t.append u) .non)
            · cases e
          · cases e
  · cases e
theorem RepL.rev : ∀ {xs : List D} {vs : List V}, RepL K mg ρ H xs vs [] → RepL K mg ρ H xs.reverse vs.reverse []
  | [], vs, t => by cases t; exact .nil
  | x :: xs, vs, t => by
    obtain ⟨v, ws, rfl, r, u⟩ := t.split
    rw [List.reverse_cons, List.reverse_cons]
    exact (RepL.rev u).snoc r
theorem om_reverse : OpM K mg mReverse rReverse := by
  intro x ds h d h' e ρ H v vs S T Q hr r rs nd na q
  unfold mReverse at e
  split at e
  · rename_i n
    cases r with
    | ref ha =>
      rename_i a
      cases rs
      split at e
      · rename_i xs hx
        cases e
        obtain ⟨ws, hw, t⟩ := hr.cell n _ _ hx ha
        exact ⟨a, ws, rfl, rfl, hw, q .non _ _ [] (Fin.cell Step.refl hr ha hx t.rev .non)⟩
      · cases e
  · cases e
end
section
variable {X : Cx} {Wx : WX} {o e : Expr} {mo : ME} {mas : MA} {apos cpos : Pos} {k : Nat}
theorem je_append (ho : JE X Wx o mo) (ha : JA X Wx [e] mas) (hbase : attributeBase o (Str.ofString "append") X.env (eval o X.env) = eval o X.env := by rfl)
    (hfew : ((backTo cpos (starEach [e] X.env)).all (fun x => !x.1) && (backToKw cpos (keywordEach [] X.env)).all (fun x => x.1.isSome) && decide ([e].length + ([] : List Keyword).length + (if ([] : List Keyword).isEmpty then 0 else 1) < 30)) = true := by rfl)
    (hline : (apos.endLine == cpos.line) = true := by rfl) (hs : starEach [e] X.env = (false, eval e X.env) :: starEach [] X.env := by rfl) (hplain : (backTo cpos (starEach [] X.env)).any (·.1) = false := by rfl) : JE X Wx (.Call (.Attribute o "append" apos) [e] [] cpos) (eBM "list" mAppend mo mas) :=
  je_bm PySem.F.plainAttrs_list PySem.F.slot_list_append PySem.F.type_list_append mt_append om_append ho ha hbase hfew hline hs hplain
theorem je_extend (ho : JE X Wx o mo) (ha : JA X Wx [e] mas) (hbase : attributeBase o (Str.ofString "extend") X.env (eval o X.env) = eval o X.env := by rfl)
    (hfew : ((backTo cpos (starEach [e] X.env)).all (fun x => !x.1) && (backToKw cpos (keywordEach [] X.env)).all (fun x => x.1.isSome) && decide ([e].length + ([] : List Keyword).length + (if ([] : List Keyword).isEmpty then 0 else 1) < 30)) = true := by rfl)
    (hline : (apos.endLine == cpos.line) = true := by rfl) (hs : starEach [e] X.env = (false, eval e X.env) :: starEach [] X.env := by rfl) (hplain : (backTo cpos (starEach [] X.env)).any (·.1) = false := by rfl) : JE X Wx (.Call (.Attribute o "extend" apos) [e] [] cpos) (eBM "list" mExtend mo mas) :=
  je_bm PySem.F.plainAttrs_list PySem.F.slot_list_extend PySem.F.type_list_extend mt_extend om_extend ho ha hbase hfew hline hs hplain
theorem je_reverse (ho : JE X Wx o mo) (hbase : attributeBase o (Str.ofString "reverse") X.env (eval o X.env) = eval o X.env := by rfl) (hline : (apos.endLine == cpos.line) = true := by rfl) : JE X Wx (.Call (.Attribute o "reverse" apos) [] [] cpos) (eBM0 "list" mReverse mo) :=
  je_bm0 PySem.F.plainAttrs_list PySem.F.slot_list_reverse PySem.F.type_list_reverse mt_reverse om_reverse ho hbase hline
end
end Tw

/-! TwMore: stored items, op=, parallel assignment, isinstance, index, times, sorted. -/
namespace Tw
open PySem PySem.Spec PyProof.Rows L2

/-! ### o[i] = e -/
def setIx (o i : D) (d : D) (h : Hd) : Option Hd := match o, i with
  | .ref n, .int k => match h[n]? with
    | some (.lst xs) => match ixN xs.length k with
      | some j => some (h.set n (.lst (xs.set j d)))
      | none => none
    | _ => none
  | _, _ => none
def sSetIx (me mo mi : ME) : MS := fun env h => RS.of env (me env h) fun d h1 => RS.of env (mo env (box d h1).2) fun o h2 => RS.of env (mi env h2) fun i h3 => match setIx o i (box d h1).1 h3 with
  | some h4 => .nx env h4
  | none => .stuck
section
variable {K : PySem.W.Frag} {mg : Str → Option Value} {ρ : List Addr} {H : Hp} {h : Hd}
theorem RepL.setAt : ∀ {xs : List D} {vs : List V} {d : D} {v : V} (j : Nat), RepL K mg ρ H xs vs [] → Rep K mg ρ H d v [] → RepL K mg ρ H (xs.set j d) (vs.set j v) []
  | [], vs, d, v, j, t, r => by cases t; exact .nil
  | x :: xs, vs, d, v, 0, t, r => by
    obtain ⟨w, ws, rfl, _, u⟩ := t.split
    exact .cons (S := []) (T := []) r u
  | x :: xs, vs, d, v, j + 1, t, r => by
    obtain ⟨w, ws, rfl, s, u⟩ := t.split
    exact .cons (S := []) (T := []) s (RepL.setAt j u r)
end
section
variable {X : Cx} {Wx : WX} {e o i : Expr} {me mo mi : ME} {pos tpos : Pos}
theorem js_setIx (he : JE X Wx e me) (ho : JE X Wx o mo) (hi : JE X Wx i mi)
    (ha : ∀ v, assign (.Subscript o i tpos) X.env v = (do
      let ov ← holding [v] (eval o X.env)
      let iv ← holding [v, ov] (eval i X.env)
      standAt tpos
      holding [v, ov, iv] (setItem ov iv v)
      release [v, ov, iv] []) := by intro _; rfl)
    (hs : swapsWithSole [.Subscript o i tpos] e pos.line X.env = pure false := by rfl) (hw : swappedStores [.Subscript o i tpos] e X.env = pure none := by rfl)
    (h1 : (assignEach [.Subscript o i tpos] X.env).map (·.2) = [assign (.Subscript o i tpos) X.env] := by rfl) : JS X Wx (.Assign [.Subscript o i tpos] e pos) (sSetIx me mo mi) := by
  refine PS.mono (ps_asg he (pg_sub ho hi set_list ha) hs hw h1) fun D σ H ⟨ρ, env, h, hr, er, q⟩ => ⟨ρ, env, h, hr, er, ?_⟩
  unfold sSetIx at q
  cases ea : me env h with
  | exc e h1 => rw [ea] at q; exact fun cls dd ρ' H' a b c => q cls dd σ ρ' H' a (er.to b) b c
  | stuck => rw [ea] at q; exact q
  | ok d h1 =>
    rw [ea] at q
    simp only [RS.of_ok] at q
    intro v ρ1 H1 S f
    obtain ⟨b, rb⟩ := box_ok f.hr f.rp f.nd f.owns
    have er1 := (er.to f.st).boxed (S := S) f.rp.owned
    have st1 : Step [] ρ H (ρ1 ++ S) H1 := f.st.transT (Step.boxed ρ1 H1 S) fun x hx => ⟨f.isnew x hx, f.owns x hx⟩
    refine ⟨ρ1 ++ S, env, (box d h1).2, b.rel, er1, ?_⟩
    cases eb : mo env (box d h1).2 with
    | exc e h2 => rw [eb] at q; exact fun cls dd ρ' H' a b' c => q cls dd σ ρ' H' a (er1.to b') (st1.trans b') c
    | stuck => rw [eb] at q; exact q
    | ok ov h2 =>
      rw [eb] at q
      simp only [RS.of_ok] at q
      intro v2 ρ2 H2 S2 f2
      refine ⟨ρ2, env, h2, f2.hr, er1.to f2.st, ?_⟩
      cases ec : mi env h2 with
      | exc e h3 => rw [ec] at q; exact fun cls dd ρ' H' a b' c => q cls dd σ ρ' H' a ((er1.to f2.st).to b') ((st1.trans f2.st).trans b') c
      | stuck => rw [ec] at q; exact q
      | ok iv h3 =>
        rw [ec] at q
        simp only [RS.of_ok] at q
        intro v3 ρ3 H3 S3 f3
        cases es : setIx ov iv (box d h1).1 h3 with
        | none => rw [es] at q; exact q.elim
        | some h4 =>
          rw [es] at q
          unfold setIx at es
          split at es
          · rename_i n k
            split at es
            · rename_i xs hx
              split at es
              · rename_i j hj
                cases es
                have rp2 := f2.rp
                cases rp2 with
                | ref ha2 =>
                  rename_i a
                  obtain ⟨rfl, _⟩ := f3.rp.int_inv
                  have ha3 : ρ3[n]? = some a := pre_get f3.st.pre ha2
                  obtain ⟨ws, hw3, t⟩ := f3.hr.cell n _ _ hx ha3
                  have rb3 := (rb.to f2.st (fun _ z => nomatch z) fun _ z => nomatch z).to f3.st (fun _ z => nomatch z) fun _ z => nomatch z
                  refine ⟨a, ws, k, j, rfl, rfl, hw3, by rw [← t.length]; exact hj, ?_⟩
                  have m : a ∈ ρ3 := List.mem_of_getElem? ha3
                  have st4 : Step [] ρ3 H3 ρ3 (L2.upd H3 a (.lst (ws.set j v))) := Step.upd m
                  exact q σ ρ3 _ (f3.hr.write ha3 hx (t.setAt j rb3)) (((er1.to f2.st).to f3.st).to st4) (((st1.trans f2.st).trans f3.st).trans st4)
              · cases es
            · cases es
          · cases es
end
/-! ### name op= e -/
def sAug (i : Nat) (f : D → D → Hd → Option D) (me : ME) : MS := fun env h => match env[i]? with
  | some (some x) => RS.of env (me env h) fun y h1 => match f x y h1 with
    | some z => if z.set = true then .nx (env.set i (some z)) h1 else .stuck
    | none => .stuck
  | _ => .stuck
def dIAdd (x y : D) (_ : Hd) : Option D := match x, y with
  | .int i, .int j => some (.int (i + j))
  | .str i, .str j => if i.length + j.length ≤ sizeLine then some (.str (i ++ j)) else none
  | _, _ => none
def dISub (x y : D) (_ : Hd) : Option D := match x, y with
  | .int i, .int j => some (.int (i - j))
  | _, _ => none
section
variable {X : Cx} {Wx : WX} {e : Expr} {me : ME} {pos p : Pos} {i : Nat} {x : Str} {op : Operator} {f : D → D → Hd → Option D} {r : R2}
theorem js_aug (hN : X.N.Nodup) (hp : PIp X op r) (hf : Op2 X.K X.mg f r) (he : JE X Wx e me) (hi : X.N[i]? = some x := by rfl) (hx : Loc X.env.scope x := by first | exact Or.inl rfl | exact Or.inr rfl) (hfn : X.fn x = true ∨ X.env.scope.names.lookup x = some .local := by first | exact .inl rfl | exact .inr rfl | assumption) :
    JS X Wx (.AugAssign (.Name x p) op e pos) (sAug i f me) := by
  refine PS.mono (ps_aug hN hi hx he hp hfn) fun D σ H ⟨ρ, env, h, hr, er, q⟩ => ?_
  unfold sAug at q
  split at q
  · rename_i x0 hx0
    obtain ⟨v0, hv0, r0⟩ := er.2 i x0 hx0
    refine ⟨v0, hv0, ρ, env, h, hr, er, ?_⟩
    cases ea : me env h with
    | exc e h1 => rw [ea] at q; exact fun cls dd ρ' H' a b c => q cls dd σ ρ' H' a (er.to b) b c
    | stuck => rw [ea] at q; exact q
    | ok d h1 =>
      rw [ea] at q
      simp only [RS.of_ok] at q
      intro v ρ1 H1 S fn
      cases eo : f x0 d h1 with
      | none => rw [eo] at q; exact q.elim
      | some z =>
        rw [eo] at q
        simp only at q
        split at q
        · rename_i hz
          have r01 := r0.to fn.st (fun _ z => nomatch z) fun _ z => nomatch z
          refine hf x0 d h1 z eo ρ1 H1 v0 v [] S _ fn.hr r01 fn.rp (by simpa using fn.nd) (by simpa using fn.owns) fun w H' S' sm rp nd fr => ?_
          have e0 := rp.set_nil hz
          subst e0
          have st2 : Step [] ρ1 H1 ρ1 H' := Step.same sm
          have er2 := (er.to fn.st).to st2
          refine q _ ρ1 H' (fn.hr.kept sm) ⟨by rw [List.length_set, List.length_set]; exact er2.1, fun m d' e' => ?_⟩ (fn.st.trans st2)
          by_cases hm : m = i
          · subst hm
            have hl : m < env.length := (List.getElem?_eq_some_iff.mp hx0).1
            rw [List.getElem?_set_self hl] at e'
            cases e'
            exact ⟨w, by rw [List.getElem?_set_self (by rw [← er2.1]; exact hl)], rp⟩
          · rw [List.getElem?_set_ne (Ne.symm hm)] at e'
            obtain ⟨v', e1, e2⟩ := er2.2 m d' e'
            exact ⟨v', by rw [List.getElem?_set_ne (Ne.symm hm)]; exact e1, e2⟩
        · exact q.elim
  · exact q.elim
end

section
variable {K : PySem.W.Frag} {mg : Str → Option Value}
def rIAdd : R2 := fun x y H Q => rI0 (fun i j => .int (i + j)) x y H Q ∨ ∃ i j, x = .str i ∧ y = .str j ∧ i.length + j.length ≤ sizeLine ∧ Q (.str (i ++ j)) H
theorem op2_iadd : Op2 K mg dIAdd rIAdd := by
  intro x y h d e ρ H vx vy S1 S2 Q hr r1 r2 nd na q
  unfold dIAdd at e
  split at e
  · cases e
    obtain ⟨rfl, rfl⟩ := r1.int_inv
    obtain ⟨rfl, rfl⟩ := r2.int_inv
    exact .inl ⟨_, _, rfl, rfl, q0 q (.int _)⟩
  · split at e
    · rename_i z
      cases e
      cases r1
      cases r2
      exact .inr ⟨_, _, rfl, rfl, z, q0 q (.str _)⟩
    · cases e
  · cases e
theorem op2_isub : Op2 K mg dISub (rI0 fun i j => .int (i - j)) := by
  intro x y h d e ρ H vx vy S1 S2 Q hr r1 r2 nd na q
  unfold dISub at e
  split at e
  · cases e
    obtain ⟨rfl, rfl⟩ := r1.int_inv
    obtain ⟨rfl, rfl⟩ := r2.int_inv
    exact ⟨_, _, rfl, rfl, q0 q (.int _)⟩
  · cases e
end
section
variable {X : Cx} {Wx : WX} {e : Expr} {me : ME} {pos p : Pos} {i : Nat} {x : Str}
theorem js_iadd (hN : X.N.Nodup) (he : JE X Wx e me) (hi : X.N[i]? = some x := by rfl) (hx : Loc X.env.scope x := by first | exact Or.inl rfl | exact Or.inr rfl) (hfn : X.fn x = true ∨ X.env.scope.names.lookup x = some .local := by first | exact .inl rfl | exact .inr rfl | assumption) :
    JS X Wx (.AugAssign (.Name x p) .Add e pos) (sAug i dIAdd me) := js_aug hN (OpR.or iop_add iop_add_str) op2_iadd he hi hx hfn
theorem js_isub (hN : X.N.Nodup) (he : JE X Wx e me) (hi : X.N[i]? = some x := by rfl) (hx : Loc X.env.scope x := by first | exact Or.inl rfl | exact Or.inr rfl) (hfn : X.fn x = true ∨ X.env.scope.names.lookup x = some .local := by first | exact .inl rfl | exact .inr rfl | assumption) :
    JS X Wx (.AugAssign (.Name x p) .Sub e pos) (sAug i dISub me) := js_aug hN iop_sub op2_isub he hi hx hfn
end
section
variable {K : PySem.W.Frag} {mg : Str → Option Value}
def rIMul : R2 := rI CMul fun i j => .int (i * j)
def dIMul' (x y : D) (_ : Hd) : Option D := match x, y with
  | .int i, .int j => if decide (-(2 ^ 64) < i) && decide (i < 2 ^ 64) && decide (-(2 ^ 64) < j) && decide (j < 2 ^ 64) then some (.int (i * j)) else none
  | _, _ => none
end
/-! ### a, b = x, y -/
section
variable {K : PySem.W.Frag} {mg : Str → Option Value} {ρ : List Addr} {H : Hp}
theorem prel_names : ∀ {is : List Nat} {ds : List D} {vs : List V} {h : Hd} {ps}, RepL K mg ρ H ds vs [] → gAll (is.map gNm) ds h = some ps → PRel K mg ρ H ps (is.zip vs) ∧ is.length = vs.length
  | [], ds, vs, h, ps, t, e => by
    cases ds with
    | nil => cases t; cases e; exact ⟨.nil, rfl⟩
    | cons d ds => cases e
  | i :: is, ds, vs, h, ps, t, e => by
    cases ds with
    | nil => cases e
    | cons d ds =>
      obtain ⟨v, ws, rfl, r, u⟩ := t.split
      simp only [List.map_cons, gAll, gNm] at e
      cases eg : gAll (is.map gNm) ds h with
      | none => rw [eg] at e; cases e
      | some b =>
        rw [eg] at e
        cases e
        obtain ⟨h1, h2⟩ := prel_names u eg
        exact ⟨.cons r h1, by simp [h2]⟩
end
section
variable {X : Cx} {Wx : WX} {pos : Pos} {mas : MA}
theorem tS_par {K mg} {D : Ends} {σ : L2.St} {H : Hp} {is : List Nat} (q : tS K mg Wx (sAsg (gTp (is.map gNm)) (eN dTup mas)) D σ H) : tA K mg Wx mas σ H fun vs H1 => is.length = vs.length ∧ D.nx (setV σ (is.zip vs)) H1 := by
  obtain ⟨ρ, env, h, hr, er, q⟩ := q
  refine ⟨ρ, env, h, hr, er, ?_⟩
  unfold sAsg eN at q
  cases ea : mas env h with
  | ok ds h1 =>
    rw [ea] at q
    simp only [R.bind_ok] at q
    intro vs ρ1 H1 S f
    unfold dTup at q
    by_cases hl : ds.length ≤ sizeLine
    · rw [if_pos hl] at q
      simp only [R.lift, RS.of_ok, box, gTp] at q
      obtain ⟨b, rb⟩ := boxL_ok f.hr f.rp f.nd f.owns
      cases eg : gAll (is.map gNm) (boxL ds h1).1 (boxL ds h1).2 with
      | none => rw [eg] at q; exact q.elim
      | some ps =>
        rw [eg] at q
        obtain ⟨p1, p2⟩ := prel_names rb eg
        refine ⟨p2, q _ _ H1 b.rel (((er.to f.st).boxed f.rp.owned).setAll p1) ?_⟩
        exact f.st.transT (Step.boxed ρ1 H1 S) fun x hx => ⟨f.isnew x hx, f.owns x hx⟩
    · rw [if_neg hl] at q
      exact q.elim
  | exc e h1 => rw [ea] at q; exact fun cls dd ρ' H' a b c => q cls dd σ ρ' H' a (er.to b) b c
  | stuck => rw [ea] at q; exact q
theorem js_par2 {i j : Nat} {x y : Str} {a b : Expr} {px py pt : Pos} {kt k2 pt2} (hc : X.calm = true) (hN : X.N.Nodup) (ha : JA X Wx [a, b] mas) (hi : X.N[i]? = some x := by rfl) (hj : X.N[j]? = some y := by rfl) (hij : i ≠ j := by decide)
    (hx : X.env.scope.names.lookup x = some .local := by rfl) (hy : X.env.scope.names.lookup y = some .local := by rfl)
    (hw : swappedStores [.Tuple [.Name x px, .Name y py] kt pt] (.Tuple [a, b] k2 pt2) X.env = pure (some [x, y]) := by rfl)
    (hs : swapsWithSole [.Tuple [.Name x px, .Name y py] kt pt] (.Tuple [a, b] k2 pt2) pos.line X.env = pure false := by rfl) :
    JS X Wx (.Assign [.Tuple [.Name x px, .Name y py] kt pt] (.Tuple [a, b] k2 pt2) pos) (sAsg (gTp ([i, j].map gNm)) (eN dTup mas)) := by
  refine PS.mono (ps_par hc hN hi hj hij hx hy ha hw hs) fun D σ H q => ?_
  obtain ⟨ρ, env, h, hr, er, q'⟩ := tS_par q
  refine ⟨ρ, env, h, hr, er, ?_⟩
  cases ea : mas env h with
  | ok ds h1 =>
    rw [ea] at q'
    intro vs ρ1 H1 S f
    obtain ⟨z1, z2⟩ := q' vs ρ1 H1 S f
    match vs, z1, z2 with
    | [v, w], _, z2 => exact ⟨v, w, rfl, z2⟩
  | exc e h1 => rw [ea] at q'; exact q'
  | stuck => rw [ea] at q'; exact q'
theorem js_par3 {i j l : Nat} {x y z : Str} {a b c : Expr} {px py pz pt : Pos} {kt k2 pt2} (hc : X.calm = true) (hN : X.N.Nodup) (ha : JA X Wx [a, b, c] mas) (hi : X.N[i]? = some x := by rfl) (hj : X.N[j]? = some y := by rfl) (hl : X.N[l]? = some z := by rfl) (hij : i ≠ j := by decide) (hil : i ≠ l := by decide) (hjl : j ≠ l := by decide)
    (hx : X.env.scope.names.lookup x = some .local := by rfl) (hy : X.env.scope.names.lookup y = some .local := by rfl) (hz : X.env.scope.names.lookup z = some .local := by rfl)
    (hw : swappedStores [.Tuple [.Name x px, .Name y py, .Name z pz] kt pt] (.Tuple [a, b, c] k2 pt2) X.env = pure (some [x, y, z]) := by rfl)
    (hs : swapsWithSole [.Tuple [.Name x px, .Name y py, .Name z pz] kt pt] (.Tuple [a, b, c] k2 pt2) pos.line X.env = pure false := by rfl) :
    JS X Wx (.Assign [.Tuple [.Name x px, .Name y py, .Name z pz] kt pt] (.Tuple [a, b, c] k2 pt2) pos) (sAsg (gTp ([i, j, l].map gNm)) (eN dTup mas)) := by
  refine PS.mono (ps_par3 hc hN hi hj hl hij hil hjl hx hy hz ha hw hs) fun D σ H q => ?_
  obtain ⟨ρ, env, h, hr, er, q'⟩ := tS_par q
  refine ⟨ρ, env, h, hr, er, ?_⟩
  cases ea : mas env h with
  | ok ds h1 =>
    rw [ea] at q'
    intro vs ρ1 H1 S f
    obtain ⟨z1, z2⟩ := q' vs ρ1 H1 S f
    match vs, z1, z2 with
    | [v, w, u], _, z2 => exact ⟨v, w, u, rfl, z2⟩
  | exc e h1 => rw [ea] at q'; exact q'
  | stuck => rw [ea] at q'; exact q'
end
/-! ### isinstance, built-in classes -/
def tyN (h : Hd) : D → Option String
  | .non => some "NoneType"
  | .bl _ => some "bool"
  | .int _ => some "int"
  | .str _ => some "str"
  | .tup _ => some "tuple"
  | .lst _ => some "list"
  | .rol _ => some "list"
  | .ref n => match h[n]? with
    | some (.lst _) => some "list"
    | _ => none
  | _ => none
def kitAll (t : String) : List D → Option Bool
  | [] => some false
  | .ty n :: cs => match kitB t n, kitAll t cs with
    | some b, some r => some (b || r)
    | _, _ => none
  | _ => none
def dIsi (xs : List D) (h : Hd) : Option D := match xs with
  | [x, .ty n] => match tyN h x with
    | some t => match kitB t n with
      | some b => some (.bl b)
      | none => none
    | none => none
  | [x, .tup cs] => match tyN h x with
    | some t => match kitAll t cs with
      | some b => some (.bl b)
      | none => none
    | none => none
  | _ => none
def rIsiA (K : PySem.W.Frag) : List V → Hp → VK → Prop := fun xs H Q => rIsi K xs H Q ∨ rIsiT K xs H Q ∨ rIsiK K xs H Q
theorem call_isiA {X : Cx} : CallR X (.builtin "isinstance") (rIsiA X.K) := by
  intro pins s σ H xs us Q I r h
  rcases h with h | h | h
  · exact call_isi pins s σ H xs us Q I r h
  · exact call_isiT pins s σ H xs us Q I r h
  · exact call_isiK pins s σ H xs us Q I r h
section
variable {K : PySem.W.Frag} {mg : Str → Option Value} {ρ : List Addr} {H : Hp} {h : Hd}
theorem tyN_x (hr : HRel K mg ρ H h) {d : D} {v : V} {S : List Addr} (r : Rep K mg ρ H d v S) {t : String} (e : tyN h d = some t) : TyX K H v (.type t) := by
  cases r with
  | non => cases e; exact .base .non
  | bl b => cases e; exact .base (.bl b)
  | int i => cases e; exact .base (.int i)
  | str s => cases e; exact .base (.str s)
  | tup ht _ =>
    cases e
    rcases ht with ⟨z, _⟩ | ⟨o, its, n, z, c, _⟩
    · exact .base (.tup z)
    · exact .kTuple z c
  | lst ha _ => cases e; exact .base (.lst ha)
  | rol ht _ =>
    cases e
    rcases ht with ⟨⟨o, z⟩, _⟩ | ⟨o, its, n, z, c, _⟩
    · exact .base (.frz z)
    · exact .kList z c
  | ref ha =>
    rename_i n a
    simp only [tyN] at e
    split at e
    · rename_i xs hx
      cases e
      obtain ⟨vs, hv, _⟩ := hr.cell n _ _ hx ha
      exact .base (.lst hv)
    · cases e
  | _ => cases e
theorem kitAll_v {t : String} : ∀ {cs : List D} {vs : List V} {b : Bool}, kitAll t cs = some b → RepL K mg ρ H cs vs [] → ∃ us, Paired ClsV vs us ∧ PySem.W.kitAny K (.type t) us = some b ∧ Vals vs us
  | [], vs, b, e, r => by
    cases r
    cases e
    exact ⟨[], .nil, kitAny_nil, .nil⟩
  | c :: cs, vs, b, e, r => by
    obtain ⟨v, ws, rfl, rc, u⟩ := r.split
    cases c with
    | ty n =>
      cases rc
      simp only [kitAll] at e
      split at e
      · rename_i x y k e2
        cases e
        obtain ⟨us, p, q, w⟩ := kitAll_v e2 u
        refine ⟨.type n :: us, .cons (.ty n) p, kitAny_cons (b := x) (kit_ty k) (fun z => ?_) (fun z => ?_), .cons rfl w⟩
        · rw [z, Bool.false_or]; exact q
        · rw [z, Bool.true_or]
      · cases e
    | _ => cases e
theorem opN_isi : OpN K mg dIsi (rIsiA K) := by
  intro xs h d e ρ H vs S Q hr r nd na q
  unfold dIsi at e
  split at e
  · rename_i x n
    split at e
    · rename_i t et
      split at e
      · rename_i b eb
        cases e
        cases r with
        | cons r1 r2 =>
          cases r2 with
          | cons r2 r3 =>
            cases r3
            cases r2
            exact .inl ⟨_, _, .type t, .type n, b, rfl, .ty n, tyN_x hr r1 et, kit_ty eb, q0 q (.bl _)⟩
      · cases e
    · cases e
  · rename_i x cs
    split at e
    · rename_i t et
      split at e
      · rename_i b eb
        cases e
        cases r with
        | cons r1 r2 =>
          cases r2 with
          | cons r2 r3 =>
            cases r3
            cases r2 with
            | tup ht u =>
              rename_i a ws
              have u0 : ∃ us, Paired ClsV ws us ∧ PySem.W.kitAny K (.type t) us = some b ∧ Vals ws us := by
                have hs : setL cs = true := by
                  have : ∀ (cs : List D) (b : Bool), kitAll t cs = some b → setL cs = true := by
                    intro cs
                    induction cs with
                    | nil => intro _ _; rfl
                    | cons c cs ih =>
                      intro b eb
                      cases c with
                      | ty n =>
                        simp only [kitAll] at eb
                        split at eb
                        · rename_i e2
                          simp [setL, D.set, ih _ e2]
                        · cases eb
                      | _ => cases eb
                  exact this cs b eb
                cases u.set_nil hs
                exact kitAll_v eb u
              obtain ⟨us, p, k, w⟩ := u0
              rcases ht with ⟨z, _⟩ | ⟨o, its, n, z, c, dt, _, w2⟩
              · exact .inr (.inl ⟨_, a, ws, .type t, us, b, rfl, z, p, tyN_x hr r1 et, k, q0 q (.bl _)⟩)
              · have e3 := ClsV.all p w2
                obtain ⟨oc, od, odt, sl⟩ := o
                simp only at c dt
                subst c dt
                have e4 : its = us.toArray := by rw [← e3]
                subst e4
                exact .inr (.inr ⟨_, a, od, us, n, sl, .type t, b, rfl, z, tyN_x hr r1 et, k, q0 q (.bl _)⟩)
      · cases e
    · cases e
  · cases e
end
section
variable {X : Cx} {Wx : WX} {a b : Expr} {mas : MA} {p pos : Pos}
theorem je_isi (hm : X.mg "isinstance" = none) (ha : JA X Wx [a, b] mas) (hg : Gl X "isinstance" := by rfl) (he : starEach [a, b] X.env = (false, eval a X.env) :: starEach [b] X.env := by rfl) (hpl : (backTo pos (starEach [b] X.env)).any (·.1) = false := by rfl) :
    JE X Wx (.Call (.Name "isinstance" p) [a, b] [] pos) (eN dIsi mas) := je_callB call_isiA opN_isi hm ha (by decide +kernel) hg (by decide) (by decide) he hpl
end
end Tw

/-! TwMore2: sequences times a number, index, sorted numbers. -/
namespace Tw
open PySem PySem.Spec PyProof.Rows L2

def dTimes (x y : D) (h : Hd) : Option D := match x, y with
  | .lst xs, .int k => if setL xs = true ∧ -(2 ^ 63) ≤ k ∧ k < 2 ^ 63 ∧ xs.length * k.toNat ≤ sizeLine then some (.lst (List.replicate k.toNat xs).flatten) else none
  | .ref n, .int k => match h[n]? with
    | some (.lst xs) => if -(2 ^ 63) ≤ k ∧ k < 2 ^ 63 ∧ xs.length * k.toNat ≤ sizeLine then some (.lst (List.replicate k.toNat xs).flatten) else none
    | _ => none
  | .tup xs, .int k => if setL xs = true ∧ xs ≠ [] ∧ 2 ≤ k ∧ k ≤ 1000 ∧ xs.length ≤ 1000 then some (.tup (List.replicate k.toNat xs).flatten) else none
  | _, _ => dMul x y h
def rTimes (K : PySem.W.Frag) : R2 := fun x y H Q => rMul x y H Q ∨ rRep x y H Q ∨ rRepT K x y H Q
section
variable {K : PySem.W.Frag} {mg : Str → Option Value} {ρ : List Addr} {H : Hp} {h : Hd}
theorem op_times {X : Cx} : OpR X (binaryOp .Mult) (rTimes X.K) := OpR.or op_mulA (OpR.or op_rep op_repT)
theorem RepL.rep {xs : List D} {vs : List V} (t : RepL K mg ρ H xs vs []) : ∀ k : Nat, RepL K mg ρ H (List.replicate k xs).flatten (List.replicate k vs).flatten []
  | 0 => .nil
  | k + 1 => by
    rw [List.replicate_succ, List.replicate_succ, List.flatten_cons, List.flatten_cons]
    exact t.append (RepL.rep t k)
theorem op2_times : Op2 K mg dTimes (rTimes K) := by
  intro x y h d e ρ H vx vy S1 S2 Q hr r1 r2 nd na q
  unfold dTimes at e
  split at e
  · rename_i xs k
    split at e
    · rename_i c
      cases e
      obtain ⟨rfl, rfl⟩ := r2.int_inv
      cases r1 with
      | lst ha t =>
        rename_i a vs S0
        cases t.set_nil c.1
        refine .inr (.inl ⟨a, k, vs, rfl, rfl, ha, c.2.1, c.2.2.1, by rw [← t.length]; exact c.2.2.2, fun p np => ?_⟩)
        exact q _ _ [p] (same_upd np) (.newLst (S := []) hr (t.rep k.toNat) (fun _ z => nomatch z) np) (by simp) fun b hb => by
          rw [List.mem_singleton.mp hb]; exact ⟨hr.notin np, .inl np⟩
    · cases e
  · rename_i n k
    split at e
    · rename_i xs hx
      split at e
      · rename_i c
        cases e
        obtain ⟨rfl, rfl⟩ := r2.int_inv
        cases r1 with
        | ref ha =>
          rename_i a
          obtain ⟨vs, hv, t⟩ := hr.cell n _ _ hx ha
          refine .inr (.inl ⟨a, k, vs, rfl, rfl, hv, c.1, c.2.1, by rw [← t.length]; exact c.2.2, fun p np => ?_⟩)
          exact q _ _ [p] (same_upd np) (.newLst (S := []) hr (t.rep k.toNat) (fun _ z => nomatch z) np) (by simp) fun b hb => by
            rw [List.mem_singleton.mp hb]; exact ⟨hr.notin np, .inl np⟩
      · cases e
    · cases e
  · rename_i xs k
    split at e
    · rename_i c
      cases e
      obtain ⟨rfl, rfl⟩ := r2.int_inv
      cases r1 with
      | tup ht t =>
        rename_i a vs
        cases t.set_nil c.1
        refine .inr (.inr ⟨a, k, vs, rfl, rfl, ht.sq, fun z => c.2.1 ?_, c.2.2.1, c.2.2.2.1, by rw [← t.length]; exact c.2.2.2.2, fun p np => ?_⟩)
        · have := t.length
          rw [z] at this
          exact List.length_eq_zero_iff.mp (by simpa using this)
        · exact q _ _ [] (same_upd np) (.newTup (S := []) hr (t.rep k.toNat) (fun _ z => nomatch z) np) List.nodup_nil fun _ z => nomatch z
    · cases e
  · exact .inl (op2_mul x y h d e ρ H vx vy S1 S2 Q hr r1 r2 nd na q)
end
/-- x.index(y) -/
def mIndex (x : D) (as : List D) (h : Hd) : Option (D × Hd) := match as with
  | [y] => match toPy h 20 x, toPy h 20 y with
    | some (.list ds), some d => match ds.findIdx? (fun z => PyData.eqv z d) with
      | some j => some (.int (j : Nat), h)
      | none => none
    | _, _ => none
  | _ => none
/-! ### sorted, numbers -/
def insI (x : Int) : List Int → List Int
  | [] => [x]
  | y :: ys => if x ≤ y then x :: y :: ys else y :: insI x ys
def sortI : List Int → List Int
  | [] => []
  | x :: xs => insI x (sortI xs)
def intsOf : List D → Option (List Int)
  | [] => some []
  | .int i :: xs => (intsOf xs).map (i :: ·)
  | _ => none
theorem insI_perm (x : Int) : ∀ xs, (insI x xs).Perm (x :: xs)
  | [] => .refl _
  | y :: ys => by
    unfold insI
    split
    · exact .refl _
    · exact ((insI_perm x ys).cons y).trans (.swap x y ys)
theorem sortI_perm : ∀ xs, (sortI xs).Perm xs
  | [] => .refl _
  | x :: xs => (insI_perm x _).trans ((sortI_perm xs).cons x)
theorem insI_sorted (x : Int) : ∀ xs : List Int, xs.Pairwise (· ≤ ·) → (insI x xs).Pairwise (· ≤ ·)
  | [], _ => by simp [insI]
  | y :: ys, h => by
    unfold insI
    rw [List.pairwise_cons] at h
    split
    · rename_i z
      rw [List.pairwise_cons]
      refine ⟨fun w hw => ?_, List.pairwise_cons.mpr h⟩
      rcases List.mem_cons.mp hw with e | e
      · rw [e]; exact z
      · exact Int.le_trans z (h.1 w e)
    · rename_i z
      rw [List.pairwise_cons]
      refine ⟨fun w hw => ?_, insI_sorted x ys h.2⟩
      rcases List.mem_cons.mp ((insI_perm x ys).mem_iff.mp hw) with e | e
      · rw [e]; omega
      · exact h.1 w e
theorem sortI_sorted : ∀ xs, (sortI xs).Pairwise (· ≤ ·)
  | [] => .nil
  | x :: xs => insI_sorted x _ (sortI_sorted xs)
theorem sorted_unique : ∀ {xs ys : List Int}, xs.Perm ys → xs.Pairwise (· ≤ ·) → ys.Pairwise (· ≤ ·) → xs = ys
  | [], ys, p, _, _ => (List.nil_perm.mp p).symm
  | x :: xs, [], p, _, _ => absurd (p.length_eq) (by simp)
  | x :: xs, y :: ys, p, hx, hy => by
    rw [List.pairwise_cons] at hx hy
    have e : x = y := by
      have h1 : x ∈ y :: ys := p.mem_iff.mp (by simp)
      have h2 : y ∈ x :: xs := p.mem_iff.mpr (by simp)
      rcases List.mem_cons.mp h1 with z | z
      · exact z
      · rcases List.mem_cons.mp h2 with w | w
        · exact w.symm
        · have a := hx.1 y w
          have b := hy.1 x z
          omega
    subst e
    rw [sorted_unique (p.cons_inv) hx.2 hy.2]
def dSortedI (h : Hd) (x : D) : Option D := match (match x with
    | .lst xs => some xs
    | .rol xs => some xs
    | .ref n => match h[n]? with
      | some (.lst xs) => some xs
      | _ => none
    | _ => none) with
  | some xs => match intsOf xs with
    | some ns => if ns.length < 64 then some (.lst ((sortI ns).map .int)) else none
    | none => none
  | none => none
def dSorted1 (xs : List D) (h : Hd) : Option D := match xs with
  | [x] => dSortedI h x
  | _ => none
section
variable {K : PySem.W.Frag} {mg : Str → Option Value} {ρ : List Addr} {H : Hp} {h : Hd}
theorem intsOf_rep : ∀ {xs : List D} {vs : List V} {S : List Addr} {ns : List Int}, intsOf xs = some ns → RepL K mg ρ H xs vs S → vs = ns.map V.int
  | [], vs, S, ns, e, r => by cases e; cases r; rfl
  | x :: xs, vs, S, ns, e, r => by
    cases x with
    | int i =>
      simp only [intsOf] at e
      cases eq : intsOf xs with
      | none => rw [eq] at e; cases e
      | some ms =>
        rw [eq] at e
        cases e
        cases r with
        | cons r1 t =>
          obtain ⟨rfl, _⟩ := r1.int_inv
          rw [intsOf_rep eq t]
          rfl
    | _ => cases e
theorem rep_ints (ρ : List Addr) (H : Hp) : ∀ ns : List Int, RepL K mg ρ H (ns.map .int) (ns.map V.int) []
  | [] => .nil
  | n :: ns => .cons (S := []) (T := []) (.int n) (rep_ints ρ H ns)
theorem opN_sorted1 : OpN K mg dSorted1 (rSorted K) := by
  intro xs h d e ρ H vs S Q hr r nd na q
  unfold dSorted1 at e
  split at e
  · rename_i x
    cases r with
    | cons r1 t =>
      cases t
      unfold dSortedI at e
      split at e
      · rename_i xs ex
        split at e
        · rename_i ns en
          split at e
          · rename_i hl
            cases e
            have fin : ∀ a, SqL K H a (ns.map V.int) → ∀ (ns' : List Int) (p : Addr), ns'.Perm ns → ns'.Pairwise (· ≤ ·) → H p = none → Q (.ref p) (upd H p (.lst (ns'.map V.int))) := by
              intro a _ ns' p hp hs np
              have e1 : ns' = sortI ns := sorted_unique (hp.trans (sortI_perm ns).symm) hs (sortI_sorted ns)
              subst e1
              exact q _ _ [p] (same_upd np) (.newLst (S := []) hr (rep_ints ρ H _) (fun _ z => nomatch z) np) (by simp) fun b hb => by
                rw [List.mem_singleton.mp hb]; exact ⟨hr.notin np, .inl np⟩
            cases r1 with
            | lst ha u =>
              cases ex
              have e2 := intsOf_rep en u
              subst e2
              exact ⟨_, ns, rfl, SqL.of ha, hl, fin _ (SqL.of ha)⟩
            | rol ha u =>
              cases ex
              have e2 := intsOf_rep en u
              subst e2
              exact ⟨_, ns, rfl, ha.sq, hl, fin _ ha.sq⟩
            | ref ha =>
              rename_i n a
              simp only at ex
              split at ex
              · rename_i ys hx
                cases ex
                obtain ⟨ws, hv, u⟩ := hr.cell n _ _ hx ha
                have e2 := intsOf_rep en u
                subst e2
                exact ⟨_, ns, rfl, SqL.of hv, hl, fin _ (SqL.of hv)⟩
              · cases ex
            | _ => cases ex
          · cases e
        · cases e
      · cases e
  · cases e
theorem om_index : OpM K mg mIndex (rIndexD K) := by
  intro x ds h d h' e ρ H v vs S T Q hr r rs nd na q
  unfold mIndex at e
  split at e
  · rename_i y
    cases rs with
    | cons ry t =>
      rename_i vy vt S1 S2
      cases t
      split at e
      · rename_i ys dy e1 e2
        split at e
        · rename_i j ej
          cases e
          have d1 := toPy_dp hr _ _ _ _ _ e1 r
          have d2 := toPy_dp hr _ _ _ _ _ e2 ry
          cases d1 with
          | lst hs ha =>
            rename_i a xs
            obtain ⟨hj, hz, hno⟩ := List.findIdx?_eq_some_iff_getElem.mp ej
            refine ⟨a, vy, dy, ys, j, ys[j], rfl, rfl, .lst hs ha, d2, toPy_shaped (by decide) e1, toPy_shaped (by decide) e2, List.getElem?_eq_getElem hj, hz, fun m z' hm hz' => ?_, ?_⟩
            · obtain ⟨hl, rfl⟩ := List.getElem?_eq_some_iff.mp hz'
              simpa using hno m hm
            · exact q (.int j) ρ H [] ⟨hr, Step.refl, .int _, List.nodup_nil, fun _ z => nomatch z⟩
        · cases e
      · cases e
  · cases e
end
section
variable {X : Cx} {Wx : WX} {a b o e : Expr} {ma mb mo : ME} {mas : MA} {p pos apos cpos : Pos} {k : Nat}
theorem je_times (ha : JE X Wx a ma) (hb : JE X Wx b mb) : JE X Wx (.BinOp a .Mult b pos) (eBin dTimes ma mb) := je_bin op_times op2_times ha hb
theorem je_sorted1 (hm : X.mg "sorted" = none) (ha : JA X Wx [a] mas) (hg : Gl X "sorted" := by rfl) (he : starEach [a] X.env = (false, eval a X.env) :: starEach [] X.env := by rfl) (hpl : (backTo pos (starEach [] X.env)).any (·.1) = false := by rfl) :
    JE X Wx (.Call (.Name "sorted" p) [a] [] pos) (eN dSorted1 mas) := je_callB cr_sorted opN_sorted1 hm ha (by decide +kernel) hg (by decide) (by decide) he hpl
theorem je_index (hr : Room k X.A) (ho : JE X Wx o mo) (ha : JA X Wx [e] mas) (hbase : attributeBase o (Str.ofString "index") X.env (eval o X.env) = eval o X.env := by rfl)
    (hfew : ((backTo cpos (starEach [e] X.env)).all (fun x => !x.1) && (backToKw cpos (keywordEach [] X.env)).all (fun x => x.1.isSome) && decide ([e].length + ([] : List Keyword).length + (if ([] : List Keyword).isEmpty then 0 else 1) < 30)) = true := by rfl)
    (hline : (apos.endLine == cpos.line) = true := by rfl) (hs : starEach [e] X.env = (false, eval e X.env) :: starEach [] X.env := by rfl) (hplain : (backTo cpos (starEach [] X.env)).any (·.1) = false := by rfl) : JE X Wx (.Call (.Attribute o "index" apos) [e] [] cpos) (eBM "list" mIndex mo mas) :=
  je_bm PySem.F.plainAttrs_list PySem.F.slot_list_index PySem.F.type_list_index (mt_indexD (units65 hr)) om_index ho ha hbase hfew hline hs hplain
end
section
variable {X : Cx} {Wx : WX} {e : Expr} {me : ME} {pos p : Pos} {i : Nat} {x : Str}
def dIMul (x y : D) (_ : Hd) : Option D := match x, y with
  | .int i, .int j => if (decide (-(2 ^ 64) < i) && decide (i < 2 ^ 64)) || (decide (-(2 ^ 64) < j) && decide (j < 2 ^ 64)) then some (.int (i * j)) else none
  | _, _ => none
theorem op2_imul {K mg} : Op2 K mg dIMul (rI CMul fun i j => .int (i * j)) := by
  intro x y h d e ρ H vx vy S1 S2 Q hr r1 r2 nd na q
  unfold dIMul at e
  split at e
  · rename_i i j
    split at e
    · rename_i c
      cases e
      obtain ⟨rfl, rfl⟩ := r1.int_inv
      obtain ⟨rfl, rfl⟩ := r2.int_inv
      simp only [Bool.or_eq_true, Bool.and_eq_true, decide_eq_true_eq] at c
      exact ⟨i, j, rfl, rfl, c, q0 q (.int _)⟩
    · cases e
  · cases e
theorem js_imul (hN : X.N.Nodup) (he : JE X Wx e me) (hi : X.N[i]? = some x := by rfl) (hx : Loc X.env.scope x := by first | exact Or.inl rfl | exact Or.inr rfl) (hfn : X.fn x = true ∨ X.env.scope.names.lookup x = some .local := by first | exact .inl rfl | exact .inr rfl | assumption) :
    JS X Wx (.AugAssign (.Name x p) .Mult e pos) (sAug i dIMul me) := js_aug hN iop_mul op2_imul he hi hx hfn
end
end Tw

/-! TwEnd: what the generated text leans on. -/
namespace Tw
open PySem PySem.Spec PyProof.Rows L2

def blkB (N : List Str) (sc scope : Scope) (own : List (Str × Nat)) : Bool :=
  decide (scope.kind = .function) && scope.names.all (fun y => decide (scope.names.lookup y.1 = some y.2)) && own.all (fun p => decide (N[p.2]? = some p.1)) &&
    scope.names.all (fun y => !decide (y.2 = .free) || decide (sc.names.lookup y.1 = some .cell) || decide (sc.names.lookup y.1 = some .free)) &&
    scope.names.all (fun y => !(decide (y.2 = .local) || decide (y.2 = .cell)) || decide (y.1 ∈ own.map (·.1)) || decide (y.1 ∉ N))
theorem blk_of {N : List Str} {sc scope : Scope} {own : List (Str × Nat)} (h : blkB N sc scope own = true) : BlkOk N sc scope own := by
  unfold blkB at h
  simp only [Bool.and_eq_true, List.all_eq_true, decide_eq_true_eq, Bool.or_eq_true, Bool.not_eq_true', decide_eq_false_iff_not] at h
  obtain ⟨⟨⟨⟨h1, h2⟩, h3⟩, h4⟩, h5⟩ := h
  refine ⟨h1, h2, h3, fun y hy e => ?_, fun y hy e => ?_⟩
  · rcases h4 y hy with (z | z) | z
    · exact absurd e z
    · exact .inl z
    · exact .inr z
  · rcases h5 y hy with (z | z) | z
    · rcases e with e | e <;> simp [e] at z
    · exact .inl z
    · exact .inr z
theorem cx_none {P : Program} {w : World} {H : Hp} {s : Shared} {e : Value} {s' : Shared} (z : L2.CX P w [] H s (fun _ _ _ => False) e s') : False := by
  obtain ⟨_, _, _, _, _, _, _, _, _, _, _, _, z⟩ := z
  exact z
theorem script_rep {K : PySem.W.Frag} {mg : Str → Option Value} {H : Hp} {a : Addr} {ns : List Int} (ho : Only H) (hS : SqL K H a (ns.map V.int)) : Rep K mg [] H (.rol (ns.map .int)) (.ref a) [] := by
  refine .rol ?_ (rep_ints [] H ns)
  rcases hS with (h | h) | h
  · rcases ho a with z | ⟨o, xs, z⟩
    · rw [z] at h; cases h
    · rw [z] at h; cases h
  · exact .inl ⟨h, fun z => nomatch z⟩
  · exact .inr h
/-- the law's promise, without the module's names -/
def spLaw (K : PySem.W.Frag) : Sp := fun vs H Q _ => ∃ (a : Addr) (ns : List Int), vs = [.ref a] ∧ ns.length ≤ 63 ∧ Only H ∧ SqL K H a (ns.map V.int) ∧ ∀ H', Q (.bl true) H'
theorem law_end {P : Program} {w : World} {K : PySem.W.Frag} {mg : Str → Option Value} {base : Heap} {k : Nat} {f : Addr} {fd : FuncData} {x : Str} {mf : MF} (F : FnOk P w K mg base (L2.CX P w) k f fd [x] (spF K mg 1 mf))
    (hlaw : ∀ ns : List Int, ns.length ≤ 63 → ∃ h', mf [.rol (ns.map .int)] [] = .ok (.bl true) h') : FnOk P w K mg base (L2.CX P w) k f fd [x] (spLaw K) :=
  F.imp fun vs H Q E ⟨a, ns, e, hl, ho, hS, q⟩ => by
    subst e
    obtain ⟨h', e⟩ := hlaw ns hl
    refine ⟨rfl, [], [], [.rol (ns.map .int)], [], ⟨rfl, List.nodup_nil, fun n c a e => nomatch e⟩, .cons (S := []) (T := []) (script_rep ho hS) .nil, List.nodup_nil, fun _ z => (nomatch z), ?_⟩
    rw [e]
    intro v ρ' H' S' g
    have rp := g.rp
    cases rp
    exact q H'
end Tw

/-! Common: what the generator wrote of defs that several laws share. -/
namespace Cm
open PySem PySem.Spec PyProof.Rows L2 Tw
def b_law_cell_at : MS :=
  (sSeq (sIf (tVal (eBin dLt (eVar 1) (eN dLen (aCons (eVar 0) aNil))))
    (sRet (eBin dIx (eVar 0) (eVar 1)))
    sNil)
  (sRet (eC (.int 0))))
def m_law_cell_at : MF := runDef 2 2 b_law_cell_at
def b_law_box : MS :=
  (sSeq (sAsg (gNm 2) (eCall m_law_cell_at (aCons (eVar 0) (aCons (eVar 1) aNil))))
  (sRet (eN dLst (aCons (eBin dTimes (eN dAbs (aCons (eVar 2) aNil)) (eN dInt (aCons (eBin dGe (eN dAbs (aCons (eVar 2) aNil)) (eBin dPow (eC (.int 10)) (eC (.int 18)))) aNil))) (aCons (eBin dAdd (eBin dAdd (eBin dMod (eVar 2) (eC (.int 2305843009213693951))) (eBin dTimes (eC (.int 39373)) (eVar 1))) (eC (.int 29))) (aCons (eC (.int 0)) aNil))))))
def m_law_box : MF := runDef 2 3 b_law_box
def b_law_take (rec_ : MF) : MS :=
  (sSeq (sIf (tVal (eBin dGt (eBin dIx (eVar 0) (eC (.int 0))) (eC (.int 0))))
    (sSeq (sAsg (gNm 2) (eBin dMod (eBin dIx (eVar 0) (eC (.int 0))) (eVar 1)))
  (sSeq (sSetIx (eBin dFdiv (eBin dIx (eVar 0) (eC (.int 0))) (eVar 1)) (eVar 0) (eC (.int 0)))
  (sRet (eVar 2))))
    sNil)
  (sSeq (sIf (tVal (eBin dGt (eVar 1) (eBin dPow (eC (.int 10)) (eC (.int 7)))))
    (sRet (eBin dMod (eBin dAdd (eCall rec_ (aCons (eVar 0) (aCons (eBin dPow (eC (.int 10)) (eC (.int 7))) aNil))) (eBin dTimes (eBin dPow (eC (.int 10)) (eC (.int 7))) (eCall rec_ (aCons (eVar 0) (aCons (eBin dAdd (eBin dFdiv (eVar 1) (eBin dPow (eC (.int 10)) (eC (.int 7)))) (eC (.int 1))) aNil))))) (eVar 1)))
    sNil)
  (sSeq (sSetIx (eBin dAdd (eBin dIx (eVar 0) (eC (.int 2))) (eC (.int 1))) (eVar 0) (eC (.int 2)))
  (sSeq (sAsg (gNm 3) (eBin dMod (eBin dTimes (eBin dAdd (eBin dIx (eVar 0) (eC (.int 1))) (eBin dTimes (eC (.int 48271)) (eBin dIx (eVar 0) (eC (.int 2))))) (eBin dAdd (eC (.int 39373)) (eBin dIx (eVar 0) (eC (.int 2))))) (eC (.int 2147483647))))
  (sSeq (sAsg (gNm 4) (eBin dMod (eBin dTimes (eBin dAdd (eBin dAdd (eVar 3) (eBin dIx (eVar 0) (eC (.int 2)))) (eBin dFdiv (eBin dIx (eVar 0) (eC (.int 1))) (eC (.int 1000003)))) (eBin dAdd (eBin dMod (eVar 3) (eC (.int 40009))) (eC (.int 7)))) (eC (.int 2147483629))))
  (sRet (eBin dMod (eBin dFdiv (eBin dMod (eBin dAdd (eBin dTimes (eVar 4) (eC (.int 48271))) (eVar 3)) (eC (.int 2147483587))) (eC (.int 64))) (eVar 1))))))))
def m_law_take : Nat → MF
  | 0 => runDef 2 5 sNo
  | n + 1 => runDef 2 5 (b_law_take (m_law_take n))
def b_law_line : MS :=
  (sSeq (sAsg (gTp ([3, 4].map gNm)) (eN dTup (aCons (eN dLst aNil) (aCons (eCall (m_law_take 8) (aCons (eVar 0) (aCons (eC (.int 3)) aNil))) aNil))))
  (sSeq (sFor (iN rng1 (aCons (eVar 1) aNil)) (gNm 5)
    (sSeq (sAsg (gNm 6) (eAnd (eBin dNe (eVar 3) (eN dLst aNil)) (eBin dLt (eCall (m_law_take 8) (aCons (eVar 0) (aCons (eC (.int 3)) aNil))) (eVar 4))))
  (sDrop (eBM "list" mAppend (eVar 3) (aCons (eIf (tVal (eVar 6)) (eBin dIx (eVar 3) (eUn dNeg (eC (.int 1)))) (eCall (m_law_take 8) (aCons (eVar 0) (aCons (eVar 2) aNil)))) aNil)))))
  (sRet (eN dTuple (aCons (eVar 3) aNil)))))
def m_law_line : MF := runDef 3 7 b_law_line
def b_law_ways : MS :=
  (sSeq (sAsg (gNm 2) (eBin dAdd (eN dLst (aCons (eC (.int 1)) aNil)) (eBin dTimes (eN dLst (aCons (eC (.int 0)) aNil)) (eBin dAdd (eVar 0) (eC (.int 2))))))
  (sSeq (sFor (iN rng1 (aCons (eVar 0) aNil)) (gNm 3)
    (sSeq (sAsg (gNm 4) (eN dLst (aCons (eBin dTimes (eVar 1) (eBin dIx (eVar 2) (eC (.int 1)))) aNil)))
  (sSeq (sFor (iN rng2 (aCons (eC (.int 1)) (aCons (eBin dAdd (eVar 0) (eC (.int 2))) aNil))) (gNm 5)
    (sDrop (eBM "list" mAppend (eVar 4) (aCons (eBin dAdd (eBin dIx (eVar 2) (eBin dSub (eVar 5) (eC (.int 1)))) (eBin dTimes (eBin dSub (eVar 1) (eC (.int 1))) (eBin dIx (eVar 2) (eBin dAdd (eVar 5) (eC (.int 1)))))) aNil))))
  (sAsg (gNm 2) (eBin dAdd (eVar 4) (eN dLst (aCons (eC (.int 0)) aNil)))))))
  (sRet (eVar 2))))
def m_law_ways : MF := runDef 2 6 b_law_ways
def b_stepped : MS :=
  (sRet (eIf (tAnd (tVal (eBin dGt (eN dLen (aCons (eVar 0) aNil)) (eC (.int 0)))) (tVal (eBin dEq (eBin dIx (eVar 0) (eUn dNeg (eC (.int 1)))) (eVar 1)))) (eSl (eVar 0) oNone (oSome (eUn dNeg (eC (.int 1))))) (eBin dAdd (eVar 0) (eN dTup (aCons (eVar 1) aNil)))))
def m_stepped : MF := runDef 2 2 b_stepped
def b_rests : MS :=
  (sSeq (sAsg (gNm 1) (eN dLst (aCons (eN dTup aNil) aNil)))
  (sSeq (sFor (iSeq (eVar 0)) (gNm 2)
    (sDrop (eBM "list" mAppend (eVar 1) (aCons (eCall m_stepped (aCons (eBin dIx (eVar 1) (eUn dNeg (eC (.int 1)))) (aCons (eVar 2) aNil))) aNil))))
  (sRet (eVar 1))))
def m_rests : MF := runDef 1 3 b_rests
def b_rest : MS :=
  (sRet (eBin dIx (eCall m_rests (aCons (eVar 0) aNil)) (eUn dNeg (eC (.int 1)))))
def m_rest : MF := runDef 1 1 b_rest
def b_walks : MS :=
  (sSeq (sAsg (gNm 2) (eBin dAdd (eN dLst (aCons (eC (.int 1)) aNil)) (eBin dTimes (eN dLst (aCons (eC (.int 0)) aNil)) (eBin dAdd (eVar 1) (eC (.int 1))))))
  (sSeq (sFor (iN rng1 (aCons (eVar 1) aNil)) (gNm 3)
    (sSeq (sAsg (gNm 4) (eN dLst (aCons (eBin dTimes (eVar 0) (eBin dIx (eVar 2) (eC (.int 1)))) aNil)))
  (sSeq (sFor (iN rng2 (aCons (eC (.int 1)) (aCons (eBin dAdd (eVar 1) (eC (.int 1))) aNil))) (gNm 5)
    (sDrop (eBM "list" mAppend (eVar 4) (aCons (eBin dAdd (eBin dIx (eVar 2) (eBin dSub (eVar 5) (eC (.int 1)))) (eBin dTimes (eBin dSub (eVar 0) (eC (.int 1))) (eBin dIx (eVar 2) (eBin dAdd (eVar 5) (eC (.int 1)))))) aNil))))
  (sAsg (gNm 2) (eBin dAdd (eVar 4) (eN dLst (aCons (eC (.int 0)) aNil)))))))
  (sRet (eVar 2))))
def m_walks : MF := runDef 2 6 b_walks
def b_walks_to : MS :=
  (sRet (eIf (tVal (eBin dLe (eVar 2) (eVar 1))) (eBin dIx (eCall m_walks (aCons (eVar 0) (aCons (eVar 1) aNil))) (eVar 2)) (eC (.int 0))))
def m_walks_to : MF := runDef 3 3 b_walks_to
def b_lot_many : MS :=
  (sRet (eCall m_walks_to (aCons (eVar 0) (aCons (eN dLen (aCons (eVar 1) aNil)) (aCons (eN dLen (aCons (eCall m_rest (aCons (eVar 1) aNil)) aNil)) aNil)))))
def m_lot_many : MF := runDef 2 2 b_lot_many
def b_common : MS :=
  (sSeq (sFor (iS enumZM (aCons (eVar 0) (aCons (eVar 1) aNil))) (gTp [(gNm 2), (gTp [(gNm 3), (gNm 4)])])
    (sIf (tVal (eBin dNe (eVar 3) (eVar 4)))
    (sRet (eVar 2))
    sNil))
  (sRet (eN dMin2 (aCons (eN dLen (aCons (eVar 0) aNil)) (aCons (eN dLen (aCons (eVar 1) aNil)) aNil)))))
def m_common : MF := runDef 2 5 b_common
def b_apart : MS :=
  (sRet (eBin dSub (eBin dAdd (eN dLen (aCons (eVar 0) aNil)) (eN dLen (aCons (eVar 1) aNil))) (eBin dTimes (eC (.int 2)) (eCall m_common (aCons (eVar 0) (aCons (eVar 1) aNil))))))
def m_apart : MF := runDef 2 2 b_apart
def b_row_at : MS :=
  (sSeq (sIf (tNot (tVal (eChain dLe dLt (eC (.int 0)) (eVar 2) (eCall m_lot_many (aCons (eVar 0) (aCons (eVar 1) aNil))))))
    sNo
    sNil)
  (sSeq (sAsg (gTp [(gNm 3), (gNm 4), (gNm 5), (gNm 6)]) (eN dTup (aCons (eCall m_rest (aCons (eVar 1) aNil)) (aCons (eN dTup aNil) (aCons (eN dTup aNil) (aCons (eVar 2) aNil))))))
  (sSeq (sFor (iN rng1 (aCons (eN dLen (aCons (eVar 1) aNil)) aNil)) (gNm 7)
    (sFor (iN rng1 (aCons (eVar 0) aNil)) (gNm 8)
    (sSeq (sAsg (gNm 9) (eCall m_walks_to (aCons (eVar 0) (aCons (eBin dSub (eBin dSub (eN dLen (aCons (eVar 1) aNil)) (eVar 7)) (eC (.int 1))) (aCons (eCall m_apart (aCons (eCall m_stepped (aCons (eVar 5) (aCons (eVar 8) aNil))) (aCons (eVar 3) aNil))) aNil)))))
  (sSeq (sIf (tVal (eBin dLt (eVar 6) (eVar 9)))
    (sSeq (sAsg (gTp ([4, 5].map gNm)) (eN dTup (aCons (eBin dAdd (eVar 4) (eN dTup (aCons (eVar 8) aNil))) (aCons (eCall m_stepped (aCons (eVar 5) (aCons (eVar 8) aNil))) aNil))))
  sBk)
    sNil)
  (sAug 6 dISub (eVar 9))))))
  (sRet (eVar 4)))))
def m_row_at : MF := runDef 3 10 b_row_at
def b_many_with : MS :=
  (sSeq (sIf (tAnd (tVal (eBin dEq (eVar 0) (eC (.int 1)))) (tVal (eBin dGt (eVar 2) (eC (.int 1)))))
    (sRet (eC (.int 0)))
    sNil)
  (sRet (eCall m_walks_to (aCons (eVar 0) (aCons (eVar 1) (aCons (eVar 2) aNil))))))
def m_many_with : MF := runDef 3 3 b_many_with
def b_bar : MS :=
  (sSeq (sIf (tVal (eBin dNe (eN dLen (aCons (eVar 0) aNil)) (eN dLen (aCons (eVar 1) aNil))))
    (sRet (eC (.str "tiles")))
    sNil)
  (sSeq (sAsg (gNm 2) (eN dTup (aCons (eCall m_rest (aCons (eVar 0) aNil)) (aCons (eCall m_rest (aCons (eVar 1) aNil)) aNil))))
  (sRet (eIf (tVal (eBin dEq (eBin dIx (eVar 2) (eC (.int 0))) (eBin dIx (eVar 2) (eC (.int 1))))) (eC .non) (eVar 2)))))
def m_bar : MF := runDef 2 3 b_bar
def b_look_leads : MS :=
  (sSeq (sAsg (gNm 2) (eCall m_bar (aCons (eVar 0) (aCons (eVar 1) aNil))))
  (sIf (tVal (eBin dIsNot (eVar 2) (eC .non)))
    sNo
    sNil))
def m_look_leads : MF := runDef 2 3 b_look_leads
def b_number_of : MS :=
  (sSeq (sDrop (eCall m_look_leads (aCons (eVar 1) (aCons (eVar 2) aNil))))
  (sSeq (sAsg (gTp ([3, 4, 5].map gNm)) (eN dTup (aCons (eCall m_rest (aCons (eVar 1) aNil)) (aCons (eCall m_rests (aCons (eVar 2) aNil)) (aCons (eC (.int 0)) aNil)))))
  (sSeq (sFor (iS enumM (aCons (eVar 2) aNil)) (gTp [(gNm 6), (gNm 7)])
    (sFor (iN rng1 (aCons (eVar 7) aNil)) (gNm 8)
    (sAug 5 dIAdd (eCall m_walks_to (aCons (eVar 0) (aCons (eBin dSub (eBin dSub (eN dLen (aCons (eVar 2) aNil)) (eVar 6)) (eC (.int 1))) (aCons (eCall m_apart (aCons (eCall m_stepped (aCons (eBin dIx (eVar 4) (eVar 6)) (aCons (eVar 8) aNil))) (aCons (eVar 3) aNil))) aNil)))))))
  (sRet (eVar 5)))))
def m_number_of : MF := runDef 3 9 b_number_of
def b_lots_many : MS :=
  (sSeq (sAsg (gTp [(gNm 2), (gNm 3)]) (eN dTup (aCons (eC (.int 0)) (aCons (eC (.int 1)) aNil))))
  (sSeq (sFor (iN rng1 (aCons (eBin dAdd (eVar 1) (eC (.int 1))) aNil)) (gNm 4)
    (sSeq (sAug 2 dIAdd (eIf (tVal (eBin dEq (eBin dMod (eVar 4) (eC (.int 2))) (eBin dMod (eVar 1) (eC (.int 2))))) (eVar 3) (eC (.int 0))))
  (sAug 3 dIMul (eIf (tVal (eBin dEq (eVar 4) (eC (.int 0)))) (eVar 0) (eBin dSub (eVar 0) (eC (.int 1)))))))
  (sRet (eVar 2))))
def m_lots_many : MF := runDef 2 5 b_lots_many
def b_leads : MS :=
  (sRet (eBin dIs (eCall m_bar (aCons (eVar 0) (aCons (eVar 1) aNil))) (eC .non)))
def m_leads : MF := runDef 2 2 b_leads
def b_law_gap : MS :=
  (sSeq (sAsg (gNm 2) (eC (.int 0)))
  (sSeq (sWhile (tAnd (tVal (eBin dLt (eVar 2) (eN dMin2 (aCons (eN dLen (aCons (eVar 0) aNil)) (aCons (eN dLen (aCons (eVar 1) aNil)) aNil))))) (tVal (eBin dEq (eBin dIx (eVar 0) (eVar 2)) (eBin dIx (eVar 1) (eVar 2)))))
    (sAsg (gNm 2) (eBin dAdd (eVar 2) (eC (.int 1)))))
  (sRet (eBin dSub (eBin dAdd (eN dLen (aCons (eVar 0) aNil)) (eN dLen (aCons (eVar 1) aNil))) (eBin dTimes (eC (.int 2)) (eVar 2))))))
def m_law_gap : MF := runDef 2 3 b_law_gap
def b_law_words : MS :=
  (sSeq (sAsg (gNm 1) (eN dLst (aCons (eN dTup aNil) aNil)))
  (sSeq (sFor (iSeq (eVar 0)) (gNm 2)
    (sSeq (sAsg (gNm 3) (eBin dIx (eVar 1) (eUn dNeg (eC (.int 1)))))
  (sDrop (eBM "list" mAppend (eVar 1) (aCons (eIf (tVal (eBin dEq (eSl (eVar 3) (oSome (eUn dNeg (eC (.int 1)))) oNone) (eN dTup (aCons (eVar 2) aNil)))) (eSl (eVar 3) oNone (oSome (eUn dNeg (eC (.int 1))))) (eBin dAdd (eVar 3) (eN dTup (aCons (eVar 2) aNil)))) aNil)))))
  (sRet (eVar 1))))
def m_law_words : MF := runDef 1 4 b_law_words
def b_law_same (rec_ : MF) : MS :=
  (sSeq (sIf (tVal (eN dIsi (aCons (eVar 1) (aCons (eN dTup (aCons (eC (.ty "list")) (aCons (eC (.ty "tuple")) aNil))) aNil))))
    (sSeq (sIf (tOr (tVal (eBin dNe (eN dIsi (aCons (eVar 0) (aCons (eC (.ty "list")) aNil))) (eN dIsi (aCons (eVar 1) (aCons (eC (.ty "list")) aNil))))) (tVal (eBin dNe (eN dIsi (aCons (eVar 0) (aCons (eC (.ty "tuple")) aNil))) (eN dIsi (aCons (eVar 1) (aCons (eC (.ty "tuple")) aNil))))))
    (sRet (eC (.bl false)))
    sNil)
  (sRet (eAnd (eBin dEq (eN dLen (aCons (eVar 0) aNil)) (eN dLen (aCons (eVar 1) aNil))) (eN dAll (aCons (eComp [2, 3] (iS zip2M (aCons (eVar 0) (aCons (eVar 1) aNil))) (gTp [(gNm 2), (gNm 3)]) tTrue (eCall rec_ (aCons (eVar 2) (aCons (eVar 3) aNil)))) aNil)))))
    sNil)
  (sSeq (sIf (tOr (tVal (eBin dIs (eVar 1) (eC .non))) (tVal (eN dIsi (aCons (eVar 1) (aCons (eN dTup (aCons (eC (.ty "bool")) (aCons (eC (.ty "str")) aNil))) aNil)))))
    (sRet (eAnd (eBin dEq (eVar 0) (eVar 1)) (eAnd (eBin dEq (eN dIsi (aCons (eVar 0) (aCons (eC (.ty "bool")) aNil))) (eN dIsi (aCons (eVar 1) (aCons (eC (.ty "bool")) aNil)))) (eBin dEq (eBin dIs (eVar 0) (eC .non)) (eBin dIs (eVar 1) (eC .non))))))
    sNil)
  (sRet (eAnd (eN dIsi (aCons (eVar 0) (aCons (eC (.ty "int")) aNil))) (eAnd (eNot (eN dIsi (aCons (eVar 0) (aCons (eC (.ty "bool")) aNil)))) (eBin dEq (eVar 0) (eVar 1)))))))
def m_law_same : Nat → MF
  | 0 => runDef 2 4 sNo
  | n + 1 => runDef 2 4 (b_law_same (m_law_same n))
def b_law_behind : MS :=
  (sRet (eIf (tVal (eBin dEq (eSl (eVar 0) oNone (oSome (eC (.int 1)))) (eN dTup (aCons (eVar 1) aNil)))) (eSl (eVar 0) (oSome (eC (.int 1))) oNone) (eBin dAdd (eN dTup (aCons (eVar 1) aNil)) (eVar 0))))
def m_law_behind : MF := runDef 2 2 b_law_behind
def b_law_of : MS :=
  (sRet (eBin dIx (eVar 1) (eCall (m_law_take 8) (aCons (eVar 0) (aCons (eN dLen (aCons (eVar 1) aNil)) aNil)))))
def m_law_of : MF := runDef 2 2 b_law_of
def b_law_strolled : MS :=
  (sSeq (sFor (iN rng1 (aCons (eVar 3) aNil)) (gNm 4)
    (sSeq (sAsg (gNm 5) (eComp [6] (iN rng1 (aCons (eBin dSub (eN dLen (aCons (eVar 1) aNil)) (eC (.int 1))) aNil)) (gNm 6) (tVal (eBin dEq (eBin dIx (eVar 1) (eVar 6)) (eBin dIx (eVar 1) (eBin dAdd (eVar 6) (eC (.int 1)))))) (eVar 6)))
  (sIf (tVal (eBin dNe (eVar 5) (eN dLst aNil)))
    (sSeq (sAsg (gTp ([6, 7].map gNm)) (eN dTup (aCons (eCall m_law_of (aCons (eVar 0) (aCons (eVar 5) aNil))) (aCons (eCall (m_law_take 8) (aCons (eVar 0) (aCons (eVar 2) aNil))) aNil))))
  (sAsg (gNm 1) (eBin dAdd (eBin dAdd (eSl (eVar 1) oNone (oSome (eVar 6))) (eN dTup (aCons (eVar 7) (aCons (eVar 7) aNil)))) (eSl (eVar 1) (oSome (eBin dAdd (eVar 6) (eC (.int 2)))) oNone))))
    sNil)))
  (sRet (eVar 1)))
def m_law_strolled : MF := runDef 4 8 b_law_strolled
def b_law_grown : MS :=
  (sSeq (sAsg (gNm 4) (eN dTuple (aCons (eVar 1) aNil)))
  (sSeq (sWhile (tVal (eBin dLe (eBin dAdd (eN dLen (aCons (eVar 4) aNil)) (eC (.int 2))) (eVar 2)))
    (sSeq (sAsg (gTp ([5, 6].map gNm)) (eN dTup (aCons (eCall (m_law_take 8) (aCons (eVar 0) (aCons (eBin dAdd (eN dLen (aCons (eVar 4) aNil)) (eC (.int 1))) aNil))) (aCons (eCall (m_law_take 8) (aCons (eVar 0) (aCons (eVar 3) aNil))) aNil))))
  (sAsg (gNm 4) (eBin dAdd (eBin dAdd (eSl (eVar 4) oNone (oSome (eVar 5))) (eN dTup (aCons (eVar 6) (aCons (eVar 6) aNil)))) (eSl (eVar 4) (oSome (eVar 5)) oNone)))))
  (sRet (eCall m_law_strolled (aCons (eVar 0) (aCons (eVar 4) (aCons (eVar 3) (aCons (eC (.int 3)) aNil))))))))
def m_law_grown : MF := runDef 4 7 b_law_grown
end Cm

/-! Spec0: words for the shallow functions. -/
namespace Cm
open PySem PySem.Spec PyProof.Rows L2 Tw

/-! ### data -/
def tI (ns : List Int) : D := .tup (ns.map .int)
def lI (ns : List Int) : D := .lst (ns.map .int)
def lW (ws : List (List Int)) : D := .lst (ws.map tI)
def cI (ns : List Int) : Cell := .lst (ns.map .int)
def cW (ws : List (List Int)) : Cell := .lst (ws.map tI)
def plk : Nat → D → Bool
  | 0, _ => false
  | _ + 1, .non => true
  | _ + 1, .bl _ => true
  | _ + 1, .int _ => true
  | _ + 1, .str _ => true
  | k + 1, .tup xs => xs.all (plk k)
  | k + 1, .lst xs => xs.all (plk k)
  | k + 1, .rol xs => xs.all (plk k)
  | _ + 1, _ => false
theorem plk_mono : ∀ {k : Nat} {d : D}, plk k d = true → plk (k + 1) d = true
  | 0, _, h => by simp [plk] at h
  | k + 1, d, h => by
    cases d with
    | tup xs =>
      simp only [plk, List.all_eq_true] at h ⊢
      exact fun x hx => plk_mono (h x hx)
    | lst xs =>
      simp only [plk, List.all_eq_true] at h ⊢
      exact fun x hx => plk_mono (h x hx)
    | rol xs =>
      simp only [plk, List.all_eq_true] at h ⊢
      exact fun x hx => plk_mono (h x hx)
    | _ => first | rfl | (simp [plk] at h)
theorem plk_le {j k : Nat} {d : D} (h : plk j d = true) (l : j ≤ k) : plk k d = true := by
  induction l with
  | refl => exact h
  | step _ ih => exact plk_mono ih
theorem refsLtL_all {n : Nat} : ∀ {xs : List D}, (∀ x ∈ xs, refsLt n x = true) → refsLtL n xs = true
  | [], _ => rfl
  | x :: xs, h => by
    simp only [refsLtL, Bool.and_eq_true]
    exact ⟨h x (by simp), refsLtL_all fun y hy => h y (by simp [hy])⟩
theorem plk_refs {n : Nat} : ∀ {k : Nat} {d : D}, plk k d = true → refsLt n d = true
  | 0, _, h => by simp [plk] at h
  | k + 1, d, h => by
    cases d with
    | tup xs =>
      simp only [plk, List.all_eq_true] at h
      simp only [refsLt]
      exact refsLtL_all fun x hx => plk_refs (h x hx)
    | lst xs =>
      simp only [plk, List.all_eq_true] at h
      simp only [refsLt]
      exact refsLtL_all fun x hx => plk_refs (h x hx)
    | rol xs =>
      simp only [plk, List.all_eq_true] at h
      simp only [refsLt]
      exact refsLtL_all fun x hx => plk_refs (h x hx)
    | _ => first | rfl | (simp [plk] at h)
theorem unboxL_all {f : D → Option (D × List Nat)} : ∀ {xs : List D}, (∀ x ∈ xs, f x = some (x, [])) → unboxL f xs = some (xs, [])
  | [], _ => rfl
  | x :: xs, h => by
    simp only [unboxL]
    rw [h x (by simp), unboxL_all fun y hy => h y (by simp [hy])]
    rfl
theorem plk_unbox {h : Hd} {n : Nat} : ∀ {k : Nat} {d : D}, plk k d = true → unbox h n k d = some (d, [])
  | 0, _, e => by simp [plk] at e
  | k + 1, d, e => by
    cases d with
    | tup xs =>
      simp only [plk, List.all_eq_true] at e
      simp only [unbox]
      rw [unboxL_all fun x hx => plk_unbox (e x hx)]
    | lst xs =>
      simp only [plk, List.all_eq_true] at e
      simp only [unbox]
      rw [unboxL_all fun x hx => plk_unbox (e x hx)]
    | rol xs =>
      have : refsLt n (.rol xs) = true := plk_refs (k := k + 1) e
      simp only [unbox, this, if_true]
    | _ => first | (simp [unbox, refsLt]; done) | (simp [plk] at e)
@[simp] theorem plk_int (k : Nat) (i : Int) : plk (k + 1) (.int i) = true := rfl
@[simp] theorem plk_bl (k : Nat) (i : Bool) : plk (k + 1) (.bl i) = true := rfl
@[simp] theorem plk_non (k : Nat) : plk (k + 1) .non = true := rfl
@[simp] theorem plk_str (k : Nat) (s : Str) : plk (k + 1) (.str s) = true := rfl
theorem all_ints (k : Nat) (ns : List Int) : (ns.map D.int).all (plk (k + 1)) = true := by simp [plk]
@[simp] theorem plk_tI (k : Nat) (ns : List Int) : plk (k + 2) (tI ns) = true := by simp [plk, tI]
@[simp] theorem plk_lI (k : Nat) (ns : List Int) : plk (k + 2) (lI ns) = true := by simp [plk, lI]
theorem all_words (k : Nat) (ws : List (List Int)) : (ws.map tI).all (plk (k + 2)) = true := by simp
@[simp] theorem plk_lW (k : Nat) (ws : List (List Int)) : plk (k + 3) (lW ws) = true := by simp [plk, lW]
/-- a cell of plain data -/
def Fc : Cell → Prop
  | .lst xs => xs.all (plk 10) = true
  | _ => False
def Fl (h : Hd) : Prop := ∀ c ∈ h, Fc c
@[simp] theorem fc_cI (ns : List Int) : Fc (cI ns) := all_ints 9 ns
@[simp] theorem fc_cW (ws : List (List Int)) : Fc (cW ws) := all_words 8 ws
theorem Fl.append {h j : Hd} (a : Fl h) (b : Fl j) : Fl (h ++ j) := fun c hc => (List.mem_append.mp hc).elim (a c) (b c)
theorem Fl.left {h j : Hd} (a : Fl (h ++ j)) : Fl h := fun c hc => a c (List.mem_append_left _ hc)
theorem Fl.push {h : Hd} {c : Cell} (a : Fl h) (b : Fc c) : Fl (h ++ [c]) := a.append fun d hd => by rw [List.mem_singleton.mp hd]; exact b
theorem Fl.put {h : Hd} {c : Cell} (a : Fl h) (b : Fc c) (n : Nat) : Fl (h.set n c) := fun d hd => (List.mem_or_eq_of_mem_set hd).elim (a d) fun e => by rw [e]; exact b
theorem Fl.nil : Fl [] := fun _ z => nomatch z
theorem Fl.refs {h : Hd} (f : Fl h) (n : Nat) : h.all (Cell.refsLt n) = true := by
  rw [List.all_eq_true]
  intro c hc
  have := f c hc
  cases c with
  | lst xs =>
    have e : xs.all (plk 10) = true := this
    rw [List.all_eq_true] at e
    exact refsLtL_all fun x hx => plk_refs (e x hx)
  | dct _ _ => exact this.elim
  | ins _ _ _ => exact this.elim
/-! ### the end of a def -/
theorem gc_val {h1 j : Hd} {d : D} {n : Nat} (f : Fl h1) (p : plk 20 d = true) (hn : n = h1.length) : gc n d (h1 ++ j) = .ok d h1 := by
  subst hn
  unfold gc
  rw [List.take_left, if_pos (f.refs _), plk_unbox p]
  simp
theorem gc_ref {h1 j : Hd} {m n : Nat} {xs : List D} (f : Fl h1) (hn : n = h1.length) (hm : n ≤ m) (e : (h1 ++ j)[m]? = some (.lst xs)) (p : xs.all (plk 19) = true) : gc n (.ref m) (h1 ++ j) = .ok (.lst xs) h1 := by
  subst hn
  unfold gc
  rw [List.take_left, if_pos (f.refs _)]
  simp only [unbox]
  rw [if_neg (by omega), e]
  simp only
  rw [List.all_eq_true] at p
  rw [unboxL_all fun x hx => plk_unbox (p x hx)]
  simp
/-! ### the heap above h0 -/
/-- h' is h0 and plain cells behind -/
def Ab (h0 h' : Hd) : Prop := ∃ j, h' = h0 ++ j ∧ Fl j
theorem Ab.refl (h : Hd) : Ab h h := ⟨[], by simp, Fl.nil⟩
theorem Ab.push {h0 h' : Hd} {c : Cell} (a : Ab h0 h') (b : Fc c) : Ab h0 (h' ++ [c]) := by
  obtain ⟨j, rfl, f⟩ := a
  exact ⟨j ++ [c], by simp, f.push b⟩
theorem Ab.put {h0 h' : Hd} {c : Cell} {n : Nat} (a : Ab h0 h') (b : Fc c) (hn : h0.length ≤ n) : Ab h0 (h'.set n c) := by
  obtain ⟨j, rfl, f⟩ := a
  exact ⟨j.set (n - h0.length) c, List.set_append_right _ _ hn, f.put b _⟩
theorem Ab.fl {h0 h' : Hd} (a : Ab h0 h') (f : Fl h0) : Fl h' := by
  obtain ⟨j, rfl, g⟩ := a
  exact f.append g
theorem Ab.len {h0 h' : Hd} (a : Ab h0 h') : h0.length ≤ h'.length := by
  obtain ⟨j, rfl, g⟩ := a
  simp
theorem Ab.get {h0 h' : Hd} (a : Ab h0 h') {n : Nat} (hn : n < h0.length) : h'[n]? = h0[n]? := by
  obtain ⟨j, rfl, g⟩ := a
  exact List.getElem?_append_left hn
theorem Ab.gcv {h0 h' : Hd} {d : D} (a : Ab h0 h') (f : Fl h0) (p : plk 20 d = true) : gc h0.length d h' = .ok d h0 := by
  obtain ⟨j, rfl, g⟩ := a
  exact gc_val f p rfl
theorem Ab.gcr {h0 h' : Hd} {m : Nat} {xs : List D} (a : Ab h0 h') (f : Fl h0) (hm : h0.length ≤ m) (e : h'[m]? = some (.lst xs)) (p : xs.all (plk 19) = true) : gc h0.length (.ref m) h' = .ok (.lst xs) h0 := by
  obtain ⟨j, rfl, g⟩ := a
  exact gc_ref f rfl hm e p
theorem Ab.gcI {h0 h' : Hd} {m : Nat} {ns : List Int} (a : Ab h0 h') (f : Fl h0) (hm : h0.length ≤ m) (e : h'[m]? = some (cI ns)) : gc h0.length (.ref m) h' = .ok (lI ns) h0 := a.gcr f hm e (all_ints 18 ns)
theorem Ab.gcW {h0 h' : Hd} {m : Nat} {ns : List (List Int)} (a : Ab h0 h') (f : Fl h0) (hm : h0.length ≤ m) (e : h'[m]? = some (cW ns)) : gc h0.length (.ref m) h' = .ok (lW ns) h0 := a.gcr f hm e (all_words 17 ns)
theorem get_last (h : Hd) (c : Cell) : (h ++ [c])[h.length]? = some c := by simp
theorem get_set {h : Hd} {n : Nat} {c d : Cell} (e : h[n]? = some c) : (h.set n d)[n]? = some d := List.getElem?_set_self (List.getElem?_eq_some_iff.mp e).1
theorem lt_of_get {h : Hd} {n : Nat} {c : Cell} (e : h[n]? = some c) : n < h.length := (List.getElem?_eq_some_iff.mp e).1
theorem get_push {h : Hd} {n : Nat} {c d : Cell} (e : h[n]? = some c) : (h ++ [d])[n]? = some c := by rw [List.getElem?_append_left (lt_of_get e)]; exact e
/-! ### loops -/
theorem forGo_rule {g : MG} {body : MS} {src : Src} {items : List D} {P : RS → Prop} (I : Nat → En → Hd → Prop) (hs : ∀ i env h, I i env h → srcOk src h = true)
    (step : ∀ i x env h, items[i]? = some x → I i env h → ∃ ps, g x h = some ps ∧ (match body (setAll env ps) h with
      | .nx e h' => I (i + 1) e h'
      | .ct e h' => I (i + 1) e h'
      | .bk e h' => P (.nx e h')
      | .rt d h' => P (.rt d h')
      | _ => False)) (fin : ∀ env h, I items.length env h → P (.nx env h)) : ∀ (k i : Nat), i + k = items.length → ∀ env h, I i env h → P (forGo g body src (items.drop i) env h)
  | 0, i, hk, env, h, hi => by
    have e : items.drop i = [] := List.drop_of_length_le (by omega)
    rw [e]
    unfold forGo
    rw [if_pos (hs i env h hi)]
    have : i = items.length := by omega
    subst this
    exact fin env h hi
  | k + 1, i, hk, env, h, hi => by
    have hl : i < items.length := by omega
    rw [List.drop_eq_getElem_cons hl]
    unfold forGo
    rw [if_pos (hs i env h hi)]
    obtain ⟨ps, e, st⟩ := step i items[i] env h (List.getElem?_eq_getElem hl) hi
    rw [e]
    simp only
    cases eb : body (setAll env ps) h with
    | nx e' h' => rw [eb] at st; exact forGo_rule I hs step fin k (i + 1) (by omega) e' h' st
    | ct e' h' => rw [eb] at st; exact forGo_rule I hs step fin k (i + 1) (by omega) e' h' st
    | bk e' h' => rw [eb] at st; exact st
    | rt d h' => rw [eb] at st; exact st
    | exc _ _ _ => rw [eb] at st; exact st.elim
    | stuck => rw [eb] at st; exact st.elim
/-- a loop that runs to its end -/
theorem forGo_nx {g : MG} {body : MS} {src : Src} {items : List D} (I : Nat → En → Hd → Prop) (hs : ∀ i env h, I i env h → srcOk src h = true)
    (step : ∀ i x env h, items[i]? = some x → I i env h → ∃ ps env' h', g x h = some ps ∧ body (setAll env ps) h = .nx env' h' ∧ I (i + 1) env' h') {env : En} {h : Hd} (h0 : I 0 env h) :
    ∃ env' h', forGo g body src items env h = .nx env' h' ∧ I items.length env' h' := by
  have := forGo_rule (g := g) (body := body) (src := src) (items := items) (P := fun r => ∃ env' h', r = .nx env' h' ∧ I items.length env' h') I hs (fun i x env h e hi => by
    obtain ⟨ps, env', h', e1, e2, e3⟩ := step i x env h e hi
    exact ⟨ps, e1, by rw [e2]; exact e3⟩) (fun env h hi => ⟨env, h, rfl, hi⟩) items.length 0 (by omega) env h h0
  simpa using this
theorem compGo_map {env : En} {g : MG} {tt : MT} {te : ME} {src : Src} {h : Hd} {p : D → Bool} {f : D → D} (hs : srcOk src h = true) : ∀ {items : List D},
    (∀ x ∈ items, ∃ ps, g x h = some ps ∧ tt (setAll env ps) h = .ok (p x) h ∧ (p x = true → te (setAll env ps) h = .ok (f x) h)) → compGo env g tt te src items h = .ok ((items.filter p).map f) h
  | [], _ => by
    unfold compGo
    rw [if_pos hs]
    rfl
  | x :: xs, hx => by
    unfold compGo
    rw [if_pos hs]
    obtain ⟨ps, e1, e2, e3⟩ := hx x (by simp)
    rw [e1]
    simp only
    rw [e2]
    have ih : compGo env g tt te src xs h = .ok ((xs.filter p).map f) h := compGo_map hs fun y hy => hx y (List.mem_cons_of_mem _ hy)
    cases hp : p x with
    | true =>
      simp only [e3 hp, ih, R.bind_ok, List.filter_cons, hp, if_true, List.map_cons]
    | false =>
      simp [ih, List.filter_cons, hp]
/-- a comprehension whose items change the heap -/
theorem compGo_rule {env : En} {g : MG} {tt : MT} {te : ME} {src : Src} {items : List D} (I : Nat → List D → Hd → Prop) (hs : ∀ i ds h, I i ds h → srcOk src h = true)
    (step : ∀ i x ds h, items[i]? = some x → I i ds h → ∃ ps b h', g x h = some ps ∧ tt (setAll env ps) h = .ok b h' ∧ (match b with
      | true => ∃ d h'', te (setAll env ps) h' = .ok d h'' ∧ I (i + 1) (ds ++ [d]) h''
      | false => I (i + 1) ds h')) : ∀ (k i : Nat), i + k = items.length → ∀ ds h, I i ds h → ∃ more h', compGo env g tt te src (items.drop i) h = .ok more h' ∧ I items.length (ds ++ more) h'
  | 0, i, hk, ds, h, hi => by
    have e : items.drop i = [] := List.drop_of_length_le (by omega)
    rw [e]
    unfold compGo
    rw [if_pos (hs i ds h hi)]
    have : i = items.length := by omega
    subst this
    exact ⟨[], h, rfl, by simpa using hi⟩
  | k + 1, i, hk, ds, h, hi => by
    have hl : i < items.length := by omega
    rw [List.drop_eq_getElem_cons hl]
    unfold compGo
    rw [if_pos (hs i ds h hi)]
    obtain ⟨ps, b, h', e1, e2, st⟩ := step i items[i] ds h (List.getElem?_eq_getElem hl) hi
    rw [e1]
    simp only
    rw [e2]
    cases b with
    | true =>
      obtain ⟨d, h'', e3, hi'⟩ := st
      simp only
      rw [e3]
      obtain ⟨more, h3, e4, hi3⟩ := compGo_rule I hs step k (i + 1) (by omega) (ds ++ [d]) h'' hi'
      simp only
      rw [e4]
      exact ⟨d :: more, h3, rfl, by simpa using hi3⟩
    | false =>
      simp only
      exact compGo_rule I hs step k (i + 1) (by omega) ds h' st
end Cm

/-! Spec1: the functions on tuples of numbers: stepped, rests, rest, common, apart, bar, leads. -/
namespace Cm
open PySem PySem.Spec PyProof.Rows L2 Tw

section
variable {env : En} {h : Hd}
@[simp] theorem x_eVar (i : Nat) : eVar i env h = (match env[i]? with
  | some (some d) => .ok d h
  | _ => .stuck) := id rfl
@[simp] theorem x_eC (d : D) : eC d env h = .ok d h := id rfl
@[simp] theorem x_eUn (op : D → Hd → Option D) (a : ME) : eUn op a env h = (a env h).bind fun x h1 => R.lift h1 (op x h1) := id rfl
@[simp] theorem x_eBin (op : D → D → Hd → Option D) (a b : ME) : eBin op a b env h = (a env h).bind fun x h1 => (b env h1).bind fun y h2 => R.lift h2 (op x y h2) := id rfl
@[simp] theorem x_aNil : aNil env h = .ok [] h := id rfl
@[simp] theorem x_aCons (a : ME) (as : MA) : aCons a as env h = (a env h).bind fun x h1 => (as env h1).bind fun xs h2 => .ok (x :: xs) h2 := id rfl
@[simp] theorem x_eN (op : List D → Hd → Option D) (as : MA) : eN op as env h = (as env h).bind fun xs h1 => R.lift h1 (op xs h1) := id rfl
@[simp] theorem x_asB (b : Bool) : asB h (.bl b) = .ok b h := id rfl
@[simp] theorem x_tVal (a : ME) : tVal a env h = (a env h).bind fun x h1 => asB h1 x := id rfl
@[simp] theorem x_tNot (a : MT) : tNot a env h = (a env h).bind fun b h1 => .ok (!b) h1 := id rfl
@[simp] theorem x_tAnd (a b : MT) : tAnd a b env h = (a env h).bind fun c h1 => if c = true then b env h1 else .ok false h1 := id rfl
@[simp] theorem x_tOr (a b : MT) : tOr a b env h = (a env h).bind fun c h1 => if c = true then .ok true h1 else b env h1 := id rfl
@[simp] theorem x_eIf (t : MT) (a b : ME) : eIf t a b env h = (t env h).bind fun c h1 => if c = true then a env h1 else b env h1 := id rfl
@[simp] theorem x_asBD (c : Bool) (f : Bool → R D) : asBD h (.bl c) f = f c := id rfl
@[simp] theorem x_eAnd (a b : ME) : eAnd a b env h = (a env h).bind fun x h1 => asBD h1 x fun c => if c = true then b env h1 else .ok (.bl false) h1 := id rfl
@[simp] theorem x_eOr (a b : ME) : eOr a b env h = (a env h).bind fun x h1 => asBD h1 x fun c => if c = true then .ok (.bl true) h1 else b env h1 := id rfl
@[simp] theorem x_eNot (a : ME) : eNot a env h = (a env h).bind fun x h1 => asBD h1 x fun c => .ok (.bl (!c)) h1 := id rfl
@[simp] theorem x_eCall (mf : MF) (as : MA) : eCall mf as env h = (as env h).bind fun ds h1 => mf ds h1 := id rfl
@[simp] theorem x_oNone : oNone env h = .ok none h := id rfl
@[simp] theorem x_oSome (a : ME) : oSome a env h = (a env h).bind fun x h1 => asI h1 x := id rfl
@[simp] theorem x_asI (i : Int) : asI h (.int i) = .ok (some i) h := id rfl
@[simp] theorem x_eSl (a : ME) (lo hi : MO) : eSl a lo hi env h = (a env h).bind fun x h1 => (lo env h1).bind fun l h2 => (hi env h2).bind fun u h3 => R.lift h3 (dSl x l u h3) := id rfl
@[simp] theorem x_sSeq (a b : MS) : sSeq a b env h = (match a env h with
  | .nx env' h' => b env' h'
  | r => r) := id rfl
@[simp] theorem x_sDrop (a : ME) : sDrop a env h = RS.of env (a env h) fun _ h1 => .nx env h1 := id rfl
@[simp] theorem x_sRet (a : ME) : sRet a env h = RS.of env (a env h) fun d h1 => .rt d h1 := id rfl
@[simp] theorem x_sRetN : sRetN env h = .rt .non h := id rfl
@[simp] theorem x_sBk : sBk env h = .bk env h := id rfl
@[simp] theorem x_sCt : sCt env h = .ct env h := id rfl
@[simp] theorem x_sNil : sNil env h = .nx env h := id rfl
@[simp] theorem x_sIf (t : MT) (a b : MS) : sIf t a b env h = RS.ofB env (t env h) fun c h1 => if c = true then a env h1 else b env h1 := id rfl
@[simp] theorem x_gNm (i : Nat) (d : D) : gNm i d h = some [(i, d)] := id rfl
@[simp] theorem x_gTp (gs : List MG) (ds : List D) : gTp gs (.tup ds) h = gAll gs ds h := id rfl
@[simp] theorem x_gAll0 : gAll [] [] h = some [] := id rfl
@[simp] theorem x_gAll (g : MG) (gs : List MG) (d : D) (ds : List D) : gAll (g :: gs) (d :: ds) h = (match g d h, gAll gs ds h with
    | some a, some b => some (a ++ b)
    | _, _ => none) := id rfl
@[simp] theorem x_setAll0 : setAll env [] = env := id rfl
@[simp] theorem x_setAll (p : Nat × D) (ps : List (Nat × D)) : setAll env (p :: ps) = setAll (env.set p.1 (some p.2)) ps := id rfl
@[simp] theorem x_sAsg (g : MG) (a : ME) : sAsg g a env h = RS.of env (a env h) fun d h1 => match g (box d h1).1 (box d h1).2 with
  | some ps => .nx (setAll env ps) (box d h1).2
  | none => .stuck := id rfl
@[simp] theorem x_sAug (i : Nat) (f : D → D → Hd → Option D) (me : ME) : sAug i f me env h = (match env[i]? with
  | some (some x) => RS.of env (me env h) fun y h1 => match f x y h1 with
    | some z => if z.set = true then .nx (env.set i (some z)) h1 else .stuck
    | none => .stuck
  | _ => .stuck) := id rfl
@[simp] theorem x_eBM (T : String) (f : D → List D → Hd → Option (D × Hd)) (mo : ME) (as : MA) : eBM T f mo as env h = (mo env h).bind fun x h1 => if tyD T h1 x = true then (as env h1).bind fun ds h2 => liftM (f x ds h2) else .stuck := id rfl
@[simp] theorem x_liftM (d : D) (h1 : Hd) : liftM (some (d, h1)) = .ok d h1 := id rfl
@[simp] theorem x_eChain (f g : D → D → Hd → Option D) (a b c : ME) : eChain f g a b c env h = (a env h).bind fun x h1 => (b env h1).bind fun y h2 => match f x y h2 with
  | some (.bl true) => if y.set = true then (c env h2).bind fun z h3 => R.lift h3 (g y z h3) else .stuck
  | some (.bl false) => .ok (.bl false) h2
  | _ => .stuck := id rfl
theorem x_sFor (mi : MI) (g : MG) (body : MS) : sFor mi g body env h = (match mi env h with
  | .ok (items, src) h1 => forGo g body src items env h1
  | .exc e h1 => .exc e env h1
  | .stuck => .stuck) := id rfl
@[simp] theorem x_iSeq (a : ME) : iSeq a env h = (match a env h with
  | .ok d h1 => seqI h1 d
  | .exc e h1 => .exc e h1
  | .stuck => .stuck) := id rfl
@[simp] theorem x_iN (f : List D → Option (List D)) (as : MA) : iN f as env h = (match as env h with
  | .ok ds h1 => liftI h1 (f ds)
  | .exc e h1 => .exc e h1
  | .stuck => .stuck) := id rfl
@[simp] theorem x_iS (f : Hd → List D → Option (List D × Src)) (as : MA) : iS f as env h = (match as env h with
  | .ok ds h1 => liftS h1 (f h1 ds)
  | .exc e h1 => .exc e h1
  | .stuck => .stuck) := id rfl
@[simp] theorem x_liftI (items : List D) : liftI h (some items) = .ok (items, []) h := id rfl
@[simp] theorem x_liftS (r : List D × Src) : liftS h (some r) = .ok r h := id rfl
@[simp] theorem x_srcOk0 : srcOk [] h = true := id rfl
/-! ### boxing -/
@[simp] theorem box_int (i : Int) : box (.int i) h = (.int i, h) := id rfl
@[simp] theorem box_bl (i : Bool) : box (.bl i) h = (.bl i, h) := id rfl
@[simp] theorem box_non : box .non h = (.non, h) := id rfl
@[simp] theorem box_str (s : Str) : box (.str s) h = (.str s, h) := id rfl
@[simp] theorem box_ref (n : Nat) : box (.ref n) h = (.ref n, h) := id rfl
@[simp] theorem box_rol (xs : List D) : box (.rol xs) h = (.rol xs, h) := id rfl
theorem pureL_ints : ∀ ns : List Int, pureL (ns.map .int) = true
  | [] => rfl
  | n :: ns => by
    show (true && pureL (ns.map .int)) = true
    rw [pureL_ints ns]; rfl
@[simp] theorem pure_tI (ns : List Int) : (tI ns).pure = true := pureL_ints ns
theorem pureL_words : ∀ ns : List (List Int), pureL (ns.map tI) = true
  | [] => rfl
  | n :: ns => by
    show ((tI n).pure && pureL (ns.map tI)) = true
    rw [pureL_words ns, pure_tI]; rfl
@[simp] theorem box_tI (ns : List Int) : box (tI ns) h = (tI ns, h) := box_pure _ _ (pure_tI ns)
theorem boxL_ints (ns : List Int) : boxL (ns.map .int) h = (ns.map .int, h) := boxL_pure _ _ (pureL_ints ns)
theorem boxL_words (ns : List (List Int)) : boxL (ns.map tI) h = (ns.map tI, h) := boxL_pure _ _ (pureL_words ns)
@[simp] theorem box_lI (ns : List Int) : box (lI ns) h = (.ref h.length, h ++ [cI ns]) := by
  unfold lI cI box
  rw [boxL_ints]
@[simp] theorem box_lW (ns : List (List Int)) : box (lW ns) h = (.ref h.length, h ++ [cW ns]) := by
  unfold lW cW box
  rw [boxL_words]
@[simp] theorem boxL_nil : boxL [] h = ([], h) := id rfl
@[simp] theorem boxL_cons (x : D) (xs : List D) : boxL (x :: xs) h = ((box x h).1 :: (boxL xs (box x h).2).1, (boxL xs (box x h).2).2) := id rfl
@[simp] theorem box_tup (x : D) (xs : List D) : box (.tup (x :: xs)) h = (.tup (boxL (x :: xs) h).1, (boxL (x :: xs) h).2) := id rfl
theorem set_of_ints : ∀ ns : List Int, setL (ns.map .int) = true := fun ns => setL_of_pure (pureL_ints ns)
@[simp] theorem set_tI (ns : List Int) : (tI ns).set = true := D.set_of_pure (pure_tI ns)
@[simp] theorem set_int (i : Int) : (D.int i).set = true := id rfl
@[simp] theorem set_bl (i : Bool) : (D.bl i).set = true := id rfl
theorem setL_words (ns : List (List Int)) : setL (ns.map tI) = true := setL_of_pure (pureL_words ns)
/-! ### operations -/
@[simp] theorem o_add (i j : Int) : dAdd (.int i) (.int j) h = some (.int (i + j)) := id rfl
@[simp] theorem o_sub (i j : Int) : dSub (.int i) (.int j) h = some (.int (i - j)) := id rfl
@[simp] theorem o_lt (i j : Int) : dLt (.int i) (.int j) h = some (.bl (decide (i < j))) := id rfl
@[simp] theorem o_le (i j : Int) : dLe (.int i) (.int j) h = some (.bl (decide (i ≤ j))) := id rfl
@[simp] theorem o_gt (i j : Int) : dGt (.int i) (.int j) h = some (.bl (decide (j < i))) := id rfl
@[simp] theorem o_ge (i j : Int) : dGe (.int i) (.int j) h = some (.bl (decide (j ≤ i))) := id rfl
@[simp] theorem o_neg (i : Int) : dNeg (.int i) h = some (.int (-i)) := id rfl
@[simp] theorem o_iadd (i j : Int) : dIAdd (.int i) (.int j) h = some (.int (i + j)) := id rfl
@[simp] theorem o_isub (i j : Int) : dISub (.int i) (.int j) h = some (.int (i - j)) := id rfl
@[simp] theorem o_isn (d : D) : dIs d .non h = some (.bl (Tw.isNon d)) := id rfl
@[simp] theorem o_isNotn (d : D) : dIsNot d .non h = some (.bl (!Tw.isNon d)) := id rfl
@[simp] theorem o_isNon_non : Tw.isNon .non = true := id rfl
@[simp] theorem o_isNon_tI (w : List Int) : Tw.isNon (tI w) = false := id rfl
@[simp] theorem o_isNon_tup (w : List D) : Tw.isNon (.tup w) = false := id rfl
@[simp] theorem o_isNon_str (w : Str) : Tw.isNon (.str w) = false := id rfl
theorem o_mod {i j : Int} (hj : 0 < j) : dMod (.int i) (.int j) h = some (.int (i % j)) := by simp [dMod, hj]
theorem o_fdiv {i j : Int} (hj : 0 < j) (hs : j.natAbs < 2 ^ 8000) : dFdiv (.int i) (.int j) h = some (.int (i / j)) := by simp only [dFdiv, hj, hs, decide_true, Bool.and_self, if_true]
theorem o_mul {i j : Int} (hi : -(2 ^ 64) < i) (hi2 : i < 2 ^ 64) : dTimes (.int i) (.int j) h = some (.int (i * j)) := by
  simp only [dTimes, dMul, mulOk, hi, hi2, decide_true, Bool.true_or, Bool.and_self, if_true]
theorem o_mul2 {i j : Int} (hi : -(2 ^ 64) < j) (hi2 : j < 2 ^ 64) : dTimes (.int i) (.int j) h = some (.int (i * j)) := by
  simp only [dTimes, dMul, mulOk, hi, hi2, decide_true, Bool.true_or, Bool.or_true, Bool.and_self, if_true]
@[simp] theorem o_eqI (i j : Int) : dEq (.int i) (.int j) h = some (.bl (i == j)) := id rfl
@[simp] theorem o_neI (i j : Int) : dNe (.int i) (.int j) h = some (.bl (!(i == j))) := id rfl
theorem optL_ints (k : Nat) : ∀ ns : List Int, optL (toPy h (k + 1)) (ns.map .int) = some (ns.map PyData.int)
  | [] => rfl
  | n :: ns => by
    simp only [List.map_cons, optL]
    rw [optL_ints k ns]
    rfl
@[simp] theorem toPy_tI (k : Nat) (ns : List Int) : toPy h (k + 2) (tI ns) = some (.tuple (ns.map .int)) := by
  simp only [tI, toPy]
  rw [optL_ints]
theorem eqv_ints : ∀ a b : List Int, PyData.eqvAll (a.map .int) (b.map .int) = (a == b)
  | [], [] => rfl
  | [], _ :: _ => rfl
  | _ :: _, [] => rfl
  | a :: as, b :: bs => by
    simp only [List.map_cons, PyData.eqvAll, PyData.eqv]
    rw [eqv_ints as bs]
    rfl
@[simp] theorem o_eqT (a b : List Int) : dEq (tI a) (tI b) h = some (.bl (a == b)) := by
  unfold dEq
  rw [toPy_tI, toPy_tI]
  simp only [PyData.eqv]
  rw [eqv_ints]
@[simp] theorem o_neT (a b : List Int) : dNe (tI a) (tI b) h = some (.bl (!(a == b))) := by
  unfold dNe
  rw [toPy_tI, toPy_tI]
  simp only [PyData.eqv]
  rw [eqv_ints]
theorem o_addT {a b : List Int} (hl : a.length + b.length ≤ sizeLine) : dAdd (tI a) (tI b) h = some (tI (a ++ b)) := by
  simp only [dAdd, tI, List.length_map, hl, if_true, List.map_append]
@[simp] theorem o_tup0 : dTup [] h = some (tI []) := id rfl
@[simp] theorem o_tup1 (i : Int) : dTup [.int i] h = some (tI [i]) := by
  unfold dTup
  rw [if_pos (by simp [sizeLine_eq])]
  rfl
@[simp] theorem o_lenT (a : List Int) : dLen [tI a] h = some (.int a.length) := by simp [dLen, seqOf, tI]
theorem o_lenRef {n : Nat} {xs : List D} (e : h[n]? = some (.lst xs)) : dLen [.ref n] h = some (.int xs.length) := by simp [dLen, seqOf, e]
@[simp] theorem o_lenL (xs : List D) : dLen [.lst xs] h = some (.int xs.length) := by simp [dLen, seqOf]
theorem atI_map {α β : Type} (f : α → β) (xs : List α) (i : Int) : atI (xs.map f) i = (atI xs i).map f := by
  unfold atI
  rw [List.length_map]
  cases ixN xs.length i with
  | none => rfl
  | some j => simp
@[simp] theorem o_ixT (a : List Int) (i : Int) : dIx (tI a) (.int i) h = (atI a i).map .int := by
  show (match seqOf h (tI a) with
    | some xs => atI xs i
    | none => none) = _
  simp only [tI, seqOf]
  exact atI_map _ _ _
theorem o_ixRef {n : Nat} {xs : List D} (e : h[n]? = some (.lst xs)) (i : Int) : dIx (.ref n) (.int i) h = atI xs i := by
  show (match seqOf h (.ref n) with
    | some xs => atI xs i
    | none => none) = _
  simp only [seqOf, e]
theorem o_ixL (xs : List D) (i : Int) : dIx (.lst xs) (.int i) h = atI xs i := id rfl
theorem atI_last {α : Type} (xs : List α) : atI xs (-1) = xs.getLast? := by
  unfold atI ixN
  rw [if_neg (by omega)]
  cases xs with
  | nil => rfl
  | cons x xs =>
    rw [if_pos (by simp only [List.length_cons]; omega)]
    simp only [Option.bind_some, List.getLast?_eq_getElem?]
    congr 1
    simp only [List.length_cons]
    omega
theorem atI_nat {α : Type} (xs : List α) (j : Nat) : atI xs (j : Int) = xs[j]? := by
  unfold atI ixN
  rw [if_pos (by omega)]
  by_cases hj : j < xs.length
  · rw [if_pos (by omega)]
    simp
  · rw [if_neg (by omega), List.getElem?_eq_none (by omega)]
    rfl
theorem cutL_map {α β : Type} (f : α → β) (xs : List α) (lo hi : Option Int) : cutL (xs.map f) lo hi = (cutL xs lo hi).map f := by
  unfold cutL
  simp [List.map_take, List.map_drop]
@[simp] theorem o_slT (a : List Int) (lo hi : Option Int) : dSl (tI a) lo hi h = some (tI (cutL a lo hi)) := by
  simp only [dSl, tI]
  rw [cutL_map]
theorem cutL_init {α : Type} (xs : List α) : cutL xs none (some (-1)) = xs.dropLast := by
  unfold cutL
  simp only [HT.sIx]
  rw [if_pos (by omega), List.drop_zero, List.dropLast_eq_take]
  congr 1
  omega
end

section
variable {env : En} {h : Hd}
@[simp] theorem seqI_tI (ns : List Int) : seqI h (tI ns) = .ok (ns.map .int, []) h := by
  simp only [tI, seqI]
  rw [if_pos (set_of_ints ns)]
@[simp] theorem o_lst0 : dLst [] h = some (lW []) := id rfl
@[simp] theorem o_lstW (w : List Int) : dLst [tI w] h = some (lW [w]) := by
  unfold dLst
  rw [if_pos (by simp [sizeLine_eq])]
  rfl
@[simp] theorem o_lstI (i : Int) : dLst [.int i] h = some (lI [i]) := by
  unfold dLst
  rw [if_pos (by simp [sizeLine_eq])]
  rfl
theorem ap_W {n : Nat} {ws : List (List Int)} {w : List Int} (e : h[n]? = some (cW ws)) (hl : ws.length < sizeLine) : mAppend (.ref n) [tI w] h = some (.non, h.set n (cW (ws ++ [w]))) := by
  simp only [mAppend, box_tI, e, cW, List.length_map, hl, if_true, List.map_append, List.map_cons, List.map_nil]
theorem ap_I {n : Nat} {ws : List Int} {w : Int} (e : h[n]? = some (cI ws)) (hl : ws.length < sizeLine) : mAppend (.ref n) [.int w] h = some (.non, h.set n (cI (ws ++ [w]))) := by
  simp only [mAppend, box_int, e, cI, List.length_map, hl, if_true, List.map_append, List.map_cons, List.map_nil]
theorem ty_ref {n : Nat} {xs : List D} (e : h[n]? = some (.lst xs)) : tyD "list" h (.ref n) = true := by simp [tyD, e]
theorem ty_W {n : Nat} {xs : List (List Int)} (e : h[n]? = some (cW xs)) : tyD "list" h (.ref n) = true := ty_ref e
theorem ty_I {n : Nat} {xs : List Int} (e : h[n]? = some (cI xs)) : tyD "list" h (.ref n) = true := ty_ref e
theorem ix_W {n : Nat} {ws : List (List Int)} (e : h[n]? = some (cW ws)) (i : Int) : dIx (.ref n) (.int i) h = (atI ws i).map tI := by
  rw [o_ixRef e, atI_map]
theorem ix_I {n : Nat} {ws : List Int} (e : h[n]? = some (cI ws)) (i : Int) : dIx (.ref n) (.int i) h = (atI ws i).map .int := by
  rw [o_ixRef e, atI_map]
theorem len_W {n : Nat} {ws : List (List Int)} (e : h[n]? = some (cW ws)) : dLen [.ref n] h = some (.int ws.length) := by
  rw [o_lenRef e, List.length_map]
theorem len_I {n : Nat} {ws : List Int} (e : h[n]? = some (cI ws)) : dLen [.ref n] h = some (.int ws.length) := by
  rw [o_lenRef e, List.length_map]
theorem ix_lW (ws : List (List Int)) (i : Int) : dIx (lW ws) (.int i) h = (atI ws i).map tI := by
  show atI (ws.map tI) i = _
  rw [atI_map]
theorem ix_lI (ws : List Int) (i : Int) : dIx (lI ws) (.int i) h = (atI ws i).map .int := by
  show atI (ws.map D.int) i = _
  rw [atI_map]
@[simp] theorem len_lW (ws : List (List Int)) : dLen [lW ws] h = some (.int ws.length) := by
  unfold lW
  rw [o_lenL, List.length_map]
@[simp] theorem len_lI (ws : List Int) : dLen [lI ws] h = some (.int ws.length) := by
  unfold lI
  rw [o_lenL, List.length_map]
theorem rd_eq (np nl : Nat) (b : MS) (ds : List D) : runDef np nl b ds h = if ds.length = np then match b ((boxL ds h).1.map some ++ List.replicate (nl - np) none) (boxL ds h).2 with
    | .nx _ h' => gc h.length .non h'
    | .rt d h' => gc h.length d h'
    | .exc e _ h' => .exc e h'
    | _ => .stuck
  else .stuck := id rfl
end
theorem line1000 {n : Nat} (h : n ≤ 1000) : n < sizeLine := by rw [sizeLine_eq]; omega
/-! ### stepped -/
def stp (w : List Int) (c : Int) : List Int := if w.getLast? = some c then w.dropLast else w ++ [c]
theorem stp_length (w : List Int) (c : Int) : (stp w c).length ≤ w.length + 1 := by
  unfold stp
  split
  · simp; omega
  · simp
theorem m_stepped_eq {h : Hd} {w : List Int} {c : Int} (f : Fl h) (hw : w.length < sizeLine) : m_stepped [tI w, .int c] h = .ok (tI (stp w c)) h := by
  have key : b_stepped [some (tI w), some (.int c)] h = .rt (tI (stp w c)) h := by
    unfold b_stepped stp
    cases w with
    | nil => simp [atI_last, o_addT (h := h) (a := []) (b := [c]) (by simp [sizeLine_eq])]
    | cons x xs =>
      have hp : (0 : Int) < ((x :: xs).length : Int) := by simp only [List.length_cons]; omega
      obtain ⟨z, hz⟩ : ∃ z, (x :: xs).getLast? = some z := ⟨_, List.getLast?_eq_getLast (List.cons_ne_nil x xs)⟩
      have ha := o_addT (h := h) (a := x :: xs) (b := [c]) (by simp at hw ⊢; omega)
      simp [hp, atI_last, hz, cutL_init, ha]
      split <;> rfl
  simp [m_stepped, rd_eq, key]
  exact (Ab.refl h).gcv f (plk_tI 18 _)
/-! ### rests -/
def rstsFrom (w : List Int) : List Int → List (List Int)
  | [] => [w]
  | c :: cs => w :: rstsFrom (stp w c) cs
def rsts (row : List Int) : List (List Int) := rstsFrom [] row
def rst (row : List Int) : List Int := row.foldl stp []
theorem rsts_snoc (w : List Int) (c : Int) : ∀ row : List Int, rstsFrom w (row ++ [c]) = rstsFrom w row ++ [(row ++ [c]).foldl stp w]
  | [] => rfl
  | d :: row => by
    show w :: rstsFrom (stp w d) (row ++ [c]) = (w :: rstsFrom (stp w d) row) ++ _
    rw [rsts_snoc (stp w d) c row]
    rfl
theorem rsts_len (w : List Int) : ∀ row : List Int, (rstsFrom w row).length = row.length + 1
  | [] => rfl
  | d :: row => by
    show (rstsFrom (stp w d) row).length + 1 = _
    rw [rsts_len]
    rfl
theorem rsts_last (w : List Int) : ∀ row : List Int, (rstsFrom w row).getLast? = some (row.foldl stp w)
  | [] => rfl
  | d :: row => by
    have := rsts_last (stp w d) row
    have ne : rstsFrom (stp w d) row ≠ [] := fun z => by have := rsts_len (stp w d) row; rw [z] at this; cases this
    show (w :: rstsFrom (stp w d) row).getLast? = _
    rw [List.getLast?_cons, this]
    rfl
theorem fold_len (w : List Int) : ∀ row : List Int, (row.foldl stp w).length ≤ w.length + row.length
  | [] => Nat.le_refl _
  | d :: row => by
    have h1 := fold_len (stp w d) row
    have h2 := stp_length w d
    simp only [List.foldl_cons, List.length_cons]
    omega
theorem rst_len (row : List Int) : (rst row).length ≤ row.length := by
  have := fold_len [] row
  simpa [rst] using this
theorem m_rests_eq {h : Hd} {row : List Int} (f : Fl h) (hr : row.length ≤ 1000) : m_rests [tI row] h = .ok (lW (rsts row)) h := by
  have key : ∃ h' e, b_rests [some (tI row), none, none] h = .rt (.ref h.length) h' ∧ Ab h h' ∧ h'[h.length]? = some (cW (rsts row)) ∧ e = h' := by
    unfold b_rests
    obtain ⟨env', h', e1, e2, e3, e4⟩ := forGo_nx (g := gNm 2) (body := sDrop (eBM "list" mAppend (eVar 1) (aCons (eCall m_stepped (aCons (eBin dIx (eVar 1) (eUn dNeg (eC (.int 1)))) (aCons (eVar 2) aNil))) aNil)))
      (src := []) (items := row.map .int) (fun i env h' => (∃ x, env = [some (tI row), some (.ref h.length), x]) ∧ Ab h h' ∧ h'[h.length]? = some (cW (rsts (row.take i)))) (fun _ _ _ _ => rfl)
      (fun i x env h' ex ⟨⟨y, ey⟩, ab, hc⟩ => by
        subst ey
        rw [List.getElem?_map] at ex
        obtain ⟨c, hc1, rfl⟩ := Option.map_eq_some_iff.mp ex
        have hi : i < row.length := (List.getElem?_eq_some_iff.mp hc1).1
        have tk : row.take (i + 1) = row.take i ++ [c] := by rw [List.take_add_one, hc1]; rfl
        have sn : rsts (row.take (i + 1)) = rsts (row.take i) ++ [stp ((row.take i).foldl stp []) c] := by
          rw [tk]
          unfold rsts
          rw [rsts_snoc, List.foldl_append]
          rfl
        have wl := fold_len [] (row.take i)
        have l1 : (row.take i).length ≤ 1000 := by simp; omega
        have st := m_stepped_eq (h := h') (w := (row.take i).foldl stp []) (c := c) (ab.fl f) (line1000 (by simp only [List.length_nil] at wl; omega))
        have la : atI (rsts (row.take i)) (-1) = some ((row.take i).foldl stp []) := by rw [atI_last]; exact rsts_last [] _
        have ap := ap_W (h := h') (w := stp ((row.take i).foldl stp []) c) hc (line1000 (by unfold rsts; rw [rsts_len]; simp; omega))
        refine ⟨[(2, .int c)], [some (tI row), some (.ref h.length), some (.int c)], h'.set h.length (cW (rsts (row.take (i + 1)))), rfl, ?_, ⟨_, rfl⟩, ab.put (fc_cW _) (Nat.le_refl _), get_set hc⟩
        simp [ty_W hc, ix_W hc, la, st, ap, sn])
      (env := [some (tI row), some (.ref h.length), none]) (h := h ++ [cW [[]]]) ⟨⟨_, rfl⟩, (Ab.refl h).push (fc_cW _), get_last _ _⟩
    obtain ⟨x, rfl⟩ := e2
    refine ⟨h', h', ?_, e3, by simpa using e4, rfl⟩
    simp [x_sFor, e1]
  obtain ⟨h', _, e1, e2, e3, _⟩ := key
  simp [m_rests, rd_eq, e1]
  exact e2.gcW f (Nat.le_refl _) e3
theorem m_rest_eq {h : Hd} {row : List Int} (f : Fl h) (hr : row.length ≤ 1000) : m_rest [tI row] h = .ok (tI (rst row)) h := by
  have e := m_rests_eq f hr
  have la : atI (rsts row) (-1) = some (rst row) := by rw [atI_last]; exact rsts_last [] _
  simp [m_rest, rd_eq, b_rest, e, ix_lW, la]
  exact (Ab.refl h).gcv f (plk_tI 18 _)
end Cm

/-! Spec2: common, apart, walks and what rests on them. -/
namespace Cm
open PySem PySem.Spec PyProof.Rows L2 Tw

/-! ### common, apart -/
def cmn : List Int → List Int → Nat
  | a :: as, b :: bs => if a = b then cmn as bs + 1 else 0
  | _, _ => 0
theorem cmn_le : ∀ a b : List Int, cmn a b ≤ min a.length b.length
  | [], _ => by simp [cmn]
  | _ :: _, [] => by simp [cmn]
  | a :: as, b :: bs => by
    have := cmn_le as bs
    unfold cmn
    split
    · simp only [List.length_cons]; omega
    · omega
def apt (a b : List Int) : Nat := a.length + b.length - 2 * cmn a b
section
variable {h : Hd}
def bdCommon : MS := sIf (tVal (eBin dNe (eVar 3) (eVar 4))) (sRet (eVar 2)) sNil
theorem common_go {u v : D} : ∀ (a b : List Int) (k : Nat) (x1 x2 x3 : Option D),
    (cmn a b < min a.length b.length ∧ forGo (gTp [gNm 2, gTp [gNm 3, gNm 4]]) bdCommon [] (enumFrom k (zipD (a.map .int) (b.map .int))) [some u, some v, x1, x2, x3] h = .rt (.int ((k + cmn a b : Nat) : Int)) h) ∨
    (cmn a b = min a.length b.length ∧ ∃ y1 y2 y3, forGo (gTp [gNm 2, gTp [gNm 3, gNm 4]]) bdCommon [] (enumFrom k (zipD (a.map .int) (b.map .int))) [some u, some v, x1, x2, x3] h = .nx [some u, some v, y1, y2, y3] h)
  | [], b, k, x1, x2, x3 => by
    refine .inr ⟨by simp [cmn], x1, x2, x3, ?_⟩
    simp [zipD, enumFrom, forGo]
  | a :: as, [], k, x1, x2, x3 => by
    refine .inr ⟨by simp [cmn], x1, x2, x3, ?_⟩
    simp [zipD, enumFrom, forGo]
  | a :: as, b :: bs, k, x1, x2, x3 => by
    have e : enumFrom k (zipD ((a :: as).map .int) ((b :: bs).map .int)) = .tup [.int (k : Nat), .tup [.int a, .int b]] :: enumFrom (k + 1) (zipD (as.map .int) (bs.map .int)) := rfl
    rw [e]
    unfold forGo
    by_cases hab : a = b
    · subst hab
      have c : cmn (a :: as) (a :: bs) = cmn as bs + 1 := by simp [cmn]
      rw [c]
      have ih := common_go (u := u) (v := v) as bs (k + 1) (some (.int (k : Nat))) (some (.int a)) (some (.int a))
      simp only [x_srcOk0, if_true, x_gTp, x_gAll, x_gNm, x_gAll0, List.append_nil, List.cons_append, List.nil_append]
      have bd : bdCommon (setAll [some u, some v, x1, x2, x3] [(2, .int (k : Nat)), (3, .int a), (4, .int a)]) h = .nx [some u, some v, some (.int (k : Nat)), some (.int a), some (.int a)] h := by
        simp [bdCommon]
      rw [bd]
      simp only
      rcases ih with ⟨l, e⟩ | ⟨l, y1, y2, y3, e⟩
      · refine .inl ⟨by simp only [List.length_cons]; omega, ?_⟩
        rw [e]
        congr 2
        omega
      · exact .inr ⟨by simp only [List.length_cons]; omega, y1, y2, y3, e⟩
    · have c : cmn (a :: as) (b :: bs) = 0 := by simp [cmn, hab]
      rw [c]
      simp only [x_srcOk0, if_true, x_gTp, x_gAll, x_gNm, x_gAll0, List.append_nil, List.cons_append, List.nil_append]
      have bd : bdCommon (setAll [some u, some v, x1, x2, x3] [(2, .int (k : Nat)), (3, .int a), (4, .int b)]) h = .rt (.int (k : Nat)) h := by
        simp [bdCommon, hab]
      rw [bd]
      exact .inl ⟨by simp only [List.length_cons]; omega, rfl⟩
theorem seqP_tI (ns : List Int) : seqP h (tI ns) = some (ns.map .int, []) := by
  simp only [tI, seqP]
  rw [if_pos (set_of_ints ns)]
theorem o_min2 (i j : Nat) : dMin2 [.int (i : Int), .int (j : Int)] h = some (.int ((min i j : Nat) : Int)) := by
  simp only [dMin2]
  congr 2
  split <;> omega
theorem m_common_eq {a b : List Int} (f : Fl h) : m_common [tI a, tI b] h = .ok (.int (cmn a b : Nat)) h := by
  have key : b_common [some (tI a), some (tI b), none, none, none] h = .rt (.int (cmn a b : Nat)) h := by
    unfold b_common
    have e0 : iS enumZM (aCons (eVar 0) (aCons (eVar 1) aNil)) [some (tI a), some (tI b), none, none, none] h = .ok (enumFrom 0 (zipD (a.map .int) (b.map .int)), []) h := by
      simp [enumZM, twoM, seqP_tI]
    rw [x_sSeq, x_sFor, e0]
    have cg := common_go (h := h) (u := tI a) (v := tI b) a b 0 none none none
    unfold bdCommon at cg
    rcases cg with ⟨l, e⟩ | ⟨l, y1, y2, y3, e⟩
    · simp only
      rw [e]
      simp
    · simp only
      rw [e]
      simp [o_min2, l]
  simp [m_common, rd_eq, key]
  exact (Ab.refl h).gcv f (plk_int 19 _)
theorem m_apart_eq {a b : List Int} (f : Fl h) : m_apart [tI a, tI b] h = .ok (.int (apt a b : Nat)) h := by
  have e := m_common_eq (h := h) (a := a) (b := b) f
  have l := cmn_le a b
  have z : ((a.length : Int) + (b.length : Int) - 2 * ((cmn a b : Nat) : Int)) = ((apt a b : Nat) : Int) := by unfold apt; omega
  simp [m_apart, rd_eq, b_apart, e, o_mul, z]
  exact (Ab.refl h).gcv f (plk_int 19 _)
end
/-! ### walks -/
def Nw (q : Int) : Nat → Nat → Int
  | 0, 0 => 1
  | 0, _ + 1 => 0
  | t + 1, 0 => q * Nw q t 1
  | t + 1, d + 1 => Nw q t d + (q - 1) * Nw q t (d + 2)
theorem Nw_far (q : Int) : ∀ t d, t < d → Nw q t d = 0
  | 0, d + 1, _ => rfl
  | t + 1, d + 1, h => by
    show Nw q t d + (q - 1) * Nw q t (d + 2) = 0
    rw [Nw_far q t d (by omega), Nw_far q t (d + 2) (by omega)]
    simp
def tabN (q : Int) (m t : Nat) : List Int := (List.range m).map (Nw q t)
theorem tabN_len (q : Int) (m t : Nat) : (tabN q m t).length = m := by simp [tabN]
theorem tabN_get (q : Int) (m t j : Nat) (hj : j < m) : (tabN q m t)[j]? = some (Nw q t j) := by simp [tabN, hj]
theorem tabN_succ (q : Int) (m t : Nat) : tabN q (m + 1) t = tabN q m t ++ [Nw q t m] := by simp [tabN, List.range_succ]
theorem tabN_zero (q : Int) : ∀ m, tabN q (m + 1) 0 = 1 :: List.replicate m 0
  | 0 => rfl
  | m + 1 => by
    rw [tabN_succ, tabN_zero q m, Nw_far q 0 (m + 1) (by omega), List.cons_append, ← List.replicate_succ']
section
variable {h : Hd}
theorem o_timesL (i : Int) (k : Nat) (hk : k ≤ 1000) : dTimes (lI [i]) (.int (k : Int)) h = some (lI (List.replicate k i)) := by
  simp only [dTimes, lI, List.map_cons, List.map_nil]
  rw [if_pos ⟨rfl, by omega, by omega, by rw [sizeLine_eq]; simp; omega⟩]
  simp [List.map_replicate, List.flatten_replicate_singleton]
theorem isLst_lI (ns : List Int) : isLst h (lI ns) = some (ns.map .int) := rfl
theorem isLst_I {n : Nat} {ns : List Int} (e : h[n]? = some (cI ns)) : isLst h (.ref n) = some (ns.map .int) := by simp [isLst, e, cI]
theorem o_addLL {ns ms : List Int} (hl : ns.length + ms.length ≤ sizeLine) : dAdd (lI ns) (lI ms) h = some (lI (ns ++ ms)) := by
  show (match isLst h (lI ns), isLst h (lI ms) with
    | some xs, some ys => if xs.length + ys.length ≤ sizeLine then some (D.lst (xs ++ ys)) else none
    | _, _ => none) = _
  simp only [isLst_lI, List.length_map, hl, if_true, ← List.map_append]
  rfl
theorem o_addRL {n : Nat} {ns ms : List Int} (e : h[n]? = some (cI ns)) (hl : ns.length + ms.length ≤ sizeLine) : dAdd (.ref n) (lI ms) h = some (lI (ns ++ ms)) := by
  show (match isLst h (.ref n), isLst h (lI ms) with
    | some xs, some ys => if xs.length + ys.length ≤ sizeLine then some (D.lst (xs ++ ys)) else none
    | _, _ => none) = _
  simp only [isLst_lI, isLst_I e, List.length_map, hl, if_true, ← List.map_append]
  rfl
theorem rng1_nat (n : Nat) (hn : n ≤ 1000000) : rng1 [.int (n : Int)] = some ((List.range n).map fun i => .int (i : Nat)) := by
  simp only [rng1]
  rw [if_pos (by unfold rngOk; simp; omega)]
  simp
theorem rng2_one (n : Nat) (hn : n ≤ 1000000) : rng2 [.int 1, .int ((n : Int) + 1)] = some ((List.range n).map fun i => .int (1 + (i : Nat))) := by
  simp only [rng2]
  rw [if_pos (by unfold rngOk; simp; omega)]
  unfold rngI
  have : ((n : Int) + 1 - 1).toNat = n := by omega
  rw [this]
theorem range_get {n i : Nat} {f : Nat → D} {x : D} (e : ((List.range n).map f)[i]? = some x) : i < n ∧ x = f i := by
  rw [List.getElem?_map] at e
  obtain ⟨j, e1, rfl⟩ := Option.map_eq_some_iff.mp e
  obtain ⟨h1, h2⟩ := List.getElem?_eq_some_iff.mp e1
  simp at h1 h2
  exact ⟨h1, by rw [h2]⟩
/-- one turn of a table: the inner loop; s: the slot of the factor q, L: the last place -/
abbrev bdW (s : Nat) : MS := sDrop (eBM "list" mAppend (eVar 4) (aCons (eBin dAdd (eBin dIx (eVar 2) (eBin dSub (eVar 5) (eC (.int 1)))) (eBin dTimes (eBin dSub (eVar s) (eC (.int 1))) (eBin dIx (eVar 2) (eBin dAdd (eVar 5) (eC (.int 1)))))) aNil))
theorem walk_in {q : Int} {s : Nat} {d0 d1 : D} {x3 x5 : Option D} {t L m m2 : Nat} {h0 h1 : Hd} (hs : s < 2) (hq : [some d0, some d1][s]? = some (some (.int q))) (q0 : 0 ≤ q) (q1 : q < 2 ^ 60) (hL : L ≤ 1000) (a : Ab h0 h1) (hm : h0.length ≤ m) (hm2 : h0.length ≤ m2) (ne : m ≠ m2)
    (e1 : h1[m]? = some (cI (tabN q (L + 2) t))) (e2 : h1[m2]? = some (cI (tabN q 1 (t + 1)))) :
    ∃ x5' h', forGo (gNm 5) (bdW s) [] ((List.range L).map fun i => .int (1 + (i : Nat))) [some d0, some d1, some (.ref m), x3, some (.ref m2), x5] h1 = .nx [some d0, some d1, some (.ref m), x3, some (.ref m2), x5'] h' ∧ Ab h0 h' ∧ h'[m2]? = some (cI (tabN q (L + 1) (t + 1))) ∧ h'[m]? = some (cI (tabN q (L + 2) t)) := by
  obtain ⟨env', h', z1, z2⟩ := forGo_nx (g := gNm 5) (body := bdW s) (src := []) (items := (List.range L).map fun i => .int (1 + (i : Nat)))
    (fun i env h' => (∃ x, env = [some d0, some d1, some (.ref m), x3, some (.ref m2), x]) ∧ Ab h0 h' ∧ h'[m2]? = some (cI (tabN q (i + 1) (t + 1))) ∧ h'[m]? = some (cI (tabN q (L + 2) t))) (fun _ _ _ _ => rfl)
    (fun i x env h' ex ⟨⟨y, ey⟩, ab, hc2, hc⟩ => by
      subst ey
      obtain ⟨hi, rfl⟩ := range_get ex
      have g1 : atI (tabN q (L + 2) t) (1 + (i : Int) - 1) = some (Nw q t i) := by
        rw [show (1 + (i : Int) - 1) = ((i : Nat) : Int) by omega, atI_nat]
        exact tabN_get q _ t i (by omega)
      have g2 : atI (tabN q (L + 2) t) (1 + (i : Int) + 1) = some (Nw q t (i + 2)) := by
        rw [show (1 + (i : Int) + 1) = ((i + 2 : Nat) : Int) by omega, atI_nat]
        exact tabN_get q _ t (i + 2) (by omega)
      have ap := ap_I (h := h') (w := Nw q t i + (q - 1) * Nw q t (i + 2)) hc2 (line1000 (by rw [tabN_len]; omega))
      have sn : tabN q (i + 1) (t + 1) ++ [Nw q t i + (q - 1) * Nw q t (i + 2)] = tabN q (i + 1 + 1) (t + 1) := by rw [tabN_succ q (i + 1)]; rfl
      rw [sn] at ap
      refine ⟨[(5, .int (1 + (i : Nat)))], [some d0, some d1, some (.ref m), x3, some (.ref m2), some (.int (1 + (i : Nat)))], h'.set m2 (cI (tabN q (i + 1 + 1) (t + 1))), rfl, ?_, ⟨_, rfl⟩, ab.put (fc_cI _) hm2, get_set hc2, ?_⟩
      · have w := o_mul (h := h') (i := q - 1) (j := Nw q t (i + 2)) (by omega) (by omega)
        have : s = 0 ∨ s = 1 := by omega
        rcases this with e | e
        · subst e
          have hq' : d0 = .int q := by simpa using hq
          simp [bdW, ty_I hc2, hq', ix_I hc, g1, g2, w, ap]
        · subst e
          have hq' : d1 = .int q := by simpa using hq
          simp [bdW, ty_I hc2, hq', ix_I hc, g1, g2, w, ap]
      · rw [List.getElem?_set_ne (Ne.symm ne)]; exact hc)
    (env := [some d0, some d1, some (.ref m), x3, some (.ref m2), x5]) (h := h1) ⟨⟨_, rfl⟩, a, e2, e1⟩
  obtain ⟨⟨x, rfl⟩, z3, z4, z5⟩ := z2
  rw [List.length_map, List.length_range] at z4
  exact ⟨x, h', z1, z3, z4, z5⟩
theorem m_walks_eq {q : Int} {n : Nat} (f : Fl h) (q0 : 0 ≤ q) (q1 : q < 2 ^ 60) (hn : n ≤ 900) : m_walks [.int q, .int (n : Int)] h = .ok (lI (tabN q (n + 2) n)) h := by
  have key : ∃ h' m, b_walks [some (.int q), some (.int (n : Int)), none, none, none, none] h = .rt (.ref m) h' ∧ h.length ≤ m ∧ Ab h h' ∧ h'[m]? = some (cI (tabN q (n + 2) n)) := by
    unfold b_walks
    have tm : dTimes (lI [0]) (.int ((n : Int) + 1)) h = some (lI (List.replicate (n + 1) 0)) := by
      have := o_timesL (h := h) 0 (n + 1) (by omega)
      simpa using this
    have ad := o_addLL (h := h) (ns := [1]) (ms := List.replicate (n + 1) 0) (Nat.le_of_lt (line1000 (by simp; omega)))
    have t0 : [1] ++ List.replicate (n + 1) 0 = tabN q (n + 2) 0 := by rw [tabN_zero]; rfl
    rw [t0] at ad
    obtain ⟨env', h', e1, e2⟩ := forGo_nx (g := gNm 3) (body := sSeq (sAsg (gNm 4) (eN dLst (aCons (eBin dTimes (eVar 0) (eBin dIx (eVar 2) (eC (.int 1)))) aNil)))
        (sSeq (sFor (iN rng2 (aCons (eC (.int 1)) (aCons (eBin dAdd (eVar 1) (eC (.int 1))) aNil))) (gNm 5) (bdW 0)) (sAsg (gNm 2) (eBin dAdd (eVar 4) (eN dLst (aCons (eC (.int 0)) aNil)))))) (src := []) (items := (List.range n).map fun i => .int (i : Nat))
      (fun i env h' => ∃ m y z w, env = [some (.int q), some (.int (n : Int)), some (.ref m), y, z, w] ∧ h.length ≤ m ∧ Ab h h' ∧ h'[m]? = some (cI (tabN q (n + 2) i))) (fun _ _ _ _ => rfl)
      (fun i x env h' ex ⟨m, y, z, w, ey, hm, ab, hc⟩ => by
        subst ey
        obtain ⟨hi, rfl⟩ := range_get ex
        have g1 : atI (tabN q (n + 2) i) 1 = some (Nw q i 1) := by
          rw [show (1 : Int) = ((1 : Nat) : Int) by rfl, atI_nat]
          exact tabN_get q _ i 1 (by omega)
        have ml := lt_of_get hc
        obtain ⟨x5, h2, w1, w2, w3, w4⟩ := walk_in (q := q) (s := 0) (d0 := .int q) (d1 := .int (n : Int)) (x3 := some (.int (i : Nat))) (x5 := w) (t := i) (L := n) (m := m) (m2 := h'.length) (h0 := h) (h1 := h' ++ [cI (tabN q 1 (i + 1))]) (by omega) rfl q0 q1 (by omega)
          (ab.push (fc_cI _)) hm ab.len (by omega) (get_push hc) (get_last _ _)
        have ad2 := o_addRL (h := h2) (ms := [0]) w3 (Nat.le_of_lt (line1000 (by simp [tabN_len]; omega)))
        have sn : tabN q (n + 1) (i + 1) ++ [0] = tabN q (n + 2) (i + 1) := by
          rw [tabN_succ q (n + 1), Nw_far q (i + 1) (n + 1) (by omega)]
        rw [sn] at ad2
        refine ⟨[(3, .int (i : Nat))], [some (.int q), some (.int (n : Int)), some (.ref h2.length), some (.int (i : Nat)), some (.ref h'.length), x5], h2 ++ [cI (tabN q (n + 2) (i + 1))], rfl, ?_, h2.length, _, _, _, rfl, w2.len, w2.push (fc_cI _), get_last _ _⟩
        have fst : sAsg (gNm 4) (eN dLst (aCons (eBin dTimes (eVar 0) (eBin dIx (eVar 2) (eC (.int 1)))) aNil)) [some (.int q), some (.int (n : Int)), some (.ref m), some (.int (i : Nat)), z, w] h' = .nx [some (.int q), some (.int (n : Int)), some (.ref m), some (.int (i : Nat)), some (.ref h'.length), w] (h' ++ [cI (tabN q 1 (i + 1))]) := by
          have sg : [q * Nw q i 1] = tabN q 1 (i + 1) := rfl
          simp [ix_I hc, g1, o_mul (h := h') (i := q) (j := Nw q i 1) (by omega) (by omega), sg]
        have snd : iN rng2 (aCons (eC (.int 1)) (aCons (eBin dAdd (eVar 1) (eC (.int 1))) aNil)) [some (.int q), some (.int (n : Int)), some (.ref m), some (.int (i : Nat)), some (.ref h'.length), w] (h' ++ [cI (tabN q 1 (i + 1))]) = .ok ((List.range n).map (fun i => .int (1 + (i : Nat))), []) (h' ++ [cI (tabN q 1 (i + 1))]) := by
          simp [rng2_one n (by omega)]
        rw [x_setAll, x_setAll0]
        simp only [List.set]
        rw [x_sSeq, fst]
        simp only
        rw [x_sSeq, x_sFor, snd]
        simp only
        rw [w1]
        simp [ad2])
      (env := [some (.int q), some (.int (n : Int)), some (.ref h.length), none, none, none]) (h := h ++ [cI (tabN q (n + 2) 0)]) ⟨h.length, none, none, none, rfl, Nat.le_refl _, (Ab.refl h).push (fc_cI _), get_last _ _⟩
    obtain ⟨m, y, z, w, rfl, e3, e4, e5⟩ := e2
    rw [List.length_map, List.length_range] at e5
    refine ⟨h', m, ?_, e3, e4, e5⟩
    have fst : sAsg (gNm 2) (eBin dAdd (eN dLst (aCons (eC (.int 1)) aNil)) (eBin dTimes (eN dLst (aCons (eC (.int 0)) aNil)) (eBin dAdd (eVar 1) (eC (.int 1))))) [some (.int q), some (.int (n : Int)), none, none, none, none] h = .nx [some (.int q), some (.int (n : Int)), some (.ref h.length), none, none, none] (h ++ [cI (tabN q (n + 2) 0)]) := by
      simp [tm, ad]
    have snd : iN rng1 (aCons (eVar 1) aNil) [some (.int q), some (.int (n : Int)), some (.ref h.length), none, none, none] (h ++ [cI (tabN q (n + 2) 0)]) = .ok ((List.range n).map (fun i => .int (i : Nat)), []) (h ++ [cI (tabN q (n + 2) 0)]) := by
      simp [rng1_nat n (by omega)]
    rw [x_sSeq, fst]
    simp only
    rw [x_sSeq, x_sFor, snd]
    simp only
    rw [e1]
    simp
  obtain ⟨h', m, e1, e2, e3, e4⟩ := key
  simp [m_walks, rd_eq, e1]
  exact e3.gcI f e2 e4
end
end Cm

/-! Spec3: lots: walks_to, many_with, lot_many, bar, leads, row_at, number_of, lots_many. -/
namespace Cm
open PySem PySem.Spec PyProof.Rows L2 Tw
section
variable {h : Hd}
theorem m_walks_to_eq {q : Int} {n far : Nat} (f : Fl h) (q0 : 0 ≤ q) (q1 : q < 2 ^ 60) (hn : n ≤ 900) : m_walks_to [.int q, .int (n : Int), .int (far : Int)] h = .ok (.int (Nw q n far)) h := by
  have e := m_walks_eq (h := h) (q := q) (n := n) f q0 q1 hn
  have key : b_walks_to [some (.int q), some (.int (n : Int)), some (.int (far : Int))] h = .rt (.int (Nw q n far)) h := by
    unfold b_walks_to
    by_cases hf : far ≤ n
    · have hf' : (far : Int) ≤ (n : Int) := by omega
      have g : atI (tabN q (n + 2) n) (far : Int) = some (Nw q n far) := by
        rw [atI_nat]
        exact tabN_get q _ n far (by omega)
      simp [hf, e, ix_lI, g]
    · have hf' : ¬ (far : Int) ≤ (n : Int) := by omega
      simp [hf, Nw_far q n far (by omega)]
  simp [m_walks_to, rd_eq, key]
  exact (Ab.refl h).gcv f (plk_int 19 _)
theorem m_lot_many_eq {q : Int} {row : List Int} (f : Fl h) (q0 : 0 ≤ q) (q1 : q < 2 ^ 60) (hn : row.length ≤ 900) : m_lot_many [.int q, tI row] h = .ok (.int (Nw q row.length (rst row).length)) h := by
  have e1 := m_rest_eq (h := h) (row := row) f (by omega)
  have e2 := m_walks_to_eq (h := h) (q := q) (n := row.length) (far := (rst row).length) f q0 q1 hn
  have key : b_lot_many [some (.int q), some (tI row)] h = .rt (.int (Nw q row.length (rst row).length)) h := by
    unfold b_lot_many
    simp [e1, e2]
  simp [m_lot_many, rd_eq, key]
  exact (Ab.refl h).gcv f (plk_int 19 _)
def manyW (q : Int) (n far : Nat) : Int := if q = 1 ∧ 1 < far then 0 else Nw q n far
theorem m_many_with_eq {q : Int} {n far : Nat} (f : Fl h) (q0 : 0 ≤ q) (q1 : q < 2 ^ 60) (hn : n ≤ 900) : m_many_with [.int q, .int (n : Int), .int (far : Int)] h = .ok (.int (manyW q n far)) h := by
  have e := m_walks_to_eq (h := h) (q := q) (n := n) (far := far) f q0 q1 hn
  have key : b_many_with [some (.int q), some (.int (n : Int)), some (.int (far : Int))] h = .rt (.int (manyW q n far)) h := by
    unfold b_many_with manyW
    by_cases hq : q = 1
    · by_cases hf : 1 < far
      · have hf' : (1 : Int) < (far : Int) := by omega
        simp [hq, hf, hf']
      · have hf' : ¬ (1 : Int) < (far : Int) := by omega
        simp [hq] at e
        simp [hq, hf, hf', e]
    · simp [hq, e]
  simp [m_many_with, rd_eq, key]
  exact (Ab.refl h).gcv f (plk_int 19 _)
@[simp] theorem o_ixTup (xs : List D) (i : Int) : dIx (.tup xs) (.int i) h = atI xs i := id rfl
def barD (a b : List Int) : D := if a.length = b.length then (if rst a = rst b then .non else .tup [tI (rst a), tI (rst b)]) else .str "tiles"
@[simp] theorem o_tup2 (x y : D) : dTup [x, y] h = some (.tup [x, y]) := by
  unfold dTup
  rw [if_pos (by simp [sizeLine_eq])]
@[simp] theorem o_tup3 (x y z : D) : dTup [x, y, z] h = some (.tup [x, y, z]) := by
  unfold dTup
  rw [if_pos (by simp [sizeLine_eq])]
@[simp] theorem o_tup4 (x y z w : D) : dTup [x, y, z, w] h = some (.tup [x, y, z, w]) := by
  unfold dTup
  rw [if_pos (by simp [sizeLine_eq])]
theorem atI0 {α : Type} (x : α) (xs : List α) : atI (x :: xs) 0 = some x := atI_nat (x :: xs) 0
theorem atI1 {α : Type} (x y : α) (xs : List α) : atI (x :: y :: xs) 1 = some y := atI_nat (x :: y :: xs) 1
theorem m_bar_eq {a b : List Int} (f : Fl h) (ha : a.length ≤ 900) (hb : b.length ≤ 900) : m_bar [tI a, tI b] h = .ok (barD a b) h := by
  have e1 := m_rest_eq (h := h) (row := a) f (by omega)
  have e2 := m_rest_eq (h := h) (row := b) f (by omega)
  have key : b_bar [some (tI a), some (tI b), none] h = .rt (barD a b) h := by
    unfold b_bar barD
    by_cases hl : a.length = b.length
    · have hl' : (a.length : Int) = (b.length : Int) := by omega
      by_cases hr : rst a = rst b
      · simp [hl, e1, e2, hr, atI0, atI1]
      · simp [hl, e1, e2, hr, atI0, atI1]
    · have hl' : ¬ (a.length : Int) = (b.length : Int) := by omega
      simp [hl, hl']
  have pk : plk 20 (barD a b) = true := by
    unfold barD
    split
    · split
      · rfl
      · simp [plk, plk_tI]
    · rfl
  simp [m_bar, rd_eq, key]
  exact (Ab.refl h).gcv f pk
theorem m_leads_eq {a b : List Int} (f : Fl h) (ha : a.length ≤ 900) (hb : b.length ≤ 900) : m_leads [tI a, tI b] h = .ok (.bl (decide (a.length = b.length ∧ rst a = rst b))) h := by
  have e := m_bar_eq (h := h) (a := a) (b := b) f ha hb
  have key : b_leads [some (tI a), some (tI b)] h = .rt (.bl (decide (a.length = b.length ∧ rst a = rst b))) h := by
    unfold b_leads
    simp [e]
    unfold barD
    by_cases hl : a.length = b.length
    · by_cases hr : rst a = rst b
      · simp [hl, hr]
      · simp [hl, hr]
    · simp [hl]
  simp [m_leads, rd_eq, key]
  exact (Ab.refl h).gcv f (plk_bl 19 _)
theorem m_look_leads_eq {a b : List Int} (f : Fl h) (ha : a.length ≤ 900) (hb : b.length ≤ 900) (hl : a.length = b.length) (hr : rst a = rst b) : m_look_leads [tI a, tI b] h = .ok .non h := by
  have e := m_bar_eq (h := h) (a := a) (b := b) f ha hb
  have eb : barD a b = .non := by simp [barD, hl, hr]
  rw [eb] at e
  have key : b_look_leads [some (tI a), some (tI b), none] h = .nx [some (tI a), some (tI b), some .non] h := by
    unfold b_look_leads
    simp [e]
  simp [m_look_leads, rd_eq, key]
  exact (Ab.refl h).gcv f (plk_non 19)
/-! ### row_at -/
def pickC (q : Int) (t : Nat) (word goal : List Int) : Nat → Nat → Int → Option (Nat × Int)
  | 0, _, _ => none
  | k + 1, c, l => if l < Nw q t (apt (stp word c) goal) then some (c, l) else pickC q t word goal k (c + 1) (l - Nw q t (apt (stp word c) goal))
def rowAtF (qn : Nat) (goal : List Int) : Nat → List Int → Int → Option (List Int)
  | 0, _, _ => some []
  | t + 1, word, l => match pickC qn t word goal qn 0 l with
    | some (c, l') => (rowAtF qn goal t (stp word c) l').map ((c : Int) :: ·)
    | none => none
abbrev bdR : MS := sSeq (sAsg (gNm 9) (eCall m_walks_to (aCons (eVar 0) (aCons (eBin dSub (eBin dSub (eN dLen (aCons (eVar 1) aNil)) (eVar 7)) (eC (.int 1))) (aCons (eCall m_apart (aCons (eCall m_stepped (aCons (eVar 5) (aCons (eVar 8) aNil))) (aCons (eVar 3) aNil))) aNil)))))
  (sSeq (sIf (tVal (eBin dLt (eVar 6) (eVar 9)))
    (sSeq (sAsg (gTp ([4, 5].map gNm)) (eN dTup (aCons (eBin dAdd (eVar 4) (eN dTup (aCons (eVar 8) aNil))) (aCons (eCall m_stepped (aCons (eVar 5) (aCons (eVar 8) aNil))) aNil))))
  sBk)
    sNil)
  (sAug 6 dISub (eVar 9)))
theorem row_in {qn : Nat} {row goal fs ws : List Int} {p : Nat} {num l : Int} {x8 x9 : Option D} {c : Nat} {l' : Int} (f : Fl h) (hq : qn ≤ 1000) (hn : row.length ≤ 900) (hp : p < row.length) (hf : fs.length ≤ 900) (hw : ws.length ≤ 900)
    (pk : pickC qn (row.length - p - 1) ws goal qn 0 l = some (c, l')) :
    ∃ y8 y9, forGo (gNm 8) bdR [] ((List.range qn).map fun i => .int (i : Nat)) [some (.int (qn : Int)), some (tI row), some (.int num), some (tI goal), some (tI fs), some (tI ws), some (.int l), some (.int (p : Int)), x8, x9] h
      = .nx [some (.int (qn : Int)), some (tI row), some (.int num), some (tI goal), some (tI (fs ++ [(c : Int)])), some (tI (stp ws c)), some (.int l'), some (.int (p : Int)), y8, y9] h := by
  have := forGo_rule (g := gNm 8) (body := bdR) (src := []) (items := (List.range qn).map fun i => .int (i : Nat))
    (P := fun r => ∃ y8 y9, r = .nx [some (.int (qn : Int)), some (tI row), some (.int num), some (tI goal), some (tI (fs ++ [(c : Int)])), some (tI (stp ws c)), some (.int l'), some (.int (p : Int)), y8, y9] h)
    (fun i env h' => h' = h ∧ ∃ li y8 y9, env = [some (.int (qn : Int)), some (tI row), some (.int num), some (tI goal), some (tI fs), some (tI ws), some (.int li), some (.int (p : Int)), y8, y9] ∧ pickC qn (row.length - p - 1) ws goal (qn - i) i li = some (c, l')) (fun _ _ _ _ => rfl)
    (fun i x env h' ex ⟨eh, li, y8, y9, ee, pi⟩ => by
      subst eh ee
      obtain ⟨hi, rfl⟩ := range_get ex
      refine ⟨[(8, .int (i : Nat))], rfl, ?_⟩
      have k1 : qn - i = (qn - (i + 1)) + 1 := by omega
      rw [k1] at pi
      unfold pickC at pi
      have st := m_stepped_eq (h := h') (w := ws) (c := (i : Int)) f (line1000 (by omega))
      have ap := m_apart_eq (h := h') (a := stp ws (i : Int)) (b := goal) f
      have tl : ((row.length : Int) - (p : Int) - 1) = ((row.length - p - 1 : Nat) : Int) := by omega
      have wt := m_walks_to_eq (h := h') (q := (qn : Int)) (n := row.length - p - 1) (far := apt (stp ws (i : Int)) goal) f (by omega) (by omega) (by omega)
      have ad := o_addT (h := h') (a := fs) (b := [(i : Int)]) (Nat.le_of_lt (line1000 (by simp; omega)))
      by_cases hl : li < Nw qn (row.length - p - 1) (apt (stp ws (i : Int)) goal)
      · rw [if_pos hl] at pi
        cases pi
        simp [st, ap, tl, wt, hl, ad]
      · rw [if_neg hl] at pi
        simp [st, ap, tl, wt, hl]
        exact pi)
    (fun env h' ⟨eh, li, y8, y9, ee, pi⟩ => by
      rw [List.length_map, List.length_range, Nat.sub_self] at pi
      cases pi) qn 0 (by simp) [some (.int (qn : Int)), some (tI row), some (.int num), some (tI goal), some (tI fs), some (tI ws), some (.int l), some (.int (p : Int)), x8, x9] h ⟨rfl, l, x8, x9, rfl, by simpa using pk⟩
  simpa using this

theorem rowAtF_len {qn : Nat} {goal : List Int} : ∀ {t : Nat} {w : List Int} {l : Int} {r : List Int}, rowAtF qn goal t w l = some r → r.length = t
  | 0, w, l, r, e => by cases e; rfl
  | t + 1, w, l, r, e => by
    unfold rowAtF at e
    split at e
    · rename_i c l' _
      obtain ⟨r', e1, rfl⟩ := Option.map_eq_some_iff.mp e
      simp [rowAtF_len e1]
    · cases e
theorem m_row_at_eq {qn : Nat} {row r : List Int} {k : Int} (f : Fl h) (hq : qn ≤ 1000) (hn : row.length ≤ 900) (k0 : 0 ≤ k) (k1 : k < Nw qn row.length (rst row).length) (hr : rowAtF qn (rst row) row.length [] k = some r) :
    m_row_at [.int (qn : Int), tI row, .int k] h = .ok (tI r) h := by
  have lm := m_lot_many_eq (h := h) (q := (qn : Int)) (row := row) f (by omega) (by omega) (by omega)
  have re := m_rest_eq (h := h) (row := row) f (by omega)
  have rl := rst_len row
  obtain ⟨env', h', e1, e2, ws, l, x7, x8, x9, fs, ee, fl, wl, rs, er, ea⟩ := forGo_nx (g := gNm 7) (body := sFor (iN rng1 (aCons (eVar 0) aNil)) (gNm 8) bdR) (src := []) (items := (List.range row.length).map fun i => .int (i : Nat))
    (fun i env h' => h' = h ∧ ∃ (ws : List Int) (l : Int) (x7 x8 x9 : Option D) (fs : List Int), env = [some (.int (qn : Int)), some (tI row), some (.int k), some (tI (rst row)), some (tI fs), some (tI ws), some (.int l), x7, x8, x9] ∧ fs.length = i ∧ ws.length ≤ i ∧ ∃ rs, rowAtF qn (rst row) (row.length - i) ws l = some rs ∧ fs ++ rs = r) (fun _ _ _ _ => rfl)
    (fun i x env h' ex ⟨eh, ws, l, x7, x8, x9, fs, ee, hf, hw, rs, er, ea⟩ => by
      subst eh ee
      obtain ⟨hi, rfl⟩ := range_get ex
      have k2 : row.length - i = (row.length - i - 1) + 1 := by omega
      rw [k2] at er
      unfold rowAtF at er
      split at er
      · rename_i c l' pk
        obtain ⟨rs', e1, rfl⟩ := Option.map_eq_some_iff.mp er
        obtain ⟨y8, y9, go⟩ := row_in (h := h') (num := k) (x8 := x8) (x9 := x9) (fs := fs) f hq hn hi (by omega) (by omega) pk
        have ni : iN rng1 (aCons (eVar 0) aNil) [some (.int (qn : Int)), some (tI row), some (.int k), some (tI (rst row)), some (tI fs), some (tI ws), some (.int l), some (.int (i : Int)), x8, x9] h' = .ok ((List.range qn).map (fun i => .int (i : Nat)), []) h' := by
          simp [rng1_nat qn (by omega)]
        have sl := stp_length ws c
        refine ⟨[(7, .int (i : Nat))], _, h', rfl, ?_, rfl, stp ws c, l', some (.int (i : Nat)), y8, y9, fs ++ [(c : Int)], rfl, by simp [hf], by omega, rs', by rw [show row.length - (i + 1) = row.length - i - 1 by omega]; exact e1, by rw [List.append_assoc]; exact ea⟩
        rw [x_setAll, x_setAll0]
        simp only [List.set]
        rw [x_sFor, ni]
        exact go
      · cases er)
    (env := [some (.int (qn : Int)), some (tI row), some (.int k), some (tI (rst row)), some (tI []), some (tI []), some (.int k), none, none, none]) (h := h) ⟨rfl, [], k, none, none, none, [], rfl, rfl, Nat.le_refl _, r, by simpa using hr, rfl⟩
  subst e2 ee
  rw [List.length_map, List.length_range, Nat.sub_self] at er
  cases er
  rw [List.append_nil] at ea
  subst ea
  have t1 : tNot (tVal (eChain dLe dLt (eC (.int 0)) (eVar 2) (eCall m_lot_many (aCons (eVar 0) (aCons (eVar 1) aNil))))) [some (.int (qn : Int)), some (tI row), some (.int k), none, none, none, none, none, none, none] h' = .ok false h' := by
    simp [k0, lm, k1]
  have t2 : sAsg (gTp [(gNm 3), (gNm 4), (gNm 5), (gNm 6)]) (eN dTup (aCons (eCall m_rest (aCons (eVar 1) aNil)) (aCons (eN dTup aNil) (aCons (eN dTup aNil) (aCons (eVar 2) aNil))))) [some (.int (qn : Int)), some (tI row), some (.int k), none, none, none, none, none, none, none] h'
      = .nx [some (.int (qn : Int)), some (tI row), some (.int k), some (tI (rst row)), some (tI []), some (tI []), some (.int k), none, none, none] h' := by
    simp [re]
  have t3 : iN rng1 (aCons (eN dLen (aCons (eVar 1) aNil)) aNil) [some (.int (qn : Int)), some (tI row), some (.int k), some (tI (rst row)), some (tI []), some (tI []), some (.int k), none, none, none] h' = .ok ((List.range row.length).map (fun i => .int (i : Nat)), []) h' := by
    simp [rng1_nat row.length (by omega)]
  have key : b_row_at [some (.int (qn : Int)), some (tI row), some (.int k), none, none, none, none, none, none, none] h' = .rt (tI fs) h' := by
    unfold b_row_at
    rw [x_sSeq, x_sIf, t1]
    simp only [RS.ofB_ok, Bool.false_eq_true, if_false, x_sNil]
    rw [x_sSeq, t2]
    simp only
    rw [x_sSeq, x_sFor, t3]
    simp only
    rw [e1]
    simp
  simp [m_row_at, rd_eq, key]
  exact (Ab.refl h').gcv f (plk_tI 18 _)
/-! ### number_of -/
def sumC (q : Int) (t : Nat) (word goal : List Int) : Nat → Int
  | 0 => 0
  | c + 1 => sumC q t word goal c + Nw q t (apt (stp word (c : Int)) goal)
def numF (q : Int) (goal : List Int) : List Int → List Int → Int
  | _, [] => 0
  | w, c :: cs => sumC q cs.length w goal c.toNat + numF q goal (stp w c) cs
theorem rsts_get (w : List Int) : ∀ (row : List Int) (i : Nat), i ≤ row.length → (rstsFrom w row)[i]? = some ((row.take i).foldl stp w)
  | [], 0, _ => rfl
  | c :: cs, 0, _ => rfl
  | c :: cs, i + 1, hi => by
    show (rstsFrom (stp w c) cs)[i]? = _
    rw [rsts_get (stp w c) cs i (by simpa using hi)]
    rfl
theorem enum_get {xs : List Int} {i : Nat} {x : D} (e : (enumFrom 0 (xs.map .int))[i]? = some x) : ∃ c, xs[i]? = some c ∧ x = .tup [.int (i : Nat), .int c] := by
  rw [enumFrom_get, List.getElem?_map] at e
  cases ec : xs[i]? with
  | none => rw [ec] at e; cases e
  | some c =>
    rw [ec] at e
    cases e
    exact ⟨c, rfl, by simp⟩
abbrev bdN : MS := sAug 5 dIAdd (eCall m_walks_to (aCons (eVar 0) (aCons (eBin dSub (eBin dSub (eN dLen (aCons (eVar 2) aNil)) (eVar 6)) (eC (.int 1))) (aCons (eCall m_apart (aCons (eCall m_stepped (aCons (eBin dIx (eVar 4) (eVar 6)) (aCons (eVar 8) aNil))) (aCons (eVar 3) aNil))) aNil))))
theorem num_in {q : Int} {d1 : D} {row goal : List Int} {p m : Nat} {l : Int} {d7 : D} {x8 : Option D} {c : Nat} (f : Fl h) (q0 : 0 ≤ q) (q1 : q < 2 ^ 60) (hn : row.length ≤ 900) (hp : p < row.length) (hm : h[m]? = some (cW (rsts row))) :
    ∃ y8, forGo (gNm 8) bdN [] ((List.range c).map fun i => .int (i : Nat)) [some (.int q), some d1, some (tI row), some (tI goal), some (.ref m), some (.int l), some (.int (p : Int)), some d7, x8] h
      = .nx [some (.int q), some d1, some (tI row), some (tI goal), some (.ref m), some (.int (l + sumC q (row.length - p - 1) ((row.take p).foldl stp []) goal c)), some (.int (p : Int)), some d7, y8] h := by
  obtain ⟨env', h', e1, e2, y8, e3⟩ := forGo_nx (g := gNm 8) (body := bdN) (src := []) (items := (List.range c).map fun i => .int (i : Nat))
    (fun i env h' => h' = h ∧ ∃ y8, env = [some (.int q), some d1, some (tI row), some (tI goal), some (.ref m), some (.int (l + sumC q (row.length - p - 1) ((row.take p).foldl stp []) goal i)), some (.int (p : Int)), some d7, y8]) (fun _ _ _ _ => rfl)
    (fun i x env h' ex ⟨eh, y8, ee⟩ => by
      subst eh ee
      obtain ⟨hi, rfl⟩ := range_get ex
      have wl := fold_len [] (row.take p)
      have g : atI (rsts row) (p : Int) = some ((row.take p).foldl stp []) := by
        rw [atI_nat]
        exact rsts_get [] row p (by omega)
      have st := m_stepped_eq (h := h') (w := (row.take p).foldl stp []) (c := (i : Int)) f (line1000 (by simp only [List.length_nil, List.length_take] at wl; omega))
      have ap := m_apart_eq (h := h') (a := stp ((row.take p).foldl stp []) (i : Int)) (b := goal) f
      have tl : ((row.length : Int) - (p : Int) - 1) = ((row.length - p - 1 : Nat) : Int) := by omega
      have wt := m_walks_to_eq (h := h') (q := q) (n := row.length - p - 1) (far := apt (stp ((row.take p).foldl stp []) (i : Int)) goal) f q0 q1 (by omega)
      have sm : l + sumC q (row.length - p - 1) ((row.take p).foldl stp []) goal i + Nw q (row.length - p - 1) (apt (stp ((row.take p).foldl stp []) (i : Int)) goal) = l + sumC q (row.length - p - 1) ((row.take p).foldl stp []) goal (i + 1) := by
        rw [sumC]; omega
      refine ⟨[(8, .int (i : Nat))], _, h', rfl, ?_, rfl, some (.int (i : Nat)), rfl⟩
      simp [ix_W hm, g, st, ap, tl, wt, sm])
    (env := [some (.int q), some d1, some (tI row), some (tI goal), some (.ref m), some (.int l), some (.int (p : Int)), some d7, x8]) (h := h) ⟨rfl, x8, by simp [sumC]⟩
  subst e2 e3
  rw [List.length_map, List.length_range] at e1
  exact ⟨y8, e1⟩
theorem numF_take {q : Int} {goal : List Int} : ∀ (row w : List Int) (i : Nat) (c : Int), row[i]? = some c → numF q goal w row = numF q goal w row := fun _ _ _ _ _ => rfl
theorem m_number_of_eq {q : Int} {row other : List Int} (f : Fl h) (q0 : 0 ≤ q) (q1 : q < 2 ^ 60) (hr : row.length ≤ 900) (hl : row.length = other.length) (hs : rst row = rst other) (hc : ∀ c ∈ other, 0 ≤ c ∧ c ≤ 1000) :
    m_number_of [.int q, tI row, tI other] h = .ok (.int (numF q (rst row) [] other)) h := by
  have lk := m_look_leads_eq (h := h) (a := row) (b := other) f hr (by omega) hl hs
  have re := m_rest_eq (h := h) (row := row) f (by omega)
  have rs := m_rests_eq (h := h) (row := other) f (by omega)
  obtain ⟨env', h', e1, e2, l, y6, y7, y8, e3, e4⟩ := forGo_nx (g := gTp [gNm 6, gNm 7]) (body := sFor (iN rng1 (aCons (eVar 7) aNil)) (gNm 8) bdN) (src := []) (items := enumFrom 0 (other.map .int)) (h := h ++ [cW (rsts other)])
    (fun i env h' => h' = h ++ [cW (rsts other)] ∧ ∃ l y6 y7 y8, env = [some (.int q), some (tI row), some (tI other), some (tI (rst row)), some (.ref h.length), some (.int l), y6, y7, y8] ∧ l + numF q (rst row) ((other.take i).foldl stp []) (other.drop i) = numF q (rst row) [] other) (fun _ _ _ _ => rfl)
    (fun i x env h' ex ⟨eh, l, y6, y7, y8, ee, el⟩ => by
      subst eh ee
      obtain ⟨c, hc1, rfl⟩ := enum_get ex
      obtain ⟨hi, hc2⟩ := List.getElem?_eq_some_iff.mp hc1
      obtain ⟨c0, c1⟩ := hc c (List.mem_of_getElem? hc1)
      have f2 : Fl (h ++ [cW (rsts other)]) := f.push (fc_cW _)
      have ec : c = ((c.toNat : Nat) : Int) := by omega
      obtain ⟨z8, go⟩ := num_in (h := h ++ [cW (rsts other)]) (q := q) (d1 := tI row) (goal := rst row) (p := i) (m := h.length) (l := l) (d7 := .int c) (x8 := y8) (c := c.toNat) f2 q0 q1 (by omega) hi (get_last _ _)
      have ni : iN rng1 (aCons (eVar 7) aNil) [some (.int q), some (tI row), some (tI other), some (tI (rst row)), some (.ref h.length), some (.int l), some (.int (i : Int)), some (.int c), y8] (h ++ [cW (rsts other)]) = .ok ((List.range c.toNat).map (fun i => .int (i : Nat)), []) (h ++ [cW (rsts other)]) := by
        have := rng1_nat c.toNat (by omega)
        rw [← ec] at this
        simp [this]
      have dr : other.drop i = c :: other.drop (i + 1) := by rw [List.drop_eq_getElem_cons hi, hc2]
      have tk : other.take (i + 1) = other.take i ++ [c] := by rw [List.take_add_one, hc1]; rfl
      refine ⟨[(6, .int (i : Nat)), (7, .int c)], _, h ++ [cW (rsts other)], rfl, ?_, rfl, l + sumC q (other.length - i - 1) ((other.take i).foldl stp []) (rst row) c.toNat, some (.int (i : Nat)), some (.int c), z8, rfl, ?_⟩
      · simp only [x_setAll, x_setAll0, List.set]
        rw [x_sFor, ni]
        exact go
      · rw [← el, dr]
        simp only [numF]
        rw [tk, List.foldl_append]
        have dl : (other.drop (i + 1)).length = other.length - i - 1 := by rw [List.length_drop]; omega
        rw [dl]
        simp only [List.foldl_cons, List.foldl_nil]
        omega)
    (env := [some (.int q), some (tI row), some (tI other), some (tI (rst row)), some (.ref h.length), some (.int 0), none, none, none]) ⟨rfl, 0, none, none, none, rfl, by simp⟩
  subst e2 e3
  have ll : (enumFrom 0 (other.map D.int)).length = other.length := by rw [enumFrom_length, List.length_map]
  rw [ll, List.drop_length] at e4
  simp only [numF, Int.add_zero] at e4
  subst e4
  have t1 : sDrop (eCall m_look_leads (aCons (eVar 1) (aCons (eVar 2) aNil))) [some (.int q), some (tI row), some (tI other), none, none, none, none, none, none] h = .nx [some (.int q), some (tI row), some (tI other), none, none, none, none, none, none] h := by
    simp [lk]
  have t2 : sAsg (gTp ([3, 4, 5].map gNm)) (eN dTup (aCons (eCall m_rest (aCons (eVar 1) aNil)) (aCons (eCall m_rests (aCons (eVar 2) aNil)) (aCons (eC (.int 0)) aNil)))) [some (.int q), some (tI row), some (tI other), none, none, none, none, none, none] h
      = .nx [some (.int q), some (tI row), some (tI other), some (tI (rst row)), some (.ref h.length), some (.int 0), none, none, none] (h ++ [cW (rsts other)]) := by
    simp [re, rs]
  have t3 : iS enumM (aCons (eVar 2) aNil) [some (.int q), some (tI row), some (tI other), some (tI (rst row)), some (.ref h.length), some (.int 0), none, none, none] (h ++ [cW (rsts other)]) = .ok (enumFrom 0 (other.map .int), []) (h ++ [cW (rsts other)]) := by
    simp [enumM, seqP_tI]
  have key : b_number_of [some (.int q), some (tI row), some (tI other), none, none, none, none, none, none] h = .rt (.int (numF q (rst row) [] other)) (h ++ [cW (rsts other)]) := by
    unfold b_number_of
    rw [x_sSeq, t1]
    simp only
    rw [x_sSeq, t2]
    simp only
    rw [x_sSeq, x_sFor, t3]
    simp only
    rw [e1]
    simp
  simp [m_number_of, rd_eq, key]
  exact ((Ab.refl h).push (fc_cW _)).gcv f (plk_int 19 _)
end
end Cm

/-! Spec4: the laws' box of draws; lots_many. -/
namespace Cm
open PySem PySem.Spec PyProof.Rows L2 Tw
/-- the box stands at b and has been asked at most n times -/
def Bx (h : Hd) (b n : Nat) : Prop := ∃ x c d : Int, h[b]? = some (cI [x, c, d]) ∧ 0 ≤ x ∧ 0 ≤ c ∧ c < 2 ^ 63 ∧ 0 ≤ d ∧ d ≤ n
/-- from h to h' the box alone has changed -/
def To (h : Hd) (b : Nat) (h' : Hd) (n' : Nat) : Prop := (∃ y, h' = h.set b (cI y)) ∧ Bx h' b n'
theorem Bx.mono {h : Hd} {b n n' : Nat} (x : Bx h b n) (l : n ≤ n') : Bx h b n' := by
  obtain ⟨x, c, d, e, a1, a2, a3, a4, a5⟩ := x
  exact ⟨x, c, d, e, a1, a2, a3, a4, by omega⟩
theorem To.mono {h h' : Hd} {b n n' : Nat} (x : To h b h' n) (l : n ≤ n') : To h b h' n' := ⟨x.1, x.2.mono l⟩
theorem To.refl {h : Hd} {b n : Nat} (x : Bx h b n) : To h b h n := by
  obtain ⟨x1, c, d, e, a⟩ := id x
  refine ⟨⟨[x1, c, d], ?_⟩, x⟩
  obtain ⟨hl, he⟩ := List.getElem?_eq_some_iff.mp e
  rw [← he, List.set_getElem_self]
theorem To.trans {h h1 h2 : Hd} {b n m : Nat} (x : To h b h1 n) (y : To h1 b h2 m) : To h b h2 m := by
  obtain ⟨⟨a, rfl⟩, _⟩ := x
  obtain ⟨⟨c, rfl⟩, z⟩ := y
  exact ⟨⟨c, by rw [List.set_set]⟩, z⟩
theorem To.fl {h h' : Hd} {b n : Nat} (x : To h b h' n) (f : Fl h) : Fl h' := by
  obtain ⟨⟨a, rfl⟩, _⟩ := x
  exact f.put (fc_cI _) _
theorem To.len {h h' : Hd} {b n : Nat} (x : To h b h' n) : h'.length = h.length := by
  obtain ⟨⟨a, rfl⟩, _⟩ := x
  simp
theorem To.get {h h' : Hd} {b n m : Nat} (x : To h b h' n) (ne : m ≠ b) : h'[m]? = h[m]? := by
  obtain ⟨⟨a, rfl⟩, _⟩ := x
  rw [List.getElem?_set_ne (Ne.symm ne)]
theorem Bx.lt {h : Hd} {b n : Nat} (x : Bx h b n) : b < h.length := by
  obtain ⟨x, c, d, e, _⟩ := x
  exact lt_of_get e
/-- h0 with its box changed, and plain cells behind -/
def Av (h0 : Hd) (b : Nat) (h' : Hd) (n : Nat) : Prop := ∃ h1, To h0 b h1 n ∧ Ab h1 h'
theorem Av.bx {h0 h' : Hd} {b n : Nat} (a : Av h0 b h' n) : Bx h' b n := by
  obtain ⟨h1, t, ab⟩ := a
  obtain ⟨x, c, d, e, r⟩ := t.2
  exact ⟨x, c, d, by rw [ab.get (lt_of_get e)]; exact e, r⟩
theorem Av.refl {h : Hd} {b n : Nat} (x : Bx h b n) : Av h b h n := ⟨h, To.refl x, Ab.refl h⟩
theorem Av.to {h0 h1 h2 : Hd} {b n m : Nat} (a : Av h0 b h1 n) (t : To h1 b h2 m) : Av h0 b h2 m := by
  obtain ⟨g, t0, j, rfl, f⟩ := a
  obtain ⟨⟨y, rfl⟩, z⟩ := t
  have lb := t0.2.lt
  rw [List.set_append_left _ _ lb] at z ⊢
  obtain ⟨x, c, d, e, r⟩ := z
  rw [List.getElem?_append_left (by rw [List.length_set]; exact lb)] at e
  refine ⟨g.set b (cI y), ?_, j, rfl, f⟩
  obtain ⟨⟨w, rfl⟩, _⟩ := t0
  exact ⟨⟨y, by rw [List.set_set]⟩, x, c, d, e, r⟩
theorem Av.push {h0 h' : Hd} {b n : Nat} {c : Cell} (a : Av h0 b h' n) (f : Fc c) : Av h0 b (h' ++ [c]) n := by
  obtain ⟨h1, t, ab⟩ := a
  exact ⟨h1, t, ab.push f⟩
theorem Av.put {h0 h' : Hd} {b n m : Nat} {c : Cell} (a : Av h0 b h' n) (f : Fc c) (l : h0.length ≤ m) : Av h0 b (h'.set m c) n := by
  obtain ⟨h1, t, ab⟩ := a
  exact ⟨h1, t, ab.put f (by rw [t.len]; exact l)⟩
theorem Av.fl {h0 h' : Hd} {b n : Nat} (a : Av h0 b h' n) (f : Fl h0) : Fl h' := by
  obtain ⟨h1, t, ab⟩ := a
  exact ab.fl (t.fl f)
theorem Av.len {h0 h' : Hd} {b n : Nat} (a : Av h0 b h' n) : h0.length ≤ h'.length := by
  obtain ⟨h1, t, ab⟩ := a
  rw [← t.len]
  exact ab.len
theorem Av.mono {h0 h' : Hd} {b n n' : Nat} (a : Av h0 b h' n) (l : n ≤ n') : Av h0 b h' n' := by
  obtain ⟨h1, t, ab⟩ := a
  exact ⟨h1, t.mono l, ab⟩
theorem Av.gcv {h0 h' : Hd} {b n : Nat} {d : D} (a : Av h0 b h' n) (f : Fl h0) (p : plk 20 d = true) : ∃ h1, gc h0.length d h' = .ok d h1 ∧ To h0 b h1 n := by
  obtain ⟨h1, t, j, rfl, _⟩ := a
  exact ⟨h1, gc_val (t.fl f) p t.len.symm, t⟩
theorem Av.gcI {h0 h' : Hd} {b n m : Nat} {ns : List Int} (a : Av h0 b h' n) (f : Fl h0) (hm : h0.length ≤ m) (e : h'[m]? = some (cI ns)) : ∃ h1, gc h0.length (.ref m) h' = .ok (lI ns) h1 ∧ To h0 b h1 n := by
  obtain ⟨h1, t, j, rfl, _⟩ := a
  exact ⟨h1, gc_ref (t.fl f) t.len.symm hm e (all_ints 18 ns), t⟩
section
variable {h : Hd} {b n : Nat}
@[simp] theorem x_sSetIx (me mo mi : ME) (env : En) : sSetIx me mo mi env h = RS.of env (me env h) fun d h1 => RS.of env (mo env (box d h1).2) fun o h2 => RS.of env (mi env h2) fun i h3 => match setIx o i (box d h1).1 h3 with
  | some h4 => .nx env h4
  | none => .stuck := id rfl
theorem sx_I {ns : List Int} {k : Int} {j : Nat} {v : Int} (e : h[b]? = some (cI ns)) (hj : ixN ns.length k = some j) : setIx (.ref b) (.int k) (.int v) h = some (h.set b (cI (ns.set j v))) := by
  simp only [setIx, e, cI, List.length_map, hj]
  rw [List.map_set]
theorem o_pow (i j : Int) (hj : 0 ≤ j) (hj2 : j ≤ 1000000) (hi : i.natAbs < 2 ^ 64) : dPow (.int i) (.int j) h = some (.int (i ^ j.toNat)) := by
  simp only [dPow, hj, hj2, hi, decide_true, Bool.and_self, if_true]
@[simp] theorem o_pow7 : dPow (.int 10) (.int 7) h = some (.int 10000000) := o_pow 10 7 (by omega) (by omega) (by decide)
@[simp] theorem o_pow18 : dPow (.int 10) (.int 18) h = some (.int 1000000000000000000) := o_pow 10 18 (by omega) (by omega) (by decide)
theorem bx_ix {x c d : Int} (e : h[b]? = some (cI [x, c, d])) : dIx (.ref b) (.int 0) h = some (.int x) ∧ dIx (.ref b) (.int 1) h = some (.int c) ∧ dIx (.ref b) (.int 2) h = some (.int d) :=
  ⟨ix_I e 0, ix_I e 1, ix_I e 2⟩
/-- one draw below ten millions -/
theorem take1 {k : Nat} {m : Int} (f : Fl h) (bx : Bx h b n) (hn : n ≤ 2 ^ 40) (m1 : 1 ≤ m) (m2 : m ≤ 10000000) : ∃ r h', m_law_take (k + 1) [.ref b, .int m] h = .ok (.int r) h' ∧ 0 ≤ r ∧ r < m ∧ To h b h' (n + 1) := by
  obtain ⟨x, c, d, e, a1, a2, a3, a4, a5⟩ := bx
  obtain ⟨i0, i1, i2⟩ := bx_ix e
  have lb := lt_of_get e
  have key : ∃ r y env', b_law_take (m_law_take k) [some (.ref b), some (.int m), none, none, none] h = .rt (.int r) (h.set b (cI y)) ∧ 0 ≤ r ∧ r < m ∧ Bx (h.set b (cI y)) b (n + 1) ∧ env' = [y] := by
    unfold b_law_take
    by_cases hx : 0 < x
    · have s := sx_I (h := h) (b := b) (k := 0) (j := 0) (v := x / m) e rfl
      refine ⟨x % m, [x / m, c, d], _, ?_, Int.emod_nonneg _ (by omega), Int.emod_lt_of_pos _ (by omega), ⟨x / m, c, d, get_set e, Int.ediv_nonneg a1 (by omega), a2, a3, a4, by omega⟩, rfl⟩
      have fd := o_fdiv (h := h) (i := x) (j := m) (by omega) (Nat.lt_of_le_of_lt (show m.natAbs ≤ 10000000 by omega) (by decide))
      simp [i0, hx, o_mod (h := h) (i := x) (j := m) (by omega), fd, s]
    · have x0 : x = 0 := by omega
      have s := sx_I (h := h) (b := b) (k := 2) (j := 2) (v := d + 1) e rfl
      have e' : (h.set b (cI [x, c, d + 1]))[b]? = some (cI [x, c, d + 1]) := get_set e
      obtain ⟨j0, j1, j2⟩ := bx_ix e'
      have hm : ¬ (10000000 : Int) < m := by omega
      have w1 := o_mul (h := h.set b (cI [x, c, d + 1])) (i := 48271) (j := d + 1) (by omega) (by omega)
      have w2 := o_mul2 (h := h.set b (cI [x, c, d + 1])) (i := c + 48271 * (d + 1)) (j := 39373 + (d + 1)) (by omega) (by omega)
      have w3 := o_mod (h := h.set b (cI [x, c, d + 1])) (i := (c + 48271 * (d + 1)) * (39373 + (d + 1))) (j := 2147483647) (by omega)
      generalize ho : (c + 48271 * (d + 1)) * (39373 + (d + 1)) % 2147483647 = o at w3
      have w4 := o_fdiv (h := h.set b (cI [x, c, d + 1])) (i := c) (j := 1000003) (by omega) (by decide)
      have w5 := o_mod (h := h.set b (cI [x, c, d + 1])) (i := o) (j := 40009) (by omega)
      have o1 : 0 ≤ o := by rw [← ho]; exact Int.emod_nonneg _ (by omega)
      have o2 : 0 ≤ o % 40009 := Int.emod_nonneg _ (by omega)
      have o3 : o % 40009 < 40009 := Int.emod_lt_of_pos _ (by omega)
      have w6 := o_mul2 (h := h.set b (cI [x, c, d + 1])) (i := o + (d + 1) + c / 1000003) (j := o % 40009 + 7) (by omega) (by omega)
      have w7 := o_mod (h := h.set b (cI [x, c, d + 1])) (i := (o + (d + 1) + c / 1000003) * (o % 40009 + 7)) (j := 2147483629) (by omega)
      generalize ht : (o + (d + 1) + c / 1000003) * (o % 40009 + 7) % 2147483629 = t at w7
      have w8 := o_mul2 (h := h.set b (cI [x, c, d + 1])) (i := t) (j := 48271) (by omega) (by omega)
      have w9 := o_mod (h := h.set b (cI [x, c, d + 1])) (i := t * 48271 + o) (j := 2147483587) (by omega)
      have w10 := o_fdiv (h := h.set b (cI [x, c, d + 1])) (i := (t * 48271 + o) % 2147483587) (j := 64) (by omega) (by decide)
      have w11 := o_mod (h := h.set b (cI [x, c, d + 1])) (i := (t * 48271 + o) % 2147483587 / 64) (j := m) (by omega)
      refine ⟨(t * 48271 + o) % 2147483587 / 64 % m, [x, c, d + 1], _, ?_, Int.emod_nonneg _ (by omega), Int.emod_lt_of_pos _ (by omega), ⟨x, c, d + 1, e', a1, a2, a3, by omega, by omega⟩, rfl⟩
      simp [i0, i2, hx, hm, s, j0, j1, j2, w1, w2, w3, w4, w5, w6, w7, w8, w9, w10, w11]
  obtain ⟨r, y, _, k1, k2, k3, k4, _⟩ := key
  have g : To h b (h.set b (cI y)) (n + 1) := ⟨⟨y, rfl⟩, k4⟩
  have gg := gc_val (h1 := h.set b (cI y)) (j := []) (d := .int r) (n := h.length) (g.fl f) (plk_int 19 _) (by simp)
  rw [List.append_nil] at gg
  refine ⟨r, _, ?_, k2, k3, g⟩
  simp [m_law_take, rd_eq, k1]
  exact gg
/-- one draw below ten million millions -/
theorem take2 {k : Nat} {m : Int} (f : Fl h) (bx : Bx h b n) (hn : n ≤ 2 ^ 39) (m1 : 1 ≤ m) (m2 : m ≤ 10000000000000) : ∃ r h', m_law_take (k + 2) [.ref b, .int m] h = .ok (.int r) h' ∧ 0 ≤ r ∧ r < m ∧ To h b h' (n + 2) := by
  by_cases hm : m ≤ 10000000
  · obtain ⟨r, h', e1, e2, e3, e4⟩ := take1 (k := k + 1) f bx (Nat.le_trans hn (by decide)) m1 hm
    exact ⟨r, h', e1, e2, e3, e4.mono (by omega)⟩
  · obtain ⟨x, c, d, e, a1, a2, a3, a4, a5⟩ := id bx
    obtain ⟨i0, i1, i2⟩ := bx_ix e
    have key : ∃ r h', b_law_take (m_law_take (k + 1)) [some (.ref b), some (.int m), none, none, none] h = .rt (.int r) h' ∧ 0 ≤ r ∧ r < m ∧ To h b h' (n + 2) := by
      unfold b_law_take
      by_cases hx : 0 < x
      · have s := sx_I (h := h) (b := b) (k := 0) (j := 0) (v := x / m) e rfl
        refine ⟨x % m, h.set b (cI [x / m, c, d]), ?_, Int.emod_nonneg _ (by omega), Int.emod_lt_of_pos _ (by omega), ⟨_, rfl⟩, ⟨x / m, c, d, get_set e, Int.ediv_nonneg a1 (by omega), a2, a3, a4, by omega⟩⟩
        have fd := o_fdiv (h := h) (i := x) (j := m) (by omega) (Nat.lt_of_le_of_lt (show m.natAbs ≤ 10000000000000 by omega) (by decide))
        simp [i0, hx, o_mod (h := h) (i := x) (j := m) (by omega), fd, s]
      · have hm' : (10000000 : Int) < m := by omega
        obtain ⟨r1, h1, e1, b1, c1, t1⟩ := take1 (k := k) (m := 10000000) f bx (Nat.le_trans hn (by decide)) (by omega) (by omega)
        obtain ⟨r2, h2, e2, b2, c2, t2⟩ := take1 (k := k) (m := m / 10000000 + 1) (t1.fl f) t1.2 (by omega) (by omega) (by omega)
        have fd := o_fdiv (h := h1) (i := m) (j := 10000000) (by omega) (by decide)
        have ml := o_mul (h := h2) (i := 10000000) (j := r2) (by omega) (by omega)
        have md := o_mod (h := h2) (i := r1 + 10000000 * r2) (j := m) (by omega)
        refine ⟨(r1 + 10000000 * r2) % m, h2, ?_, Int.emod_nonneg _ (by omega), Int.emod_lt_of_pos _ (by omega), t1.trans t2⟩
        simp [i0, hx, hm', e1, fd, e2, ml, md]
    obtain ⟨r, h', k1, k2, k3, k4⟩ := key
    have gg := gc_val (h1 := h') (j := []) (d := .int r) (n := h.length) (k4.fl f) (plk_int 19 _) k4.len.symm
    rw [List.append_nil] at gg
    refine ⟨r, h', ?_, k2, k3, k4⟩
    rw [show m_law_take (k + 2) = runDef 2 5 (b_law_take (m_law_take (k + 1))) from rfl]
    simp [rd_eq, k1]
    exact gg
theorem take8 {m : Int} (f : Fl h) (bx : Bx h b n) (hn : n ≤ 2 ^ 39) (m1 : 1 ≤ m) (m2 : m ≤ 10000000000000) : ∃ r h', m_law_take 8 [.ref b, .int m] h = .ok (.int r) h' ∧ 0 ≤ r ∧ r < m ∧ To h b h' (n + 2) := take2 (k := 6) f bx hn m1 m2
/-- a draw behind other changes -/
theorem take8v {h0 : Hd} {m : Int} (f : Fl h0) (a : Av h0 b h n) (hn : n ≤ 2 ^ 39) (m1 : 1 ≤ m) (m2 : m ≤ 10000000000000) : ∃ r h', m_law_take 8 [.ref b, .int m] h = .ok (.int r) h' ∧ 0 ≤ r ∧ r < m ∧ To h b h' (n + 2) := take8 (a.fl f) a.bx hn m1 m2
theorem toPy_ints (k : Nat) {m : Nat} {ns : List Int} (e : h[m]? = some (cI ns)) : toPy h (k + 2) (.ref m) = some (.list (ns.map .int)) := by
  simp only [toPy, e, cI]
  rw [optL_ints]
theorem o_neNil {m : Nat} {ns : List Int} (e : h[m]? = some (cI ns)) : dNe (.ref m) (lW []) h = some (.bl (!(ns == []))) := by
  unfold dNe
  rw [toPy_ints 18 e]
  have : toPy h 20 (lW []) = some (.list []) := rfl
  rw [this]
  simp only [PyData.eqv]
  cases ns <;> rfl
/-! ### a random row -/
def Row (q : Nat) (n : Nat) (r : List Int) : Prop := r.length = n ∧ ∀ c ∈ r, 0 ≤ c ∧ c < (q : Int)
theorem seqOf_I {m : Nat} {ns : List Int} (e : h[m]? = some (cI ns)) : seqOf h (.ref m) = some (ns.map .int) := by simp [seqOf, e, cI]
theorem o_tupleI {m : Nat} {ns : List Int} (e : h[m]? = some (cI ns)) : dTuple [.ref m] h = some (tI ns) := by
  simp [dTuple, seqOf_I e, tI]
abbrev bdL : MS := sSeq (sAsg (gNm 6) (eAnd (eBin dNe (eVar 3) (eN dLst aNil)) (eBin dLt (eCall (m_law_take 8) (aCons (eVar 0) (aCons (eC (.int 3)) aNil))) (eVar 4))))
  (sDrop (eBM "list" mAppend (eVar 3) (aCons (eIf (tVal (eVar 6)) (eBin dIx (eVar 3) (eUn dNeg (eC (.int 1)))) (eCall (m_law_take 8) (aCons (eVar 0) (aCons (eVar 2) aNil)))) aNil)))
theorem line_step {h0 : Hd} {q n k i m : Nat} {nr : Int} {x5 : D} {x6 : Option D} {ns : List Int} (f : Fl h0) (hq : 1 ≤ q) (hq2 : q ≤ 1000) (a : Av h0 b h k) (hk : k ≤ 2 ^ 38) (hm : h0.length ≤ m) (e : h[m]? = some (cI ns)) (hr : Row q i ns) (hi : i ≤ 900) :
    ∃ x6' h' ns', bdL [some (.ref b), some (.int (n : Int)), some (.int (q : Int)), some (.ref m), some (.int nr), some x5, x6] h = .nx [some (.ref b), some (.int (n : Int)), some (.int (q : Int)), some (.ref m), some (.int nr), some x5, x6'] h' ∧
      Av h0 b h' (k + 4) ∧ h'[m]? = some (cI ns') ∧ Row q (i + 1) ns' := by
  obtain ⟨r1, h1, e1, b1, c1, t1⟩ := take8v (m := 3) f a (Nat.le_trans hk (by decide)) (by omega) (by omega)
  have a1 := a.to t1
  have lb := a.bx.lt
  have bm : m ≠ b := fun z => by
    obtain ⟨g, t, _⟩ := a
    have := t.2.lt
    rw [t.len] at this
    omega
  obtain ⟨r2, h2, e2, b2, c2, t2⟩ := take8v (m := (q : Int)) f a1 (by omega) (by omega) (by omega)
  obtain ⟨r3, h3, e3, b3, c3, t3⟩ := take8v (m := (q : Int)) f a (by omega) (by omega) (by omega)
  have m1 : h1[m]? = some (cI ns) := by rw [t1.get bm]; exact e
  have m2 : h2[m]? = some (cI ns) := by rw [t2.get bm]; exact m1
  have m3 : h3[m]? = some (cI ns) := by rw [t3.get bm]; exact e
  have ex : ∀ {g : Hd} {v : Int}, 0 ≤ v → v < q → Row q (i + 1) (ns ++ [v]) := fun {g v} v0 v1 => ⟨by simp [hr.1], fun c hc => by
    rcases List.mem_append.mp hc with z | z
    · exact hr.2 c z
    · rw [List.mem_singleton.mp z]; exact ⟨v0, v1⟩⟩
  have nl : ns.length < sizeLine := line1000 (by rw [hr.1]; omega)
  cases hns : ns with
  | nil =>
    subst hns
    have ap := ap_I (h := h3) (w := r3) m3 nl
    refine ⟨some (.bl false), h3.set m (cI ([] ++ [r3])), [] ++ [r3], ?_, ((a.to t3).put (fc_cI _) hm).mono (by omega), get_set m3, ex (g := h) b3 c3⟩
    simp [o_neNil e, e3, ap, ty_I e]
  | cons z zs =>
    have ne : (ns == []) = false := by rw [hns]; rfl
    obtain ⟨v, hv⟩ : ∃ v, ns.getLast? = some v := ⟨_, by rw [hns]; exact List.getLast?_eq_getLast (List.cons_ne_nil z zs)⟩
    have vl : atI ns (-1) = some v := by rw [atI_last]; exact hv
    have vm := hr.2 v (List.mem_of_getLast? hv)
    by_cases hc : r1 < nr
    · have ap := ap_I (h := h1) (w := v) m1 nl
      refine ⟨some (.bl true), h1.set m (cI (ns ++ [v])), ns ++ [v], ?_, (a1.put (fc_cI _) hm).mono (by omega), get_set m1, ex (g := h) vm.1 vm.2⟩
      simp [o_neNil e, ne, e1, hc, ty_I m1, ix_I m1, vl, ap]
    · have ap := ap_I (h := h2) (w := r2) m2 nl
      refine ⟨some (.bl false), h2.set m (cI (ns ++ [r2])), ns ++ [r2], ?_, (a1.to t2).put (fc_cI _) hm, get_set m2, ex (g := h) b2 c2⟩
      simp [o_neNil e, ne, e1, hc, ty_I m1, e2, ap]
theorem m_line_eq {q m : Nat} (f : Fl h) (bx : Bx h b n) (hn : n ≤ 2 ^ 37) (hq : 1 ≤ q) (hq2 : q ≤ 1000) (hm : m ≤ 900) :
    ∃ r h', m_law_line [.ref b, .int (m : Int), .int (q : Int)] h = .ok (tI r) h' ∧ Row q m r ∧ To h b h' (n + 4000) := by
  obtain ⟨nr, h1, e1, _, _, t1⟩ := take8 (m := 3) f bx (by omega) (by omega) (by omega)
  have av1 : Av h b (h1 ++ [cI []]) (n + 2) := (Av.to (Av.refl bx) t1).push (fc_cI _)
  obtain ⟨env', h', e2, x5, x6, ns, k, ee, av, e3, rw1, hk⟩ := forGo_nx (g := gNm 5) (body := bdL) (src := []) (items := (List.range m).map fun i => .int (i : Nat)) (h := h1 ++ [cI []])
    (fun i env h' => ∃ x5 x6 ns k, env = [some (.ref b), some (.int (m : Int)), some (.int (q : Int)), some (.ref h1.length), some (.int nr), x5, x6] ∧ Av h b h' k ∧ h'[h1.length]? = some (cI ns) ∧ Row q i ns ∧ k ≤ n + 2 + 4 * i) (fun _ _ _ _ => rfl)
    (fun i x env h' ex ⟨x5, x6, ns, k, ee, av, e3, rw1, hk⟩ => by
      subst ee
      obtain ⟨hi, rfl⟩ := range_get ex
      obtain ⟨x6', h2, ns', s1, s2, s3, s4⟩ := line_step (h := h') (n := m) (nr := nr) (x5 := .int (i : Nat)) (x6 := x6) f hq hq2 av (by omega) (by rw [t1.len]; exact Nat.le_refl _) e3 rw1 (by omega)
      exact ⟨[(5, .int (i : Nat))], _, h2, rfl, s1, some (.int (i : Nat)), x6', ns', k + 4, rfl, s2, s3, s4, by omega⟩)
    (env := [some (.ref b), some (.int (m : Int)), some (.int (q : Int)), some (.ref h1.length), some (.int nr), none, none]) ⟨none, none, [], n + 2, rfl, av1, get_last _ _, ⟨rfl, fun _ z => nomatch z⟩, by omega⟩
  subst ee
  rw [List.length_map, List.length_range] at rw1 hk
  have t2 : sAsg (gTp ([3, 4].map gNm)) (eN dTup (aCons (eN dLst aNil) (aCons (eCall (m_law_take 8) (aCons (eVar 0) (aCons (eC (.int 3)) aNil))) aNil))) [some (.ref b), some (.int (m : Int)), some (.int (q : Int)), none, none, none, none] h
      = .nx [some (.ref b), some (.int (m : Int)), some (.int (q : Int)), some (.ref h1.length), some (.int nr), none, none] (h1 ++ [cI []]) := by
    simp [e1]
    rfl
  have t3 : iN rng1 (aCons (eVar 1) aNil) [some (.ref b), some (.int (m : Int)), some (.int (q : Int)), some (.ref h1.length), some (.int nr), none, none] (h1 ++ [cI []]) = .ok ((List.range m).map (fun i => .int (i : Nat)), []) (h1 ++ [cI []]) := by
    simp [rng1_nat m (by omega)]
  have key : b_law_line [some (.ref b), some (.int (m : Int)), some (.int (q : Int)), none, none, none, none] h = .rt (tI ns) h' := by
    unfold b_law_line
    rw [x_sSeq, t2]
    simp only
    rw [x_sSeq, x_sFor, t3]
    simp only
    rw [e2]
    simp [o_tupleI e3]
  obtain ⟨g, gg, tt⟩ := av.gcv f (plk_tI 18 ns)
  refine ⟨ns, g, ?_, rw1, tt.mono (by omega)⟩
  simp [m_law_line, rd_eq, key]
  exact gg
end
end Cm

/-! Spec5: the laws' small functions. -/
namespace Cm
open PySem PySem.Spec PyProof.Rows L2 Tw
section
variable {h : Hd} {b n : Nat}
/-! ### the box -/
theorem m_cell_eq (f : Fl h) (ns : List Int) (k : Nat) : ∃ v, m_law_cell_at [.rol (ns.map .int), .int (k : Int)] h = .ok (.int v) h := by
  have len : dLen [.rol (ns.map D.int)] h = some (.int ns.length) := by simp [dLen, seqOf]
  have ix : dIx (.rol (ns.map D.int)) (.int (k : Int)) h = (ns[k]?).map .int := by
    show (match seqOf h (.rol (ns.map D.int)) with
      | some xs => atI xs k
      | none => none) = _
    simp only [seqOf]
    rw [atI_map, atI_nat]
  by_cases hk : k < ns.length
  · have hk' : (k : Int) < (ns.length : Int) := by omega
    have key : b_law_cell_at [some (.rol (ns.map D.int)), some (.int (k : Int))] h = .rt (.int ns[k]) h := by
      unfold b_law_cell_at
      simp [len, hk', ix, hk]
    refine ⟨ns[k], ?_⟩
    simp [m_law_cell_at, rd_eq, key]
    exact (Ab.refl h).gcv f (plk_int 19 _)
  · have hk' : ¬ (k : Int) < (ns.length : Int) := by omega
    have key : b_law_cell_at [some (.rol (ns.map D.int)), some (.int (k : Int))] h = .rt (.int 0) h := by
      unfold b_law_cell_at
      simp [len, hk']
    refine ⟨0, ?_⟩
    simp [m_law_cell_at, rd_eq, key]
    exact (Ab.refl h).gcv f (plk_int 19 _)
@[simp] theorem o_abs (i : Int) : dAbs [.int i] h = some (.int (if i < 0 then -i else i)) := id rfl
@[simp] theorem o_intB (k : Bool) : dInt [.bl k] h = some (.int (if k then 1 else 0)) := id rfl
@[simp] theorem o_lst3 (x y z : Int) : dLst [.int x, .int y, .int z] h = some (lI [x, y, z]) := by
  unfold dLst
  rw [if_pos (by simp [sizeLine_eq])]
  rfl
theorem m_box_eq (f : Fl h) (ns : List Int) (k : Nat) (hk : k ≤ 1000) : ∃ x c, m_law_box [.rol (ns.map .int), .int (k : Int)] h = .ok (lI [x, c, 0]) h ∧ 0 ≤ x ∧ 0 ≤ c ∧ c < 2 ^ 63 := by
  obtain ⟨v, e⟩ := m_cell_eq f ns k
  have c1 : 0 ≤ v % 2305843009213693951 := Int.emod_nonneg _ (by omega)
  have c2 : v % 2305843009213693951 < 2305843009213693951 := Int.emod_lt_of_pos _ (by omega)
  generalize ha : (if v < 0 then -v else v) = a
  have a0 : 0 ≤ a := by rw [← ha]; split <;> omega
  generalize hj : (if decide (1000000000000000000 ≤ a) = true then (1 : Int) else 0) = j
  have j0 : 0 ≤ j ∧ j ≤ 1 := by rw [← hj]; split <;> omega
  have mu := o_mul2 (h := h) (i := a) (j := j) (by omega) (by omega)
  have mo := o_mod (h := h) (i := v) (j := 2305843009213693951) (by omega)
  have mk := o_mul (h := h) (i := 39373) (j := (k : Int)) (by omega) (by omega)
  have key : ∃ h', b_law_box [some (.rol (ns.map D.int)), some (.int (k : Int)), none] h = .rt (lI [a * j, v % 2305843009213693951 + 39373 * k + 29, 0]) h' ∧ h' = h := by
    refine ⟨h, ?_, rfl⟩
    unfold b_law_box
    simp only [decide_eq_true_eq] at hj
    simp [e, ha, hj, mu, mo, mk]
  obtain ⟨_, key, rfl⟩ := key
  refine ⟨a * j, v % 2305843009213693951 + 39373 * (k : Int) + 29, ?_, Int.mul_nonneg a0 j0.1, by omega, by omega⟩
  simp [m_law_box, rd_eq, key]
  exact (Ab.refl _).gcv f (plk_lI 18 _)
/-! ### words, ways -/
theorem cutL_last1 {α : Type} (xs : List α) : cutL xs (some (-1)) none = xs.getLast?.toList := by
  unfold cutL
  simp only [HT.sIx]
  rw [if_pos (by omega)]
  cases xs with
  | nil => rfl
  | cons x xs =>
    have e : ((-1 : Int) + ((x :: xs).length : Int)).toNat = xs.length := by simp only [List.length_cons]; omega
    rw [e, List.getLast?_eq_getLast (List.cons_ne_nil x xs)]
    have : (x :: xs).drop xs.length = [(x :: xs).getLast (List.cons_ne_nil x xs)] := by
      rw [List.drop_eq_getElem_cons (by simp), List.drop_of_length_le (by simp), List.getLast_eq_getElem]
      simp
    rw [this]
    simp
theorem last_beq (w : List Int) (c : Int) : (w.getLast?.toList == [c]) = decide (w.getLast? = some c) := by
  cases w.getLast? with
  | none => rfl
  | some z => by_cases hz : z = c <;> simp [hz]
theorem m_words_eq {row : List Int} (f : Fl h) (hr : row.length ≤ 1000) : m_law_words [tI row] h = .ok (lW (rsts row)) h := by
  have key : ∃ h', b_law_words [some (tI row), none, none, none] h = .rt (.ref h.length) h' ∧ Ab h h' ∧ h'[h.length]? = some (cW (rsts row)) := by
    unfold b_law_words
    obtain ⟨env', h', e1, e2, e3, e4⟩ := forGo_nx (g := gNm 2) (body := sSeq (sAsg (gNm 3) (eBin dIx (eVar 1) (eUn dNeg (eC (.int 1)))))
        (sDrop (eBM "list" mAppend (eVar 1) (aCons (eIf (tVal (eBin dEq (eSl (eVar 3) (oSome (eUn dNeg (eC (.int 1)))) oNone) (eN dTup (aCons (eVar 2) aNil)))) (eSl (eVar 3) oNone (oSome (eUn dNeg (eC (.int 1))))) (eBin dAdd (eVar 3) (eN dTup (aCons (eVar 2) aNil)))) aNil))))
      (src := []) (items := row.map .int) (fun i env h' => (∃ x y, env = [some (tI row), some (.ref h.length), x, y]) ∧ Ab h h' ∧ h'[h.length]? = some (cW (rsts (row.take i)))) (fun _ _ _ _ => rfl)
      (fun i x env h' ex ⟨⟨y, z, ey⟩, ab, hc⟩ => by
        subst ey
        rw [List.getElem?_map] at ex
        obtain ⟨c, hc1, rfl⟩ := Option.map_eq_some_iff.mp ex
        have hi : i < row.length := (List.getElem?_eq_some_iff.mp hc1).1
        have tk : row.take (i + 1) = row.take i ++ [c] := by rw [List.take_add_one, hc1]; rfl
        generalize hw : (row.take i).foldl stp [] = w
        have sn : rsts (row.take (i + 1)) = rsts (row.take i) ++ [stp w c] := by
          rw [tk, ← hw]
          unfold rsts
          rw [rsts_snoc, List.foldl_append]
          rfl
        have wl := fold_len [] (row.take i)
        rw [hw] at wl
        simp only [List.length_nil, List.length_take] at wl
        have la : atI (rsts (row.take i)) (-1) = some w := by rw [atI_last, ← hw]; exact rsts_last [] _
        have ap := ap_W (h := h') (w := stp w c) hc (line1000 (by unfold rsts; rw [rsts_len]; simp; omega))
        rw [← sn] at ap
        have ad := o_addT (h := h') (a := w) (b := [c]) (Nat.le_of_lt (line1000 (by simp; omega)))
        refine ⟨[(2, .int c)], [some (tI row), some (.ref h.length), some (.int c), some (tI w)], h'.set h.length (cW (rsts (row.take (i + 1)))), rfl, ?_, ⟨_, _, rfl⟩, ab.put (fc_cW _) (Nat.le_refl _), get_set hc⟩
        unfold stp at ap
        by_cases hl : w.getLast? = some c
        · rw [if_pos hl] at ap
          simp [ty_W hc, ix_W hc, la, cutL_last1, last_beq, hl, cutL_init, ap]
        · rw [if_neg hl] at ap
          simp [ty_W hc, ix_W hc, la, cutL_last1, last_beq, hl, ad, ap])
      (env := [some (tI row), some (.ref h.length), none, none]) (h := h ++ [cW [[]]]) ⟨⟨_, _, rfl⟩, (Ab.refl h).push (fc_cW _), get_last _ _⟩
    obtain ⟨x, y, rfl⟩ := e2
    refine ⟨h', ?_, e3, by simpa using e4⟩
    simp [x_sFor, e1]
  obtain ⟨h', e1, e2, e3⟩ := key
  simp [m_law_words, rd_eq, e1]
  exact e2.gcW f (Nat.le_refl _) e3
/-! ### rests behind -/
def bh (core : List Int) (c : Int) : List Int := match core with
  | [] => [c]
  | x :: xs => if x = c then xs else c :: x :: xs
theorem cutL_to1 {α : Type} (xs : List α) : cutL xs none (some 1) = xs.take 1 := by
  unfold cutL
  simp only [HT.sIx]
  rw [if_neg (by omega)]
  cases xs with
  | nil => rfl
  | cons x xs => simp
theorem cutL_from1 {α : Type} (xs : List α) : cutL xs (some 1) none = xs.drop 1 := by
  unfold cutL
  simp only [HT.sIx]
  rw [if_neg (by omega)]
  cases xs with
  | nil => rfl
  | cons x xs => simp
theorem m_behind_eq {core : List Int} {c : Int} (f : Fl h) (hc : core.length ≤ 900) : m_law_behind [tI core, .int c] h = .ok (tI (bh core c)) h := by
  have ad := o_addT (h := h) (a := [c]) (b := core) (Nat.le_of_lt (line1000 (by simp; omega)))
  have key : b_law_behind [some (tI core), some (.int c)] h = .rt (tI (bh core c)) h := by
    unfold b_law_behind bh
    cases core with
    | nil => simp [cutL_to1, ad]
    | cons x xs =>
      by_cases hx : x = c
      · simp [cutL_to1, cutL_from1, hx]
      · simp [cutL_to1, hx, ad]
  simp [m_law_behind, rd_eq, key]
  exact (Ab.refl h).gcv f (plk_tI 18 _)
/-! ### the number of lots -/
def coreN (q : Int) : Nat → Int
  | 0 => 1
  | d + 1 => coreN q d * (if d = 0 then q else q - 1)
def lotsN (q : Int) (n : Nat) : Nat → Int
  | 0 => 0
  | d + 1 => lotsN q n d + (if d % 2 = n % 2 then coreN q d else 0)
theorem o_imul {i j : Int} (hi : -(2 ^ 64) < j) (hi2 : j < 2 ^ 64) : dIMul (.int i) (.int j) h = some (.int (i * j)) := by
  simp only [dIMul, hi, hi2, decide_true, Bool.true_or, Bool.or_true, Bool.and_self, if_true]
theorem m_lots_many_eq {q : Int} {m : Nat} (f : Fl h) (q0 : 0 ≤ q) (q1 : q < 2 ^ 60) (hm : m ≤ 900) : m_lots_many [.int q, .int (m : Int)] h = .ok (.int (lotsN q m (m + 1))) h := by
  obtain ⟨env', h', e1, e2, x4, ee⟩ := forGo_nx (g := gNm 4) (body := sSeq (sAug 2 dIAdd (eIf (tVal (eBin dEq (eBin dMod (eVar 4) (eC (.int 2))) (eBin dMod (eVar 1) (eC (.int 2))))) (eVar 3) (eC (.int 0)))) (sAug 3 dIMul (eIf (tVal (eBin dEq (eVar 4) (eC (.int 0)))) (eVar 0) (eBin dSub (eVar 0) (eC (.int 1)))))) (src := []) (items := (List.range (m + 1)).map fun i => .int (i : Nat))
    (fun i env h' => h' = h ∧ ∃ x4, env = [some (.int q), some (.int (m : Int)), some (.int (lotsN q m i)), some (.int (coreN q i)), x4]) (fun _ _ _ _ => rfl)
    (fun i x env h' ex ⟨eh, x4, ee⟩ => by
      subst eh ee
      obtain ⟨hi, rfl⟩ := range_get ex
      refine ⟨[(4, .int (i : Nat))], _, h', rfl, ?_, rfl, some (.int (i : Nat)), rfl⟩
      have m1 := o_mod (h := h') (i := (i : Int)) (j := 2) (by omega)
      have m2 := o_mod (h := h') (i := (m : Int)) (j := 2) (by omega)
      have pe : ((i : Int) % 2 = (m : Int) % 2) ↔ (i % 2 = m % 2) := by omega
      have r1 : lotsN q m (i + 1) = lotsN q m i + (if i % 2 = m % 2 then coreN q i else 0) := rfl
      have r2 : coreN q (i + 1) = coreN q i * (if i = 0 then q else q - 1) := rfl
      rw [r1, r2]
      generalize coreN q i = cr
      generalize lotsN q m i = lo
      have im : dIMul (.int cr) (.int q) h' = some (.int (cr * q)) := o_imul (by omega) (by omega)
      have im2 : dIMul (.int cr) (.int (q - 1)) h' = some (.int (cr * (q - 1))) := o_imul (by omega) (by omega)
      have m0 : dMod (.int 0) (.int 2) h' = some (.int 0) := o_mod (by omega)
      by_cases hz : i = 0
      · subst hz
        by_cases hp : 0 % 2 = m % 2
        · have hp' : (m : Int) % 2 = 0 := by omega
          have hp2 : m % 2 = 0 := by omega
          simp [m0, m2, hp', hp2, im]
        · have hp' : ¬ (0 : Int) = (m : Int) % 2 := by omega
          have hp2 : ¬ 0 = m % 2 := by omega
          simp [m0, m2, hp', hp2, im]
      · have hz' : ¬ (i : Int) = 0 := by omega
        generalize (i : Int) = ii at *
        by_cases hp : i % 2 = m % 2
        · have hp' := pe.mpr hp
          simp [m1, m2, hp', hp, hz', hz, im2]
        · have hp' : ¬ (ii % 2 = (m : Int) % 2) := fun z => hp (pe.mp z)
          simp [m1, m2, hp', hp, hz', hz, im2])
    (env := [some (.int q), some (.int (m : Int)), some (.int 0), some (.int 1), none]) (h := h) ⟨rfl, none, rfl⟩
  subst e2 ee
  rw [List.length_map, List.length_range] at e1
  have t3 : iN rng1 (aCons (eBin dAdd (eVar 1) (eC (.int 1))) aNil) [some (.int q), some (.int (m : Int)), some (.int 0), some (.int 1), none] h' = .ok ((List.range (m + 1)).map (fun i => .int (i : Nat)), []) h' := by
    have := rng1_nat (m + 1) (by omega)
    simp at this
    simp [this]
  have key : b_lots_many [some (.int q), some (.int (m : Int)), none, none, none] h' = .rt (.int (lotsN q m (m + 1))) h' := by
    unfold b_lots_many
    rw [x_sSeq, show sAsg (gTp [(gNm 2), (gNm 3)]) (eN dTup (aCons (eC (.int 0)) (aCons (eC (.int 1)) aNil))) [some (.int q), some (.int (m : Int)), none, none, none] h' = .nx [some (.int q), some (.int (m : Int)), some (.int 0), some (.int 1), none] h' by simp]
    simp only
    rw [x_sSeq, x_sFor, t3]
    simp only
    rw [e1]
    simp
  simp [m_lots_many, rd_eq, key]
  exact (Ab.refl h').gcv f (plk_int 19 _)
end
end Cm

/-! Spec6: of, strolled, grown, same, ways. -/
namespace Cm
open PySem PySem.Spec PyProof.Rows L2 Tw
/-! ### reduced words -/
/-- no two equal neighbours -/
def Red : List Int → Prop
  | a :: b :: r => a ≠ b ∧ Red (b :: r)
  | _ => True
theorem Red.tail {a : Int} {r : List Int} (h : Red (a :: r)) : Red r := by
  cases r with
  | nil => trivial
  | cons b r => exact h.2
theorem red_snoc : ∀ {w : List Int} {c : Int}, Red w → w.getLast? ≠ some c → Red (w ++ [c])
  | [], c, _, _ => trivial
  | [a], c, _, h => ⟨fun z => h (by simp [z]), trivial⟩
  | a :: b :: r, c, hr, h => by
    refine ⟨hr.1, red_snoc (w := b :: r) hr.2 ?_⟩
    rw [List.getLast?_cons_cons] at h
    exact h
theorem red_init : ∀ {w : List Int}, Red w → Red w.dropLast
  | [], _ => trivial
  | [a], _ => trivial
  | [a, b], _ => trivial
  | a :: b :: c :: r, hr => ⟨hr.1, red_init (w := b :: c :: r) hr.2⟩
theorem red_stp {w : List Int} {c : Int} (h : Red w) : Red (stp w c) := by
  unfold stp
  split
  · exact red_init h
  · rename_i hl
    exact red_snoc h hl
theorem red_fold : ∀ (row : List Int) {w : List Int}, Red w → Red (row.foldl stp w)
  | [], w, h => h
  | c :: row, w, h => red_fold row (red_stp h)
theorem red_rst (row : List Int) : Red (rst row) := red_fold row trivial
theorem red_last : ∀ {w : List Int} {c : Int}, Red w → w.getLast? = some c → w.dropLast.getLast? ≠ some c
  | [], c, _, h => by simp at h
  | [a], c, _, _ => by simp
  | [a, b], c, hr, h => by
    simp at h
    subst h
    simp
    exact hr.1
  | a :: b :: d :: r, c, hr, h => by
    have := red_last (w := b :: d :: r) (c := c) hr.2 (by rw [List.getLast?_cons_cons] at h; exact h)
    simpa using this
theorem stp_stp {w : List Int} {c : Int} (h : Red w) : stp (stp w c) c = w := by
  by_cases hl : w.getLast? = some c
  · have h1 : stp w c = w.dropLast := by unfold stp; rw [if_pos hl]
    rw [h1]
    unfold stp
    rw [if_neg (red_last h hl)]
    obtain ⟨hn, hl'⟩ : ∃ hn : w ≠ [], w.getLast hn = c := by
      cases w with
      | nil => simp at hl
      | cons x xs => exact ⟨List.cons_ne_nil x xs, by rw [List.getLast?_eq_getLast (List.cons_ne_nil x xs)] at hl; exact Option.some.inj hl⟩
    rw [← hl']
    exact List.dropLast_concat_getLast hn
  · have h1 : stp w c = w ++ [c] := by unfold stp; rw [if_neg hl]
    rw [h1]
    unfold stp
    rw [if_pos (by simp)]
    simp
/-- a pair in a row changes nothing -/
theorem rst_pair (l r : List Int) (c : Int) : rst (l ++ [c, c] ++ r) = rst (l ++ r) := by
  unfold rst
  simp only [List.foldl_append, List.foldl_cons, List.foldl_nil]
  rw [stp_stp (red_fold l (w := []) trivial)]
section
variable {h : Hd} {b n : Nat}
/-! ### while -/
theorem while_rule {t : MT} {body : MS} {P : RS → Prop} (I : Nat → En → Hd → Prop)
    (step : ∀ m env h, I m env h → ∃ c h1, t env h = .ok c h1 ∧ (match c with
      | false => P (.nx env h1)
      | true => match body env h1 with
        | .nx e h' => ∃ m', m' < m ∧ I m' e h'
        | _ => False)) : ∀ (k m : Nat), m < k → ∀ env h, I m env h → P (whileGo t body k env h)
  | 0, m, hm, _, _, _ => absurd hm (by omega)
  | k + 1, m, hm, env, h, hi => by
    unfold whileGo
    obtain ⟨c, h1, e, st⟩ := step m env h hi
    rw [e]
    cases c with
    | false => exact st
    | true =>
      simp only at st ⊢
      cases eb : body env h1 with
      | nx e' h' =>
        rw [eb] at st
        obtain ⟨m', l, i'⟩ := st
        exact while_rule I step k m' (by omega) e' h' i'
      | _ => rw [eb] at st; exact st.elim
theorem x_sWhile (t : MT) (body : MS) (env : En) : sWhile t body env h = whileGo t body (10 ^ 40) env h := id rfl
theorem x_eComp (vs : List Nat) (mi : MI) (g : MG) (tt : MT) (te : ME) (env : En) : eComp vs mi g tt te env h = (match mi env h with
  | .ok (items, src) h1 => (compGo (wipeE env vs) g tt te src items h1).bind fun ds h2 => if ds.length ≤ sizeLine then .ok (.lst ds) h2 else .stuck
  | .exc e h1 => .exc e h1
  | .stuck => .stuck) := id rfl
@[simp] theorem x_tTrue (env : En) : tTrue env h = .ok true h := id rfl
@[simp] theorem x_wipe0 (env : En) : wipeE env [] = env := id rfl
@[simp] theorem x_wipe (env : En) (v : Nat) (vs : List Nat) : wipeE env (v :: vs) = (wipeE env vs).set v none := id rfl
/-! ### a drawn item -/
theorem m_of_eq {m : Nat} {ns : List Int} (f : Fl h) (bx : Bx h b n) (hn : n ≤ 2 ^ 38) (e : h[m]? = some (cI ns)) (ne : ns ≠ []) (hl : ns.length ≤ 1000) (hm : m ≠ b) :
    ∃ (j : Nat) (v : Int) (h' : Hd), m_law_of [.ref b, .ref m] h = .ok (.int v) h' ∧ ns[j]? = some v ∧ To h b h' (n + 2) := by
  have pos : 0 < ns.length := List.length_pos_iff.mpr ne
  obtain ⟨r, h1, e1, r0, r1, t⟩ := take8 (m := (ns.length : Int)) f bx (by omega) (by omega) (by omega)
  have e' : h1[m]? = some (cI ns) := by rw [t.get hm]; exact e
  obtain ⟨k, rfl⟩ : ∃ k : Nat, r = (k : Int) := ⟨r.toNat, by omega⟩
  have rl : k < ns.length := by omega
  have ln := len_I e
  have key : b_law_of [some (.ref b), some (.ref m)] h = .rt (.int ns[k]) h1 := by
    unfold b_law_of
    have ix : dIx (.ref m) (.int (k : Int)) h1 = some (.int ns[k]) := by
      rw [ix_I e', atI_nat, List.getElem?_eq_getElem rl]
      simp
    simp [ln, e1, ix]
  refine ⟨k, ns[k], h1, ?_, List.getElem?_eq_getElem rl, t⟩
  simp [m_law_of, rd_eq, key]
  have := gc_val (h1 := h1) (j := []) (d := .int ns[k]) (n := h.length) (t.fl f) (plk_int 19 _) t.len.symm
  rwa [List.append_nil] at this
/-! ### strolls -/
theorem cutL_to {α : Type} (xs : List α) (k : Nat) (hk : k ≤ xs.length) : cutL xs none (some (k : Int)) = xs.take k := by
  unfold cutL
  simp only [HT.sIx]
  rw [if_neg (by omega)]
  simp
  try omega
theorem cutL_from {α : Type} (xs : List α) (k : Nat) (hk : k ≤ xs.length) : cutL xs (some (k : Int)) none = xs.drop k := by
  unfold cutL
  simp only [HT.sIx]
  rw [if_neg (by omega)]
  simp only [Int.toNat_natCast, Nat.min_eq_left hk]
  exact List.take_of_length_le (by simp)
theorem o_tupI2 (c d : Int) : dTup [.int c, .int d] h = some (tI [c, d]) := by
  rw [o_tup2]; rfl
def spotsOf (r : List Int) : List Int := ((List.range (r.length - 1)).filter fun k => r[k]? == r[k + 1]?).map fun (k : Nat) => (k : Int)
theorem spots_mem {r : List Int} {v : Int} (h : v ∈ spotsOf r) : ∃ k : Nat, v = k ∧ k + 1 < r.length ∧ ∃ c, r[k]? = some c ∧ r[k + 1]? = some c := by
  unfold spotsOf at h
  obtain ⟨k, hk, rfl⟩ := List.mem_map.mp h
  obtain ⟨h1, h2⟩ := List.mem_filter.mp hk
  have h1' : k < r.length - 1 := List.mem_range.mp h1
  have hl : k + 1 < r.length := by omega
  refine ⟨k, rfl, hl, r[k + 1], ?_, List.getElem?_eq_getElem hl⟩
  rw [List.getElem?_eq_getElem hl] at h2
  exact eq_of_beq h2
theorem split_pair {r : List Int} {k : Nat} {c : Int} (h1 : r[k]? = some c) (h2 : r[k + 1]? = some c) : r = r.take k ++ [c, c] ++ r.drop (k + 2) := by
  obtain ⟨l1, e1⟩ := List.getElem?_eq_some_iff.mp h1
  obtain ⟨l2, e2⟩ := List.getElem?_eq_some_iff.mp h2
  have d1 : r.drop k = c :: r.drop (k + 1) := by rw [List.drop_eq_getElem_cons l1, e1]
  have d2 : r.drop (k + 1) = c :: r.drop (k + 2) := by rw [List.drop_eq_getElem_cons l2, e2]
  have := (List.take_append_drop k r).symm
  rw [d1, d2] at this
  simpa using this
theorem filter_range_map (m : Nat) (p : Nat → Bool) (p' : D → Bool) (hp : ∀ k, k < m → p' (.int (k : Nat)) = p k) : (((List.range m).map fun i => D.int (i : Nat)).filter p') = ((List.range m).filter p).map fun (i : Nat) => D.int (i : Nat) := by
  rw [List.filter_map]
  congr 1
  apply List.filter_congr
  intro k hk
  exact hp k (List.mem_range.mp hk)
theorem rng1_sub (m : Nat) (hm : m ≤ 1000) : rng1 [.int ((m : Int) - 1)] = some ((List.range (m - 1)).map fun i => .int (i : Nat)) := by
  simp only [rng1]
  rw [if_pos (by unfold rngOk; simp; omega)]
  have : ((m : Int) - 1).toNat = m - 1 := by omega
  rw [this]
  simp
theorem spots_comp {r : List Int} {x0 x2 x3 x4 x5 x6 x7 : Option D} (hr : r.length ≤ 900) :
    eComp [6] (iN rng1 (aCons (eBin dSub (eN dLen (aCons (eVar 1) aNil)) (eC (.int 1))) aNil)) (gNm 6) (tVal (eBin dEq (eBin dIx (eVar 1) (eVar 6)) (eBin dIx (eVar 1) (eBin dAdd (eVar 6) (eC (.int 1)))))) (eVar 6) [x0, some (tI r), x2, x3, x4, x5, x6, x7] h = .ok (lI (spotsOf r)) h := by
  have t3 : iN rng1 (aCons (eBin dSub (eN dLen (aCons (eVar 1) aNil)) (eC (.int 1))) aNil) [x0, some (tI r), x2, x3, x4, x5, x6, x7] h = .ok ((List.range (r.length - 1)).map (fun i => .int (i : Nat)), []) h := by
    simp [rng1_sub r.length (by omega)]
  rw [x_eComp, t3]
  simp only
  have ev : ∀ k : Nat, k + 1 < r.length → (tVal (eBin dEq (eBin dIx (eVar 1) (eVar 6)) (eBin dIx (eVar 1) (eBin dAdd (eVar 6) (eC (.int 1)))))) [x0, some (tI r), x2, x3, x4, x5, some (.int (k : Nat)), x7] h = .ok (r[k]? == r[k + 1]?) h := fun k hk => by
    have g1 : atI r (k : Int) = some r[k] := by rw [atI_nat]; exact List.getElem?_eq_getElem (by omega)
    have g2 : atI r ((k : Int) + 1) = some r[k + 1] := by
      rw [show (k : Int) + 1 = ((k + 1 : Nat) : Int) by omega, atI_nat]; exact List.getElem?_eq_getElem hk
    rw [List.getElem?_eq_getElem hk, List.getElem?_eq_getElem (show k < r.length by omega)]
    simp [g1, g2]
  have cm := compGo_map (env := wipeE [x0, some (tI r), x2, x3, x4, x5, x6, x7] [6]) (g := gNm 6) (tt := tVal (eBin dEq (eBin dIx (eVar 1) (eVar 6)) (eBin dIx (eVar 1) (eBin dAdd (eVar 6) (eC (.int 1)))))) (te := eVar 6) (src := []) (h := h)
    (p := fun d => match d with | .int k => (r[k.toNat]? == r[k.toNat + 1]?) | _ => false) (f := fun d => d) rfl (items := (List.range (r.length - 1)).map fun i => .int (i : Nat)) (fun x hx => by
      obtain ⟨k, hk, rfl⟩ := List.mem_map.mp hx
      have hk' : k + 1 < r.length := by have := List.mem_range.mp hk; omega
      refine ⟨[(6, .int (k : Nat))], rfl, ?_, fun _ => ?_⟩
      · have := ev k hk'
        simpa using this
      · simp)
  rw [cm]
  rw [filter_range_map (r.length - 1) (fun k => r[k]? == r[k + 1]?) _ fun k hk => by simp]
  have le : (((List.range (r.length - 1)).filter fun k => r[k]? == r[k + 1]?).map fun (i : Nat) => D.int (i : Nat)).length ≤ sizeLine := by
    have := List.length_filter_le (fun k => r[k]? == r[k + 1]?) (List.range (r.length - 1))
    rw [List.length_range] at this
    rw [List.length_map]
    exact Nat.le_of_lt (line1000 (by omega))
  simp only [R.bind_ok, List.map_id', le, if_true]
  simp [lI, spotsOf]
end
end Cm

/-! Spec7: strolled, grown, same, ways. -/
namespace Cm
open PySem PySem.Spec PyProof.Rows L2 Tw
theorem Av.ne {h0 h' : Hd} {b n m : Nat} (a : Av h0 b h' n) (l : h0.length ≤ m) : m ≠ b := fun z => by
  obtain ⟨g, t, _⟩ := a
  have := t.2.lt
  rw [t.len] at this
  omega
theorem cell_of {α : Type} {k : Nat} {r : List α} (h : k + 1 < r.length) : (r.take k).length = k ∧ (r.drop (k + 2)).length = r.length - k - 2 := by
  rw [List.length_take, List.length_drop]; omega
section
variable {h : Hd} {b n : Nat}
abbrev bdS : MS := sSeq (sAsg (gNm 5) (eComp [6] (iN rng1 (aCons (eBin dSub (eN dLen (aCons (eVar 1) aNil)) (eC (.int 1))) aNil)) (gNm 6) (tVal (eBin dEq (eBin dIx (eVar 1) (eVar 6)) (eBin dIx (eVar 1) (eBin dAdd (eVar 6) (eC (.int 1)))))) (eVar 6)))
  (sIf (tVal (eBin dNe (eVar 5) (eN dLst aNil)))
    (sSeq (sAsg (gTp ([6, 7].map gNm)) (eN dTup (aCons (eCall m_law_of (aCons (eVar 0) (aCons (eVar 5) aNil))) (aCons (eCall (m_law_take 8) (aCons (eVar 0) (aCons (eVar 2) aNil))) aNil))))
  (sAsg (gNm 1) (eBin dAdd (eBin dAdd (eSl (eVar 1) oNone (oSome (eVar 6))) (eN dTup (aCons (eVar 7) (aCons (eVar 7) aNil)))) (eSl (eVar 1) (oSome (eBin dAdd (eVar 6) (eC (.int 2)))) oNone))))
    sNil)
theorem row_put {q m k : Nat} {r : List Int} {c d : Int} (hr : Row q m r) (h1 : r[k]? = some c) (h2 : r[k + 1]? = some c) (d0 : 0 ≤ d) (d1 : d < q) : Row q m (r.take k ++ [d, d] ++ r.drop (k + 2)) ∧ rst (r.take k ++ [d, d] ++ r.drop (k + 2)) = rst r := by
  have hk : k + 1 < r.length := (List.getElem?_eq_some_iff.mp h2).1
  obtain ⟨l1, l2⟩ := cell_of hk
  refine ⟨⟨by simp [hr.1.symm]; omega, fun x hx => ?_⟩, ?_⟩
  · simp only [List.append_assoc, List.mem_append, List.mem_cons, List.not_mem_nil, or_false] at hx
    rcases hx with z | (z | z) | z
    · exact hr.2 x (List.mem_of_mem_take z)
    · rw [z]; exact ⟨d0, d1⟩
    · rw [z]; exact ⟨d0, d1⟩
    · exact hr.2 x (List.mem_of_mem_drop z)
  · rw [rst_pair]
    have e := congrArg rst (split_pair h1 h2)
    rw [rst_pair] at e
    exact e.symm
theorem stroll_step {h0 : Hd} {q m k : Nat} {T : Int} {r : List Int} {x4 x5 x6 x7 : Option D} (f : Fl h0) (hq : 1 ≤ q) (hq2 : q ≤ 1000) (hm : m ≤ 800) (a : Av h0 b h k) (hk : k ≤ 2 ^ 37) (hr : Row q m r) :
    ∃ r' h' y5 y6 y7, bdS [some (.ref b), some (tI r), some (.int (q : Int)), some (.int T), x4, x5, x6, x7] h = .nx [some (.ref b), some (tI r'), some (.int (q : Int)), some (.int T), x4, y5, y6, y7] h' ∧ Av h0 b h' (k + 4) ∧ Row q m r' ∧ rst r' = rst r := by
  have sc := spots_comp (h := h) (r := r) (x0 := some (.ref b)) (x2 := some (.int (q : Int))) (x3 := some (.int T)) (x4 := x4) (x5 := x5) (x6 := x6) (x7 := x7) (by rw [hr.1]; omega)
  have t1 : sAsg (gNm 5) (eComp [6] (iN rng1 (aCons (eBin dSub (eN dLen (aCons (eVar 1) aNil)) (eC (.int 1))) aNil)) (gNm 6) (tVal (eBin dEq (eBin dIx (eVar 1) (eVar 6)) (eBin dIx (eVar 1) (eBin dAdd (eVar 6) (eC (.int 1)))))) (eVar 6)) [some (.ref b), some (tI r), some (.int (q : Int)), some (.int T), x4, x5, x6, x7] h
      = .nx [some (.ref b), some (tI r), some (.int (q : Int)), some (.int T), x4, some (.ref h.length), x6, x7] (h ++ [cI (spotsOf r)]) := by
    rw [x_sAsg, sc]
    simp
  have a1 : Av h0 b (h ++ [cI (spotsOf r)]) k := a.push (fc_cI _)
  have gl : (h ++ [cI (spotsOf r)])[h.length]? = some (cI (spotsOf r)) := get_last _ _
  unfold bdS
  rw [x_sSeq, t1]
  simp only
  have ng := o_neNil gl
  by_cases hs : spotsOf r = []
  · refine ⟨r, h ++ [cI (spotsOf r)], some (.ref h.length), x6, x7, ?_, a1.mono (by omega), hr, rfl⟩
    have hb : (spotsOf r == []) = true := by rw [hs]; rfl
    rw [x_sIf, show tVal (eBin dNe (eVar 5) (eN dLst aNil)) [some (.ref b), some (tI r), some (.int (q : Int)), some (.int T), x4, some (.ref h.length), x6, x7] (h ++ [cI (spotsOf r)]) = .ok false (h ++ [cI (spotsOf r)]) by simp [ng, hb]]
    rfl
  · have sl : (spotsOf r).length ≤ 1000 := by
      have := List.length_filter_le (fun k => r[k]? == r[k + 1]?) (List.range (r.length - 1))
      unfold spotsOf
      rw [List.length_map]
      rw [List.length_range] at this
      have := hr.1
      omega
    obtain ⟨j, v, h2, e2, ev, t2⟩ := m_of_eq (a1.fl f) a1.bx (by omega) gl hs sl (a.ne a.len)
    have a2 := a1.to t2
    obtain ⟨d, h3, e3, d0, d1, t3⟩ := take8v (m := (q : Int)) f a2 (by omega) (by omega) (by omega)
    have a3 := a2.to t3
    obtain ⟨kk, rfl, hkk, c, c1, c2⟩ := spots_mem (List.mem_of_getElem? ev)
    obtain ⟨p1, p2⟩ := row_put hr c1 c2 d0 d1
    refine ⟨_, h3, some (.ref h.length), some (.int (kk : Int)), some (.int d), ?_, a3, p1, p2⟩
    have hb : (spotsOf r == []) = false := by simpa using hs
    have cu1 := cutL_to r kk (by omega)
    have cu2 := cutL_from r (kk + 2) (by omega)
    simp only [Int.natCast_add, Int.cast_ofNat_Int] at cu2
    obtain ⟨l1, l2⟩ := cell_of hkk
    have ad1 := o_addT (h := h3) (a := r.take kk) (b := [d, d]) (Nat.le_of_lt (line1000 (by rw [l1]; simp; rw [hr.1] at hkk; omega)))
    have ad2 := o_addT (h := h3) (a := r.take kk ++ [d, d]) (b := r.drop (kk + 2)) (Nat.le_of_lt (line1000 (by rw [List.length_append, l1, l2, hr.1]; simp; rw [hr.1] at hkk; omega)))
    have tt : sAsg (gTp ([6, 7].map gNm)) (eN dTup (aCons (eCall m_law_of (aCons (eVar 0) (aCons (eVar 5) aNil))) (aCons (eCall (m_law_take 8) (aCons (eVar 0) (aCons (eVar 2) aNil))) aNil))) [some (.ref b), some (tI r), some (.int (q : Int)), some (.int T), x4, some (.ref h.length), x6, x7] (h ++ [cI (spotsOf r)])
        = .nx [some (.ref b), some (tI r), some (.int (q : Int)), some (.int T), x4, some (.ref h.length), some (.int (kk : Int)), some (.int d)] h3 := by
      simp [e2, e3]
    have uu : sAsg (gNm 1) (eBin dAdd (eBin dAdd (eSl (eVar 1) oNone (oSome (eVar 6))) (eN dTup (aCons (eVar 7) (aCons (eVar 7) aNil)))) (eSl (eVar 1) (oSome (eBin dAdd (eVar 6) (eC (.int 2)))) oNone)) [some (.ref b), some (tI r), some (.int (q : Int)), some (.int T), x4, some (.ref h.length), some (.int (kk : Int)), some (.int d)] h3
        = .nx [some (.ref b), some (tI (r.take kk ++ [d, d] ++ r.drop (kk + 2))), some (.int (q : Int)), some (.int T), x4, some (.ref h.length), some (.int (kk : Int)), some (.int d)] h3 := by
      have tp : D.tup [.int d, .int d] = tI [d, d] := rfl
      simp only [x_sAsg, x_eBin, x_eSl, x_eVar, List.getElem?_cons_succ, List.getElem?_cons_zero, x_oNone, x_oSome, x_asI, R.bind_ok, o_slT, R.lift_some, x_eN, x_aCons, x_aNil, o_tup2, tp, cu1, ad1, x_eC, o_add, cu2, ad2, RS.of_ok, box_tI, x_gNm, x_setAll, x_setAll0, List.set]
    rw [x_sIf, show tVal (eBin dNe (eVar 5) (eN dLst aNil)) [some (.ref b), some (tI r), some (.int (q : Int)), some (.int T), x4, some (.ref h.length), x6, x7] (h ++ [cI (spotsOf r)]) = .ok true (h ++ [cI (spotsOf r)]) by simp [ng, hb]]
    simp only [RS.ofB_ok, if_true]
    rw [x_sSeq, tt]
    simp only
    exact uu
theorem m_strolled_eq {q m : Nat} {T : Nat} {r : List Int} (f : Fl h) (bx : Bx h b n) (hn : n ≤ 2 ^ 36) (hq : 1 ≤ q) (hq2 : q ≤ 1000) (hm : m ≤ 800) (hT : T ≤ 1000) (hr : Row q m r) :
    ∃ r' h', m_law_strolled [.ref b, tI r, .int (q : Int), .int (T : Int)] h = .ok (tI r') h' ∧ Row q m r' ∧ rst r' = rst r ∧ To h b h' (n + 4 * T) := by
  obtain ⟨env', h', e2, r', x4, x5, x6, x7, k, ee, av, rw1, rw2, hk⟩ := forGo_nx (g := gNm 4) (body := bdS) (src := []) (items := (List.range T).map fun i => .int (i : Nat)) (h := h)
    (fun i env h' => ∃ r' x4 x5 x6 x7 k, env = [some (.ref b), some (tI r'), some (.int (q : Int)), some (.int (T : Int)), x4, x5, x6, x7] ∧ Av h b h' k ∧ Row q m r' ∧ rst r' = rst r ∧ k ≤ n + 4 * i) (fun _ _ _ _ => rfl)
    (fun i x env h' ex ⟨r', x4, x5, x6, x7, k, ee, av, rw1, rw2, hk⟩ => by
      subst ee
      obtain ⟨hi, rfl⟩ := range_get ex
      obtain ⟨r2, h2, y5, y6, y7, s1, s2, s3, s4⟩ := stroll_step (h := h') (T := (T : Int)) (x4 := some (.int (i : Nat))) (x5 := x5) (x6 := x6) (x7 := x7) f hq hq2 hm av (by omega) rw1
      exact ⟨[(4, .int (i : Nat))], _, h2, rfl, s1, r2, some (.int (i : Nat)), y5, y6, y7, k + 4, rfl, s2, s3, s4.trans rw2, by omega⟩)
    (env := [some (.ref b), some (tI r), some (.int (q : Int)), some (.int (T : Int)), none, none, none, none]) ⟨r, none, none, none, none, n, rfl, Av.refl bx, hr, rfl, by omega⟩
  subst ee
  rw [List.length_map, List.length_range] at hk
  have t3 : iN rng1 (aCons (eVar 3) aNil) [some (.ref b), some (tI r), some (.int (q : Int)), some (.int (T : Int)), none, none, none, none] h = .ok ((List.range T).map (fun i => .int (i : Nat)), []) h := by
    simp [rng1_nat T (by omega)]
  have key : b_law_strolled [some (.ref b), some (tI r), some (.int (q : Int)), some (.int (T : Int)), none, none, none, none] h = .rt (tI r') h' := by
    unfold b_law_strolled
    rw [x_sSeq, x_sFor, t3]
    simp only
    rw [e2]
    simp
  obtain ⟨g, gg, tt⟩ := av.gcv f (plk_tI 18 r')
  refine ⟨r', g, ?_, rw1, rw2, tt.mono hk⟩
  simp [m_law_strolled, rd_eq, key]
  exact gg
end
end Cm

/-! Spec8: grown, same, ways. -/
namespace Cm
open PySem PySem.Spec PyProof.Rows L2 Tw
theorem fold_red : ∀ (w u : List Int), Red (w ++ u) → u.foldl stp w = w ++ u
  | w, [], _ => by simp
  | w, c :: u, h => by
    have hl : w.getLast? ≠ some c := by
      intro z
      have : ∀ (w : List Int), w.getLast? = some c → Red (w ++ c :: u) → False := by
        intro w
        induction w with
        | nil => intro z _; simp at z
        | cons a w ih =>
          intro z hr
          cases w with
          | nil =>
            simp at z
            subst z
            exact hr.1 rfl
          | cons b w => exact ih (by rw [List.getLast?_cons_cons] at z; exact z) hr.2
      exact this w z h
    have e : stp w c = w ++ [c] := by unfold stp; rw [if_neg hl]
    simp only [List.foldl_cons]
    rw [e, fold_red (w ++ [c]) u (by simpa using h)]
    simp
theorem rst_red {w : List Int} (h : Red w) : rst w = w := by
  have := fold_red [] w h
  simpa [rst] using this
section
variable {h : Hd} {b n : Nat}
theorem row_ins {q k : Nat} {r : List Int} {d : Int} (hr : Row q r.length r) (d0 : 0 ≤ d) (d1 : d < q) (hk : k ≤ r.length) : Row q (r.length + 2) (r.take k ++ [d, d] ++ r.drop k) ∧ rst (r.take k ++ [d, d] ++ r.drop k) = rst r := by
  refine ⟨⟨by simp; omega, fun x hx => ?_⟩, ?_⟩
  · simp only [List.append_assoc, List.mem_append, List.mem_cons, List.not_mem_nil, or_false] at hx
    rcases hx with z | (z | z) | z
    · exact hr.2 x (List.mem_of_mem_take z)
    · rw [z]; exact ⟨d0, d1⟩
    · rw [z]; exact ⟨d0, d1⟩
    · exact hr.2 x (List.mem_of_mem_drop z)
  · rw [rst_pair, List.take_append_drop]
abbrev bdG : MS := sSeq (sAsg (gTp ([5, 6].map gNm)) (eN dTup (aCons (eCall (m_law_take 8) (aCons (eVar 0) (aCons (eBin dAdd (eN dLen (aCons (eVar 4) aNil)) (eC (.int 1))) aNil))) (aCons (eCall (m_law_take 8) (aCons (eVar 0) (aCons (eVar 3) aNil))) aNil))))
  (sAsg (gNm 4) (eBin dAdd (eBin dAdd (eSl (eVar 4) oNone (oSome (eVar 5))) (eN dTup (aCons (eVar 6) (aCons (eVar 6) aNil)))) (eSl (eVar 4) (oSome (eVar 5)) oNone)))
theorem grow_step {h0 : Hd} {q k : Nat} {S : Int} {c0 : D} {r : List Int} {x5 x6 : Option D} (f : Fl h0) (hq : 1 ≤ q) (hq2 : q ≤ 1000) (a : Av h0 b h k) (hk : k ≤ 2 ^ 37) (hr : Row q r.length r) (hl : r.length ≤ 700) :
    ∃ r' h' y5 y6, bdG [some (.ref b), some c0, some (.int S), some (.int (q : Int)), some (tI r), x5, x6] h = .nx [some (.ref b), some c0, some (.int S), some (.int (q : Int)), some (tI r'), y5, y6] h' ∧ Av h0 b h' (k + 4) ∧ Row q (r.length + 2) r' ∧ rst r' = rst r := by
  obtain ⟨j, h2, e2, j0, j1, t2⟩ := take8v (m := ((r.length : Int) + 1)) f a (by omega) (by omega) (by omega)
  have a2 := a.to t2
  obtain ⟨d, h3, e3, d0, d1, t3⟩ := take8v (m := (q : Int)) f a2 (by omega) (by omega) (by omega)
  have a3 := a2.to t3
  obtain ⟨jj, rfl⟩ : ∃ jj : Nat, j = (jj : Int) := ⟨j.toNat, by omega⟩
  obtain ⟨p1, p2⟩ := row_ins (k := jj) hr d0 d1 (by omega)
  have cu1 := cutL_to r jj (by omega)
  have cu2 := cutL_from r jj (by omega)
  have ad1 := o_addT (h := h3) (a := r.take jj) (b := [d, d]) (Nat.le_of_lt (line1000 (by rw [List.length_take]; simp; omega)))
  have ad2 := o_addT (h := h3) (a := r.take jj ++ [d, d]) (b := r.drop jj) (Nat.le_of_lt (line1000 (by simp; omega)))
  have tp : D.tup [.int d, .int d] = tI [d, d] := rfl
  refine ⟨_, h3, some (.int (jj : Int)), some (.int d), ?_, a3, p1, p2⟩
  unfold bdG
  have tt : sAsg (gTp ([5, 6].map gNm)) (eN dTup (aCons (eCall (m_law_take 8) (aCons (eVar 0) (aCons (eBin dAdd (eN dLen (aCons (eVar 4) aNil)) (eC (.int 1))) aNil))) (aCons (eCall (m_law_take 8) (aCons (eVar 0) (aCons (eVar 3) aNil))) aNil))) [some (.ref b), some c0, some (.int S), some (.int (q : Int)), some (tI r), x5, x6] h
      = .nx [some (.ref b), some c0, some (.int S), some (.int (q : Int)), some (tI r), some (.int (jj : Int)), some (.int d)] h3 := by
    simp [e2, e3]
  rw [x_sSeq, tt]
  simp only [x_sAsg, x_eBin, x_eSl, x_eVar, List.getElem?_cons_succ, List.getElem?_cons_zero, x_oNone, x_oSome, x_asI, R.bind_ok, o_slT, R.lift_some, x_eN, x_aCons, x_aNil, o_tup2, tp, cu1, ad1, cu2, ad2, RS.of_ok, box_tI, x_gNm, x_setAll, x_setAll0, List.set]
theorem o_tupleT (ns : List Int) : dTuple [tI ns] h = some (tI ns) := by simp [dTuple, seqOf, tI]
theorem m_grown_eq {q S : Nat} {core : List Int} (f : Fl h) (bx : Bx h b n) (hn : n ≤ 2 ^ 35) (hq : 1 ≤ q) (hq2 : q ≤ 1000) (hS : S ≤ 700) (rc : Red core) (hc : Row q core.length core) (hl : core.length ≤ S) (hp : core.length % 2 = S % 2) :
    ∃ r h', m_law_grown [.ref b, tI core, .int (S : Int), .int (q : Int)] h = .ok (tI r) h' ∧ Row q S r ∧ rst r = core ∧ To h b h' (n + 4000) := by
  have wl := while_rule (t := tVal (eBin dLe (eBin dAdd (eN dLen (aCons (eVar 4) aNil)) (eC (.int 2))) (eVar 2))) (body := bdG) (P := fun res => ∃ r h' x5 x6 k, res = .nx [some (.ref b), some (tI core), some (.int (S : Int)), some (.int (q : Int)), some (tI r), x5, x6] h' ∧ Av h b h' k ∧ Row q S r ∧ rst r = core ∧ k ≤ n + 4 * S)
    (fun m env h' => ∃ r x5 x6 k, env = [some (.ref b), some (tI core), some (.int (S : Int)), some (.int (q : Int)), some (tI r), x5, x6] ∧ Av h b h' k ∧ Row q r.length r ∧ rst r = core ∧ k ≤ n + 4 * r.length ∧ r.length ≤ S ∧ r.length % 2 = S % 2 ∧ m = S - r.length)
    (fun m env h' ⟨r, x5, x6, k, ee, av, rw1, rr, hk, l1, l2, l3⟩ => by
      subst ee
      by_cases ht : r.length + 2 ≤ S
      · have ht' : (r.length : Int) + 2 ≤ (S : Int) := by omega
        obtain ⟨r', h2, y5, y6, s1, s2, s3, s4⟩ := grow_step (h := h') (S := (S : Int)) (c0 := tI core) (x5 := x5) (x6 := x6) f hq hq2 av (by omega) rw1 (by omega)
        refine ⟨true, h', by simp [ht'], ?_⟩
        simp only
        rw [s1]
        refine ⟨S - r'.length, by rw [s3.1]; omega, r', y5, y6, k + 4, rfl, s2, by rw [s3.1]; exact s3, s4.trans rr, by rw [s3.1]; omega, by rw [s3.1]; exact ht, by rw [s3.1]; omega, rfl⟩
      · have ht' : ¬ (r.length : Int) + 2 ≤ (S : Int) := by omega
        have hS : r.length = S := by omega
        refine ⟨false, h', by simp [ht'], r, h', x5, x6, k, rfl, av, by rw [← hS]; exact rw1, rr, by omega⟩) (10 ^ 40) (S - core.length) (by omega) [some (.ref b), some (tI core), some (.int (S : Int)), some (.int (q : Int)), some (tI core), none, none] h
    ⟨core, none, none, n, rfl, Av.refl bx, hc, rst_red rc, by omega, hl, hp, rfl⟩
  obtain ⟨r, h1, x5, x6, k, e1, av, rw1, rr, hk⟩ := wl
  obtain ⟨r', h2, e2, rw2, rr2, t2⟩ := m_strolled_eq (T := 3) (av.fl f) av.bx (by omega) hq hq2 (by omega) (by omega) rw1
  have av2 := av.to t2
  have key : b_law_grown [some (.ref b), some (tI core), some (.int (S : Int)), some (.int (q : Int)), none, none, none] h = .rt (tI r') h2 := by
    unfold b_law_grown
    rw [x_sSeq, show sAsg (gNm 4) (eN dTuple (aCons (eVar 1) aNil)) [some (.ref b), some (tI core), some (.int (S : Int)), some (.int (q : Int)), none, none, none] h = .nx [some (.ref b), some (tI core), some (.int (S : Int)), some (.int (q : Int)), some (tI core), none, none] h by simp [o_tupleT]]
    simp only
    rw [x_sSeq, x_sWhile, e1]
    simp only
    simp at e2
    simp [e2]
  obtain ⟨g, gg, tt⟩ := av2.gcv f (plk_tI 18 r')
  refine ⟨r', g, ?_, rw2, rr2.trans rr, tt.mono (by omega)⟩
  simp [m_law_grown, rd_eq, key]
  exact gg
/-! ### same -/
theorem kit_int : kitAll "int" [.ty "list", .ty "tuple"] = some false ∧ kitAll "int" [.ty "bool", .ty "str"] = some false ∧ kitB "int" "int" = some true ∧ kitB "int" "bool" = some false := by decide +kernel
theorem kit_list : kitAll "list" [.ty "list", .ty "tuple"] = some true ∧ kitB "list" "list" = some true ∧ kitB "list" "tuple" = some false := by decide +kernel
@[simp] theorem isi_i1 (i : Int) : dIsi [.int i, .tup [.ty "list", .ty "tuple"]] h = some (.bl false) := by simp [dIsi, tyN, kit_int.1]
@[simp] theorem isi_i2 (i : Int) : dIsi [.int i, .tup [.ty "bool", .ty "str"]] h = some (.bl false) := by simp [dIsi, tyN, kit_int.2.1]
@[simp] theorem isi_i3 (i : Int) : dIsi [.int i, .ty "int"] h = some (.bl true) := by simp [dIsi, tyN, kit_int.2.2.1]
@[simp] theorem isi_i4 (i : Int) : dIsi [.int i, .ty "bool"] h = some (.bl false) := by simp [dIsi, tyN, kit_int.2.2.2]
theorem isi_l1 {m : Nat} {xs : List D} (e : h[m]? = some (.lst xs)) : dIsi [.ref m, .tup [.ty "list", .ty "tuple"]] h = some (.bl true) := by simp [dIsi, tyN, e, kit_list.1]
theorem isi_l2 {m : Nat} {xs : List D} (e : h[m]? = some (.lst xs)) : dIsi [.ref m, .ty "list"] h = some (.bl true) := by simp [dIsi, tyN, e, kit_list.2.1]
theorem isi_l3 {m : Nat} {xs : List D} (e : h[m]? = some (.lst xs)) : dIsi [.ref m, .ty "tuple"] h = some (.bl false) := by simp [dIsi, tyN, e, kit_list.2.2]
@[simp] theorem o_isNon_int (i : Int) : Tw.isNon (.int i) = false := rfl
@[simp] theorem o_eqB (i j : Bool) : dEq (.bl i) (.bl j) h = some (.bl (i == j)) := id rfl
@[simp] theorem o_neB (i j : Bool) : dNe (.bl i) (.bl j) h = some (.bl (!(i == j))) := id rfl
theorem m_same_int {k : Nat} {i j : Int} (f : Fl h) : m_law_same (k + 1) [.int i, .int j] h = .ok (.bl (i == j)) h := by
  have key : b_law_same (m_law_same k) [some (.int i), some (.int j), none, none] h = .rt (.bl (i == j)) h := by
    unfold b_law_same
    simp
  rw [show m_law_same (k + 1) = runDef 2 4 (b_law_same (m_law_same k)) from rfl]
  simp [rd_eq, key]
  exact (Ab.refl h).gcv f (plk_bl 19 _)
theorem zip_ints : ∀ as bs : List Int, as.length = bs.length → ((zipD (as.map .int) (bs.map .int)).map fun d => match d with | .tup [.int x, .int y] => D.bl (x == y) | _ => .non) = ((List.zipWith (fun x y => (x == y)) as bs).map D.bl)
  | [], [], _ => rfl
  | a :: as, b :: bs, e => by
    simp only [zipD, List.map_cons, List.zipWith_cons_cons] at *
    have := zip_ints as bs (by simpa using e)
    simp only [zipD] at this
    rw [this]
  | [], _ :: _, e => by simp at e
  | _ :: _, [], e => by simp at e
theorem optL_bls' : ∀ bs : List Bool, optL unB (bs.map D.bl) = some bs
  | [] => rfl
  | b :: bs => by
    simp only [List.map_cons, optL, unB]
    rw [optL_bls' bs]
theorem all_zip : ∀ as bs : List Int, as.length = bs.length → (List.zipWith (fun x y => (x == y)) as bs).all id = (as == bs)
  | [], [], _ => rfl
  | a :: as, b :: bs, e => by
    simp only [List.zipWith_cons_cons, List.all_cons]
    rw [all_zip as bs (by simpa using e)]
    rfl
  | [], _ :: _, e => by simp at e
  | _ :: _, [], e => by simp at e
theorem o_allB (bs : List Bool) : dAll [.lst (bs.map D.bl)] h = some (.bl (bs.all id)) := by
  simp only [dAll, isLst, optL_bls']
theorem m_same_list {k : Nat} {as bs : List Int} (f : Fl h) (hl : as.length ≤ 1000) : m_law_same (k + 2) [lI as, lI bs] h = .ok (.bl (as == bs)) h := by
  have g1 : ((h ++ [cI as]) ++ [cI bs])[h.length]? = some (cI as) := get_push (get_last _ _)
  have g2 : ((h ++ [cI as]) ++ [cI bs])[(h ++ [cI as]).length]? = some (cI bs) := get_last _ _
  have ab : Ab h ((h ++ [cI as]) ++ [cI bs]) := ((Ab.refl h).push (fc_cI _)).push (fc_cI _)
  have hbx : boxL [lI as, lI bs] h = ([.ref h.length, .ref (h ++ [cI as]).length], (h ++ [cI as]) ++ [cI bs]) := by
    rw [boxL_cons, boxL_cons, boxL_nil, box_lI, box_lI]
  generalize hg : (h ++ [cI as]) ++ [cI bs] = g at g1 g2 ab hbx
  generalize (h ++ [cI as]).length = m2 at g2 hbx
  have key : b_law_same (m_law_same (k + 1)) [some (.ref h.length), some (.ref m2), none, none] g = .rt (.bl (as == bs)) g := by
    unfold b_law_same
    have i1 := isi_l1 (m := m2) g2
    have i2 := isi_l2 (m := h.length) g1
    have i3 := isi_l2 (m := m2) g2
    have i4 := isi_l3 (m := h.length) g1
    have i5 := isi_l3 (m := m2) g2
    have le : dEq (.int (as.length : Int)) (.int (bs.length : Int)) g = some (.bl (decide (as.length = bs.length))) := by
      rw [o_eqI]
      congr 2
      by_cases z : as.length = bs.length <;> simp [z]
      omega
    by_cases z : as.length = bs.length
    · have cz : eComp [2, 3] (iS zip2M (aCons (eVar 0) (aCons (eVar 1) aNil))) (gTp [(gNm 2), (gNm 3)]) tTrue (eCall (m_law_same (k + 1)) (aCons (eVar 2) (aCons (eVar 3) aNil))) [some (.ref h.length), some (.ref m2), none, none] g = .ok (.lst ((List.zipWith (fun x y => (x == y)) as bs).map D.bl)) g := by
        rw [x_eComp]
        have it : iS zip2M (aCons (eVar 0) (aCons (eVar 1) aNil)) [some (.ref h.length), some (.ref m2), none, none] g = .ok (zipD (as.map .int) (bs.map .int), [(h.length, as.map .int), (m2, bs.map .int)]) g := by
          have p1 : seqP g (.ref h.length) = some (as.map .int, [(h.length, as.map .int)]) := by simp [seqP, g1, cI]
          have p2 : seqP g (.ref m2) = some (bs.map .int, [(m2, bs.map .int)]) := by simp [seqP, g2, cI]
          simp [zip2M, twoM, p1, p2]
        rw [it]
        simp only
        have so : srcOk [(h.length, as.map .int), (m2, bs.map .int)] g = true := by
          rw [srcOk_cons g1, srcOk_cons g2]
          rfl
        have cm := compGo_map (env := wipeE [some (.ref h.length), some (.ref m2), none, none] [2, 3]) (g := gTp [(gNm 2), (gNm 3)]) (tt := tTrue) (te := eCall (m_law_same (k + 1)) (aCons (eVar 2) (aCons (eVar 3) aNil))) (h := g)
          (p := fun _ => true) (f := fun d => match d with | .tup [.int x, .int y] => D.bl (x == y) | _ => .non) so (items := zipD (as.map .int) (bs.map .int)) (fun x hx => by
            have : ∀ (xs ys : List Int) (x : D), x ∈ zipD (xs.map .int) (ys.map .int) → ∃ u v : Int, x = .tup [.int u, .int v] := by
              intro xs
              induction xs with
              | nil => intro ys x hx; simp [zipD] at hx
              | cons a xs ih =>
                intro ys x hx
                cases ys with
                | nil => simp [zipD] at hx
                | cons c ys =>
                  rcases List.mem_cons.mp hx with e | e
                  · exact ⟨a, c, e⟩
                  · exact ih ys x e
            obtain ⟨u, v, rfl⟩ := this as bs x hx
            refine ⟨[(2, .int u), (3, .int v)], rfl, rfl, fun _ => ?_⟩
            simp [m_same_int (k := k) (h := g) (i := u) (j := v) (ab.fl f)])
        rw [cm]
        have ft : (zipD (as.map .int) (bs.map .int)).filter (fun _ => true) = zipD (as.map .int) (bs.map .int) := List.filter_eq_self.mpr fun _ _ => rfl
        rw [ft, zip_ints as bs z]
        have ll : ((List.zipWith (fun x y => (x == y)) as bs).map D.bl).length ≤ sizeLine := by
          rw [List.length_map, List.length_zipWith]
          exact Nat.le_of_lt (line1000 (by omega))
        simp only [R.bind_ok, ll, if_true]
      have al := o_allB (h := g) (List.zipWith (fun x y => (x == y)) as bs)
      rw [all_zip as bs z] at al
      have zz : (as.length : Int) = (bs.length : Int) := by omega
      generalize List.zipWith (fun x y => (x == y)) as bs = zb at cz al
      simp [i1, i2, i3, i4, i5, len_I g1, len_I g2, zz, cz, al]
    · have zz : ¬ (as.length : Int) = (bs.length : Int) := by omega
      have zb : (as == bs) = false := by
        apply beq_eq_false_iff_ne.mpr
        intro e
        exact z (by rw [e])
      simp [i1, i2, i3, i4, i5, len_I g1, len_I g2, zz, zb]
  rw [show m_law_same (k + 2) = runDef 2 4 (b_law_same (m_law_same (k + 1))) from rfl, rd_eq, hbx]
  simp [key]
  exact ab.gcv f (plk_bl 19 _)
end
end Cm

/-! Plain1: rests and their distances, numbers of rows. -/
namespace Cm
/-! ### one step -/
/-- the colour that comes nearer -/
def dec : List Int → List Int → Option Int
  | [], [] => none
  | [], g :: _ => some g
  | w :: ws, [] => (w :: ws).getLast?
  | w :: ws, g :: gs => if w = g then dec ws gs else (w :: ws).getLast?
theorem stp_cons {a : Int} {u : List Int} (hu : u ≠ []) (x : Int) : stp (a :: u) x = a :: stp u x := by
  obtain ⟨z, hz⟩ : ∃ z, u.getLast? = some z := ⟨_, List.getLast?_eq_getLast hu⟩
  have hl : (a :: u).getLast? = u.getLast? := by rw [List.getLast?_cons, hz]; rfl
  unfold stp
  rw [hl]
  split
  · rw [List.dropLast_cons_of_ne_nil hu]
  · rfl
theorem apt_cons (a : Int) (u v : List Int) : apt (a :: u) (a :: v) = apt u v := by
  have h := cmn_le u v
  unfold apt
  simp only [cmn, if_true, List.length_cons]
  omega
theorem apt_ne {a b : Int} (h : a ≠ b) (u v : List Int) : apt (a :: u) (b :: v) = u.length + v.length + 2 := by
  unfold apt
  simp only [cmn, if_neg h, List.length_cons]
  omega
theorem apt_nil (v : List Int) : apt [] v = v.length := by simp [apt, cmn]
theorem apt_nil' (v : List Int) : apt v [] = v.length := by cases v <;> simp [apt, cmn]
theorem stp_len {w : List Int} {c : Int} : (stp w c).length = if w.getLast? = some c then w.length - 1 else w.length + 1 := by
  unfold stp
  split <;> simp
theorem getLast_pos {w : List Int} {c : Int} (h : w.getLast? = some c) : 0 < w.length := by cases w with
  | nil => simp at h
  | cons a w => simp
/-- each step is nearer by one or further by one -/
theorem apt_stp : ∀ (w g : List Int) (c : Int), Red w → Red g → apt (stp w c) g = if dec w g = some c then apt w g - 1 else apt w g + 1
  | [], [], c, _, _ => by simp [stp, dec, apt, cmn]
  | [], b :: g, c, _, _ => by
    have e : stp [] c = [c] := rfl
    rw [e, apt_nil]
    unfold dec
    by_cases hc : b = c
    · subst hc
      rw [if_pos rfl, apt_cons, apt_nil]
      simp
    · rw [if_neg (fun z => hc (Option.some.inj z)), apt_ne (Ne.symm hc)]
      simp
      try omega
  | a :: u, [], c, _, _ => by
    rw [apt_nil', apt_nil', stp_len]
    unfold dec
    rfl
  | a :: u, b :: g, c, hw, hg => by
    by_cases hab : a = b
    · subst hab
      have ed : dec (a :: u) (a :: g) = dec u g := by simp [dec]
      rw [ed, apt_cons]
      cases u with
      | nil =>
        by_cases hc : a = c
        · subst hc
          have e : stp [a] a = [] := by simp [stp]
          rw [e, apt_nil]
          cases g with
          | nil => simp [dec, apt, cmn]
          | cons d g =>
            have : dec [] (d :: g) = some d := rfl
            rw [this, if_neg (fun z => hg.1 (Option.some.inj z).symm), apt_nil]
            simp
        · have e : stp [a] c = [a, c] := by simp [stp, hc]
          rw [e, apt_cons]
          have := apt_stp [] g c trivial hg.tail
          simpa [stp] using this
      | cons d u =>
        rw [stp_cons (List.cons_ne_nil d u), apt_cons]
        exact apt_stp (d :: u) g c hw.tail hg.tail
    · have ed : dec (a :: u) (b :: g) = (a :: u).getLast? := by simp [dec, hab]
      rw [ed, apt_ne hab]
      cases u with
      | nil =>
        by_cases hc : a = c
        · subst hc
          have e : stp [a] a = [] := by simp [stp]
          rw [e, apt_nil]
          simp
        · have e : stp [a] c = [a, c] := by simp [stp, hc]
          rw [e, apt_ne hab]
          simp [hc]
          omega
      | cons d u =>
        rw [stp_cons (List.cons_ne_nil d u), apt_ne hab, stp_len, List.getLast?_cons_cons]
        split
        · simp
          omega
        · simp
          omega
theorem dec_mem {P : Int → Prop} : ∀ {w g : List Int} {c : Int}, (∀ x ∈ w, P x) → (∀ x ∈ g, P x) → dec w g = some c → P c
  | [], [], _, _, _, h => by simp [dec] at h
  | [], b :: g, c, _, hg, h => by
    simp [dec] at h
    subst h
    exact hg _ (by simp)
  | a :: u, [], c, hw, _, h => hw c (List.mem_of_getLast? h)
  | a :: u, b :: g, c, hw, hg, h => by
    unfold dec at h
    split at h
    · exact dec_mem (fun x hx => hw x (by simp [hx])) (fun x hx => hg x (by simp [hx])) h
    · exact hw c (List.mem_of_getLast? h)
theorem dec_none : ∀ {w g : List Int}, dec w g = none → w = g
  | [], [], _ => rfl
  | [], b :: g, h => by simp [dec] at h
  | a :: u, [], h => by
    have : (a :: u).getLast? = none := h
    simp at this
  | a :: u, b :: g, h => by
    unfold dec at h
    split at h
    · rename_i e
      rw [e, dec_none h]
    · simp at h
theorem apt_self (w : List Int) : apt w w = 0 := by
  induction w with
  | nil => rfl
  | cons a w ih => rw [apt_cons, ih]
theorem dec_self (w : List Int) : dec w w = none := by
  induction w with
  | nil => rfl
  | cons a w ih => simp [dec, ih]
theorem apt_pos : ∀ {w g : List Int}, w ≠ g → 0 < apt w g
  | [], [], h => absurd rfl h
  | [], b :: g, _ => by rw [apt_nil]; simp
  | a :: u, [], _ => by rw [apt_nil']; simp
  | a :: u, b :: g, h => by
    by_cases e : a = b
    · subst e
      rw [apt_cons]
      exact apt_pos fun z => h (by rw [z])
    · rw [apt_ne e]; omega
theorem apt_zero {w g : List Int} (h : apt w g = 0) : w = g := by
  by_cases e : w = g
  · exact e
  · have := apt_pos e; omega
/-! ### the numbers -/
theorem Nw_nonneg {q : Int} (hq : 1 ≤ q) : ∀ t d, 0 ≤ Nw q t d
  | 0, 0 => by show (0 : Int) ≤ 1; decide
  | 0, d + 1 => Int.le_refl 0
  | t + 1, 0 => Int.mul_nonneg (by omega) (Nw_nonneg hq t 1)
  | t + 1, d + 1 => Int.add_nonneg (Nw_nonneg hq t d) (Int.mul_nonneg (by omega) (Nw_nonneg hq t (d + 2)))
theorem Nw_le {q : Int} (hq : 1 ≤ q) : ∀ t d, Nw q t d ≤ q ^ t
  | 0, 0 => by simp [Nw]
  | 0, d + 1 => by simp [Nw]
  | t + 1, 0 => by
    show q * Nw q t 1 ≤ q ^ (t + 1)
    rw [Int.pow_succ, Int.mul_comm]
    exact Int.mul_le_mul_of_nonneg_right (Nw_le hq t 1) (by omega)
  | t + 1, d + 1 => by
    show Nw q t d + (q - 1) * Nw q t (d + 2) ≤ q ^ (t + 1)
    have h1 := Nw_le hq t d
    have h2 := Int.mul_le_mul_of_nonneg_left (Nw_le hq t (d + 2)) (show 0 ≤ q - 1 by omega)
    have e : q ^ (t + 1) = q ^ t + (q - 1) * q ^ t := by rw [Int.pow_succ, Int.sub_mul, Int.mul_comm (q ^ t) q]; omega
    omega
theorem Nw_par {q : Int} : ∀ t d, d % 2 ≠ t % 2 → Nw q t d = 0
  | 0, 0, h => absurd rfl h
  | 0, d + 1, _ => rfl
  | t + 1, 0, h => by
    show q * Nw q t 1 = 0
    rw [Nw_par t 1 (by omega)]; simp
  | t + 1, d + 1, h => by
    show Nw q t d + (q - 1) * Nw q t (d + 2) = 0
    rw [Nw_par t d (by omega), Nw_par t (d + 2) (by omega)]; simp
theorem Nw_pos {q : Int} (hq : 1 ≤ q) : ∀ t d, d ≤ t → d % 2 = t % 2 → 0 < Nw q t d
  | 0, 0, _, _ => by show (0 : Int) < 1; decide
  | 0, d + 1, h, _ => absurd h (by omega)
  | t + 1, 0, _, h => Int.mul_pos (by omega) (Nw_pos hq t 1 (by omega) (by omega))
  | t + 1, d + 1, h, h2 => by
    have h1 := Nw_pos hq t d (by omega) (by omega)
    have h3 := Int.mul_nonneg (show 0 ≤ q - 1 by omega) (Nw_nonneg hq t (d + 2))
    show 0 < Nw q t d + (q - 1) * Nw q t (d + 2)
    omega
def InR (q : Nat) (w : List Int) : Prop := ∀ c ∈ w, 0 ≤ c ∧ c < (q : Int)
theorem InR.stp {q : Nat} {w : List Int} {c : Int} (h : InR q w) (c0 : 0 ≤ c) (c1 : c < q) : InR q (stp w c) := by
  unfold Cm.stp
  split
  · exact fun x hx => h x (List.dropLast_subset w hx)
  · exact fun x hx => by
      rcases List.mem_append.mp hx with z | z
      · exact h x z
      · rw [List.mem_singleton.mp z]; exact ⟨c0, c1⟩
/-- a sum where one place is other than the rest -/
theorem sum_one {q : Int} {t : Nat} {w g : List Int} (hw : Red w) (hg : Red g) : ∀ n : Nat, sumC q t w g n =
    match dec w g with
    | none => n * Nw q t (apt w g + 1)
    | some c => if 0 ≤ c ∧ c < (n : Int) then Nw q t (apt w g - 1) + ((n : Int) - 1) * Nw q t (apt w g + 1) else n * Nw q t (apt w g + 1)
  | 0 => by
    cases dec w g with
    | none => simp [sumC]
    | some c =>
      show (0 : Int) = if 0 ≤ c ∧ c < ((0 : Nat) : Int) then _ else _
      rw [if_neg (by omega)]
      simp
  | n + 1 => by
    rw [show sumC q t w g (n + 1) = sumC q t w g n + Nw q t (apt (stp w (n : Int)) g) from rfl, sum_one hw hg n, apt_stp w g (n : Int) hw hg]
    cases hd : dec w g with
    | none =>
      simp
      rw [Int.add_mul]; omega
    | some c =>
      simp only [Option.some.injEq]
      by_cases h1 : c = (n : Int)
      · subst h1
        rw [if_neg (by omega), if_pos rfl, if_pos (by omega)]
        have : ((n + 1 : Nat) : Int) - 1 = (n : Int) := by omega
        rw [this]
        omega
      · rw [if_neg h1]
        by_cases h2 : 0 ≤ c ∧ c < (n : Int)
        · rw [if_pos h2, if_pos (by omega)]
          have : ((n + 1 : Nat) : Int) - 1 = ((n : Int) - 1) + 1 := by omega
          rw [this, Int.add_mul]
          omega
        · rw [if_neg h2, if_neg (by omega)]
          have : ((n + 1 : Nat) : Int) = (n : Int) + 1 := by omega
          rw [this, Int.add_mul]
          omega
theorem sum_all {q t : Nat} {w g : List Int} (hw : Red w) (hg : Red g) (rw_ : InR q w) (rg : InR q g) : sumC q t w g q = Nw q (t + 1) (apt w g) := by
  rw [sum_one hw hg]
  cases hd : dec w g with
  | none =>
    have e := dec_none hd
    subst e
    rw [apt_self]
    rfl
  | some c =>
    have hc := dec_mem (P := fun c => 0 ≤ c ∧ c < (q : Int)) rw_ rg hd
    simp only
    rw [if_pos hc]
    have ne : w ≠ g := fun z => by subst z; rw [dec_self] at hd; cases hd
    have hp := apt_pos ne
    obtain ⟨k, hk⟩ : ∃ k, apt w g = k + 1 := ⟨apt w g - 1, by omega⟩
    rw [hk]
    rfl
theorem sumC_mono {q : Int} (hq : 1 ≤ q) {t : Nat} {w g : List Int} : ∀ {m n : Nat}, m ≤ n → sumC q t w g m ≤ sumC q t w g n
  | m, n, h => by
    induction h with
    | refl => exact Int.le_refl _
    | step _ ih =>
      refine Int.le_trans ih ?_
      rename_i k _
      have := Nw_nonneg hq t (apt (stp w (k : Int)) g)
      show sumC q t w g k ≤ sumC q t w g k + _
      omega
theorem sumC_nonneg {q : Int} (hq : 1 ≤ q) {t : Nat} {w g : List Int} (n : Nat) : 0 ≤ sumC q t w g n := sumC_mono hq (m := 0) (Nat.zero_le n)
/-! ### row_at and number_of -/
theorem pick_at {q : Int} {t : Nat} {w g : List Int} (hq : 1 ≤ q) : ∀ (k c : Nat) (l : Int) (c' : Nat), c ≤ c' → c' < c + k → 0 ≤ l → l < Nw q t (apt (stp w (c' : Int)) g) →
    pickC q t w g k c (l + (sumC q t w g c' - sumC q t w g c)) = some (c', l)
  | 0, c, l, c', h1, h2, _, _ => absurd h2 (by omega)
  | k + 1, c, l, c', h1, h2, h3, h4 => by
    unfold pickC
    by_cases e : c = c'
    · subst e
      have : l + (sumC q t w g c - sumC q t w g c) = l := by omega
      rw [this, if_pos h4]
    · have m := sumC_mono hq (t := t) (w := w) (g := g) (show c + 1 ≤ c' by omega)
      have s : sumC q t w g (c + 1) = sumC q t w g c + Nw q t (apt (stp w (c : Int)) g) := rfl
      rw [if_neg (by omega)]
      have : l + (sumC q t w g c' - sumC q t w g c) - Nw q t (apt (stp w (c : Int)) g) = l + (sumC q t w g c' - sumC q t w g (c + 1)) := by omega
      rw [this]
      exact pick_at hq k (c + 1) l c' (by omega) (by omega) h3 h4
theorem find_c {q : Int} {t : Nat} {w g : List Int} : ∀ (n : Nat) (l : Int), 0 ≤ l → l < sumC q t w g n → ∃ c, c < n ∧ sumC q t w g c ≤ l ∧ l < sumC q t w g (c + 1)
  | 0, l, h1, h2 => by
    have : sumC q t w g 0 = 0 := rfl
    omega
  | n + 1, l, h1, h2 => by
    by_cases h : l < sumC q t w g n
    · obtain ⟨c, a, b, d⟩ := find_c n l h1 h
      exact ⟨c, by omega, b, d⟩
    · exact ⟨n, by omega, by omega, h2⟩
/-- what row_at finds -/
theorem rowAt_ok {q : Nat} (hq : 1 ≤ q) : ∀ (t : Nat) (w g : List Int) (l : Int), Red w → Red g → InR q w → InR q g → 0 ≤ l → l < Nw q t (apt w g) →
    ∃ r, rowAtF q g t w l = some r ∧ r.length = t ∧ InR q r ∧ r.foldl stp w = g ∧ numF q g w r = l
  | 0, w, g, l, _, _, _, _, h0, h1 => by
    have e : apt w g = 0 := by
      cases hd : apt w g with
      | zero => rfl
      | succ d => rw [hd] at h1; simp [Nw] at h1; omega
    rw [e] at h1
    simp [Nw] at h1
    exact ⟨[], rfl, rfl, (fun _ z => nomatch z), apt_zero e, by simp only [numF]; omega⟩
  | t + 1, w, g, l, hw, hg, rw_, rg, h0, h1 => by
    rw [← sum_all hw hg rw_ rg] at h1
    obtain ⟨c, c1, c2, c3⟩ := find_c q l h0 h1
    have s : sumC (q : Int) t w g (c + 1) = sumC q t w g c + Nw q t (apt (stp w (c : Int)) g) := rfl
    have pk := pick_at (q := (q : Int)) (t := t) (w := w) (g := g) (by omega) q 0 (l - sumC q t w g c) c (by omega) (by omega) (by omega) (by omega)
    have z : sumC (q : Int) t w g 0 = 0 := rfl
    have e : l - sumC (q : Int) t w g c + (sumC q t w g c - sumC q t w g 0) = l := by omega
    rw [e] at pk
    obtain ⟨r, e1, e2, e3, e4, e5⟩ := rowAt_ok hq t (stp w c) g (l - sumC q t w g c) (red_stp hw) hg (rw_.stp (by omega) (by omega)) rg (by omega) (by omega)
    refine ⟨(c : Int) :: r, ?_, by simp [e2], fun x hx => ?_, e4, ?_⟩
    · unfold rowAtF
      rw [pk]
      simp [e1]
    · rcases List.mem_cons.mp hx with z | z
      · rw [z]; omega
      · exact e3 x z
    · simp only [numF, e2, e5, Int.toNat_natCast]
      omega
/-- a row is found by its number -/
theorem rowAt_num {q : Nat} (hq : 1 ≤ q) : ∀ (r w g : List Int), Red w → Red g → InR q w → InR q g → InR q r → r.foldl stp w = g →
    rowAtF q g r.length w (numF q g w r) = some r ∧ 0 ≤ numF q g w r ∧ numF q g w r < Nw q r.length (apt w g)
  | [], w, g, _, _, _, _, _, e => by
    have e' : w = g := e
    subst e'
    exact ⟨rfl, Int.le_refl _, by simp [numF, apt_self, Nw]⟩
  | c :: r, w, g, hw, hg, rw_, rg, rr, e => by
    have hc := rr c (by simp)
    obtain ⟨k, rfl⟩ : ∃ k : Nat, c = (k : Int) := ⟨c.toNat, by omega⟩
    obtain ⟨i1, i2, i3⟩ := rowAt_num hq r (stp w k) g (red_stp hw) hg (rw_.stp hc.1 hc.2) rg (fun x hx => rr x (by simp [hx])) e
    have n : numF (q : Int) g w ((k : Int) :: r) = sumC q r.length w g k + numF q g (stp w k) r := by simp [numF]
    have s : sumC (q : Int) r.length w g (k + 1) = sumC q r.length w g k + Nw q r.length (apt (stp w (k : Int)) g) := rfl
    have m := sumC_mono (q := (q : Int)) (by omega) (t := r.length) (w := w) (g := g) (show k + 1 ≤ q by omega)
    have a := sum_all (t := r.length) hw hg rw_ rg
    have p0 := sumC_nonneg (q := (q : Int)) (by omega) (t := r.length) (w := w) (g := g) k
    rw [n]
    refine ⟨?_, by omega, by show _ < Nw q (r.length + 1) (apt w g); omega⟩
    have pk := pick_at (q := (q : Int)) (t := r.length) (w := w) (g := g) (by omega) q 0 (numF q g (stp w k) r) k (by omega) (by omega) i2 i3
    have z : sumC (q : Int) r.length w g 0 = 0 := rfl
    have e2 : numF (q : Int) g (stp w k) r + (sumC q r.length w g k - sumC q r.length w g 0) = sumC q r.length w g k + numF q g (stp w k) r := by omega
    rw [e2] at pk
    show rowAtF q g (r.length + 1) w _ = _
    unfold rowAtF
    rw [pk]
    simp [i1]
end Cm

/-! Plain2: a tile ahead; all lots together. -/
namespace Cm
/-! ### a tile ahead of a rest -/
theorem stp_ne {a : Int} {u : List Int} {x : Int} : stp (a :: u) x = [] ∨ ∃ v, stp (a :: u) x = a :: v := by
  cases u with
  | nil =>
    by_cases h : a = x
    · left; simp [stp, h]
    · right; exact ⟨[x], by simp [stp, h]⟩
  | cons d u => right; exact ⟨_, stp_cons (List.cons_ne_nil d u) x⟩
theorem bh_stp (c : Int) (w : List Int) (x : Int) : stp (bh w c) x = bh (stp w x) c := by
  cases w with
  | nil =>
    by_cases h : c = x
    · simp [bh, stp, h]
    · simp [bh, stp, h, Ne.symm h]
  | cons a u =>
    by_cases ha : a = c
    · subst ha
      have e : bh (a :: u) a = u := by simp [bh]
      rw [e]
      cases u with
      | nil =>
        by_cases h : a = x
        · simp [bh, stp, h]
        · simp [bh, stp, h]
      | cons d u =>
        rw [stp_cons (List.cons_ne_nil d u)]
        simp [bh]
    · have e : bh (a :: u) c = c :: a :: u := by simp [bh, ha]
      rw [e, stp_cons (List.cons_ne_nil a u)]
      rcases stp_ne (a := a) (u := u) (x := x) with z | ⟨v, z⟩
      · rw [z]; rfl
      · rw [z]; simp [bh, ha]
theorem bh_fold (c : Int) : ∀ (r w : List Int), r.foldl stp (bh w c) = bh (r.foldl stp w) c
  | [], w => rfl
  | x :: r, w => by
    simp only [List.foldl_cons]
    rw [bh_stp, bh_fold c r]
theorem bh_bh {w : List Int} {c : Int} (h : Red w) : bh (bh w c) c = w := by
  cases w with
  | nil => simp [bh]
  | cons a u =>
    by_cases ha : a = c
    · subst ha
      have e : bh (a :: u) a = u := by simp [bh]
      rw [e]
      cases u with
      | nil => rfl
      | cons d u => simp [bh, Ne.symm h.1]
    · have e : bh (a :: u) c = c :: a :: u := by simp [bh, ha]
      rw [e]
      simp [bh]
theorem red_bh {w : List Int} {c : Int} (h : Red w) : Red (bh w c) := by
  cases w with
  | nil => trivial
  | cons a u =>
    by_cases ha : a = c
    · subst ha
      have e : bh (a :: u) a = u := by simp [bh]
      rw [e]; exact h.tail
    · have e : bh (a :: u) c = c :: a :: u := by simp [bh, ha]
      rw [e]; exact ⟨Ne.symm ha, h⟩
theorem inR_bh {q : Nat} {w : List Int} {c : Int} (h : InR q w) (c0 : 0 ≤ c) (c1 : c < q) : InR q (bh w c) := by
  cases w with
  | nil => exact fun x hx => by rw [List.mem_singleton.mp hx]; exact ⟨c0, c1⟩
  | cons a u =>
    by_cases ha : a = c
    · subst ha
      have e : bh (a :: u) a = u := by simp [bh]
      rw [e]; exact fun x hx => h x (by simp [hx])
    · have e : bh (a :: u) c = c :: a :: u := by simp [bh, ha]
      rw [e]
      exact fun x hx => by
        rcases List.mem_cons.mp hx with z | z
        · rw [z]; exact ⟨c0, c1⟩
        · exact h x z
theorem apt_sym_cons {a : Int} {u v : List Int} (hv : v.head? ≠ some a) : apt (a :: u) v = u.length + 1 + v.length := by
  cases v with
  | nil => rw [apt_nil']; simp
  | cons b v =>
    have : a ≠ b := fun z => hv (by simp [z])
    rw [apt_ne this]; simp; omega
theorem apt_sym_cons' {a : Int} {u v : List Int} (hv : v.head? ≠ some a) : apt v (a :: u) = v.length + u.length + 1 := by
  cases v with
  | nil => rw [apt_nil]; simp
  | cons b v =>
    have : b ≠ a := fun z => hv (by simp [z])
    rw [apt_ne this]; simp; omega
theorem bh_other {v : List Int} {c : Int} (hv : v.head? ≠ some c) : bh v c = c :: v := by
  cases v with
  | nil => rfl
  | cons b v =>
    have : b ≠ c := fun z => hv (by simp [z])
    simp [bh, this]
theorem red_head {a : Int} {u : List Int} (h : Red (a :: u)) : u.head? ≠ some a := by
  cases u with
  | nil => simp
  | cons d u => exact fun z => h.1 (by simpa using z.symm)
theorem apt_bh {u v : List Int} {c : Int} (hu : Red u) (hv : Red v) : apt (bh u c) (bh v c) = apt u v := by
  by_cases h1 : u.head? = some c
  · obtain ⟨u', rfl⟩ : ∃ u', u = c :: u' := by
      cases u with
      | nil => simp at h1
      | cons a u => simp at h1; exact ⟨u, by rw [h1]⟩
    have e1 : bh (c :: u') c = u' := by simp [bh]
    rw [e1]
    by_cases h2 : v.head? = some c
    · obtain ⟨v', rfl⟩ : ∃ v', v = c :: v' := by
        cases v with
        | nil => simp at h2
        | cons a v => simp at h2; exact ⟨v, by rw [h2]⟩
      have e2 : bh (c :: v') c = v' := by simp [bh]
      rw [e2, apt_cons]
    · rw [bh_other h2, apt_sym_cons h2, apt_sym_cons' (red_head hu)]
      omega
  · rw [bh_other h1]
    by_cases h2 : v.head? = some c
    · obtain ⟨v', rfl⟩ : ∃ v', v = c :: v' := by
        cases v with
        | nil => simp at h2
        | cons a v => simp at h2; exact ⟨v, by rw [h2]⟩
      have e2 : bh (c :: v') c = v' := by simp [bh]
      rw [e2, apt_sym_cons (red_head hv), apt_sym_cons' h1]
      omega
    · rw [bh_other h2, apt_cons]
theorem sumC_bh {q : Int} {t : Nat} {w g : List Int} {c : Int} (hw : Red w) (hg : Red g) : ∀ n, sumC q t (bh w c) (bh g c) n = sumC q t w g n
  | 0 => rfl
  | n + 1 => by
    show sumC q t (bh w c) (bh g c) n + Nw q t (apt (stp (bh w c) (n : Int)) (bh g c)) = sumC q t w g n + Nw q t (apt (stp w (n : Int)) g)
    rw [sumC_bh hw hg n, bh_stp, apt_bh (red_stp hw) hg]
theorem numF_bh {q : Int} {c : Int} : ∀ (r w g : List Int), Red w → Red g → numF q (bh g c) (bh w c) r = numF q g w r
  | [], _, _, _, _ => rfl
  | x :: r, w, g, hw, hg => by
    simp only [numF]
    rw [sumC_bh hw hg, bh_stp, numF_bh r (stp w x) g (red_stp hw) hg]
/-- the lot behind a first tile -/
theorem num_ahead {q : Int} {c : Nat} {r core : List Int} (hc : Red core) : numF q core [] ((c : Int) :: r) = sumC q r.length [] core c + numF q (bh core c) [] r := by
  have e : stp [] (c : Int) = bh [] (c : Int) := rfl
  simp only [numF, Int.toNat_natCast]
  rw [e]
  have := numF_bh (q := q) (c := (c : Int)) r [] (bh core c) trivial (red_bh hc)
  rw [bh_bh hc] at this
  rw [this]
theorem apt_ahead {c : Int} {core : List Int} (hc : Red core) : apt (stp [] c) core = (bh core c).length := by
  have e : stp [] c = bh [] c := rfl
  have := apt_bh (u := []) (v := bh core c) (c := c) trivial (red_bh hc)
  rw [bh_bh hc] at this
  rw [e, this, apt_nil]
/-! ### all lots together -/
def totN (q : Int) (t : Nat) : Nat → Int
  | 0 => 0
  | m + 1 => totN q t m + Nw q t m * coreN q m
theorem coreN_succ (q : Int) (d : Nat) : coreN q (d + 2) = coreN q (d + 1) * (q - 1) := by
  show coreN q (d + 1) * (if d + 1 = 0 then q else q - 1) = _
  rw [if_neg (by omega)]
theorem coreN_one (q : Int) : coreN q 1 = q := by
  show (1 : Int) * (if 0 = 0 then q else q - 1) = q
  simp
theorem tot_step (q : Int) (t : Nat) : ∀ m, totN q (t + 1) (m + 2) = q * totN q t (m + 1) + coreN q (m + 1) * Nw q t (m + 1) + coreN q (m + 2) * Nw q t (m + 2)
  | 0 => by
    have e0 : Nw q (t + 1) 0 = q * Nw q t 1 := rfl
    have e1 : Nw q (t + 1) 1 = Nw q t 0 + (q - 1) * Nw q t 2 := rfl
    have c2 := coreN_succ q 0
    have c1 := coreN_one q
    have c0 : coreN q 0 = 1 := rfl
    have z : totN q t 0 = 0 := rfl
    have z' : totN q (t + 1) 0 = 0 := rfl
    show totN q (t + 1) 0 + Nw q (t + 1) 0 * coreN q 0 + Nw q (t + 1) 1 * coreN q 1 = q * (totN q t 0 + Nw q t 0 * coreN q 0) + coreN q 1 * Nw q t 1 + coreN q 2 * Nw q t 2
    rw [z, z', e0, e1, c2, c1, c0]
    grind
  | m + 1 => by
    have e : Nw q (t + 1) (m + 2) = Nw q t (m + 1) + (q - 1) * Nw q t (m + 3) := rfl
    have c2 := coreN_succ q m
    have c3 := coreN_succ q (m + 1)
    have c3' : coreN q (m + 3) = coreN q (m + 2) * (q - 1) := c3
    show totN q (t + 1) (m + 2) + Nw q (t + 1) (m + 2) * coreN q (m + 2) = q * (totN q t (m + 1) + Nw q t (m + 1) * coreN q (m + 1)) + coreN q (m + 2) * Nw q t (m + 2) + coreN q (m + 3) * Nw q t (m + 3)
    rw [tot_step q t m, e, c3', c2]
    generalize coreN q (m + 1) = x
    generalize Nw q t (m + 1) = a
    generalize Nw q t (m + 2) = b
    generalize Nw q t (m + 3) = c
    generalize totN q t (m + 1) = y
    grind
theorem tot_all (q : Int) : ∀ (t m : Nat), t + 1 ≤ m → totN q t m = q ^ t
  | 0, 0, h => absurd h (by omega)
  | 0, 1, _ => by simp [totN, Nw, coreN]
  | 0, m + 2, _ => by
    show totN q 0 (m + 1) + Nw q 0 (m + 1) * coreN q (m + 1) = q ^ 0
    rw [tot_all q 0 (m + 1) (by omega), Nw_far q 0 (m + 1) (by omega)]
    simp
  | t + 1, 0, h => absurd h (by omega)
  | t + 1, 1, h => absurd h (by omega)
  | t + 1, m + 2, h => by
    rw [tot_step, tot_all q t (m + 1) (by omega), Nw_far q t (m + 1) (by omega), Nw_far q t (m + 2) (by omega), Int.pow_succ]
    grind
theorem coreN_nonneg {q : Int} (hq : 1 ≤ q) : ∀ d, 0 ≤ coreN q d
  | 0 => by show (0 : Int) ≤ 1; decide
  | d + 1 => Int.mul_nonneg (coreN_nonneg hq d) (by split <;> omega)
theorem core_q1 : ∀ d, 2 ≤ d → coreN 1 d = 0
  | 0, h => absurd h (by omega)
  | 1, h => absurd h (by omega)
  | d + 2, _ => by rw [coreN_succ]; simp
/-- as the laws sum it: many_with times the number of rests -/
theorem many_core (q : Int) (t d : Nat) : manyW q t d * coreN q d = Nw q t d * coreN q d := by
  unfold manyW
  split
  · rename_i h
    rw [h.1, core_q1 d (by omega)]
    simp
  · rfl
def lotsW (q : Int) (t : Nat) : Nat → Int
  | 0 => 0
  | m + 1 => lotsW q t m + coreN q m * (if 0 < manyW q t m * coreN q m then 1 else 0)
theorem lots_eq {q : Int} (hq : 1 ≤ q) (t : Nat) : ∀ m, m ≤ t + 1 → lotsW q t m = lotsN q t m
  | 0, _ => rfl
  | m + 1, h => by
    show lotsW q t m + coreN q m * (if 0 < manyW q t m * coreN q m then 1 else 0) = lotsN q t m + (if m % 2 = t % 2 then coreN q m else 0)
    rw [lots_eq hq t m (by omega), many_core]
    congr 1
    have c0 := coreN_nonneg hq m
    by_cases hp : m % 2 = t % 2
    · rw [if_pos hp]
      have np := Nw_pos hq t m (by omega) hp
      by_cases hc : coreN q m = 0
      · rw [hc]; simp
      · have : 0 < Nw q t m * coreN q m := Int.mul_pos np (by omega)
        rw [if_pos this]; simp
    · rw [if_neg hp, Nw_par t m hp]
      simp
theorem coreN_le {q : Int} (hq : 1 ≤ q) : ∀ d, coreN q d ≤ q ^ d
  | 0 => by simp [coreN]
  | d + 1 => by
    show coreN q d * (if d = 0 then q else q - 1) ≤ q ^ (d + 1)
    have h1 := coreN_le hq d
    have h2 : (if d = 0 then q else q - 1) ≤ q := by split <;> omega
    have h3 : 0 ≤ (if d = 0 then q else q - 1) := by split <;> omega
    rw [Int.pow_succ]
    exact Int.le_trans (Int.mul_le_mul_of_nonneg_right h1 h3) (Int.mul_le_mul_of_nonneg_left h2 (Int.pow_nonneg (by omega)))
end Cm

/-! Plain3: the rows of a lot one after another. -/
namespace Cm
open Tw
/-- a tile of colour c may stand behind w with t tiles left -/
def Fe (q : Nat) (g : List Int) (t : Nat) (w : List Int) (c : Nat) : Prop := c < q ∧ 0 < Nw q t (apt (stp w (c : Int)) g)
theorem row_inv {q t : Nat} {w g r : List Int} {l : Int} (hq : 1 ≤ q) (hw : Red w) (hg : Red g) (rw_ : InR q w) (rg : InR q g) (h0 : 0 ≤ l) (h1 : l < Nw q (t + 1) (apt w g)) (h : rowAtF q g (t + 1) w l = some r) :
    ∃ (c : Nat) (l' : Int) (r' : List Int), r = (c : Int) :: r' ∧ c < q ∧ l = sumC q t w g c + l' ∧ 0 ≤ l' ∧ l' < Nw q t (apt (stp w (c : Int)) g) ∧ rowAtF q g t (stp w (c : Int)) l' = some r' := by
  rw [← sum_all hw hg rw_ rg] at h1
  obtain ⟨c, c1, c2, c3⟩ := find_c q l h0 h1
  have s : sumC (q : Int) t w g (c + 1) = sumC q t w g c + Nw q t (apt (stp w (c : Int)) g) := rfl
  have pk := pick_at (q := (q : Int)) (t := t) (w := w) (g := g) (by omega) q 0 (l - sumC q t w g c) c (by omega) (by omega) (by omega) (by omega)
  have z : sumC (q : Int) t w g 0 = 0 := rfl
  have e : l - sumC (q : Int) t w g c + (sumC q t w g c - sumC q t w g 0) = l := by omega
  rw [e] at pk
  unfold rowAtF at h
  rw [pk] at h
  simp only at h
  obtain ⟨r', e1, e2⟩ := Option.map_eq_some_iff.mp h
  exact ⟨c, _, r', e2.symm, c1, by omega, by omega, by omega, e1⟩
/-- the greatest, the least tile at each place -/
def MaxR (q : Nat) (g : List Int) : Nat → List Int → List Int → Prop
  | 0, _, r => r = []
  | t + 1, w, r => ∃ (c : Nat) (r' : List Int), r = (c : Int) :: r' ∧ Fe q g t w c ∧ (∀ x, Fe q g t w x → x ≤ c) ∧ MaxR q g t (stp w (c : Int)) r'
def MinR (q : Nat) (g : List Int) : Nat → List Int → List Int → Prop
  | 0, _, r => r = []
  | t + 1, w, r => ∃ (c : Nat) (r' : List Int), r = (c : Int) :: r' ∧ Fe q g t w c ∧ (∀ x, Fe q g t w x → c ≤ x) ∧ MinR q g t (stp w (c : Int)) r'
theorem max_row {q : Nat} (hq : 1 ≤ q) : ∀ (t : Nat) (w g r : List Int), Red w → Red g → InR q w → InR q g → 0 < Nw q t (apt w g) → rowAtF q g t w (Nw q t (apt w g) - 1) = some r → MaxR q g t w r
  | 0, w, g, r, _, _, _, _, _, h => by cases h; rfl
  | t + 1, w, g, r, hw, hg, rw_, rg, hp, h => by
    obtain ⟨c, l', r', e, cq, el, l0, l1, er⟩ := row_inv hq hw hg rw_ rg (by omega) (by omega) h
    rw [← sum_all (t := t) hw hg rw_ rg] at el
    have s : sumC (q : Int) t w g (c + 1) = sumC q t w g c + Nw q t (apt (stp w (c : Int)) g) := rfl
    have m := sumC_mono (q := (q : Int)) (by omega) (t := t) (w := w) (g := g) (show c + 1 ≤ q by omega)
    have el' : l' = Nw q t (apt (stp w (c : Int)) g) - 1 := by omega
    rw [el'] at er
    refine ⟨c, r', e, ⟨cq, by omega⟩, fun x ⟨xq, xp⟩ => ?_, max_row hq t (stp w (c : Int)) g r' (red_stp hw) hg (rw_.stp (by omega) (by omega)) rg (by omega) er⟩
    by_cases hx : x ≤ c
    · exact hx
    · have m1 := sumC_mono (q := (q : Int)) (by omega) (t := t) (w := w) (g := g) (show c + 1 ≤ x by omega)
      have m2 := sumC_mono (q := (q : Int)) (by omega) (t := t) (w := w) (g := g) (show x + 1 ≤ q by omega)
      have s2 : sumC (q : Int) t w g (x + 1) = sumC q t w g x + Nw q t (apt (stp w (x : Int)) g) := rfl
      omega
theorem min_row {q : Nat} (hq : 1 ≤ q) : ∀ (t : Nat) (w g r : List Int), Red w → Red g → InR q w → InR q g → 0 < Nw q t (apt w g) → rowAtF q g t w 0 = some r → MinR q g t w r
  | 0, w, g, r, _, _, _, _, _, h => by cases h; rfl
  | t + 1, w, g, r, hw, hg, rw_, rg, hp, h => by
    obtain ⟨c, l', r', e, cq, el, l0, l1, er⟩ := row_inv hq hw hg rw_ rg (by omega) hp h
    have p0 := sumC_nonneg (q := (q : Int)) (by omega) (t := t) (w := w) (g := g) c
    have el' : l' = 0 := by omega
    rw [el'] at er
    refine ⟨c, r', e, ⟨cq, by omega⟩, fun x ⟨xq, xp⟩ => ?_, min_row hq t (stp w (c : Int)) g r' (red_stp hw) hg (rw_.stp (by omega) (by omega)) rg (by omega) er⟩
    by_cases hx : c ≤ x
    · exact hx
    · have m2 := sumC_mono (q := (q : Int)) (by omega) (t := t) (w := w) (g := g) (show x + 1 ≤ c by omega)
      have s2 : sumC (q : Int) t w g (x + 1) = sumC q t w g x + Nw q t (apt (stp w (x : Int)) g) := rfl
      have p1 := sumC_nonneg (q := (q : Int)) (by omega) (t := t) (w := w) (g := g) x
      omega
/-- a row and the next one -/
def Suc (q : Nat) (g : List Int) : Nat → List Int → List Int → List Int → Prop
  | 0, _, _, _ => False
  | t + 1, w, r, s => (∃ (c : Nat) (r' s' : List Int), r = (c : Int) :: r' ∧ s = (c : Int) :: s' ∧ Suc q g t (stp w (c : Int)) r' s') ∨
      ∃ (c d : Nat) (r' s' : List Int), r = (c : Int) :: r' ∧ s = (d : Int) :: s' ∧ c < d ∧ Fe q g t w c ∧ Fe q g t w d ∧ (∀ x, c < x → x < d → ¬ Fe q g t w x) ∧ MaxR q g t (stp w (c : Int)) r' ∧ MinR q g t (stp w (d : Int)) s'
theorem suc_row {q : Nat} (hq : 1 ≤ q) : ∀ (t : Nat) (w g r s : List Int) (l : Int), Red w → Red g → InR q w → InR q g → 0 ≤ l → l + 1 < Nw q t (apt w g) → rowAtF q g t w l = some r → rowAtF q g t w (l + 1) = some s → Suc q g t w r s
  | 0, w, g, r, s, l, _, _, _, _, h0, h1, _, _ => by
    cases hd : apt w g with
    | zero => rw [hd] at h1; simp [Nw] at h1; omega
    | succ d => rw [hd] at h1; simp [Nw] at h1; omega
  | t + 1, w, g, r, s, l, hw, hg, rw_, rg, h0, h1, hr, hs => by
    obtain ⟨c, l1, r', e1, cq, el1, a0, a1, er1⟩ := row_inv hq hw hg rw_ rg h0 (by omega) hr
    obtain ⟨d, l2, s', e2, dq, el2, b0, b1, er2⟩ := row_inv hq hw hg rw_ rg (by omega) h1 hs
    have sc : sumC (q : Int) t w g (c + 1) = sumC q t w g c + Nw q t (apt (stp w (c : Int)) g) := rfl
    have sd : sumC (q : Int) t w g (d + 1) = sumC q t w g d + Nw q t (apt (stp w (d : Int)) g) := rfl
    by_cases hc : l1 + 1 < Nw q t (apt (stp w (c : Int)) g)
    · -- the same first tile
      have : d = c := by
        rcases Nat.lt_trichotomy d c with z | z | z
        · have m := sumC_mono (q := (q : Int)) (by omega) (t := t) (w := w) (g := g) (show d + 1 ≤ c by omega)
          omega
        · exact z
        · have m := sumC_mono (q := (q : Int)) (by omega) (t := t) (w := w) (g := g) (show c + 1 ≤ d by omega)
          omega
      subst this
      have : l2 = l1 + 1 := by omega
      subst this
      exact .inl ⟨d, r', s', e1, e2, suc_row hq t (stp w (d : Int)) g r' s' l1 (red_stp hw) hg (rw_.stp (by omega) (by omega)) rg a0 hc er1 er2⟩
    · have hl1 : l1 = Nw q t (apt (stp w (c : Int)) g) - 1 := by omega
      have cd : c < d := by
        by_cases z : c < d
        · exact z
        · have m := sumC_mono (q := (q : Int)) (by omega) (t := t) (w := w) (g := g) (show d + 1 ≤ c + 1 by omega)
          omega
      have m := sumC_mono (q := (q : Int)) (by omega) (t := t) (w := w) (g := g) (show c + 1 ≤ d by omega)
      have hl2 : l2 = 0 := by omega
      rw [hl1] at er1
      rw [hl2] at er2
      refine .inr ⟨c, d, r', s', e1, e2, cd, ⟨cq, by omega⟩, ⟨dq, by omega⟩, fun x hx1 hx2 ⟨xq, xp⟩ => ?_,
        max_row hq t (stp w (c : Int)) g r' (red_stp hw) hg (rw_.stp (by omega) (by omega)) rg (by omega) er1, min_row hq t (stp w (d : Int)) g s' (red_stp hw) hg (rw_.stp (by omega) (by omega)) rg (by omega) er2⟩
      have m1 := sumC_mono (q := (q : Int)) (by omega) (t := t) (w := w) (g := g) (show c + 1 ≤ x by omega)
      have m2 := sumC_mono (q := (q : Int)) (by omega) (t := t) (w := w) (g := g) (show x + 1 ≤ d by omega)
      have sx : sumC (q : Int) t w g (x + 1) = sumC q t w g x + Nw q t (apt (stp w (x : Int)) g) := rfl
      omega
/-! ### place by place -/
theorem max_at {q : Nat} {g : List Int} : ∀ (t : Nat) (w r : List Int), MaxR q g t w r → r.length = t ∧ ∀ i, i < t → ∃ c : Nat, r[i]? = some (c : Int) ∧ Fe q g (t - i - 1) ((r.take i).foldl stp w) c ∧ ∀ x, Fe q g (t - i - 1) ((r.take i).foldl stp w) x → x ≤ c
  | 0, w, r, h => by
    have e : r = [] := h
    subst e
    exact ⟨rfl, fun i hi => absurd hi (by omega)⟩
  | t + 1, w, r, ⟨c, r', e, f1, f2, hr⟩ => by
    obtain ⟨l, k⟩ := max_at t (stp w (c : Int)) r' hr
    subst e
    refine ⟨by simp [l], fun i hi => ?_⟩
    cases i with
    | zero => exact ⟨c, rfl, f1, f2⟩
    | succ i =>
      obtain ⟨d, d1, d2, d3⟩ := k i (by omega)
      have e : t + 1 - (i + 1) - 1 = t - i - 1 := by omega
      rw [e]
      exact ⟨d, d1, d2, d3⟩
theorem min_at {q : Nat} {g : List Int} : ∀ (t : Nat) (w r : List Int), MinR q g t w r → r.length = t ∧ ∀ i, i < t → ∃ c : Nat, r[i]? = some (c : Int) ∧ Fe q g (t - i - 1) ((r.take i).foldl stp w) c ∧ ∀ x, Fe q g (t - i - 1) ((r.take i).foldl stp w) x → c ≤ x
  | 0, w, r, h => by
    have e : r = [] := h
    subst e
    exact ⟨rfl, fun i hi => absurd hi (by omega)⟩
  | t + 1, w, r, ⟨c, r', e, f1, f2, hr⟩ => by
    obtain ⟨l, k⟩ := min_at t (stp w (c : Int)) r' hr
    subst e
    refine ⟨by simp [l], fun i hi => ?_⟩
    cases i with
    | zero => exact ⟨c, rfl, f1, f2⟩
    | succ i =>
      obtain ⟨d, d1, d2, d3⟩ := k i (by omega)
      have e : t + 1 - (i + 1) - 1 = t - i - 1 := by omega
      rw [e]
      exact ⟨d, d1, d2, d3⟩
/-- where they part -/
theorem suc_at {q : Nat} {g : List Int} : ∀ (t : Nat) (w r s : List Int), Suc q g t w r s → ∃ (p c d : Nat), p < t ∧ r.length = t ∧ s.length = t ∧ r.take p = s.take p ∧ r[p]? = some (c : Int) ∧ s[p]? = some (d : Int) ∧ c < d ∧
    Fe q g (t - p - 1) ((r.take p).foldl stp w) c ∧ Fe q g (t - p - 1) ((r.take p).foldl stp w) d ∧ (∀ x, c < x → x < d → ¬ Fe q g (t - p - 1) ((r.take p).foldl stp w) x) ∧
    (∀ i, p < i → i < t → ∃ c : Nat, r[i]? = some (c : Int) ∧ Fe q g (t - i - 1) ((r.take i).foldl stp w) c ∧ ∀ x, Fe q g (t - i - 1) ((r.take i).foldl stp w) x → x ≤ c) ∧
    (∀ i, p < i → i < t → ∃ c : Nat, s[i]? = some (c : Int) ∧ Fe q g (t - i - 1) ((s.take i).foldl stp w) c ∧ ∀ x, Fe q g (t - i - 1) ((s.take i).foldl stp w) x → c ≤ x)
  | 0, _, _, _, h => h.elim
  | t + 1, w, r, s, h => by
    rcases h with ⟨c, r', s', e1, e2, h⟩ | ⟨c, d, r', s', e1, e2, cd, f1, f2, f3, mx, mn⟩
    · obtain ⟨p, a, b, p1, p2, p3, p4, p5, p6, p7, p8, p9, p10, p11, p12⟩ := suc_at t (stp w (c : Int)) r' s' h
      subst e1 e2
      have e : t + 1 - (p + 1) - 1 = t - p - 1 := by omega
      refine ⟨p + 1, a, b, by omega, by simp [p2], by simp [p3], by simp [p4], p5, p6, p7, by rw [e]; exact p8, by rw [e]; exact p9, by rw [e]; exact p10, fun i h1 h2 => ?_, fun i h1 h2 => ?_⟩
      · cases i with
        | zero => exact absurd h1 (by omega)
        | succ i =>
          have e : t + 1 - (i + 1) - 1 = t - i - 1 := by omega
          rw [e]
          exact p11 i (by omega) (by omega)
      · cases i with
        | zero => exact absurd h1 (by omega)
        | succ i =>
          have e : t + 1 - (i + 1) - 1 = t - i - 1 := by omega
          rw [e]
          exact p12 i (by omega) (by omega)
    · obtain ⟨l1, k1⟩ := max_at t _ _ mx
      obtain ⟨l2, k2⟩ := min_at t _ _ mn
      subst e1 e2
      refine ⟨0, c, d, by omega, by simp [l1], by simp [l2], rfl, rfl, rfl, cd, f1, f2, f3, fun i h1 h2 => ?_, fun i h1 h2 => ?_⟩
      · cases i with
        | zero => exact absurd h1 (by omega)
        | succ i =>
          have e : t + 1 - (i + 1) - 1 = t - i - 1 := by omega
          rw [e]
          exact k1 i (by omega)
      · cases i with
        | zero => exact absurd h1 (by omega)
        | succ i =>
          have e : t + 1 - (i + 1) - 1 = t - i - 1 := by omega
          rw [e]
          exact k2 i (by omega)
/-! ### lists of colours -/
def feL (q : Nat) (g : List Int) (t : Nat) (w : List Int) : List Int := ((List.range q).filter fun (c : Nat) => decide (0 < Nw q t (apt (stp w (c : Int)) g))).map fun (c : Nat) => (c : Int)
theorem mem_feL {q t : Nat} {g w : List Int} {v : Int} : v ∈ feL q g t w ↔ ∃ c : Nat, v = c ∧ Fe q g t w c := by
  unfold feL Fe
  constructor
  · intro h
    obtain ⟨c, h1, h2⟩ := List.mem_map.mp h
    obtain ⟨h3, h4⟩ := List.mem_filter.mp h1
    exact ⟨c, h2.symm, List.mem_range.mp h3, of_decide_eq_true h4⟩
  · rintro ⟨c, rfl, h1, h2⟩
    exact List.mem_map.mpr ⟨c, List.mem_filter.mpr ⟨List.mem_range.mpr h1, decide_eq_true h2⟩, rfl⟩
theorem maxI_of : ∀ {l : List Int} {v : Int}, v ∈ l → (∀ x ∈ l, x ≤ v) → maxI l = v
  | [], v, h, _ => nomatch h
  | [x], v, h, _ => by rw [List.mem_singleton.mp h]; rfl
  | x :: y :: r, v, h, k => by
    show max x (maxI (y :: r)) = v
    have hx := k x (by simp)
    rcases List.mem_cons.mp h with e | e
    · subst e
      have : maxI (y :: r) ≤ v := by
        have : ∀ (l : List Int), l ≠ [] → (∀ x ∈ l, x ≤ v) → maxI l ≤ v := by
          intro l
          induction l with
          | nil => intro z; exact absurd rfl z
          | cons a l ih =>
            intro _ hl
            cases l with
            | nil => exact hl a (by simp)
            | cons b l =>
              have := ih (by simp) fun x hx => hl x (by simp [hx])
              show max a (maxI (b :: l)) ≤ v
              have := hl a (by simp)
              omega
        exact this (y :: r) (by simp) fun x hx => k x (by simp [hx])
      omega
    · have := maxI_of e fun x hx => k x (by simp [hx])
      omega
theorem minI_of : ∀ {l : List Int} {v : Int}, v ∈ l → (∀ x ∈ l, v ≤ x) → minI l = v
  | [], v, h, _ => nomatch h
  | [x], v, h, _ => by rw [List.mem_singleton.mp h]; rfl
  | x :: y :: r, v, h, k => by
    show min x (minI (y :: r)) = v
    have hx := k x (by simp)
    rcases List.mem_cons.mp h with e | e
    · subst e
      have : v ≤ minI (y :: r) := by
        have : ∀ (l : List Int), l ≠ [] → (∀ x ∈ l, v ≤ x) → v ≤ minI l := by
          intro l
          induction l with
          | nil => intro z; exact absurd rfl z
          | cons a l ih =>
            intro _ hl
            cases l with
            | nil => exact hl a (by simp)
            | cons b l =>
              have := ih (by simp) fun x hx => hl x (by simp [hx])
              show v ≤ min a (minI (b :: l))
              have := hl a (by simp)
              omega
        exact this (y :: r) (by simp) fun x hx => k x (by simp [hx])
      omega
    · have := minI_of e fun x hx => k x (by simp [hx])
      omega
/-- the place of a colour in an ascending list -/
theorem idx_filter (p : Nat → Bool) : ∀ (n c : Nat), c < n → p c = true → (((List.range n).filter p).map fun (c : Nat) => (c : Int)).findIdx? (fun z => z == (c : Int)) = some ((List.range c).filter p).length
  | 0, c, h, _ => absurd h (by omega)
  | n + 1, c, h, hp => by
    rw [List.range_succ, List.filter_append, List.map_append, List.findIdx?_append]
    by_cases e : c = n
    · subst e
      have none : (((List.range c).filter p).map fun (c : Nat) => (c : Int)).findIdx? (fun z => z == (c : Int)) = none := by
        rw [List.findIdx?_eq_none_iff]
        intro x hx
        obtain ⟨k, hk, rfl⟩ := List.mem_map.mp hx
        have := List.mem_range.mp (List.mem_filter.mp hk).1
        simp
        omega
      rw [none]
      simp [hp]
    · rw [idx_filter p n c (by omega) hp]
      rfl
theorem count_next (p : Nat → Bool) : ∀ (d c : Nat), c < d → p c = true → (∀ x, c < x → x < d → p x = false) → ((List.range d).filter p).length = ((List.range c).filter p).length + 1
  | 0, c, h, _, _ => absurd h (by omega)
  | d + 1, c, h, hp, hn => by
    rw [List.range_succ, List.filter_append, List.length_append]
    by_cases e : c = d
    · subst e
      simp [hp]
    · rw [count_next p d c (by omega) hp fun x h1 h2 => hn x h1 (by omega)]
      have := hn d (by omega) (by omega)
      simp [this]
end Cm

/-! Spec9: gap; places in lists, greatest and least of lists. -/
namespace Cm
open PySem PySem.Spec PyProof.Rows L2 Tw
theorem cmn_test : ∀ (a b : List Int) (k : Nat), k ≤ cmn a b → ((k < min a.length b.length ∧ a[k]? = b[k]?) ↔ k < cmn a b)
  | [], b, k, h => by simp [cmn]
  | a :: as, [], k, h => by simp [cmn]
  | a :: as, b :: bs, k, h => by
    by_cases e : a = b
    · subst e
      have c : cmn (a :: as) (a :: bs) = cmn as bs + 1 := by simp [cmn]
      rw [c] at h ⊢
      cases k with
      | zero => simp
      | succ k =>
        have := cmn_test as bs k (by omega)
        simp only [List.length_cons, List.getElem?_cons_succ]
        rw [show (k + 1 < min (as.length + 1) (bs.length + 1) ↔ k < min as.length bs.length) by omega, this]
        omega
    · have c : cmn (a :: as) (b :: bs) = 0 := by simp [cmn, e]
      rw [c] at h ⊢
      have : k = 0 := by omega
      subst this
      simp [e]
section
variable {h : Hd}
theorem m_gap_eq {a b : List Int} (f : Fl h) (ha : a.length ≤ 900) (hb : b.length ≤ 900) : m_law_gap [tI a, tI b] h = .ok (.int (apt a b : Nat)) h := by
  have cl := cmn_le a b
  have wl := while_rule (t := tAnd (tVal (eBin dLt (eVar 2) (eN dMin2 (aCons (eN dLen (aCons (eVar 0) aNil)) (aCons (eN dLen (aCons (eVar 1) aNil)) aNil))))) (tVal (eBin dEq (eBin dIx (eVar 0) (eVar 2)) (eBin dIx (eVar 1) (eVar 2))))) (body := sAsg (gNm 2) (eBin dAdd (eVar 2) (eC (.int 1)))) (P := fun r => r = .nx [some (tI a), some (tI b), some (.int (cmn a b : Nat))] h)
    (fun m env h' => h' = h ∧ ∃ k : Nat, env = [some (tI a), some (tI b), some (.int (k : Int))] ∧ k ≤ cmn a b ∧ m = cmn a b - k) (fun m env h' ⟨eh, k, ee, hk, em⟩ => by
      subst eh ee
      have te := cmn_test a b k hk
      have mi := o_min2 (h := h') a.length b.length
      have ga : atI a (k : Int) = a[k]? := atI_nat a k
      have gb : atI b (k : Int) = b[k]? := atI_nat b k
      obtain ⟨mm, hmm⟩ : ∃ mm, min a.length b.length = mm := ⟨_, rfl⟩
      have m1 : mm ≤ a.length := by omega
      have m2 : mm ≤ b.length := by omega
      rw [hmm] at mi te
      by_cases hl : k < mm
      · obtain ⟨u, eu⟩ : ∃ u, a[k]? = some u := ⟨_, List.getElem?_eq_getElem (by omega)⟩
        obtain ⟨v, ev⟩ : ∃ v, b[k]? = some v := ⟨_, List.getElem?_eq_getElem (by omega)⟩
        rw [eu, ev] at te
        by_cases hc : k < cmn a b
        · have he := Option.some.inj (te.mpr hc).2
          refine ⟨true, h', by simp [mi, hl, ga, gb, eu, ev, he], ?_⟩
          simp
          exact ⟨cmn a b - (k + 1), by omega, k + 1, by simp, by omega, rfl⟩
        · have hne : u ≠ v := fun z => hc (te.mp ⟨hl, by rw [z]⟩)
          have ek : k = cmn a b := by omega
          refine ⟨false, h', by simp [mi, hl, ga, gb, eu, ev, hne], ?_⟩
          rw [← ek]
      · have ek : k = cmn a b := by omega
        refine ⟨false, h', by simp [mi, hl], ?_⟩
        rw [← ek]) (10 ^ 40) (cmn a b) (by omega) [some (tI a), some (tI b), some (.int 0)] h ⟨rfl, 0, rfl, by omega, by omega⟩
  have z : ((a.length : Int) + (b.length : Int) - 2 * ((cmn a b : Nat) : Int)) = ((apt a b : Nat) : Int) := by unfold apt; omega
  have key : b_law_gap [some (tI a), some (tI b), none] h = .rt (.int (apt a b : Nat)) h := by
    unfold b_law_gap
    rw [x_sSeq, show sAsg (gNm 2) (eC (.int 0)) [some (tI a), some (tI b), none] h = .nx [some (tI a), some (tI b), some (.int 0)] h by simp]
    simp only
    rw [x_sSeq, x_sWhile, wl]
    simp [o_mul, z]
  simp [m_law_gap, rd_eq, key]
  exact (Ab.refl h).gcv f (plk_int 19 _)
theorem optL_unI : ∀ ns : List Int, optL Tw.unI (ns.map D.int) = some ns
  | [] => rfl
  | n :: ns => by
    simp only [List.map_cons, optL, Tw.unI]
    rw [optL_unI ns]
theorem o_max1 {ns : List Int} (hne : ns ≠ []) : dMax1 [lI ns] h = some (.int (maxI ns)) := by
  cases ns with
  | nil => exact absurd rfl hne
  | cons n ns => simp only [dMax1, isLst_lI, optL_unI]
theorem o_min1 {ns : List Int} (hne : ns ≠ []) : dMin1 [lI ns] h = some (.int (minI ns)) := by
  cases ns with
  | nil => exact absurd rfl hne
  | cons n ns => simp only [dMin1, isLst_lI, optL_unI]
theorem any_ints (v : Int) : ∀ ns : List Int, (ns.map PyData.int).any (fun z => PyData.eqv z (.int v)) = ns.any (· == v)
  | [] => rfl
  | n :: ns => by
    simp only [List.map_cons, List.any_cons]
    rw [any_ints v ns]
    rfl
theorem o_notInI {m : Nat} {ns : List Int} {v : Int} (e : h[m]? = some (cI ns)) : dNotIn (.int v) (.ref m) h = some (.bl (!ns.any (· == v))) := by
  have t1 := toPy_ints (h := h) 18 e
  have t2 : toPy h 20 (.int v) = some (.int v) := rfl
  show (match toPy h 20 (.int v), toPy h 20 (.ref m) with
    | some d, some (.list ds) => some (D.bl (if true then !ds.any (fun z => PyData.eqv z d) else ds.any (fun z => PyData.eqv z d)))
    | _, _ => none) = _
  rw [t1, t2]
  simp only [if_true]
  rw [any_ints]
theorem find_ints (v : Int) : ∀ ns : List Int, (ns.map PyData.int).findIdx? (fun z => PyData.eqv z (.int v)) = ns.findIdx? (· == v)
  | [] => rfl
  | n :: ns => by
    simp only [List.map_cons, List.findIdx?_cons]
    rw [find_ints v ns]
    rfl
theorem o_indexI {m j : Nat} {ns : List Int} {v : Int} (e : h[m]? = some (cI ns)) (hj : ns.findIdx? (· == v) = some j) : mIndex (.ref m) [.int v] h = some (.int (j : Nat), h) := by
  have t1 := toPy_ints (h := h) 18 e
  have t2 : toPy h 20 (.int v) = some (.int v) := rfl
  simp only [mIndex, t1, t2, find_ints, hj]
end
end Cm

namespace Lk77
open PySem PySem.Spec PyProof.Rows L2 Tw Cm
def b_law_goes_on : MS :=
  (sRet (eBin dGt (eCall m_many_with (aCons (eVar 0) (aCons (eVar 3) (aCons (eCall m_law_gap (aCons (eBin dIx (eCall m_law_words (aCons (eVar 2) aNil)) (eUn dNeg (eC (.int 1)))) (aCons (eVar 1) aNil))) aNil)))) (eC (.int 0))))
def m_law_goes_on : MF := runDef 4 4 b_law_goes_on
def b_law_shades_at : MS :=
  (sSeq (sAsg (gNm 4) (eBin dSub (eBin dSub (eN dLen (aCons (eVar 2) aNil)) (eVar 3)) (eC (.int 1))))
  (sRet (eComp [5] (iN rng1 (aCons (eVar 0) aNil)) (gNm 5) (tVal (eCall m_law_goes_on (aCons (eVar 0) (aCons (eVar 1) (aCons (eBin dAdd (eSl (eVar 2) oNone (oSome (eVar 3))) (eN dTup (aCons (eVar 5) aNil))) (aCons (eVar 4) aNil)))))) (eVar 5))))
def m_law_shades_at : MF := runDef 4 6 b_law_shades_at
def b_law_right : MS :=
  (sSeq (sAsg (gNm 1) (eBin dAdd (eC (.int 2)) (eCall (m_law_take 8) (aCons (eVar 0) (aCons (eC (.int 4)) aNil)))))
  (sSeq (sAsg (gNm 2) (eCall m_law_line (aCons (eVar 0) (aCons (eBin dAdd (eC (.int 2)) (eCall (m_law_take 8) (aCons (eVar 0) (aCons (eC (.int 13)) aNil)))) (aCons (eVar 1) aNil)))))
  (sSeq (sAsg (gTp [(gNm 3), (gNm 4)]) (eN dTup (aCons (eBin dIx (eCall m_law_words (aCons (eVar 2) aNil)) (eUn dNeg (eC (.int 1)))) (aCons (eCall m_lot_many (aCons (eVar 1) (aCons (eVar 2) aNil))) aNil))))
  (sSeq (sAsg (gNm 5) (eCall (m_law_take 8) (aCons (eVar 0) (aCons (eVar 4) aNil))))
  (sSeq (sAsg (gNm 6) (eCall m_row_at (aCons (eVar 1) (aCons (eVar 2) (aCons (eVar 5) aNil)))))
  (sSeq (sIf (tOr (tNot (tVal (eCall m_leads (aCons (eVar 2) (aCons (eVar 6) aNil))))) (tVal (eBin dNe (eCall m_number_of (aCons (eVar 1) (aCons (eVar 2) (aCons (eVar 6) aNil)))) (eVar 5))))
    (sRet (eC (.bl false)))
    sNil)
  (sSeq (sIf (tVal (eBin dEq (eBin dAdd (eVar 5) (eC (.int 1))) (eVar 4)))
    (sRet (eN dAll (aCons (eComp [10] (iN rng1 (aCons (eN dLen (aCons (eVar 6) aNil)) aNil)) (gNm 10) tTrue (eBin dEq (eBin dIx (eVar 6) (eVar 10)) (eN dMax1 (aCons (eCall m_law_shades_at (aCons (eVar 1) (aCons (eVar 3) (aCons (eVar 6) (aCons (eVar 10) aNil))))) aNil)))) aNil)))
    sNil)
  (sSeq (sAsg (gNm 7) (eCall m_row_at (aCons (eVar 1) (aCons (eVar 2) (aCons (eBin dAdd (eVar 5) (eC (.int 1))) aNil)))))
  (sSeq (sIf (tOr (tVal (eBin dEq (eVar 7) (eVar 6))) (tNot (tVal (eCall m_leads (aCons (eVar 2) (aCons (eVar 7) aNil))))))
    (sRet (eC (.bl false)))
    sNil)
  (sSeq (sAsg (gNm 8) (eBin dIx (eComp [10] (iN rng1 (aCons (eN dLen (aCons (eVar 6) aNil)) aNil)) (gNm 10) (tVal (eBin dNe (eBin dIx (eVar 6) (eVar 10)) (eBin dIx (eVar 7) (eVar 10)))) (eVar 10)) (eC (.int 0))))
  (sSeq (sAsg (gNm 9) (eCall m_law_shades_at (aCons (eVar 1) (aCons (eVar 3) (aCons (eVar 6) (aCons (eVar 8) aNil))))))
  (sSeq (sIf (tOr (tVal (eBin dNotIn (eBin dIx (eVar 6) (eVar 8)) (eVar 9))) (tOr (tVal (eBin dNotIn (eBin dIx (eVar 7) (eVar 8)) (eVar 9))) (tVal (eBin dNe (eBM "list" mIndex (eVar 9) (aCons (eBin dIx (eVar 7) (eVar 8)) aNil)) (eBin dAdd (eBM "list" mIndex (eVar 9) (aCons (eBin dIx (eVar 6) (eVar 8)) aNil)) (eC (.int 1)))))))
    (sRet (eC (.bl false)))
    sNil)
  (sSeq (sFor (iN rng2 (aCons (eBin dAdd (eVar 8) (eC (.int 1))) (aCons (eN dLen (aCons (eVar 6) aNil)) aNil))) (gNm 10)
    (sSeq (sIf (tVal (eBin dNe (eBin dIx (eVar 6) (eVar 10)) (eN dMax1 (aCons (eBin dAdd (eCall m_law_shades_at (aCons (eVar 1) (aCons (eVar 3) (aCons (eVar 6) (aCons (eVar 10) aNil))))) (eN dLst (aCons (eUn dNeg (eC (.int 1))) aNil))) aNil))))
    (sRet (eC (.bl false)))
    sNil)
  (sIf (tVal (eBin dNe (eBin dIx (eVar 7) (eVar 10)) (eN dMin1 (aCons (eBin dAdd (eCall m_law_shades_at (aCons (eVar 1) (aCons (eVar 3) (aCons (eVar 7) (aCons (eVar 10) aNil))))) (eN dLst (aCons (eVar 1) aNil))) aNil))))
    (sRet (eC (.bl false)))
    sNil)))
  (sRet (eC (.bl true))))))))))))))))
def m_law_right : MF := runDef 1 11 b_law_right
def b_law : MS :=
  (sRet (eN dAll (aCons (eComp [1] (iN rng1 (aCons (eBin dAdd (eC (.int 1)) (eN dMin2 (aCons (eC (.int 2)) (aCons (eN dLen (aCons (eVar 0) aNil)) aNil)))) aNil)) (gNm 1) tTrue (eCall m_law_right (aCons (eCall m_law_box (aCons (eVar 0) (aCons (eVar 1) aNil))) aNil))) aNil)))
def m_law : MF := runDef 1 2 b_law

/-! k77: the law's own functions -/
theorem row_inR {q n : Nat} {r : List Int} (h : Row q n r) : InR q r := h.2
theorem inR_fold {q : Nat} : ∀ (r w : List Int), InR q r → InR q w → InR q (r.foldl stp w)
  | [], w, _, h => h
  | c :: r, w, hr, h => inR_fold r (stp w c) (fun x hx => hr x (by simp [hx])) (h.stp (hr c (by simp)).1 (hr c (by simp)).2)
theorem inR_rst {q : Nat} {r : List Int} (h : InR q r) : InR q (rst r) := inR_fold r [] h fun _ z => nomatch z
theorem pow_bound {q t : Nat} (h1 : 1 ≤ q) (hq : q ≤ 5) (ht : t ≤ 14) : (q : Int) ^ t ≤ 6103515625 := by
  have h2 : (q : Int) ^ t ≤ (5 : Int) ^ t := by
    rw [← Int.natCast_pow, show ((5 : Int) ^ t) = ((5 ^ t : Nat) : Int) by simp]
    exact Int.ofNat_le.mpr (Nat.pow_le_pow_left hq t)
  have h3 : (5 : Int) ^ t ≤ 5 ^ 14 := by
    rw [show ((5 : Int) ^ t) = ((5 ^ t : Nat) : Int) by simp, show ((5 : Int) ^ 14) = ((5 ^ 14 : Nat) : Int) by simp]
    exact Int.ofNat_le.mpr (Nat.pow_le_pow_right (by omega) ht)
  have h4 : (5 : Int) ^ 14 = 6103515625 := by decide
  omega
section
variable {h : Hd} {b n : Nat}
theorem goes_eq {q t : Nat} {core beg : List Int} (f : Fl h) (q2 : 2 ≤ q) (q5 : q ≤ 1000) (ht : t ≤ 800) (hb : beg.length ≤ 800) (hc : core.length ≤ 800) :
    m_law_goes_on [.int (q : Int), tI core, tI beg, .int (t : Int)] h = .ok (.bl (decide (0 < Nw (q : Int) t (apt (rst beg) core)))) h := by
  have wd := m_words_eq (h := h) (row := beg) f (by omega)
  have la : atI (rsts beg) (-1) = some (rst beg) := by rw [Cm.atI_last]; exact rsts_last [] beg
  have rl := rst_len beg
  have gp := m_gap_eq (h := h) (a := rst beg) (b := core) f (by omega) (by omega)
  have mw := m_many_with_eq (h := h) (q := (q : Int)) (n := t) (far := apt (rst beg) core) f (by omega) (by omega) (by omega)
  have e : manyW (q : Int) t (apt (rst beg) core) = Nw q t (apt (rst beg) core) := by
    unfold manyW
    rw [if_neg (by omega)]
  rw [e] at mw
  have key : b_law_goes_on [some (.int (q : Int)), some (tI core), some (tI beg), some (.int (t : Int))] h = .rt (.bl (decide (0 < Nw (q : Int) t (apt (rst beg) core)))) h := by
    unfold b_law_goes_on
    simp [wd, ix_lW, la, gp, mw]
  simp [m_law_goes_on, rd_eq, key]
  exact (Ab.refl h).gcv f (plk_bl 19 _)
theorem filter_colours {p : Nat → Bool} {p' : D → Bool} (k : Nat) (hp : ∀ c, c < k → p' (.int (c : Nat)) = p c) : (((List.range k).map fun i => D.int (i : Nat)).filter p').map (fun d => d) = (((List.range k).filter p).map fun (c : Nat) => (c : Int)).map D.int := by
  rw [filter_range_map k p p' hp, List.map_map, List.map_map]
  rfl
theorem shades_eq {q i : Nat} {core line : List Int} (f : Fl h) (q2 : 2 ≤ q) (q5 : q ≤ 5) (hl : line.length ≤ 14) (hc : core.length ≤ 14) (hi : i < line.length) :
    m_law_shades_at [.int (q : Int), tI core, tI line, .int (i : Int)] h = .ok (lI (feL q core (line.length - i - 1) ((line.take i).foldl stp []))) h := by
  have tl : ((line.length : Int) - (i : Int) - 1) = ((line.length - i - 1 : Nat) : Int) := by omega
  have cu := cutL_to line i (by omega)
  have key : b_law_shades_at [some (.int (q : Int)), some (tI core), some (tI line), some (.int (i : Int)), none, none] h = .rt (lI (feL q core (line.length - i - 1) ((line.take i).foldl stp []))) h := by
    unfold b_law_shades_at
    have t1 : sAsg (gNm 4) (eBin dSub (eBin dSub (eN dLen (aCons (eVar 2) aNil)) (eVar 3)) (eC (.int 1))) [some (.int (q : Int)), some (tI core), some (tI line), some (.int (i : Int)), none, none] h
        = .nx [some (.int (q : Int)), some (tI core), some (tI line), some (.int (i : Int)), some (.int ((line.length - i - 1 : Nat) : Int)), none] h := by
      simp [tl]
    rw [x_sSeq, t1]
    simp only
    have rg : iN rng1 (aCons (eVar 0) aNil) [some (.int (q : Int)), some (tI core), some (tI line), some (.int (i : Int)), some (.int ((line.length - i - 1 : Nat) : Int)), none] h = .ok ((List.range q).map (fun i => .int (i : Nat)), []) h := by
      simp [rng1_nat q (by omega)]
    have cm := compGo_map (env := wipeE [some (.int (q : Int)), some (tI core), some (tI line), some (.int (i : Int)), some (.int ((line.length - i - 1 : Nat) : Int)), none] [5]) (g := gNm 5) (tt := tVal (eCall m_law_goes_on (aCons (eVar 0) (aCons (eVar 1) (aCons (eBin dAdd (eSl (eVar 2) oNone (oSome (eVar 3))) (eN dTup (aCons (eVar 5) aNil))) (aCons (eVar 4) aNil)))))) (te := eVar 5) (src := []) (h := h)
      (p := fun d => match d with | .int c => decide (0 < Nw (q : Int) (line.length - i - 1) (apt (stp ((line.take i).foldl stp []) c) core)) | _ => false) (f := fun d => d) rfl (items := (List.range q).map fun i => .int (i : Nat)) (fun x hx => by
        obtain ⟨c, hc', rfl⟩ := List.mem_map.mp hx
        have ad := o_addT (h := h) (a := line.take i) (b := [(c : Int)]) (Nat.le_of_lt (line1000 (by rw [List.length_take]; simp; omega)))
        have go := goes_eq (h := h) (t := line.length - i - 1) (core := core) (beg := line.take i ++ [(c : Int)]) f q2 (by omega) (by omega) (by rw [List.length_append, List.length_take]; simp; omega) (by omega)
        have rs : rst (line.take i ++ [(c : Int)]) = stp ((line.take i).foldl stp []) c := by
          unfold rst
          rw [List.foldl_append]
          rfl
        rw [rs] at go
        refine ⟨[(5, .int (c : Nat))], rfl, ?_, fun _ => by simp⟩
        simp [cu, ad, go])
    have fc := filter_colours (p := fun c => decide (0 < Nw (q : Int) (line.length - i - 1) (apt (stp ((line.take i).foldl stp []) (c : Int)) core))) (p' := fun d => match d with | .int c => decide (0 < Nw (q : Int) (line.length - i - 1) (apt (stp ((line.take i).foldl stp []) c) core)) | _ => false) q (fun c _ => rfl)
    rw [fc] at cm
    have ll : ((((List.range q).filter (fun (c : Nat) => decide (0 < Nw (q : Int) (line.length - i - 1) (apt (stp ((line.take i).foldl stp []) (c : Int)) core)))).map fun (c : Nat) => (c : Int)).map D.int).length ≤ sizeLine := by
      have := List.length_filter_le (fun (c : Nat) => decide (0 < Nw (q : Int) (line.length - i - 1) (apt (stp ((line.take i).foldl stp []) (c : Int)) core))) (List.range q)
      rw [List.length_range] at this
      rw [List.length_map, List.length_map]
      exact Nat.le_of_lt (line1000 (by omega))
    rw [x_sRet, x_eComp, rg]
    simp only
    rw [cm]
    simp only [R.bind_ok, ll, if_true, RS.of_ok]
    rfl
  simp [m_law_shades_at, rd_eq, key]
  exact (Ab.refl h).gcv f (plk_lI 18 _)
theorem fe_max {q t c : Nat} {g w : List Int} (f : Fe q g t w c) (k : ∀ x, Fe q g t w x → x ≤ c) : maxI (feL q g t w) = (c : Int) ∧ maxI (feL q g t w ++ [-1]) = (c : Int) ∧ feL q g t w ≠ [] := by
  have m : (c : Int) ∈ feL q g t w := mem_feL.mpr ⟨c, rfl, f⟩
  have le : ∀ x ∈ feL q g t w, x ≤ (c : Int) := fun x hx => by
    obtain ⟨d, rfl, fd⟩ := mem_feL.mp hx
    exact Int.ofNat_le.mpr (k d fd)
  refine ⟨maxI_of m le, maxI_of (List.mem_append_left _ m) (fun x hx => ?_), fun z => by rw [z] at m; cases m⟩
  rcases List.mem_append.mp hx with e | e
  · exact le x e
  · rw [List.mem_singleton.mp e]; omega
theorem fe_min {q t c : Nat} {g w : List Int} (f : Fe q g t w c) (k : ∀ x, Fe q g t w x → c ≤ x) : minI (feL q g t w ++ [(q : Int)]) = (c : Int) := by
  have m : (c : Int) ∈ feL q g t w := mem_feL.mpr ⟨c, rfl, f⟩
  refine minI_of (List.mem_append_left _ m) fun x hx => ?_
  rcases List.mem_append.mp hx with e | e
  · obtain ⟨d, rfl, fd⟩ := mem_feL.mp e
    exact Int.ofNat_le.mpr (k d fd)
  · rw [List.mem_singleton.mp e]
    have := f.1
    omega
theorem first_diff {r s : List Int} {p m : Nat} (hp : p < m) (lr : r.length = m) (ls : s.length = m) (ht : r.take p = s.take p) (hne : r[p]? ≠ s[p]?) : ((List.range m).filter fun i => !(r[i]? == s[i]?)).head? = some p := by
  rw [List.head?_filter, List.find?_range_eq_some]
  refine ⟨by simpa using hne, by simpa using hp, fun j hj => ?_⟩
  have : r[j]? = s[j]? := by
    have h1 : (r.take p)[j]? = (s.take p)[j]? := by rw [ht]
    rwa [List.getElem?_take_of_lt hj, List.getElem?_take_of_lt hj] at h1
  simp [this]
end
/-! ### the law's turn -/
section
variable {h : Hd}
theorem at_get {r : List Int} {i c : Nat} (e : r[i]? = some (c : Int)) : atI r (i : Int) = some (c : Int) := by rw [Cm.atI_nat]; exact e
theorem o_listNe {xs : List D} : dIx (.lst xs) (.int 0) h = xs.head? := by
  rw [o_ixL]
  have := Cm.atI_nat xs 0
  rw [show ((0 : Nat) : Int) = 0 from rfl] at this
  rw [this]
  cases xs <;> rfl
theorem rng2_gen (a m : Nat) (ha : a ≤ 1000) (hm : m ≤ 1000) : rng2 [.int ((a : Int) + 1), .int (m : Int)] = some ((List.range (m - (a + 1))).map fun i => .int ((a : Int) + 1 + (i : Nat))) := by
  simp only [rng2]
  rw [if_pos (by unfold rngOk; simp; omega)]
  unfold rngI
  have : ((m : Int) - ((a : Int) + 1)).toNat = m - (a + 1) := by omega
  rw [this]
theorem right_eq {x c : Int} (f : Fl h) (x0 : 0 ≤ x) (c0 : 0 ≤ c) (c1 : c < 2 ^ 63) : m_law_right [lI [x, c, 0]] h = .ok (.bl true) h := by
  generalize hh : h ++ [cI [x, c, 0]] = g
  have bx : Bx g h.length 0 := by rw [← hh]; exact ⟨x, c, 0, get_last _ _, x0, c0, c1, Int.le_refl _, by omega⟩
  have fg : Fl g := by rw [← hh]; exact f.push (fc_cI _)
  obtain ⟨r1, g1, e1, a1, b1, to1⟩ := take8 (m := 4) fg bx (by omega) (by omega) (by omega)
  obtain ⟨r2, g2, e2, a2, b2, to2⟩ := take8 (m := 13) (to1.fl fg) to1.2 (by omega) (by omega) (by omega)
  obtain ⟨q, hq⟩ : ∃ q : Nat, 2 + r1 = (q : Int) := ⟨(2 + r1).toNat, by omega⟩
  obtain ⟨m, hm⟩ : ∃ m : Nat, 2 + r2 = (m : Int) := ⟨(2 + r2).toNat, by omega⟩
  have q2 : 2 ≤ q := by omega
  have q5 : q ≤ 5 := by omega
  have m2 : 2 ≤ m := by omega
  have m14 : m ≤ 14 := by omega
  have to12 := to1.trans to2
  have fg2 := to12.fl fg
  obtain ⟨line, g3, e3, rw3, to3⟩ := m_line_eq (q := q) (m := m) fg2 to12.2 (by omega) (by omega) (by omega) (by omega)
  have to13 := to12.trans to3
  have fg3 := to13.fl fg
  have ll : line.length = m := rw3.1
  have wd := m_words_eq (h := g3) (row := line) fg3 (by omega)
  have la : atI (rsts line) (-1) = some (rst line) := by rw [Cm.atI_last]; exact rsts_last [] line
  have lo := m_lot_many_eq (h := g3) (q := (q : Int)) (row := line) fg3 (by omega) (by omega) (by omega)
  rw [ll] at lo
  have rc := red_rst line
  have ic : InR q (rst line) := inR_rst rw3.2
  have lc := rst_len line
  obtain ⟨n1, n2, n3⟩ := rowAt_num (q := q) (by omega) line [] (rst line) trivial rc (fun _ z => nomatch z) ic rw3.2 rfl
  rw [ll, apt_nil] at n3
  have Fle := Int.le_trans (Nw_le (q := (q : Int)) (by omega) m (rst line).length) (pow_bound (by omega) q5 m14)
  have ap0 : Nw (q : Int) m (apt [] (rst line)) = Nw q m (rst line).length := by rw [apt_nil]
  generalize hco : rst line = core at *
  generalize hF : Nw (q : Int) m core.length = F at *
  have F1 : 1 ≤ F := by omega
  obtain ⟨rank, g4, e4, k0, k1, to4⟩ := take8 (m := F) fg3 to13.2 (by omega) F1 (by omega)
  have to14 := to13.trans to4
  have fg4 := to14.fl fg
  obtain ⟨mine, ra, lm, im, fm, nm⟩ := rowAt_ok (q := q) (by omega) m [] core rank trivial rc (fun _ z => nomatch z) ic k0 (by rw [ap0]; exact k1)
  have rm : rst mine = core := fm
  have rat := m_row_at_eq (h := g4) (qn := q) (row := line) (r := mine) (k := rank) fg4 (by omega) (by omega) k0 (by rw [ll, hco, hF]; exact k1) (by rw [ll, hco]; exact ra)
  have le := m_leads_eq (h := g4) (a := line) (b := mine) fg4 (by omega) (by omega)
  have led : decide (line.length = mine.length ∧ rst line = rst mine) = true := by rw [ll, lm, hco, rm]; simp
  rw [led] at le
  have nu := m_number_of_eq (h := g4) (q := (q : Int)) (row := line) (other := mine) fg4 (by omega) (by omega) (by omega) (by rw [ll, lm]) (by rw [hco, rm]) (fun x hx => by have := im x hx; omega)
  rw [hco, nm] at nu
  have shH : ∀ (hp : Hd) (fp : Fl hp) (r : List Int) (i : Nat), r.length = m → i < m → m_law_shades_at [.int (q : Int), tI core, tI r, .int (i : Int)] hp = .ok (lI (feL q core (m - i - 1) ((r.take i).foldl stp []))) hp := fun hp fp r i hr hi => by
    have := shades_eq (h := hp) (q := q) (i := i) (core := core) (line := r) fp q2 q5 (by omega) (by omega) (by omega)
    rw [hr] at this
    exact this
  have sh := shH g4 fg4
  have fin : ∀ d : D, plk 20 d = true → gc h.length d g4 = .ok d h := fun d hd => by
    have av : Av g h.length g4 8000 := (Av.to (Av.refl bx) to14).mono (by omega)
    rw [← hh] at av
    obtain ⟨h1, ⟨⟨y, e⟩, _⟩, j, rfl, fj⟩ := av
    have : h1 = h ++ [cI y] := by rw [e]; simp
    subst this
    exact Ab.gcv ⟨[cI y] ++ j, by simp, (Fl.nil.push (fc_cI y)).append fj⟩ f hd
  have fin2 : ∀ (d : D) (j : Hd), Fl j → plk 20 d = true → gc h.length d (g4 ++ j) = .ok d h := fun d jj fjj hd => by
    have av : Av g h.length g4 8000 := (Av.to (Av.refl bx) to14).mono (by omega)
    rw [← hh] at av
    obtain ⟨h1, ⟨⟨y, e⟩, _⟩, j, rfl, fj⟩ := av
    have : h1 = h ++ [cI y] := by rw [e]; simp
    subst this
    exact Ab.gcv ⟨[cI y] ++ (j ++ jj), by simp, (Fl.nil.push (fc_cI y)).append (fj.append fjj)⟩ f hd
  have bxl : boxL [lI [x, c, 0]] h = ([.ref h.length], g) := by
    rw [boxL_cons, boxL_nil, box_lI, hh]
  -- the first statements
  have t1 : sAsg (gNm 1) (eBin dAdd (eC (.int 2)) (eCall (m_law_take 8) (aCons (eVar 0) (aCons (eC (.int 4)) aNil)))) [some (.ref h.length), none, none, none, none, none, none, none, none, none, none] g
      = .nx [some (.ref h.length), some (.int (q : Int)), none, none, none, none, none, none, none, none, none] g1 := by
    rw [← hq]
    simp [e1]
  have t2 : sAsg (gNm 2) (eCall m_law_line (aCons (eVar 0) (aCons (eBin dAdd (eC (.int 2)) (eCall (m_law_take 8) (aCons (eVar 0) (aCons (eC (.int 13)) aNil)))) (aCons (eVar 1) aNil)))) [some (.ref h.length), some (.int (q : Int)), none, none, none, none, none, none, none, none, none] g1
      = .nx [some (.ref h.length), some (.int (q : Int)), some (tI line), none, none, none, none, none, none, none, none] g3 := by
    rw [← hm] at e3
    simp [e2, e3]
  have t3 : sAsg (gTp [(gNm 3), (gNm 4)]) (eN dTup (aCons (eBin dIx (eCall m_law_words (aCons (eVar 2) aNil)) (eUn dNeg (eC (.int 1)))) (aCons (eCall m_lot_many (aCons (eVar 1) (aCons (eVar 2) aNil))) aNil))) [some (.ref h.length), some (.int (q : Int)), some (tI line), none, none, none, none, none, none, none, none] g3
      = .nx [some (.ref h.length), some (.int (q : Int)), some (tI line), some (tI core), some (.int F), none, none, none, none, none, none] g3 := by
    simp [wd, ix_lW, la, lo]
  have t4 : sAsg (gNm 5) (eCall (m_law_take 8) (aCons (eVar 0) (aCons (eVar 4) aNil))) [some (.ref h.length), some (.int (q : Int)), some (tI line), some (tI core), some (.int F), none, none, none, none, none, none] g3
      = .nx [some (.ref h.length), some (.int (q : Int)), some (tI line), some (tI core), some (.int F), some (.int rank), none, none, none, none, none] g4 := by
    simp [e4]
  have t5 : sAsg (gNm 6) (eCall m_row_at (aCons (eVar 1) (aCons (eVar 2) (aCons (eVar 5) aNil)))) [some (.ref h.length), some (.int (q : Int)), some (tI line), some (tI core), some (.int F), some (.int rank), none, none, none, none, none] g4
      = .nx [some (.ref h.length), some (.int (q : Int)), some (tI line), some (tI core), some (.int F), some (.int rank), some (tI mine), none, none, none, none] g4 := by
    simp [rat]
  have t6 : (tOr (tNot (tVal (eCall m_leads (aCons (eVar 2) (aCons (eVar 6) aNil))))) (tVal (eBin dNe (eCall m_number_of (aCons (eVar 1) (aCons (eVar 2) (aCons (eVar 6) aNil)))) (eVar 5)))) [some (.ref h.length), some (.int (q : Int)), some (tI line), some (tI core), some (.int F), some (.int rank), some (tI mine), none, none, none, none] g4 = .ok false g4 := by
    simp [le, nu]
  by_cases hlast : rank + 1 = F
  · -- the last row
    have mx := max_row (q := q) (by omega) m [] core mine trivial rc (fun _ z => nomatch z) ic (by rw [ap0]; omega) (by rw [ap0, ← hlast, show rank + 1 - 1 = rank by omega]; exact ra)
    obtain ⟨_, pl⟩ := max_at m [] mine mx
    have cm := compGo_map (env := wipeE [some (.ref h.length), some (.int (q : Int)), some (tI line), some (tI core), some (.int F), some (.int rank), some (tI mine), none, none, none, none] [10]) (g := gNm 10) (tt := tTrue) (te := eBin dEq (eBin dIx (eVar 6) (eVar 10)) (eN dMax1 (aCons (eCall m_law_shades_at (aCons (eVar 1) (aCons (eVar 3) (aCons (eVar 6) (aCons (eVar 10) aNil))))) aNil))) (src := []) (h := g4)
      (p := fun _ => true) (f := fun _ => D.bl true) rfl (items := (List.range m).map fun i => .int (i : Nat)) (fun x hx => by
        obtain ⟨i, hi, rfl⟩ := List.mem_map.mp hx
        have hi' := List.mem_range.mp hi
        obtain ⟨cc, d1, d2, d3⟩ := pl i hi'
        obtain ⟨z1, _, z3⟩ := fe_max d2 d3
        have om := o_max1 (h := g4) z3
        rw [z1] at om
        refine ⟨[(10, .int (i : Nat))], rfl, rfl, fun _ => ?_⟩
        simp [at_get d1, sh mine i lm hi', om])
    have ft : ((List.range m).map fun i => D.int (i : Nat)).filter (fun _ => true) = (List.range m).map fun i => D.int (i : Nat) := List.filter_eq_self.mpr fun _ _ => rfl
    rw [ft] at cm
    have em : (((List.range m).map fun i => D.int (i : Nat)).map fun _ => D.bl true) = (List.replicate m true).map D.bl := by
      rw [List.map_map, List.map_replicate]
      exact List.eq_replicate_iff.mpr ⟨by simp, fun b hb => by obtain ⟨_, _, rfl⟩ := List.mem_map.mp hb; rfl⟩
    rw [em] at cm
    have al := o_allB (h := g4) (List.replicate m true)
    have tr : (List.replicate m true).all id = true := by simp
    rw [tr] at al
    have lz : ((List.replicate m true).map D.bl).length ≤ sizeLine := by
      rw [List.length_map, List.length_replicate]
      exact Nat.le_of_lt (line1000 (by omega))
    generalize (List.replicate m true).map D.bl = bs at *
    have key : b_law_right [some (.ref h.length), none, none, none, none, none, none, none, none, none, none] g = .rt (.bl true) g4 := by
      unfold b_law_right
      rw [x_sSeq, t1]
      simp only
      rw [x_sSeq, t2]
      simp only
      rw [x_sSeq, t3]
      simp only
      rw [x_sSeq, t4]
      simp only
      rw [x_sSeq, t5]
      simp only
      rw [x_sSeq, x_sIf, t6]
      simp only [RS.ofB_ok, Bool.false_eq_true, if_false, x_sNil]
      have ec : eComp [10] (iN rng1 (aCons (eN dLen (aCons (eVar 6) aNil)) aNil)) (gNm 10) tTrue (eBin dEq (eBin dIx (eVar 6) (eVar 10)) (eN dMax1 (aCons (eCall m_law_shades_at (aCons (eVar 1) (aCons (eVar 3) (aCons (eVar 6) (aCons (eVar 10) aNil))))) aNil))) [some (.ref h.length), some (.int (q : Int)), some (tI line), some (tI core), some (.int F), some (.int rank), some (tI mine), none, none, none, none] g4 = .ok (.lst bs) g4 := by
        rw [x_eComp, show iN rng1 (aCons (eN dLen (aCons (eVar 6) aNil)) aNil) [some (.ref h.length), some (.int (q : Int)), some (tI line), some (tI core), some (.int F), some (.int rank), some (tI mine), none, none, none, none] g4 = .ok ((List.range m).map (fun i => .int (i : Nat)), []) g4 by simp [lm, rng1_nat m (by omega)]]
        simp only
        rw [cm]
        simp only [R.bind_ok, lz, if_true]
      have tc : tVal (eBin dEq (eBin dAdd (eVar 5) (eC (.int 1))) (eVar 4)) [some (.ref h.length), some (.int (q : Int)), some (tI line), some (tI core), some (.int F), some (.int rank), some (tI mine), none, none, none, none] g4 = .ok true g4 := by
        simp [hlast]
      rw [x_sSeq, x_sIf, tc]
      simp only [RS.ofB_ok, if_true]
      simp [ec, al]
    rw [show m_law_right = runDef 1 11 b_law_right from rfl, rd_eq, bxl]
    simp [key]
    exact fin _ (plk_bl 19 _)
  · -- the next one
    have hr1 : rank + 1 < F := by omega
    obtain ⟨its, rb, li, ii, fi, ni⟩ := rowAt_ok (q := q) (by omega) m [] core (rank + 1) trivial rc (fun _ z => nomatch z) ic (by omega) (by rw [ap0]; exact hr1)
    have ri : rst its = core := fi
    have rat2 := m_row_at_eq (h := g4) (qn := q) (row := line) (r := its) (k := rank + 1) fg4 (by omega) (by omega) (by omega) (by rw [ll, hco, hF]; exact hr1) (by rw [ll, hco]; exact rb)
    have le2 := m_leads_eq (h := g4) (a := line) (b := its) fg4 (by omega) (by omega)
    have led2 : decide (line.length = its.length ∧ rst line = rst its) = true := by rw [ll, li, hco, ri]; simp
    rw [led2] at le2
    obtain ⟨p, cc, dd, p1, p2, p3, p4, p5, p6, p7, p8, p9, p10, p11, p12⟩ := suc_at m [] mine its (suc_row (q := q) (by omega) m [] core mine its rank trivial rc (fun _ z => nomatch z) ic k0 (by rw [ap0]; exact hr1) ra rb)
    have nei : mine[p]? ≠ its[p]? := by
      rw [p5, p6]
      intro z
      have := Option.some.inj z
      omega
    have neq : (its == mine) = false := by
      apply beq_eq_false_iff_ne.mpr
      intro z
      exact nei (by rw [z])
    have hd := first_diff p1 p2 p3 p4 nei
    generalize hg5 : g4 ++ [cI (feL q core (m - p - 1) ((mine.take p).foldl stp []))] = g5
    have fg5 : Fl g5 := by rw [← hg5]; exact fg4.push (fc_cI _)
    have e5 : g5[g4.length]? = some (cI (feL q core (m - p - 1) ((mine.take p).foldl stp []))) := by rw [← hg5]; exact get_last _ _
    have x1 : (cc : Int) ∈ feL q core (m - p - 1) ((mine.take p).foldl stp []) := mem_feL.mpr ⟨cc, rfl, p8⟩
    have x2 : (dd : Int) ∈ feL q core (m - p - 1) ((mine.take p).foldl stp []) := mem_feL.mpr ⟨dd, rfl, p9⟩
    have y1 : (feL q core (m - p - 1) ((mine.take p).foldl stp [])).any (· == (cc : Int)) = true := List.any_eq_true.mpr ⟨_, x1, by simp⟩
    have y2 : (feL q core (m - p - 1) ((mine.take p).foldl stp [])).any (· == (dd : Int)) = true := List.any_eq_true.mpr ⟨_, x2, by simp⟩
    have i1 := idx_filter (fun (c : Nat) => decide (0 < Nw q (m - p - 1) (apt (stp ((mine.take p).foldl stp []) (c : Int)) core))) q cc p8.1 (decide_eq_true p8.2)
    have i2 := idx_filter (fun (c : Nat) => decide (0 < Nw q (m - p - 1) (apt (stp ((mine.take p).foldl stp []) (c : Int)) core))) q dd p9.1 (decide_eq_true p9.2)
    have i3 := count_next (fun (c : Nat) => decide (0 < Nw q (m - p - 1) (apt (stp ((mine.take p).foldl stp []) (c : Int)) core))) dd cc p7 (decide_eq_true p8.2) (fun x h1 h2 => by
      have z := p10 x h1 h2
      have xq : x < q := by have := p9.1; omega
      exact decide_eq_false fun w => z ⟨xq, w⟩)
    have j1 := o_indexI e5 (show (feL q core (m - p - 1) ((mine.take p).foldl stp [])).findIdx? (· == (cc : Int)) = _ from i1)
    have j2 := o_indexI e5 (show (feL q core (m - p - 1) ((mine.take p).foldl stp [])).findIdx? (· == (dd : Int)) = _ from i2)
    rw [i3] at j2
    generalize ((List.range cc).filter fun (c : Nat) => decide (0 < Nw q (m - p - 1) (apt (stp ((mine.take p).foldl stp []) (c : Int)) core))).length = ix at j1 j2
    have w1 := o_notInI (v := (cc : Int)) e5
    have w2 := o_notInI (v := (dd : Int)) e5
    rw [y1] at w1
    rw [y2] at w2
    have t7 : sAsg (gNm 7) (eCall m_row_at (aCons (eVar 1) (aCons (eVar 2) (aCons (eBin dAdd (eVar 5) (eC (.int 1))) aNil)))) [some (.ref h.length), some (.int (q : Int)), some (tI line), some (tI core), some (.int F), some (.int rank), some (tI mine), none, none, none, none] g4
        = .nx [some (.ref h.length), some (.int (q : Int)), some (tI line), some (tI core), some (.int F), some (.int rank), some (tI mine), some (tI its), none, none, none] g4 := by
      simp [rat2]
    have t8 : (tOr (tVal (eBin dEq (eVar 7) (eVar 6))) (tNot (tVal (eCall m_leads (aCons (eVar 2) (aCons (eVar 7) aNil)))))) [some (.ref h.length), some (.int (q : Int)), some (tI line), some (tI core), some (.int F), some (.int rank), some (tI mine), some (tI its), none, none, none] g4 = .ok false g4 := by
      have neq' : ¬ its = mine := by simpa using neq
      simp [neq', le2]
    have t9 : sAsg (gNm 8) (eBin dIx (eComp [10] (iN rng1 (aCons (eN dLen (aCons (eVar 6) aNil)) aNil)) (gNm 10) (tVal (eBin dNe (eBin dIx (eVar 6) (eVar 10)) (eBin dIx (eVar 7) (eVar 10)))) (eVar 10)) (eC (.int 0))) [some (.ref h.length), some (.int (q : Int)), some (tI line), some (tI core), some (.int F), some (.int rank), some (tI mine), some (tI its), none, none, none] g4
        = .nx [some (.ref h.length), some (.int (q : Int)), some (tI line), some (tI core), some (.int F), some (.int rank), some (tI mine), some (tI its), some (.int (p : Int)), none, none] g4 := by
      have cm := compGo_map (env := wipeE [some (.ref h.length), some (.int (q : Int)), some (tI line), some (tI core), some (.int F), some (.int rank), some (tI mine), some (tI its), none, none, none] [10]) (g := gNm 10) (tt := tVal (eBin dNe (eBin dIx (eVar 6) (eVar 10)) (eBin dIx (eVar 7) (eVar 10)))) (te := eVar 10) (src := []) (h := g4)
        (p := fun d => match d with | .int i => !(mine[i.toNat]? == its[i.toNat]?) | _ => false) (f := fun d => d) rfl (items := (List.range m).map fun i => .int (i : Nat)) (fun x hx => by
          obtain ⟨i, hi, rfl⟩ := List.mem_map.mp hx
          have hi' := List.mem_range.mp hi
          obtain ⟨u, eu⟩ : ∃ u, mine[i]? = some u := ⟨_, List.getElem?_eq_getElem (by omega)⟩
          obtain ⟨v, ev⟩ : ∃ v, its[i]? = some v := ⟨_, List.getElem?_eq_getElem (by omega)⟩
          have gu : atI mine (i : Int) = some u := by rw [Cm.atI_nat]; exact eu
          have gv : atI its (i : Int) = some v := by rw [Cm.atI_nat]; exact ev
          refine ⟨[(10, .int (i : Nat))], rfl, ?_, fun _ => by simp⟩
          simp [gu, gv, eu, ev])
      have fc := filter_colours (p := fun i => !(mine[i]? == its[i]?)) (p' := fun d => match d with | .int i => !(mine[i.toNat]? == its[i.toNat]?) | _ => false) m (fun c _ => by simp)
      rw [fc] at cm
      have lz : ((((List.range m).filter (fun (i : Nat) => !(mine[i]? == its[i]?))).map fun (c : Nat) => (c : Int)).map D.int).length ≤ sizeLine := by
        have := List.length_filter_le (fun (i : Nat) => !(mine[i]? == its[i]?)) (List.range m)
        rw [List.length_range] at this
        rw [List.length_map, List.length_map]
        exact Nat.le_of_lt (line1000 (by omega))
      have hh' : ((((List.range m).filter (fun (i : Nat) => !(mine[i]? == its[i]?))).map fun (c : Nat) => (c : Int)).map D.int).head? = some (.int (p : Int)) := by
        rw [List.head?_map, List.head?_map, hd]
        rfl
      have ec : eComp [10] (iN rng1 (aCons (eN dLen (aCons (eVar 6) aNil)) aNil)) (gNm 10) (tVal (eBin dNe (eBin dIx (eVar 6) (eVar 10)) (eBin dIx (eVar 7) (eVar 10)))) (eVar 10) [some (.ref h.length), some (.int (q : Int)), some (tI line), some (tI core), some (.int F), some (.int rank), some (tI mine), some (tI its), none, none, none] g4 = .ok (.lst ((((List.range m).filter (fun (i : Nat) => !(mine[i]? == its[i]?))).map fun (c : Nat) => (c : Int)).map D.int)) g4 := by
        rw [x_eComp, show iN rng1 (aCons (eN dLen (aCons (eVar 6) aNil)) aNil) [some (.ref h.length), some (.int (q : Int)), some (tI line), some (tI core), some (.int F), some (.int rank), some (tI mine), some (tI its), none, none, none] g4 = .ok ((List.range m).map (fun i => .int (i : Nat)), []) g4 by simp [lm, rng1_nat m (by omega)]]
        simp only
        rw [cm]
        simp only [R.bind_ok, lz, if_true]
      generalize (((List.range m).filter (fun (i : Nat) => !(mine[i]? == its[i]?))).map fun (c : Nat) => (c : Int)).map D.int = ds at *
      simp [ec, o_listNe, hh']
    have t10 : sAsg (gNm 9) (eCall m_law_shades_at (aCons (eVar 1) (aCons (eVar 3) (aCons (eVar 6) (aCons (eVar 8) aNil))))) [some (.ref h.length), some (.int (q : Int)), some (tI line), some (tI core), some (.int F), some (.int rank), some (tI mine), some (tI its), some (.int (p : Int)), none, none] g4
        = .nx [some (.ref h.length), some (.int (q : Int)), some (tI line), some (tI core), some (.int F), some (.int rank), some (tI mine), some (tI its), some (.int (p : Int)), some (.ref g4.length), none] g5 := by
      rw [← hg5]
      simp [sh mine p lm p1]
    have ty := ty_I e5
    have t11 : (tOr (tVal (eBin dNotIn (eBin dIx (eVar 6) (eVar 8)) (eVar 9))) (tOr (tVal (eBin dNotIn (eBin dIx (eVar 7) (eVar 8)) (eVar 9))) (tVal (eBin dNe (eBM "list" mIndex (eVar 9) (aCons (eBin dIx (eVar 7) (eVar 8)) aNil)) (eBin dAdd (eBM "list" mIndex (eVar 9) (aCons (eBin dIx (eVar 6) (eVar 8)) aNil)) (eC (.int 1))))))) [some (.ref h.length), some (.int (q : Int)), some (tI line), some (tI core), some (.int F), some (.int rank), some (tI mine), some (tI its), some (.int (p : Int)), some (.ref g4.length), none] g5 = .ok false g5 := by
      simp [at_get p5, at_get p6, w1, w2, ty, j1, j2]
    have t12 : iN rng2 (aCons (eBin dAdd (eVar 8) (eC (.int 1))) (aCons (eN dLen (aCons (eVar 6) aNil)) aNil)) [some (.ref h.length), some (.int (q : Int)), some (tI line), some (tI core), some (.int F), some (.int rank), some (tI mine), some (tI its), some (.int (p : Int)), some (.ref g4.length), none] g5 = .ok ((List.range (m - (p + 1))).map (fun i => .int ((p : Int) + 1 + (i : Nat))), []) g5 := by
      simp [lm, rng2_gen p m (by omega) (by omega)]
    obtain ⟨env', g6, e6, eg6, x10, ee⟩ := forGo_nx (g := gNm 10) (body := sSeq (sIf (tVal (eBin dNe (eBin dIx (eVar 6) (eVar 10)) (eN dMax1 (aCons (eBin dAdd (eCall m_law_shades_at (aCons (eVar 1) (aCons (eVar 3) (aCons (eVar 6) (aCons (eVar 10) aNil))))) (eN dLst (aCons (eUn dNeg (eC (.int 1))) aNil))) aNil)))) (sRet (eC (.bl false))) sNil)
        (sIf (tVal (eBin dNe (eBin dIx (eVar 7) (eVar 10)) (eN dMin1 (aCons (eBin dAdd (eCall m_law_shades_at (aCons (eVar 1) (aCons (eVar 3) (aCons (eVar 7) (aCons (eVar 10) aNil))))) (eN dLst (aCons (eVar 1) aNil))) aNil)))) (sRet (eC (.bl false))) sNil)) (src := []) (items := (List.range (m - (p + 1))).map fun i => .int ((p : Int) + 1 + (i : Nat))) (h := g5)
      (fun i env h' => h' = g5 ∧ ∃ x10, env = [some (.ref h.length), some (.int (q : Int)), some (tI line), some (tI core), some (.int F), some (.int rank), some (tI mine), some (tI its), some (.int (p : Int)), some (.ref g4.length), x10]) (fun _ _ _ _ => rfl)
      (fun i x env h' ex ⟨eh, x10, ee⟩ => by
        subst eh ee
        obtain ⟨hi, rfl⟩ := range_get ex
        have ei : (p : Int) + 1 + ((i : Nat) : Int) = ((p + 1 + i : Nat) : Int) := by omega
        rw [ei]
        obtain ⟨a, a1, a2, a3⟩ := p11 (p + 1 + i) (by omega) (by omega)
        obtain ⟨b, b1, b2, b3⟩ := p12 (p + 1 + i) (by omega) (by omega)
        obtain ⟨_, z1, z2⟩ := fe_max a2 a3
        have z3 := fe_min b2 b3
        have s1 := shH h' fg5 mine (p + 1 + i) lm (by omega)
        have s2 := shH h' fg5 its (p + 1 + i) li (by omega)
        have l1 : (feL q core (m - (p + 1 + i) - 1) ((mine.take (p + 1 + i)).foldl stp [])).length ≤ 5 := by
          unfold feL
          rw [List.length_map]
          have := List.length_filter_le (fun (c : Nat) => decide (0 < Nw q (m - (p + 1 + i) - 1) (apt (stp ((mine.take (p + 1 + i)).foldl stp []) (c : Int)) core))) (List.range q)
          rw [List.length_range] at this
          omega
        have l2 : (feL q core (m - (p + 1 + i) - 1) ((its.take (p + 1 + i)).foldl stp [])).length ≤ 5 := by
          unfold feL
          rw [List.length_map]
          have := List.length_filter_le (fun (c : Nat) => decide (0 < Nw q (m - (p + 1 + i) - 1) (apt (stp ((its.take (p + 1 + i)).foldl stp []) (c : Int)) core))) (List.range q)
          rw [List.length_range] at this
          omega
        generalize feL q core (m - (p + 1 + i) - 1) ((mine.take (p + 1 + i)).foldl stp []) = f1 at *
        generalize feL q core (m - (p + 1 + i) - 1) ((its.take (p + 1 + i)).foldl stp []) = f2 at *
        have ad1 := o_addLL (h := h') (ns := f1) (ms := [-1]) (Nat.le_of_lt (line1000 (by simp; omega)))
        have ad2 := o_addLL (h := h') (ns := f2) (ms := [(q : Int)]) (Nat.le_of_lt (line1000 (by simp; omega)))
        have m1 := o_max1 (h := h') (ns := f1 ++ [-1]) (by simp)
        have m2 := o_min1 (h := h') (ns := f2 ++ [(q : Int)]) (by simp)
        rw [z1] at m1
        rw [z3] at m2
        have ga := at_get a1
        have gb := at_get b1
        generalize ((p + 1 + i : Nat) : Int) = ii at *
        refine ⟨[(10, .int ii)], _, h', rfl, ?_, rfl, some (.int ii), rfl⟩
        simp [ga, gb, s1, s2, ad1, ad2, m1, m2])
      (env := [some (.ref h.length), some (.int (q : Int)), some (tI line), some (tI core), some (.int F), some (.int rank), some (tI mine), some (tI its), some (.int (p : Int)), some (.ref g4.length), none]) ⟨rfl, none, rfl⟩
    subst eg6 ee
    have key : b_law_right [some (.ref h.length), none, none, none, none, none, none, none, none, none, none] g = .rt (.bl true) g6 := by
      unfold b_law_right
      rw [x_sSeq, t1]
      simp only
      rw [x_sSeq, t2]
      simp only
      rw [x_sSeq, t3]
      simp only
      rw [x_sSeq, t4]
      simp only
      rw [x_sSeq, t5]
      simp only
      rw [x_sSeq, x_sIf, t6]
      simp only [RS.ofB_ok, Bool.false_eq_true, if_false, x_sNil]
      have tc : tVal (eBin dEq (eBin dAdd (eVar 5) (eC (.int 1))) (eVar 4)) [some (.ref h.length), some (.int (q : Int)), some (tI line), some (tI core), some (.int F), some (.int rank), some (tI mine), none, none, none, none] g4 = .ok false g4 := by
        simp [hlast]
      rw [x_sSeq, x_sIf, tc]
      simp only [RS.ofB_ok, Bool.false_eq_true, if_false, x_sNil]
      rw [x_sSeq, t7]
      simp only
      rw [x_sSeq, x_sIf, t8]
      simp only [RS.ofB_ok, Bool.false_eq_true, if_false, x_sNil]
      rw [x_sSeq, t9]
      simp only
      rw [x_sSeq, t10]
      simp only
      rw [x_sSeq, x_sIf, t11]
      simp only [RS.ofB_ok, Bool.false_eq_true, if_false, x_sNil]
      rw [x_sSeq, x_sFor, t12]
      simp only
      rw [e6]
      simp
    rw [show m_law_right = runDef 1 11 b_law_right from rfl, rd_eq, bxl]
    simp [key]
    rw [← hg5]
    exact fin2 _ _ (Fl.nil.push (fc_cI _)) (plk_bl 19 _)
theorem law_true (ns : List Int) (hl : ns.length ≤ 63) : ∃ h', m_law [.rol (ns.map .int)] [] = .ok (.bl true) h' := by
  have f : Fl ([] : Hd) := Fl.nil
  generalize hk : 1 + min 2 ns.length = K
  have rg : iN rng1 (aCons (eBin dAdd (eC (.int 1)) (eN dMin2 (aCons (eC (.int 2)) (aCons (eN dLen (aCons (eVar 0) aNil)) aNil)))) aNil) [some (.rol (ns.map .int)), none] [] = .ok ((List.range K).map (fun i => .int (i : Nat)), []) [] := by
    have ln : dLen [.rol (ns.map D.int)] [] = some (.int ns.length) := by simp [dLen, seqOf]
    have mn := o_min2 (h := []) 2 ns.length
    have r := rng1_nat K (by omega)
    have e : (K : Int) = 1 + ((min 2 ns.length : Nat) : Int) := by omega
    rw [e] at r
    generalize ((min 2 ns.length : Nat) : Int) = S at *
    simp at mn
    simp [ln, mn, r]
  have cm := compGo_map (env := wipeE [some (.rol (ns.map .int)), none] [1]) (g := gNm 1) (tt := tTrue) (te := eCall m_law_right (aCons (eCall m_law_box (aCons (eVar 0) (aCons (eVar 1) aNil))) aNil)) (src := []) (h := [])
    (p := fun _ => true) (f := fun _ => D.bl true) rfl (items := (List.range K).map fun i => .int (i : Nat)) (fun x hx => by
      obtain ⟨k, hk', rfl⟩ := List.mem_map.mp hx
      have kl := List.mem_range.mp hk'
      obtain ⟨a, c, e, a0, c0, c1⟩ := m_box_eq f ns k (by omega)
      have r := right_eq f a0 c0 c1
      exact ⟨[(1, .int (k : Nat))], rfl, rfl, fun _ => by simp [e, r]⟩)
  have ft : ((List.range K).map fun i => D.int (i : Nat)).filter (fun _ => true) = (List.range K).map fun i => D.int (i : Nat) := List.filter_eq_self.mpr fun _ _ => rfl
  rw [ft] at cm
  have em : (((List.range K).map fun i => D.int (i : Nat)).map fun _ => D.bl true) = (List.replicate K true).map D.bl := by
    rw [List.map_map, List.map_replicate]
    exact List.eq_replicate_iff.mpr ⟨by simp, fun b hb => by obtain ⟨_, _, rfl⟩ := List.mem_map.mp hb; rfl⟩
  rw [em] at cm
  have al := o_allB (h := []) (List.replicate K true)
  have tr : (List.replicate K true).all id = true := by simp
  rw [tr] at al
  have ll : ((List.replicate K true).map D.bl).length ≤ sizeLine := by
    rw [List.length_map, List.length_replicate]
    exact Nat.le_of_lt (line1000 (by omega))
  generalize (List.replicate K true).map D.bl = bs at *
  refine ⟨[], ?_⟩
  have key : b_law [some (.rol (ns.map .int)), none] [] = .rt (.bl true) [] := by
    unfold b_law
    have ec : eComp [1] (iN rng1 (aCons (eBin dAdd (eC (.int 1)) (eN dMin2 (aCons (eC (.int 2)) (aCons (eN dLen (aCons (eVar 0) aNil)) aNil)))) aNil)) (gNm 1) tTrue (eCall m_law_right (aCons (eCall m_law_box (aCons (eVar 0) (aCons (eVar 1) aNil))) aNil)) [some (.rol (ns.map .int)), none] [] = .ok (.lst bs) [] := by
      rw [x_eComp, rg]
      simp only
      rw [cm]
      simp only [R.bind_ok, ll, if_true]
    simp [ec, al]
  simp [m_law, rd_eq, key]
  exact (Ab.refl []).gcv f (plk_bl 19 _)
end

def topS (i : Nat) : Stmt := PySem.Challenge.pw_twintiles_k77_whole_neighbouring_numbers.main.body.getD i (.Pass ⟨0, 0, 0, 0⟩)
section
variable {P : Program} {w : World} {K : PySem.W.Frag} {mg : Str → Option Value} {base : Heap}
theorem sc_law_take : FnScope ["_law_box_here", "_law_below", "_law_found", "_law_once", "_law_twice"] ["_law_box_here", "_law_below"] (defScope (topS 23)) := ⟨rfl, rfl, rfl, by decide +kernel, rfl, by decide +kernel, by decide +kernel⟩
theorem ok_law_take {f : Addr} {fd : FuncData} (F : Fun K "_law_take" "_law_take" (topS 23) f fd) (gl : mg "_law_take" = some (.ref f)) (bi : Binds K fd ["_law_box_here", "_law_below"] [])    : ∀ n : Nat, Df P w K mg base "_law_take" (0 + n + 1) ["_law_box_here", "_law_below"] (m_law_take n)
  | 0 => df_ok (k := 0) F sc_law_take gl bi (fun cdv A outer s H E hr => jb_never)
  | n + 1 => df_ok (k := 0 + n + 1) F sc_law_take gl bi (fun cdv A outer s H E hr => by
    have hc : (cxOf (L2.CX P w) P w K mg base ["_law_box_here", "_law_below", "_law_found", "_law_once", "_law_twice"] "_law_take" (defScope (topS 23)) f cdv A outer s H E).calm = true := rfl
    have nd := sc_law_take.nd
    have tk : Takes (cxOf (L2.CX P w) P w K mg base ["_law_box_here", "_law_below", "_law_found", "_law_once", "_law_twice"] "_law_take" (defScope (topS 23)) f cdv A outer s H E) (fun cls d _ H => E cls d H) := takes_of rfl rfl rfl rfl
    have hp : PassesOwn (model P w) (cxOf (L2.CX P w) P w K mg base ["_law_box_here", "_law_below", "_law_found", "_law_once", "_law_twice"] "_law_take" (defScope (topS 23)) f cdv A outer s H E).A (cxOf (L2.CX P w) P w K mg base ["_law_box_here", "_law_below", "_law_found", "_law_once", "_law_twice"] "_law_take" (defScope (topS 23)) f cdv A outer s H E).env (cxOf (L2.CX P w) P w K mg base ["_law_box_here", "_law_below", "_law_found", "_law_once", "_law_twice"] "_law_take" (defScope (topS 23)) f cdv A outer s H E).xe := passes_of rfl
    have drec := ok_law_take F gl bi   n
    exact (jb_cons (js_if (jt_gt (je_ix (je_var (i := 0)) je_int) je_int) (jb_cons (js_set (i := 2) nd (je_mod (je_ix (je_var (i := 0)) je_int) (je_var (i := 1)))) (jb_cons (js_setIx (je_fdiv (je_ix (je_var (i := 0)) je_int) (je_var (i := 1))) (je_var (i := 0)) je_int) (jb_one (js_ret (je_var (i := 2)))))) jb_nil) (jb_cons (js_if (jt_gt (je_var (i := 1)) (je_pow je_int je_int)) (jb_one (js_ret (je_mod (je_add (je_call drec hr tk (ja_cons (je_var (i := 0)) (ja_cons (je_pow je_int je_int) ja_nil))) (je_times (je_pow je_int je_int) (je_call drec hr tk (ja_cons (je_var (i := 0)) (ja_cons (je_add (je_fdiv (je_var (i := 1)) (je_pow je_int je_int)) je_int) ja_nil))))) (je_var (i := 1))))) jb_nil) (jb_cons (js_setIx (je_add (je_ix (je_var (i := 0)) je_int) je_int) (je_var (i := 0)) je_int) (jb_cons (js_set (i := 3) nd (je_mod (je_times (je_add (je_ix (je_var (i := 0)) je_int) (je_times je_int (je_ix (je_var (i := 0)) je_int))) (je_add je_int (je_ix (je_var (i := 0)) je_int))) je_int)) (jb_cons (js_set (i := 4) nd (je_mod (je_times (je_add (je_add (je_var (i := 3)) (je_ix (je_var (i := 0)) je_int)) (je_fdiv (je_ix (je_var (i := 0)) je_int) je_int)) (je_add (je_mod (je_var (i := 3)) je_int) je_int)) je_int)) (jb_one (js_ret (je_mod (je_fdiv (je_mod (je_add (je_times (je_var (i := 4)) je_int) (je_var (i := 3))) je_int) je_int) (je_var (i := 1)))))))))))
theorem sc_law_line : FnScope ["_law_box_here", "_law_size", "_law_shades", "_law_found", "_law_near", "_law_spot", "_law_again"] ["_law_box_here", "_law_size", "_law_shades"] (defScope (topS 25)) := ⟨rfl, rfl, rfl, by decide +kernel, rfl, by decide +kernel, by decide +kernel⟩
theorem ok_law_line {f : Addr} {fd : FuncData} (F : Fun K "_law_line" "_law_line" (topS 25) f fd) (gl : mg "_law_line" = some (.ref f)) (bi : Binds K fd ["_law_box_here", "_law_size", "_law_shades"] []) (k_law_take : Df P w K mg base "_law_take" 9 ["_law_box_here", "_law_below"] (m_law_take 8)) (z_tuple : mg (Str.ofString "tuple") = none) (z_range : mg (Str.ofString "range") = none)  : Df P w K mg base "_law_line" 10 ["_law_box_here", "_law_size", "_law_shades"] m_law_line := df_ok (k := 9) F sc_law_line gl bi (fun cdv A outer s H E hr => by
    have hc : (cxOf (L2.CX P w) P w K mg base ["_law_box_here", "_law_size", "_law_shades", "_law_found", "_law_near", "_law_spot", "_law_again"] "_law_line" (defScope (topS 25)) f cdv A outer s H E).calm = true := rfl
    have nd := sc_law_line.nd
    have tk : Takes (cxOf (L2.CX P w) P w K mg base ["_law_box_here", "_law_size", "_law_shades", "_law_found", "_law_near", "_law_spot", "_law_again"] "_law_line" (defScope (topS 25)) f cdv A outer s H E) (fun cls d _ H => E cls d H) := takes_of rfl rfl rfl rfl
    have hp : PassesOwn (model P w) (cxOf (L2.CX P w) P w K mg base ["_law_box_here", "_law_size", "_law_shades", "_law_found", "_law_near", "_law_spot", "_law_again"] "_law_line" (defScope (topS 25)) f cdv A outer s H E).A (cxOf (L2.CX P w) P w K mg base ["_law_box_here", "_law_size", "_law_shades", "_law_found", "_law_near", "_law_spot", "_law_again"] "_law_line" (defScope (topS 25)) f cdv A outer s H E).env (cxOf (L2.CX P w) P w K mg base ["_law_box_here", "_law_size", "_law_shades", "_law_found", "_law_near", "_law_spot", "_law_again"] "_law_line" (defScope (topS 25)) f cdv A outer s H E).xe := passes_of rfl
    replace k_law_take := k_law_take.mono (show 9 ≤ 9 by omega)
    exact (jb_cons (js_par2 (i := 3) (j := 4) hc nd (ja_cons (je_lst ja_nil) (ja_cons (je_call k_law_take hr tk (ja_cons (je_var (i := 0)) (ja_cons je_int ja_nil))) ja_nil))) (jb_cons (js_for hp hc (ji_range1 z_range (ja_cons (je_var (i := 1)) ja_nil)) (jg_name (i := 5) nd) (jb_cons (js_set (i := 6) nd (je_and (je_ne hr (je_var (i := 3)) (je_lst ja_nil)) (je_one (je_lt (je_call k_law_take hr tk (ja_cons (je_var (i := 0)) (ja_cons je_int ja_nil))) (je_var (i := 4)))))) (jb_one (js_expr (je_append (je_var (i := 3)) (ja_cons (je_if (jt_val (je_var (i := 6))) (je_ix (je_var (i := 3)) (je_neg je_int)) (je_call k_law_take hr tk (ja_cons (je_var (i := 0)) (ja_cons (je_var (i := 2)) ja_nil)))) ja_nil)))))) (jb_one (js_ret (je_tuple z_tuple (ja_cons (je_var (i := 3)) ja_nil)))))))
theorem sc_stepped : FnScope ["word", "tile"] ["word", "tile"] (defScope (topS 4)) := ⟨rfl, rfl, rfl, by decide +kernel, rfl, by decide +kernel, by decide +kernel⟩
theorem ok_stepped {f : Addr} {fd : FuncData} (F : Fun K "stepped" "stepped" (topS 4) f fd) (gl : mg "stepped" = some (.ref f)) (bi : Binds K fd ["word", "tile"] [])  (z_len : mg (Str.ofString "len") = none)  : Df P w K mg base "stepped" 1 ["word", "tile"] m_stepped := df_ok (k := 0) F sc_stepped gl bi (fun cdv A outer s H E hr => by
    have hc : (cxOf (L2.CX P w) P w K mg base ["word", "tile"] "stepped" (defScope (topS 4)) f cdv A outer s H E).calm = true := rfl
    have nd := sc_stepped.nd
    have tk : Takes (cxOf (L2.CX P w) P w K mg base ["word", "tile"] "stepped" (defScope (topS 4)) f cdv A outer s H E) (fun cls d _ H => E cls d H) := takes_of rfl rfl rfl rfl
    have hp : PassesOwn (model P w) (cxOf (L2.CX P w) P w K mg base ["word", "tile"] "stepped" (defScope (topS 4)) f cdv A outer s H E).A (cxOf (L2.CX P w) P w K mg base ["word", "tile"] "stepped" (defScope (topS 4)) f cdv A outer s H E).env (cxOf (L2.CX P w) P w K mg base ["word", "tile"] "stepped" (defScope (topS 4)) f cdv A outer s H E).xe := passes_of rfl
    exact (jb_one (js_ret (je_if (jt_w (jw_and (jt_gt (je_len z_len (ja_cons (je_var (i := 0)) ja_nil)) je_int) (jw_one (jt_eq hr (je_ix (je_var (i := 0)) (je_neg je_int)) (je_var (i := 1)))))) (je_slice (je_var (i := 0)) jo_none (jo_some (je_neg je_int))) (je_add (je_var (i := 0)) (je_tup (ja_cons (je_var (i := 1)) ja_nil)))))))
theorem sc_rests : FnScope ["row", "found", "tile"] ["row"] (defScope (topS 5)) := ⟨rfl, rfl, rfl, by decide +kernel, rfl, by decide +kernel, by decide +kernel⟩
theorem ok_rests {f : Addr} {fd : FuncData} (F : Fun K "rests" "rests" (topS 5) f fd) (gl : mg "rests" = some (.ref f)) (bi : Binds K fd ["row"] []) (k_stepped : Df P w K mg base "stepped" 1 ["word", "tile"] m_stepped)   : Df P w K mg base "rests" 2 ["row"] m_rests := df_ok (k := 1) F sc_rests gl bi (fun cdv A outer s H E hr => by
    have hc : (cxOf (L2.CX P w) P w K mg base ["row", "found", "tile"] "rests" (defScope (topS 5)) f cdv A outer s H E).calm = true := rfl
    have nd := sc_rests.nd
    have tk : Takes (cxOf (L2.CX P w) P w K mg base ["row", "found", "tile"] "rests" (defScope (topS 5)) f cdv A outer s H E) (fun cls d _ H => E cls d H) := takes_of rfl rfl rfl rfl
    have hp : PassesOwn (model P w) (cxOf (L2.CX P w) P w K mg base ["row", "found", "tile"] "rests" (defScope (topS 5)) f cdv A outer s H E).A (cxOf (L2.CX P w) P w K mg base ["row", "found", "tile"] "rests" (defScope (topS 5)) f cdv A outer s H E).env (cxOf (L2.CX P w) P w K mg base ["row", "found", "tile"] "rests" (defScope (topS 5)) f cdv A outer s H E).xe := passes_of rfl
    replace k_stepped := k_stepped.mono (show 1 ≤ 1 by omega)
    exact (jb_cons (js_set (i := 1) nd (je_lst (ja_cons (je_tup ja_nil) ja_nil))) (jb_cons (js_for hp hc (ji_val (je_var (i := 0))) (jg_name (i := 2) nd) (jb_one (js_expr (je_append (je_var (i := 1)) (ja_cons (je_call k_stepped hr tk (ja_cons (je_ix (je_var (i := 1)) (je_neg je_int)) (ja_cons (je_var (i := 2)) ja_nil))) ja_nil))))) (jb_one (js_ret (je_var (i := 1)))))))
theorem sc_rest : FnScope ["row"] ["row"] (defScope (topS 6)) := ⟨rfl, rfl, rfl, by decide +kernel, rfl, by decide +kernel, by decide +kernel⟩
theorem ok_rest {f : Addr} {fd : FuncData} (F : Fun K "rest" "rest" (topS 6) f fd) (gl : mg "rest" = some (.ref f)) (bi : Binds K fd ["row"] []) (k_rests : Df P w K mg base "rests" 2 ["row"] m_rests)   : Df P w K mg base "rest" 3 ["row"] m_rest := df_ok (k := 2) F sc_rest gl bi (fun cdv A outer s H E hr => by
    have hc : (cxOf (L2.CX P w) P w K mg base ["row"] "rest" (defScope (topS 6)) f cdv A outer s H E).calm = true := rfl
    have nd := sc_rest.nd
    have tk : Takes (cxOf (L2.CX P w) P w K mg base ["row"] "rest" (defScope (topS 6)) f cdv A outer s H E) (fun cls d _ H => E cls d H) := takes_of rfl rfl rfl rfl
    have hp : PassesOwn (model P w) (cxOf (L2.CX P w) P w K mg base ["row"] "rest" (defScope (topS 6)) f cdv A outer s H E).A (cxOf (L2.CX P w) P w K mg base ["row"] "rest" (defScope (topS 6)) f cdv A outer s H E).env (cxOf (L2.CX P w) P w K mg base ["row"] "rest" (defScope (topS 6)) f cdv A outer s H E).xe := passes_of rfl
    replace k_rests := k_rests.mono (show 2 ≤ 2 by omega)
    exact (jb_one (js_ret (je_ix (je_call k_rests hr tk (ja_cons (je_var (i := 0)) ja_nil)) (je_neg je_int)))))
theorem sc_walks : FnScope ["colours", "tiles", "here", "turn", "later", "far"] ["colours", "tiles"] (defScope (topS 14)) := ⟨rfl, rfl, rfl, by decide +kernel, rfl, by decide +kernel, by decide +kernel⟩
theorem ok_walks {f : Addr} {fd : FuncData} (F : Fun K "walks" "walks" (topS 14) f fd) (gl : mg "walks" = some (.ref f)) (bi : Binds K fd ["colours", "tiles"] [])  (z_range : mg (Str.ofString "range") = none)  : Df P w K mg base "walks" 1 ["colours", "tiles"] m_walks := df_ok (k := 0) F sc_walks gl bi (fun cdv A outer s H E hr => by
    have hc : (cxOf (L2.CX P w) P w K mg base ["colours", "tiles", "here", "turn", "later", "far"] "walks" (defScope (topS 14)) f cdv A outer s H E).calm = true := rfl
    have nd := sc_walks.nd
    have tk : Takes (cxOf (L2.CX P w) P w K mg base ["colours", "tiles", "here", "turn", "later", "far"] "walks" (defScope (topS 14)) f cdv A outer s H E) (fun cls d _ H => E cls d H) := takes_of rfl rfl rfl rfl
    have hp : PassesOwn (model P w) (cxOf (L2.CX P w) P w K mg base ["colours", "tiles", "here", "turn", "later", "far"] "walks" (defScope (topS 14)) f cdv A outer s H E).A (cxOf (L2.CX P w) P w K mg base ["colours", "tiles", "here", "turn", "later", "far"] "walks" (defScope (topS 14)) f cdv A outer s H E).env (cxOf (L2.CX P w) P w K mg base ["colours", "tiles", "here", "turn", "later", "far"] "walks" (defScope (topS 14)) f cdv A outer s H E).xe := passes_of rfl
    exact (jb_cons (js_set (i := 2) nd (je_add (je_lst (ja_cons je_int ja_nil)) (je_times (je_lst (ja_cons je_int ja_nil)) (je_add (je_var (i := 1)) je_int)))) (jb_cons (js_for hp hc (ji_range1 z_range (ja_cons (je_var (i := 1)) ja_nil)) (jg_name (i := 3) nd) (jb_cons (js_set (i := 4) nd (je_lst (ja_cons (je_times (je_var (i := 0)) (je_ix (je_var (i := 2)) je_int)) ja_nil))) (jb_cons (js_for hp hc (ji_range2 z_range (ja_cons je_int (ja_cons (je_add (je_var (i := 1)) je_int) ja_nil))) (jg_name (i := 5) nd) (jb_one (js_expr (je_append (je_var (i := 4)) (ja_cons (je_add (je_ix (je_var (i := 2)) (je_sub (je_var (i := 5)) je_int)) (je_times (je_sub (je_var (i := 0)) je_int) (je_ix (je_var (i := 2)) (je_add (je_var (i := 5)) je_int)))) ja_nil))))) (jb_one (js_set (i := 2) nd (je_add (je_var (i := 4)) (je_lst (ja_cons je_int ja_nil)))))))) (jb_one (js_ret (je_var (i := 2)))))))
theorem sc_walks_to : FnScope ["colours", "tiles", "far"] ["colours", "tiles", "far"] (defScope (topS 15)) := ⟨rfl, rfl, rfl, by decide +kernel, rfl, by decide +kernel, by decide +kernel⟩
theorem ok_walks_to {f : Addr} {fd : FuncData} (F : Fun K "walks_to" "walks_to" (topS 15) f fd) (gl : mg "walks_to" = some (.ref f)) (bi : Binds K fd ["colours", "tiles", "far"] []) (k_walks : Df P w K mg base "walks" 1 ["colours", "tiles"] m_walks)   : Df P w K mg base "walks_to" 2 ["colours", "tiles", "far"] m_walks_to := df_ok (k := 1) F sc_walks_to gl bi (fun cdv A outer s H E hr => by
    have hc : (cxOf (L2.CX P w) P w K mg base ["colours", "tiles", "far"] "walks_to" (defScope (topS 15)) f cdv A outer s H E).calm = true := rfl
    have nd := sc_walks_to.nd
    have tk : Takes (cxOf (L2.CX P w) P w K mg base ["colours", "tiles", "far"] "walks_to" (defScope (topS 15)) f cdv A outer s H E) (fun cls d _ H => E cls d H) := takes_of rfl rfl rfl rfl
    have hp : PassesOwn (model P w) (cxOf (L2.CX P w) P w K mg base ["colours", "tiles", "far"] "walks_to" (defScope (topS 15)) f cdv A outer s H E).A (cxOf (L2.CX P w) P w K mg base ["colours", "tiles", "far"] "walks_to" (defScope (topS 15)) f cdv A outer s H E).env (cxOf (L2.CX P w) P w K mg base ["colours", "tiles", "far"] "walks_to" (defScope (topS 15)) f cdv A outer s H E).xe := passes_of rfl
    replace k_walks := k_walks.mono (show 1 ≤ 1 by omega)
    exact (jb_one (js_ret (je_if (jt_le (je_var (i := 2)) (je_var (i := 1))) (je_ix (je_call k_walks hr tk (ja_cons (je_var (i := 0)) (ja_cons (je_var (i := 1)) ja_nil))) (je_var (i := 2))) je_int))))
theorem sc_lot_many : FnScope ["colours", "row"] ["colours", "row"] (defScope (topS 17)) := ⟨rfl, rfl, rfl, by decide +kernel, rfl, by decide +kernel, by decide +kernel⟩
theorem ok_lot_many {f : Addr} {fd : FuncData} (F : Fun K "lot_many" "lot_many" (topS 17) f fd) (gl : mg "lot_many" = some (.ref f)) (bi : Binds K fd ["colours", "row"] []) (k_rest : Df P w K mg base "rest" 3 ["row"] m_rest) (k_walks_to : Df P w K mg base "walks_to" 2 ["colours", "tiles", "far"] m_walks_to) (z_len : mg (Str.ofString "len") = none)  : Df P w K mg base "lot_many" 4 ["colours", "row"] m_lot_many := df_ok (k := 3) F sc_lot_many gl bi (fun cdv A outer s H E hr => by
    have hc : (cxOf (L2.CX P w) P w K mg base ["colours", "row"] "lot_many" (defScope (topS 17)) f cdv A outer s H E).calm = true := rfl
    have nd := sc_lot_many.nd
    have tk : Takes (cxOf (L2.CX P w) P w K mg base ["colours", "row"] "lot_many" (defScope (topS 17)) f cdv A outer s H E) (fun cls d _ H => E cls d H) := takes_of rfl rfl rfl rfl
    have hp : PassesOwn (model P w) (cxOf (L2.CX P w) P w K mg base ["colours", "row"] "lot_many" (defScope (topS 17)) f cdv A outer s H E).A (cxOf (L2.CX P w) P w K mg base ["colours", "row"] "lot_many" (defScope (topS 17)) f cdv A outer s H E).env (cxOf (L2.CX P w) P w K mg base ["colours", "row"] "lot_many" (defScope (topS 17)) f cdv A outer s H E).xe := passes_of rfl
    replace k_rest := k_rest.mono (show 3 ≤ 3 by omega)
    replace k_walks_to := k_walks_to.mono (show 2 ≤ 3 by omega)
    exact (jb_one (js_ret (je_call k_walks_to hr tk (ja_cons (je_var (i := 0)) (ja_cons (je_len z_len (ja_cons (je_var (i := 1)) ja_nil)) (ja_cons (je_len z_len (ja_cons (je_call k_rest hr tk (ja_cons (je_var (i := 1)) ja_nil)) ja_nil)) ja_nil)))))))
theorem sc_common : FnScope ["one", "other", "place", "tile", "mate"] ["one", "other"] (defScope (topS 7)) := ⟨rfl, rfl, rfl, by decide +kernel, rfl, by decide +kernel, by decide +kernel⟩
theorem ok_common {f : Addr} {fd : FuncData} (F : Fun K "common" "common" (topS 7) f fd) (gl : mg "common" = some (.ref f)) (bi : Binds K fd ["one", "other"] [])  (z_len : mg (Str.ofString "len") = none) (z_min : mg (Str.ofString "min") = none) (z_enumerate : mg (Str.ofString "enumerate") = none) (z_zip : mg (Str.ofString "zip") = none)  : Df P w K mg base "common" 1 ["one", "other"] m_common := df_ok (k := 0) F sc_common gl bi (fun cdv A outer s H E hr => by
    have hc : (cxOf (L2.CX P w) P w K mg base ["one", "other", "place", "tile", "mate"] "common" (defScope (topS 7)) f cdv A outer s H E).calm = true := rfl
    have nd := sc_common.nd
    have tk : Takes (cxOf (L2.CX P w) P w K mg base ["one", "other", "place", "tile", "mate"] "common" (defScope (topS 7)) f cdv A outer s H E) (fun cls d _ H => E cls d H) := takes_of rfl rfl rfl rfl
    have hp : PassesOwn (model P w) (cxOf (L2.CX P w) P w K mg base ["one", "other", "place", "tile", "mate"] "common" (defScope (topS 7)) f cdv A outer s H E).A (cxOf (L2.CX P w) P w K mg base ["one", "other", "place", "tile", "mate"] "common" (defScope (topS 7)) f cdv A outer s H E).env (cxOf (L2.CX P w) P w K mg base ["one", "other", "place", "tile", "mate"] "common" (defScope (topS 7)) f cdv A outer s H E).xe := passes_of rfl
    exact (jb_cons (js_for hp hc (ji_enumZip z_enumerate z_zip (ja_cons (je_var (i := 0)) (ja_cons (je_var (i := 1)) ja_nil))) (jg_tup hc (jgs_cons (jg_name (i := 2) nd) (jgs_cons (jg_tup hc (jgs_cons (jg_name (i := 3) nd) (jgs_cons (jg_name (i := 4) nd) jgs_nil))) jgs_nil))) (jb_one (js_if (jt_ne hr (je_var (i := 3)) (je_var (i := 4))) (jb_one (js_ret (je_var (i := 2)))) jb_nil))) (jb_one (js_ret (je_min2 hc z_min (ja_cons (je_len z_len (ja_cons (je_var (i := 0)) ja_nil)) (ja_cons (je_len z_len (ja_cons (je_var (i := 1)) ja_nil)) ja_nil)))))))
theorem sc_apart : FnScope ["one", "other"] ["one", "other"] (defScope (topS 8)) := ⟨rfl, rfl, rfl, by decide +kernel, rfl, by decide +kernel, by decide +kernel⟩
theorem ok_apart {f : Addr} {fd : FuncData} (F : Fun K "apart" "apart" (topS 8) f fd) (gl : mg "apart" = some (.ref f)) (bi : Binds K fd ["one", "other"] []) (k_common : Df P w K mg base "common" 1 ["one", "other"] m_common) (z_len : mg (Str.ofString "len") = none)  : Df P w K mg base "apart" 2 ["one", "other"] m_apart := df_ok (k := 1) F sc_apart gl bi (fun cdv A outer s H E hr => by
    have hc : (cxOf (L2.CX P w) P w K mg base ["one", "other"] "apart" (defScope (topS 8)) f cdv A outer s H E).calm = true := rfl
    have nd := sc_apart.nd
    have tk : Takes (cxOf (L2.CX P w) P w K mg base ["one", "other"] "apart" (defScope (topS 8)) f cdv A outer s H E) (fun cls d _ H => E cls d H) := takes_of rfl rfl rfl rfl
    have hp : PassesOwn (model P w) (cxOf (L2.CX P w) P w K mg base ["one", "other"] "apart" (defScope (topS 8)) f cdv A outer s H E).A (cxOf (L2.CX P w) P w K mg base ["one", "other"] "apart" (defScope (topS 8)) f cdv A outer s H E).env (cxOf (L2.CX P w) P w K mg base ["one", "other"] "apart" (defScope (topS 8)) f cdv A outer s H E).xe := passes_of rfl
    replace k_common := k_common.mono (show 1 ≤ 1 by omega)
    exact (jb_one (js_ret (je_sub (je_add (je_len z_len (ja_cons (je_var (i := 0)) ja_nil)) (je_len z_len (ja_cons (je_var (i := 1)) ja_nil))) (je_times je_int (je_call k_common hr tk (ja_cons (je_var (i := 0)) (ja_cons (je_var (i := 1)) ja_nil))))))))
theorem sc_row_at : FnScope ["colours", "row", "number", "goal", "found", "word", "left", "place", "colour", "many"] ["colours", "row", "number"] (defScope (topS 18)) := ⟨rfl, rfl, rfl, by decide +kernel, rfl, by decide +kernel, by decide +kernel⟩
theorem ok_row_at {f : Addr} {fd : FuncData} (F : Fun K "row_at" "row_at" (topS 18) f fd) (gl : mg "row_at" = some (.ref f)) (bi : Binds K fd ["colours", "row", "number"] []) (k_stepped : Df P w K mg base "stepped" 1 ["word", "tile"] m_stepped) (k_apart : Df P w K mg base "apart" 2 ["one", "other"] m_apart) (k_walks_to : Df P w K mg base "walks_to" 2 ["colours", "tiles", "far"] m_walks_to) (k_rest : Df P w K mg base "rest" 3 ["row"] m_rest) (k_lot_many : Df P w K mg base "lot_many" 4 ["colours", "row"] m_lot_many) (z_len : mg (Str.ofString "len") = none) (z_range : mg (Str.ofString "range") = none)  : Df P w K mg base "row_at" 5 ["colours", "row", "number"] m_row_at := df_ok (k := 4) F sc_row_at gl bi (fun cdv A outer s H E hr => by
    have hc : (cxOf (L2.CX P w) P w K mg base ["colours", "row", "number", "goal", "found", "word", "left", "place", "colour", "many"] "row_at" (defScope (topS 18)) f cdv A outer s H E).calm = true := rfl
    have nd := sc_row_at.nd
    have tk : Takes (cxOf (L2.CX P w) P w K mg base ["colours", "row", "number", "goal", "found", "word", "left", "place", "colour", "many"] "row_at" (defScope (topS 18)) f cdv A outer s H E) (fun cls d _ H => E cls d H) := takes_of rfl rfl rfl rfl
    have hp : PassesOwn (model P w) (cxOf (L2.CX P w) P w K mg base ["colours", "row", "number", "goal", "found", "word", "left", "place", "colour", "many"] "row_at" (defScope (topS 18)) f cdv A outer s H E).A (cxOf (L2.CX P w) P w K mg base ["colours", "row", "number", "goal", "found", "word", "left", "place", "colour", "many"] "row_at" (defScope (topS 18)) f cdv A outer s H E).env (cxOf (L2.CX P w) P w K mg base ["colours", "row", "number", "goal", "found", "word", "left", "place", "colour", "many"] "row_at" (defScope (topS 18)) f cdv A outer s H E).xe := passes_of rfl
    replace k_stepped := k_stepped.mono (show 1 ≤ 4 by omega)
    replace k_apart := k_apart.mono (show 2 ≤ 4 by omega)
    replace k_walks_to := k_walks_to.mono (show 2 ≤ 4 by omega)
    replace k_rest := k_rest.mono (show 3 ≤ 4 by omega)
    replace k_lot_many := k_lot_many.mono (show 4 ≤ 4 by omega)
    exact (jb_cons (js_if (jt_not (jt_chain op_le op_lt (op2_cmp _) (op2_cmp _) je_int (je_var (i := 2)) (je_call k_lot_many hr tk (ja_cons (je_var (i := 0)) (ja_cons (je_var (i := 1)) ja_nil))))) (jb_one js_never) jb_nil) (jb_cons (js_asg (je_tup (ja_cons (je_call k_rest hr tk (ja_cons (je_var (i := 1)) ja_nil)) (ja_cons (je_tup ja_nil) (ja_cons (je_tup ja_nil) (ja_cons (je_var (i := 2)) ja_nil))))) (jg_tup hc (jgs_cons (jg_name (i := 3) nd) (jgs_cons (jg_name (i := 4) nd) (jgs_cons (jg_name (i := 5) nd) (jgs_cons (jg_name (i := 6) nd) jgs_nil)))))) (jb_cons (js_for hp hc (ji_range1 z_range (ja_cons (je_len z_len (ja_cons (je_var (i := 1)) ja_nil)) ja_nil)) (jg_name (i := 7) nd) (jb_one (js_for hp hc (ji_range1 z_range (ja_cons (je_var (i := 0)) ja_nil)) (jg_name (i := 8) nd) (jb_cons (js_set (i := 9) nd (je_call k_walks_to hr tk (ja_cons (je_var (i := 0)) (ja_cons (je_sub (je_sub (je_len z_len (ja_cons (je_var (i := 1)) ja_nil)) (je_var (i := 7))) je_int) (ja_cons (je_call k_apart hr tk (ja_cons (je_call k_stepped hr tk (ja_cons (je_var (i := 5)) (ja_cons (je_var (i := 8)) ja_nil))) (ja_cons (je_var (i := 3)) ja_nil))) ja_nil))))) (jb_cons (js_if (jt_lt (je_var (i := 6)) (je_var (i := 9))) (jb_cons (js_par2 (i := 4) (j := 5) hc nd (ja_cons (je_add (je_var (i := 4)) (je_tup (ja_cons (je_var (i := 8)) ja_nil))) (ja_cons (je_call k_stepped hr tk (ja_cons (je_var (i := 5)) (ja_cons (je_var (i := 8)) ja_nil))) ja_nil))) (jb_one js_bk)) jb_nil) (jb_one (js_isub nd (je_var (i := 9))))))))) (jb_one (js_ret (je_var (i := 4))))))))
theorem sc_many_with : FnScope ["colours", "tiles", "length"] ["colours", "tiles", "length"] (defScope (topS 16)) := ⟨rfl, rfl, rfl, by decide +kernel, rfl, by decide +kernel, by decide +kernel⟩
theorem ok_many_with {f : Addr} {fd : FuncData} (F : Fun K "many_with" "many_with" (topS 16) f fd) (gl : mg "many_with" = some (.ref f)) (bi : Binds K fd ["colours", "tiles", "length"] []) (k_walks_to : Df P w K mg base "walks_to" 2 ["colours", "tiles", "far"] m_walks_to)   : Df P w K mg base "many_with" 3 ["colours", "tiles", "length"] m_many_with := df_ok (k := 2) F sc_many_with gl bi (fun cdv A outer s H E hr => by
    have hc : (cxOf (L2.CX P w) P w K mg base ["colours", "tiles", "length"] "many_with" (defScope (topS 16)) f cdv A outer s H E).calm = true := rfl
    have nd := sc_many_with.nd
    have tk : Takes (cxOf (L2.CX P w) P w K mg base ["colours", "tiles", "length"] "many_with" (defScope (topS 16)) f cdv A outer s H E) (fun cls d _ H => E cls d H) := takes_of rfl rfl rfl rfl
    have hp : PassesOwn (model P w) (cxOf (L2.CX P w) P w K mg base ["colours", "tiles", "length"] "many_with" (defScope (topS 16)) f cdv A outer s H E).A (cxOf (L2.CX P w) P w K mg base ["colours", "tiles", "length"] "many_with" (defScope (topS 16)) f cdv A outer s H E).env (cxOf (L2.CX P w) P w K mg base ["colours", "tiles", "length"] "many_with" (defScope (topS 16)) f cdv A outer s H E).xe := passes_of rfl
    replace k_walks_to := k_walks_to.mono (show 2 ≤ 2 by omega)
    exact (jb_cons (js_if (jt_w (jw_and (jt_eq hr (je_var (i := 0)) je_int) (jw_one (jt_gt (je_var (i := 2)) je_int)))) (jb_one (js_ret je_int)) jb_nil) (jb_one (js_ret (je_call k_walks_to hr tk (ja_cons (je_var (i := 0)) (ja_cons (je_var (i := 1)) (ja_cons (je_var (i := 2)) ja_nil))))))))
theorem sc_law_gap : FnScope ["_law_word", "_law_goal", "_law_k"] ["_law_word", "_law_goal"] (defScope (topS 26)) := ⟨rfl, rfl, rfl, by decide +kernel, rfl, by decide +kernel, by decide +kernel⟩
theorem ok_law_gap {f : Addr} {fd : FuncData} (F : Fun K "_law_gap" "_law_gap" (topS 26) f fd) (gl : mg "_law_gap" = some (.ref f)) (bi : Binds K fd ["_law_word", "_law_goal"] [])  (z_len : mg (Str.ofString "len") = none) (z_min : mg (Str.ofString "min") = none)  : Df P w K mg base "_law_gap" 1 ["_law_word", "_law_goal"] m_law_gap := df_ok (k := 0) F sc_law_gap gl bi (fun cdv A outer s H E hr => by
    have hc : (cxOf (L2.CX P w) P w K mg base ["_law_word", "_law_goal", "_law_k"] "_law_gap" (defScope (topS 26)) f cdv A outer s H E).calm = true := rfl
    have nd := sc_law_gap.nd
    have tk : Takes (cxOf (L2.CX P w) P w K mg base ["_law_word", "_law_goal", "_law_k"] "_law_gap" (defScope (topS 26)) f cdv A outer s H E) (fun cls d _ H => E cls d H) := takes_of rfl rfl rfl rfl
    have hp : PassesOwn (model P w) (cxOf (L2.CX P w) P w K mg base ["_law_word", "_law_goal", "_law_k"] "_law_gap" (defScope (topS 26)) f cdv A outer s H E).A (cxOf (L2.CX P w) P w K mg base ["_law_word", "_law_goal", "_law_k"] "_law_gap" (defScope (topS 26)) f cdv A outer s H E).env (cxOf (L2.CX P w) P w K mg base ["_law_word", "_law_goal", "_law_k"] "_law_gap" (defScope (topS 26)) f cdv A outer s H E).xe := passes_of rfl
    exact (jb_cons (js_set (i := 2) nd je_int) (jb_cons (js_while hp (jt_w (jw_and (jt_lt (je_var (i := 2)) (je_min2 hc z_min (ja_cons (je_len z_len (ja_cons (je_var (i := 0)) ja_nil)) (ja_cons (je_len z_len (ja_cons (je_var (i := 1)) ja_nil)) ja_nil)))) (jw_one (jt_eq hr (je_ix (je_var (i := 0)) (je_var (i := 2))) (je_ix (je_var (i := 1)) (je_var (i := 2))))))) (jb_one (js_set (i := 2) nd (je_add (je_var (i := 2)) je_int)))) (jb_one (js_ret (je_sub (je_add (je_len z_len (ja_cons (je_var (i := 0)) ja_nil)) (je_len z_len (ja_cons (je_var (i := 1)) ja_nil))) (je_times je_int (je_var (i := 2)))))))))
theorem sc_law_words : FnScope ["_law_line_here", "_law_found", "_law_shade", "_law_word"] ["_law_line_here"] (defScope (topS 24)) := ⟨rfl, rfl, rfl, by decide +kernel, rfl, by decide +kernel, by decide +kernel⟩
theorem ok_law_words {f : Addr} {fd : FuncData} (F : Fun K "_law_words" "_law_words" (topS 24) f fd) (gl : mg "_law_words" = some (.ref f)) (bi : Binds K fd ["_law_line_here"] [])    : Df P w K mg base "_law_words" 1 ["_law_line_here"] m_law_words := df_ok (k := 0) F sc_law_words gl bi (fun cdv A outer s H E hr => by
    have hc : (cxOf (L2.CX P w) P w K mg base ["_law_line_here", "_law_found", "_law_shade", "_law_word"] "_law_words" (defScope (topS 24)) f cdv A outer s H E).calm = true := rfl
    have nd := sc_law_words.nd
    have tk : Takes (cxOf (L2.CX P w) P w K mg base ["_law_line_here", "_law_found", "_law_shade", "_law_word"] "_law_words" (defScope (topS 24)) f cdv A outer s H E) (fun cls d _ H => E cls d H) := takes_of rfl rfl rfl rfl
    have hp : PassesOwn (model P w) (cxOf (L2.CX P w) P w K mg base ["_law_line_here", "_law_found", "_law_shade", "_law_word"] "_law_words" (defScope (topS 24)) f cdv A outer s H E).A (cxOf (L2.CX P w) P w K mg base ["_law_line_here", "_law_found", "_law_shade", "_law_word"] "_law_words" (defScope (topS 24)) f cdv A outer s H E).env (cxOf (L2.CX P w) P w K mg base ["_law_line_here", "_law_found", "_law_shade", "_law_word"] "_law_words" (defScope (topS 24)) f cdv A outer s H E).xe := passes_of rfl
    exact (jb_cons (js_set (i := 1) nd (je_lst (ja_cons (je_tup ja_nil) ja_nil))) (jb_cons (js_for hp hc (ji_val (je_var (i := 0))) (jg_name (i := 2) nd) (jb_cons (js_set (i := 3) nd (je_ix (je_var (i := 1)) (je_neg je_int))) (jb_one (js_expr (je_append (je_var (i := 1)) (ja_cons (je_if (jt_eq hr (je_slice (je_var (i := 3)) (jo_some (je_neg je_int)) jo_none) (je_tup (ja_cons (je_var (i := 2)) ja_nil))) (je_slice (je_var (i := 3)) jo_none (jo_some (je_neg je_int))) (je_add (je_var (i := 3)) (je_tup (ja_cons (je_var (i := 2)) ja_nil)))) ja_nil)))))) (jb_one (js_ret (je_var (i := 1)))))))
theorem sc_law_goes_on : FnScope ["_law_shades", "_law_core", "_law_begun", "_law_left_so"] ["_law_shades", "_law_core", "_law_begun", "_law_left_so"] (defScope (topS 27)) := ⟨rfl, rfl, rfl, by decide +kernel, rfl, by decide +kernel, by decide +kernel⟩
theorem ok_law_goes_on {f : Addr} {fd : FuncData} (F : Fun K "_law_goes_on" "_law_goes_on" (topS 27) f fd) (gl : mg "_law_goes_on" = some (.ref f)) (bi : Binds K fd ["_law_shades", "_law_core", "_law_begun", "_law_left_so"] []) (k_law_words : Df P w K mg base "_law_words" 1 ["_law_line_here"] m_law_words) (k_law_gap : Df P w K mg base "_law_gap" 1 ["_law_word", "_law_goal"] m_law_gap) (k_many_with : Df P w K mg base "many_with" 3 ["colours", "tiles", "length"] m_many_with)   : Df P w K mg base "_law_goes_on" 4 ["_law_shades", "_law_core", "_law_begun", "_law_left_so"] m_law_goes_on := df_ok (k := 3) F sc_law_goes_on gl bi (fun cdv A outer s H E hr => by
    have hc : (cxOf (L2.CX P w) P w K mg base ["_law_shades", "_law_core", "_law_begun", "_law_left_so"] "_law_goes_on" (defScope (topS 27)) f cdv A outer s H E).calm = true := rfl
    have nd := sc_law_goes_on.nd
    have tk : Takes (cxOf (L2.CX P w) P w K mg base ["_law_shades", "_law_core", "_law_begun", "_law_left_so"] "_law_goes_on" (defScope (topS 27)) f cdv A outer s H E) (fun cls d _ H => E cls d H) := takes_of rfl rfl rfl rfl
    have hp : PassesOwn (model P w) (cxOf (L2.CX P w) P w K mg base ["_law_shades", "_law_core", "_law_begun", "_law_left_so"] "_law_goes_on" (defScope (topS 27)) f cdv A outer s H E).A (cxOf (L2.CX P w) P w K mg base ["_law_shades", "_law_core", "_law_begun", "_law_left_so"] "_law_goes_on" (defScope (topS 27)) f cdv A outer s H E).env (cxOf (L2.CX P w) P w K mg base ["_law_shades", "_law_core", "_law_begun", "_law_left_so"] "_law_goes_on" (defScope (topS 27)) f cdv A outer s H E).xe := passes_of rfl
    replace k_law_words := k_law_words.mono (show 1 ≤ 3 by omega)
    replace k_law_gap := k_law_gap.mono (show 1 ≤ 3 by omega)
    replace k_many_with := k_many_with.mono (show 3 ≤ 3 by omega)
    exact (jb_one (js_ret (je_gt (je_call k_many_with hr tk (ja_cons (je_var (i := 0)) (ja_cons (je_var (i := 3)) (ja_cons (je_call k_law_gap hr tk (ja_cons (je_ix (je_call k_law_words hr tk (ja_cons (je_var (i := 2)) ja_nil)) (je_neg je_int)) (ja_cons (je_var (i := 1)) ja_nil))) ja_nil)))) je_int))))
theorem sc_law_shades_at : FnScope ["_law_shades", "_law_core", "_law_line_here", "_law_spot", "_law_left_so", "_law_shade"] ["_law_shades", "_law_core", "_law_line_here", "_law_spot"] (defScope (topS 28)) := ⟨rfl, rfl, rfl, by decide +kernel, rfl, by decide +kernel, by decide +kernel⟩
theorem ok_law_shades_at {f : Addr} {fd : FuncData} (F : Fun K "_law_shades_at" "_law_shades_at" (topS 28) f fd) (gl : mg "_law_shades_at" = some (.ref f)) (bi : Binds K fd ["_law_shades", "_law_core", "_law_line_here", "_law_spot"] []) (k_law_goes_on : Df P w K mg base "_law_goes_on" 4 ["_law_shades", "_law_core", "_law_begun", "_law_left_so"] m_law_goes_on) (z_range : mg (Str.ofString "range") = none) (z_len : mg (Str.ofString "len") = none)  : Df P w K mg base "_law_shades_at" 5 ["_law_shades", "_law_core", "_law_line_here", "_law_spot"] m_law_shades_at := df_ok (k := 4) F sc_law_shades_at gl bi (fun cdv A outer s H E hr => by
    have hc : (cxOf (L2.CX P w) P w K mg base ["_law_shades", "_law_core", "_law_line_here", "_law_spot", "_law_left_so", "_law_shade"] "_law_shades_at" (defScope (topS 28)) f cdv A outer s H E).calm = true := rfl
    have nd := sc_law_shades_at.nd
    have tk : Takes (cxOf (L2.CX P w) P w K mg base ["_law_shades", "_law_core", "_law_line_here", "_law_spot", "_law_left_so", "_law_shade"] "_law_shades_at" (defScope (topS 28)) f cdv A outer s H E) (fun cls d _ H => E cls d H) := takes_of rfl rfl rfl rfl
    have hp : PassesOwn (model P w) (cxOf (L2.CX P w) P w K mg base ["_law_shades", "_law_core", "_law_line_here", "_law_spot", "_law_left_so", "_law_shade"] "_law_shades_at" (defScope (topS 28)) f cdv A outer s H E).A (cxOf (L2.CX P w) P w K mg base ["_law_shades", "_law_core", "_law_line_here", "_law_spot", "_law_left_so", "_law_shade"] "_law_shades_at" (defScope (topS 28)) f cdv A outer s H E).env (cxOf (L2.CX P w) P w K mg base ["_law_shades", "_law_core", "_law_line_here", "_law_spot", "_law_left_so", "_law_shade"] "_law_shades_at" (defScope (topS 28)) f cdv A outer s H E).xe := passes_of rfl
    replace k_law_goes_on := k_law_goes_on.mono (show 4 ≤ 4 by omega)
    exact (jb_cons (js_set (i := 4) nd (je_sub (je_sub (je_len z_len (ja_cons (je_var (i := 2)) ja_nil)) (je_var (i := 3))) je_int)) (jb_one (js_ret (je_comp (own := [(Str.ofString "_law_shade", 5)]) hc nd (ji_range1 z_range (ja_cons (je_var (i := 0)) ja_nil)) (blk_of rfl) (slots_nm (by decide)) (fun _ _ _ _ _ => (jg_name (i := 5) nd)) (fun _ _ _ _ _ => (jts_one (jt_val (je_call k_law_goes_on hr takesN (ja_cons (je_var (i := 0)) (ja_cons (je_var (i := 1)) (ja_cons (je_add (je_slice (je_var (i := 2)) jo_none (jo_some (je_var (i := 3)))) (je_tup (ja_cons (je_var (i := 5)) ja_nil))) (ja_cons (je_var (i := 4)) ja_nil)))))))) (fun _ _ _ _ _ => (je_var (i := 5))))))))
theorem sc_bar : FnScope ["one", "other", "ends"] ["one", "other"] (defScope (topS 10)) := ⟨rfl, rfl, rfl, by decide +kernel, rfl, by decide +kernel, by decide +kernel⟩
theorem ok_bar {f : Addr} {fd : FuncData} (F : Fun K "bar" "bar" (topS 10) f fd) (gl : mg "bar" = some (.ref f)) (bi : Binds K fd ["one", "other"] []) (k_rest : Df P w K mg base "rest" 3 ["row"] m_rest) (z_len : mg (Str.ofString "len") = none)  : Df P w K mg base "bar" 4 ["one", "other"] m_bar := df_ok (k := 3) F sc_bar gl bi (fun cdv A outer s H E hr => by
    have hc : (cxOf (L2.CX P w) P w K mg base ["one", "other", "ends"] "bar" (defScope (topS 10)) f cdv A outer s H E).calm = true := rfl
    have nd := sc_bar.nd
    have tk : Takes (cxOf (L2.CX P w) P w K mg base ["one", "other", "ends"] "bar" (defScope (topS 10)) f cdv A outer s H E) (fun cls d _ H => E cls d H) := takes_of rfl rfl rfl rfl
    have hp : PassesOwn (model P w) (cxOf (L2.CX P w) P w K mg base ["one", "other", "ends"] "bar" (defScope (topS 10)) f cdv A outer s H E).A (cxOf (L2.CX P w) P w K mg base ["one", "other", "ends"] "bar" (defScope (topS 10)) f cdv A outer s H E).env (cxOf (L2.CX P w) P w K mg base ["one", "other", "ends"] "bar" (defScope (topS 10)) f cdv A outer s H E).xe := passes_of rfl
    replace k_rest := k_rest.mono (show 3 ≤ 3 by omega)
    exact (jb_cons (js_if (jt_ne hr (je_len z_len (ja_cons (je_var (i := 0)) ja_nil)) (je_len z_len (ja_cons (je_var (i := 1)) ja_nil))) (jb_one (js_ret je_str)) jb_nil) (jb_cons (js_set (i := 2) nd (je_tup (ja_cons (je_call k_rest hr tk (ja_cons (je_var (i := 0)) ja_nil)) (ja_cons (je_call k_rest hr tk (ja_cons (je_var (i := 1)) ja_nil)) ja_nil)))) (jb_one (js_ret (je_if (jt_eq hr (je_ix (je_var (i := 2)) je_int) (je_ix (je_var (i := 2)) je_int)) je_non (je_var (i := 2))))))))
theorem sc_leads : FnScope ["one", "other"] ["one", "other"] (defScope (topS 11)) := ⟨rfl, rfl, rfl, by decide +kernel, rfl, by decide +kernel, by decide +kernel⟩
theorem ok_leads {f : Addr} {fd : FuncData} (F : Fun K "leads" "leads" (topS 11) f fd) (gl : mg "leads" = some (.ref f)) (bi : Binds K fd ["one", "other"] []) (k_bar : Df P w K mg base "bar" 4 ["one", "other"] m_bar)   : Df P w K mg base "leads" 5 ["one", "other"] m_leads := df_ok (k := 4) F sc_leads gl bi (fun cdv A outer s H E hr => by
    have hc : (cxOf (L2.CX P w) P w K mg base ["one", "other"] "leads" (defScope (topS 11)) f cdv A outer s H E).calm = true := rfl
    have nd := sc_leads.nd
    have tk : Takes (cxOf (L2.CX P w) P w K mg base ["one", "other"] "leads" (defScope (topS 11)) f cdv A outer s H E) (fun cls d _ H => E cls d H) := takes_of rfl rfl rfl rfl
    have hp : PassesOwn (model P w) (cxOf (L2.CX P w) P w K mg base ["one", "other"] "leads" (defScope (topS 11)) f cdv A outer s H E).A (cxOf (L2.CX P w) P w K mg base ["one", "other"] "leads" (defScope (topS 11)) f cdv A outer s H E).env (cxOf (L2.CX P w) P w K mg base ["one", "other"] "leads" (defScope (topS 11)) f cdv A outer s H E).xe := passes_of rfl
    replace k_bar := k_bar.mono (show 4 ≤ 4 by omega)
    exact (jb_one (js_ret (je_is (je_call k_bar hr tk (ja_cons (je_var (i := 0)) (ja_cons (je_var (i := 1)) ja_nil))) je_non))))
theorem sc_look_leads : FnScope ["one", "other", "reason"] ["one", "other"] (defScope (topS 12)) := ⟨rfl, rfl, rfl, by decide +kernel, rfl, by decide +kernel, by decide +kernel⟩
theorem ok_look_leads {f : Addr} {fd : FuncData} (F : Fun K "look_leads" "look_leads" (topS 12) f fd) (gl : mg "look_leads" = some (.ref f)) (bi : Binds K fd ["one", "other"] []) (k_bar : Df P w K mg base "bar" 4 ["one", "other"] m_bar)   : Df P w K mg base "look_leads" 5 ["one", "other"] m_look_leads := df_ok (k := 4) F sc_look_leads gl bi (fun cdv A outer s H E hr => by
    have hc : (cxOf (L2.CX P w) P w K mg base ["one", "other", "reason"] "look_leads" (defScope (topS 12)) f cdv A outer s H E).calm = true := rfl
    have nd := sc_look_leads.nd
    have tk : Takes (cxOf (L2.CX P w) P w K mg base ["one", "other", "reason"] "look_leads" (defScope (topS 12)) f cdv A outer s H E) (fun cls d _ H => E cls d H) := takes_of rfl rfl rfl rfl
    have hp : PassesOwn (model P w) (cxOf (L2.CX P w) P w K mg base ["one", "other", "reason"] "look_leads" (defScope (topS 12)) f cdv A outer s H E).A (cxOf (L2.CX P w) P w K mg base ["one", "other", "reason"] "look_leads" (defScope (topS 12)) f cdv A outer s H E).env (cxOf (L2.CX P w) P w K mg base ["one", "other", "reason"] "look_leads" (defScope (topS 12)) f cdv A outer s H E).xe := passes_of rfl
    replace k_bar := k_bar.mono (show 4 ≤ 4 by omega)
    exact (jb_cons (js_set (i := 2) nd (je_call k_bar hr tk (ja_cons (je_var (i := 0)) (ja_cons (je_var (i := 1)) ja_nil)))) (jb_one (js_if (jt_isNot (je_var (i := 2)) je_non) (jb_one js_never) jb_nil))))
theorem sc_number_of : FnScope ["colours", "row", "other", "goal", "words", "found", "place", "tile", "colour"] ["colours", "row", "other"] (defScope (topS 19)) := ⟨rfl, rfl, rfl, by decide +kernel, rfl, by decide +kernel, by decide +kernel⟩
theorem ok_number_of {f : Addr} {fd : FuncData} (F : Fun K "number_of" "number_of" (topS 19) f fd) (gl : mg "number_of" = some (.ref f)) (bi : Binds K fd ["colours", "row", "other"] []) (k_stepped : Df P w K mg base "stepped" 1 ["word", "tile"] m_stepped) (k_apart : Df P w K mg base "apart" 2 ["one", "other"] m_apart) (k_walks_to : Df P w K mg base "walks_to" 2 ["colours", "tiles", "far"] m_walks_to) (k_rests : Df P w K mg base "rests" 2 ["row"] m_rests) (k_rest : Df P w K mg base "rest" 3 ["row"] m_rest) (k_look_leads : Df P w K mg base "look_leads" 5 ["one", "other"] m_look_leads) (z_enumerate : mg (Str.ofString "enumerate") = none) (z_range : mg (Str.ofString "range") = none) (z_len : mg (Str.ofString "len") = none)  : Df P w K mg base "number_of" 6 ["colours", "row", "other"] m_number_of := df_ok (k := 5) F sc_number_of gl bi (fun cdv A outer s H E hr => by
    have hc : (cxOf (L2.CX P w) P w K mg base ["colours", "row", "other", "goal", "words", "found", "place", "tile", "colour"] "number_of" (defScope (topS 19)) f cdv A outer s H E).calm = true := rfl
    have nd := sc_number_of.nd
    have tk : Takes (cxOf (L2.CX P w) P w K mg base ["colours", "row", "other", "goal", "words", "found", "place", "tile", "colour"] "number_of" (defScope (topS 19)) f cdv A outer s H E) (fun cls d _ H => E cls d H) := takes_of rfl rfl rfl rfl
    have hp : PassesOwn (model P w) (cxOf (L2.CX P w) P w K mg base ["colours", "row", "other", "goal", "words", "found", "place", "tile", "colour"] "number_of" (defScope (topS 19)) f cdv A outer s H E).A (cxOf (L2.CX P w) P w K mg base ["colours", "row", "other", "goal", "words", "found", "place", "tile", "colour"] "number_of" (defScope (topS 19)) f cdv A outer s H E).env (cxOf (L2.CX P w) P w K mg base ["colours", "row", "other", "goal", "words", "found", "place", "tile", "colour"] "number_of" (defScope (topS 19)) f cdv A outer s H E).xe := passes_of rfl
    replace k_stepped := k_stepped.mono (show 1 ≤ 5 by omega)
    replace k_apart := k_apart.mono (show 2 ≤ 5 by omega)
    replace k_walks_to := k_walks_to.mono (show 2 ≤ 5 by omega)
    replace k_rests := k_rests.mono (show 2 ≤ 5 by omega)
    replace k_rest := k_rest.mono (show 3 ≤ 5 by omega)
    replace k_look_leads := k_look_leads.mono (show 5 ≤ 5 by omega)
    exact (jb_cons (js_expr (je_call k_look_leads hr tk (ja_cons (je_var (i := 1)) (ja_cons (je_var (i := 2)) ja_nil)))) (jb_cons (js_par3 (i := 3) (j := 4) (l := 5) hc nd (ja_cons (je_call k_rest hr tk (ja_cons (je_var (i := 1)) ja_nil)) (ja_cons (je_call k_rests hr tk (ja_cons (je_var (i := 2)) ja_nil)) (ja_cons je_int ja_nil)))) (jb_cons (js_for hp hc (ji_enum z_enumerate (ja_cons (je_var (i := 2)) ja_nil)) (jg_tup hc (jgs_cons (jg_name (i := 6) nd) (jgs_cons (jg_name (i := 7) nd) jgs_nil))) (jb_one (js_for hp hc (ji_range1 z_range (ja_cons (je_var (i := 7)) ja_nil)) (jg_name (i := 8) nd) (jb_one (js_iadd nd (je_call k_walks_to hr tk (ja_cons (je_var (i := 0)) (ja_cons (je_sub (je_sub (je_len z_len (ja_cons (je_var (i := 2)) ja_nil)) (je_var (i := 6))) je_int) (ja_cons (je_call k_apart hr tk (ja_cons (je_call k_stepped hr tk (ja_cons (je_ix (je_var (i := 4)) (je_var (i := 6))) (ja_cons (je_var (i := 8)) ja_nil))) (ja_cons (je_var (i := 3)) ja_nil))) ja_nil))))))))) (jb_one (js_ret (je_var (i := 5))))))))
theorem sc_law_right : FnScope ["_law_box_here", "_law_shades", "_law_line_here", "_law_core", "_law_full", "_law_rank", "_law_mine", "_law_its", "_law_at", "_law_some", "_law_spot"] ["_law_box_here"] (defScope (topS 29)) := ⟨rfl, rfl, rfl, by decide +kernel, rfl, by decide +kernel, by decide +kernel⟩
theorem ok_law_right {f : Addr} {fd : FuncData} (F : Fun K "_law_right" "_law_right" (topS 29) f fd) (gl : mg "_law_right" = some (.ref f)) (bi : Binds K fd ["_law_box_here"] []) (k_law_shades_at : Df P w K mg base "_law_shades_at" 5 ["_law_shades", "_law_core", "_law_line_here", "_law_spot"] m_law_shades_at) (k_leads : Df P w K mg base "leads" 5 ["one", "other"] m_leads) (k_row_at : Df P w K mg base "row_at" 5 ["colours", "row", "number"] m_row_at) (k_number_of : Df P w K mg base "number_of" 6 ["colours", "row", "other"] m_number_of) (k_law_take : Df P w K mg base "_law_take" 9 ["_law_box_here", "_law_below"] (m_law_take 8)) (k_lot_many : Df P w K mg base "lot_many" 4 ["colours", "row"] m_lot_many) (k_law_words : Df P w K mg base "_law_words" 1 ["_law_line_here"] m_law_words) (k_law_line : Df P w K mg base "_law_line" 10 ["_law_box_here", "_law_size", "_law_shades"] m_law_line) (z_len : mg (Str.ofString "len") = none) (z_range : mg (Str.ofString "range") = none) (z_min : mg (Str.ofString "min") = none) (z_max : mg (Str.ofString "max") = none) (z_all : mg (Str.ofString "all") = none)  : Df P w K mg base "_law_right" 11 ["_law_box_here"] m_law_right := df_ok (k := 10) F sc_law_right gl bi (fun cdv A outer s H E hr => by
    have hc : (cxOf (L2.CX P w) P w K mg base ["_law_box_here", "_law_shades", "_law_line_here", "_law_core", "_law_full", "_law_rank", "_law_mine", "_law_its", "_law_at", "_law_some", "_law_spot"] "_law_right" (defScope (topS 29)) f cdv A outer s H E).calm = true := rfl
    have nd := sc_law_right.nd
    have tk : Takes (cxOf (L2.CX P w) P w K mg base ["_law_box_here", "_law_shades", "_law_line_here", "_law_core", "_law_full", "_law_rank", "_law_mine", "_law_its", "_law_at", "_law_some", "_law_spot"] "_law_right" (defScope (topS 29)) f cdv A outer s H E) (fun cls d _ H => E cls d H) := takes_of rfl rfl rfl rfl
    have hp : PassesOwn (model P w) (cxOf (L2.CX P w) P w K mg base ["_law_box_here", "_law_shades", "_law_line_here", "_law_core", "_law_full", "_law_rank", "_law_mine", "_law_its", "_law_at", "_law_some", "_law_spot"] "_law_right" (defScope (topS 29)) f cdv A outer s H E).A (cxOf (L2.CX P w) P w K mg base ["_law_box_here", "_law_shades", "_law_line_here", "_law_core", "_law_full", "_law_rank", "_law_mine", "_law_its", "_law_at", "_law_some", "_law_spot"] "_law_right" (defScope (topS 29)) f cdv A outer s H E).env (cxOf (L2.CX P w) P w K mg base ["_law_box_here", "_law_shades", "_law_line_here", "_law_core", "_law_full", "_law_rank", "_law_mine", "_law_its", "_law_at", "_law_some", "_law_spot"] "_law_right" (defScope (topS 29)) f cdv A outer s H E).xe := passes_of rfl
    replace k_law_shades_at := k_law_shades_at.mono (show 5 ≤ 10 by omega)
    replace k_leads := k_leads.mono (show 5 ≤ 10 by omega)
    replace k_row_at := k_row_at.mono (show 5 ≤ 10 by omega)
    replace k_number_of := k_number_of.mono (show 6 ≤ 10 by omega)
    replace k_law_take := k_law_take.mono (show 9 ≤ 10 by omega)
    replace k_lot_many := k_lot_many.mono (show 4 ≤ 10 by omega)
    replace k_law_words := k_law_words.mono (show 1 ≤ 10 by omega)
    replace k_law_line := k_law_line.mono (show 10 ≤ 10 by omega)
    exact (jb_cons (js_set (i := 1) nd (je_add je_int (je_call k_law_take hr tk (ja_cons (je_var (i := 0)) (ja_cons je_int ja_nil))))) (jb_cons (js_set (i := 2) nd (je_call k_law_line hr tk (ja_cons (je_var (i := 0)) (ja_cons (je_add je_int (je_call k_law_take hr tk (ja_cons (je_var (i := 0)) (ja_cons je_int ja_nil)))) (ja_cons (je_var (i := 1)) ja_nil))))) (jb_cons (js_asg (je_tup (ja_cons (je_ix (je_call k_law_words hr tk (ja_cons (je_var (i := 2)) ja_nil)) (je_neg je_int)) (ja_cons (je_call k_lot_many hr tk (ja_cons (je_var (i := 1)) (ja_cons (je_var (i := 2)) ja_nil))) ja_nil))) (jg_tup hc (jgs_cons (jg_name (i := 3) nd) (jgs_cons (jg_name (i := 4) nd) jgs_nil)))) (jb_cons (js_set (i := 5) nd (je_call k_law_take hr tk (ja_cons (je_var (i := 0)) (ja_cons (je_var (i := 4)) ja_nil)))) (jb_cons (js_set (i := 6) nd (je_call k_row_at hr tk (ja_cons (je_var (i := 1)) (ja_cons (je_var (i := 2)) (ja_cons (je_var (i := 5)) ja_nil))))) (jb_cons (js_if (jt_w (jw_or (jt_not (jt_val (je_call k_leads hr tk (ja_cons (je_var (i := 2)) (ja_cons (je_var (i := 6)) ja_nil))))) (jw_one (jt_ne hr (je_call k_number_of hr tk (ja_cons (je_var (i := 1)) (ja_cons (je_var (i := 2)) (ja_cons (je_var (i := 6)) ja_nil)))) (je_var (i := 5)))))) (jb_one (js_ret je_bl)) jb_nil) (jb_cons (js_if (jt_eq hr (je_add (je_var (i := 5)) je_int) (je_var (i := 4))) (jb_one (js_ret (je_all hc z_all (ja_cons (je_comp (own := [(Str.ofString "_law_spot", 10)]) hc nd (ji_range1 z_range (ja_cons (je_len z_len (ja_cons (je_var (i := 6)) ja_nil)) ja_nil)) (blk_of rfl) (slots_nm (by decide)) (fun _ _ _ _ _ => (jg_name (i := 10) nd)) (fun _ _ _ _ _ => jts_nil) (fun _ _ _ _ _ => (je_eq hr (je_ix (je_var (i := 6)) (je_var (i := 10))) (je_max1 hc z_max (ja_cons (je_call k_law_shades_at hr takesN (ja_cons (je_var (i := 1)) (ja_cons (je_var (i := 3)) (ja_cons (je_var (i := 6)) (ja_cons (je_var (i := 10)) ja_nil))))) ja_nil))))) ja_nil)))) jb_nil) (jb_cons (js_set (i := 7) nd (je_call k_row_at hr tk (ja_cons (je_var (i := 1)) (ja_cons (je_var (i := 2)) (ja_cons (je_add (je_var (i := 5)) je_int) ja_nil))))) (jb_cons (js_if (jt_w (jw_or (jt_eq hr (je_var (i := 7)) (je_var (i := 6))) (jw_one (jt_not (jt_val (je_call k_leads hr tk (ja_cons (je_var (i := 2)) (ja_cons (je_var (i := 7)) ja_nil)))))))) (jb_one (js_ret je_bl)) jb_nil) (jb_cons (js_set (i := 8) nd (je_ix (je_comp (own := [(Str.ofString "_law_spot", 10)]) hc nd (ji_range1 z_range (ja_cons (je_len z_len (ja_cons (je_var (i := 6)) ja_nil)) ja_nil)) (blk_of rfl) (slots_nm (by decide)) (fun _ _ _ _ _ => (jg_name (i := 10) nd)) (fun _ _ _ _ _ => (jts_one (jt_ne hr (je_ix (je_var (i := 6)) (je_var (i := 10))) (je_ix (je_var (i := 7)) (je_var (i := 10)))))) (fun _ _ _ _ _ => (je_var (i := 10)))) je_int)) (jb_cons (js_set (i := 9) nd (je_call k_law_shades_at hr tk (ja_cons (je_var (i := 1)) (ja_cons (je_var (i := 3)) (ja_cons (je_var (i := 6)) (ja_cons (je_var (i := 8)) ja_nil)))))) (jb_cons (js_if (jt_w (jw_or (jt_notIn hr (je_ix (je_var (i := 6)) (je_var (i := 8))) (je_var (i := 9))) (jw_or (jt_notIn hr (je_ix (je_var (i := 7)) (je_var (i := 8))) (je_var (i := 9))) (jw_one (jt_ne hr (je_index hr (je_var (i := 9)) (ja_cons (je_ix (je_var (i := 7)) (je_var (i := 8))) ja_nil)) (je_add (je_index hr (je_var (i := 9)) (ja_cons (je_ix (je_var (i := 6)) (je_var (i := 8))) ja_nil)) je_int)))))) (jb_one (js_ret je_bl)) jb_nil) (jb_cons (js_for hp hc (ji_range2 z_range (ja_cons (je_add (je_var (i := 8)) je_int) (ja_cons (je_len z_len (ja_cons (je_var (i := 6)) ja_nil)) ja_nil))) (jg_name (i := 10) nd) (jb_cons (js_if (jt_ne hr (je_ix (je_var (i := 6)) (je_var (i := 10))) (je_max1 hc z_max (ja_cons (je_add (je_call k_law_shades_at hr tk (ja_cons (je_var (i := 1)) (ja_cons (je_var (i := 3)) (ja_cons (je_var (i := 6)) (ja_cons (je_var (i := 10)) ja_nil))))) (je_lst (ja_cons (je_neg je_int) ja_nil))) ja_nil))) (jb_one (js_ret je_bl)) jb_nil) (jb_one (js_if (jt_ne hr (je_ix (je_var (i := 7)) (je_var (i := 10))) (je_min1 hc z_min (ja_cons (je_add (je_call k_law_shades_at hr tk (ja_cons (je_var (i := 1)) (ja_cons (je_var (i := 3)) (ja_cons (je_var (i := 7)) (ja_cons (je_var (i := 10)) ja_nil))))) (je_lst (ja_cons (je_var (i := 1)) ja_nil))) ja_nil))) (jb_one (js_ret je_bl)) jb_nil)))) (jb_one (js_ret je_bl))))))))))))))))
theorem sc_law_cell_at : FnScope ["_law_script", "_law_k"] ["_law_script", "_law_k"] (defScope (topS 21)) := ⟨rfl, rfl, rfl, by decide +kernel, rfl, by decide +kernel, by decide +kernel⟩
theorem ok_law_cell_at {f : Addr} {fd : FuncData} (F : Fun K "_law_cell_at" "_law_cell_at" (topS 21) f fd) (gl : mg "_law_cell_at" = some (.ref f)) (bi : Binds K fd ["_law_script", "_law_k"] [])  (z_len : mg (Str.ofString "len") = none)  : Df P w K mg base "_law_cell_at" 1 ["_law_script", "_law_k"] m_law_cell_at := df_ok (k := 0) F sc_law_cell_at gl bi (fun cdv A outer s H E hr => by
    have hc : (cxOf (L2.CX P w) P w K mg base ["_law_script", "_law_k"] "_law_cell_at" (defScope (topS 21)) f cdv A outer s H E).calm = true := rfl
    have nd := sc_law_cell_at.nd
    have tk : Takes (cxOf (L2.CX P w) P w K mg base ["_law_script", "_law_k"] "_law_cell_at" (defScope (topS 21)) f cdv A outer s H E) (fun cls d _ H => E cls d H) := takes_of rfl rfl rfl rfl
    have hp : PassesOwn (model P w) (cxOf (L2.CX P w) P w K mg base ["_law_script", "_law_k"] "_law_cell_at" (defScope (topS 21)) f cdv A outer s H E).A (cxOf (L2.CX P w) P w K mg base ["_law_script", "_law_k"] "_law_cell_at" (defScope (topS 21)) f cdv A outer s H E).env (cxOf (L2.CX P w) P w K mg base ["_law_script", "_law_k"] "_law_cell_at" (defScope (topS 21)) f cdv A outer s H E).xe := passes_of rfl
    exact (jb_cons (js_if (jt_lt (je_var (i := 1)) (je_len z_len (ja_cons (je_var (i := 0)) ja_nil))) (jb_one (js_ret (je_ix (je_var (i := 0)) (je_var (i := 1))))) jb_nil) (jb_one (js_ret je_int))))
theorem sc_law_box : FnScope ["_law_script", "_law_k", "_law_core"] ["_law_script", "_law_k"] (defScope (topS 22)) := ⟨rfl, rfl, rfl, by decide +kernel, rfl, by decide +kernel, by decide +kernel⟩
theorem ok_law_box {f : Addr} {fd : FuncData} (F : Fun K "_law_box" "_law_box" (topS 22) f fd) (gl : mg "_law_box" = some (.ref f)) (bi : Binds K fd ["_law_script", "_law_k"] []) (k_law_cell_at : Df P w K mg base "_law_cell_at" 1 ["_law_script", "_law_k"] m_law_cell_at) (z_abs : mg (Str.ofString "abs") = none) (z_int : mg (Str.ofString "int") = none)  : Df P w K mg base "_law_box" 2 ["_law_script", "_law_k"] m_law_box := df_ok (k := 1) F sc_law_box gl bi (fun cdv A outer s H E hr => by
    have hc : (cxOf (L2.CX P w) P w K mg base ["_law_script", "_law_k", "_law_core"] "_law_box" (defScope (topS 22)) f cdv A outer s H E).calm = true := rfl
    have nd := sc_law_box.nd
    have tk : Takes (cxOf (L2.CX P w) P w K mg base ["_law_script", "_law_k", "_law_core"] "_law_box" (defScope (topS 22)) f cdv A outer s H E) (fun cls d _ H => E cls d H) := takes_of rfl rfl rfl rfl
    have hp : PassesOwn (model P w) (cxOf (L2.CX P w) P w K mg base ["_law_script", "_law_k", "_law_core"] "_law_box" (defScope (topS 22)) f cdv A outer s H E).A (cxOf (L2.CX P w) P w K mg base ["_law_script", "_law_k", "_law_core"] "_law_box" (defScope (topS 22)) f cdv A outer s H E).env (cxOf (L2.CX P w) P w K mg base ["_law_script", "_law_k", "_law_core"] "_law_box" (defScope (topS 22)) f cdv A outer s H E).xe := passes_of rfl
    replace k_law_cell_at := k_law_cell_at.mono (show 1 ≤ 1 by omega)
    exact (jb_cons (js_set (i := 2) nd (je_call k_law_cell_at hr tk (ja_cons (je_var (i := 0)) (ja_cons (je_var (i := 1)) ja_nil)))) (jb_one (js_ret (je_lst (ja_cons (je_times (je_abs z_abs (ja_cons (je_var (i := 2)) ja_nil)) (je_toInt z_int (ja_cons (je_ge (je_abs z_abs (ja_cons (je_var (i := 2)) ja_nil)) (je_pow je_int je_int)) ja_nil))) (ja_cons (je_add (je_add (je_mod (je_var (i := 2)) je_int) (je_times je_int (je_var (i := 1)))) je_int) (ja_cons je_int ja_nil))))))))
theorem sc_law : FnScope ["_law_script", "_law_k"] ["_law_script"] (defScope (topS 30)) := ⟨rfl, rfl, rfl, by decide +kernel, rfl, by decide +kernel, by decide +kernel⟩
theorem ok_law {f : Addr} {fd : FuncData} (F : Fun K "law" "law" (topS 30) f fd) (gl : mg "law" = some (.ref f)) (bi : Binds K fd ["_law_script"] []) (k_law_box : Df P w K mg base "_law_box" 2 ["_law_script", "_law_k"] m_law_box) (k_law_right : Df P w K mg base "_law_right" 11 ["_law_box_here"] m_law_right) (z_len : mg (Str.ofString "len") = none) (z_min : mg (Str.ofString "min") = none) (z_range : mg (Str.ofString "range") = none) (z_all : mg (Str.ofString "all") = none)  : FnOk P w K mg base (L2.CX P w) 12 f fd ["_law_script"] (spF K mg 1 m_law) := def_ok (k := 11) F sc_law rfl rfl (fun cdv A outer s H E hr => by
    have hc : (cxOf (L2.CX P w) P w K mg base ["_law_script", "_law_k"] "law" (defScope (topS 30)) f cdv A outer s H E).calm = true := rfl
    have nd := sc_law.nd
    have tk : Takes (cxOf (L2.CX P w) P w K mg base ["_law_script", "_law_k"] "law" (defScope (topS 30)) f cdv A outer s H E) (fun cls d _ H => E cls d H) := takes_of rfl rfl rfl rfl
    have hp : PassesOwn (model P w) (cxOf (L2.CX P w) P w K mg base ["_law_script", "_law_k"] "law" (defScope (topS 30)) f cdv A outer s H E).A (cxOf (L2.CX P w) P w K mg base ["_law_script", "_law_k"] "law" (defScope (topS 30)) f cdv A outer s H E).env (cxOf (L2.CX P w) P w K mg base ["_law_script", "_law_k"] "law" (defScope (topS 30)) f cdv A outer s H E).xe := passes_of rfl
    replace k_law_box := k_law_box.mono (show 2 ≤ 11 by omega)
    replace k_law_right := k_law_right.mono (show 11 ≤ 11 by omega)
    exact (jb_one (js_ret (je_all hc z_all (ja_cons (je_comp (own := [(Str.ofString "_law_k", 1)]) hc nd (ji_range1 z_range (ja_cons (je_add je_int (je_min2 hc z_min (ja_cons je_int (ja_cons (je_len z_len (ja_cons (je_var (i := 0)) ja_nil)) ja_nil)))) ja_nil)) (blk_of rfl) (slots_nm (by decide)) (fun _ _ _ _ _ => (jg_name (i := 1) nd)) (fun _ _ _ _ _ => jts_nil) (fun _ _ _ _ _ => (je_call k_law_right hr takesN (ja_cons (je_call k_law_box hr takesN (ja_cons (je_var (i := 0)) (ja_cons (je_var (i := 1)) ja_nil))) ja_nil)))) ja_nil)))))
end
theorem all_mk {P : Program} {w : World} {K : PySem.W.Frag} {h : Heap} {mg : Str → Option Value} {fa : Addr} (X : K.In h) (G : h.Ns mainGlobals mg) (hfa : mg "law" = some (.ref fa))
    (hlaw : ∀ ns : List Int, ns.length ≤ 63 → ∃ h', m_law [.rol (ns.map .int)] [] = .ok (.bl true) h')
    {od_law_take an_law_take : Option Addr} {sl_law_take : Array (Option Value)} {oc_law_take kV_law_take dc_law_take pm_law_take cd_law_take ct_law_take : Value} {f_law_take : Addr}
    {od_law_line an_law_line : Option Addr} {sl_law_line : Array (Option Value)} {oc_law_line kV_law_line dc_law_line pm_law_line cd_law_line ct_law_line : Value} {f_law_line : Addr}
    {od_stepped an_stepped : Option Addr} {sl_stepped : Array (Option Value)} {oc_stepped kV_stepped dc_stepped pm_stepped cd_stepped ct_stepped : Value} {f_stepped : Addr}
    {od_rests an_rests : Option Addr} {sl_rests : Array (Option Value)} {oc_rests kV_rests dc_rests pm_rests cd_rests ct_rests : Value} {f_rests : Addr}
    {od_rest an_rest : Option Addr} {sl_rest : Array (Option Value)} {oc_rest kV_rest dc_rest pm_rest cd_rest ct_rest : Value} {f_rest : Addr}
    {od_walks an_walks : Option Addr} {sl_walks : Array (Option Value)} {oc_walks kV_walks dc_walks pm_walks cd_walks ct_walks : Value} {f_walks : Addr}
    {od_walks_to an_walks_to : Option Addr} {sl_walks_to : Array (Option Value)} {oc_walks_to kV_walks_to dc_walks_to pm_walks_to cd_walks_to ct_walks_to : Value} {f_walks_to : Addr}
    {od_lot_many an_lot_many : Option Addr} {sl_lot_many : Array (Option Value)} {oc_lot_many kV_lot_many dc_lot_many pm_lot_many cd_lot_many ct_lot_many : Value} {f_lot_many : Addr}
    {od_common an_common : Option Addr} {sl_common : Array (Option Value)} {oc_common kV_common dc_common pm_common cd_common ct_common : Value} {f_common : Addr}
    {od_apart an_apart : Option Addr} {sl_apart : Array (Option Value)} {oc_apart kV_apart dc_apart pm_apart cd_apart ct_apart : Value} {f_apart : Addr}
    {od_row_at an_row_at : Option Addr} {sl_row_at : Array (Option Value)} {oc_row_at kV_row_at dc_row_at pm_row_at cd_row_at ct_row_at : Value} {f_row_at : Addr}
    {od_many_with an_many_with : Option Addr} {sl_many_with : Array (Option Value)} {oc_many_with kV_many_with dc_many_with pm_many_with cd_many_with ct_many_with : Value} {f_many_with : Addr}
    {od_law_gap an_law_gap : Option Addr} {sl_law_gap : Array (Option Value)} {oc_law_gap kV_law_gap dc_law_gap pm_law_gap cd_law_gap ct_law_gap : Value} {f_law_gap : Addr}
    {od_law_words an_law_words : Option Addr} {sl_law_words : Array (Option Value)} {oc_law_words kV_law_words dc_law_words pm_law_words cd_law_words ct_law_words : Value} {f_law_words : Addr}
    {od_law_goes_on an_law_goes_on : Option Addr} {sl_law_goes_on : Array (Option Value)} {oc_law_goes_on kV_law_goes_on dc_law_goes_on pm_law_goes_on cd_law_goes_on ct_law_goes_on : Value} {f_law_goes_on : Addr}
    {od_law_shades_at an_law_shades_at : Option Addr} {sl_law_shades_at : Array (Option Value)} {oc_law_shades_at kV_law_shades_at dc_law_shades_at pm_law_shades_at cd_law_shades_at ct_law_shades_at : Value} {f_law_shades_at : Addr}
    {od_bar an_bar : Option Addr} {sl_bar : Array (Option Value)} {oc_bar kV_bar dc_bar pm_bar cd_bar ct_bar : Value} {f_bar : Addr}
    {od_leads an_leads : Option Addr} {sl_leads : Array (Option Value)} {oc_leads kV_leads dc_leads pm_leads cd_leads ct_leads : Value} {f_leads : Addr}
    {od_look_leads an_look_leads : Option Addr} {sl_look_leads : Array (Option Value)} {oc_look_leads kV_look_leads dc_look_leads pm_look_leads cd_look_leads ct_look_leads : Value} {f_look_leads : Addr}
    {od_number_of an_number_of : Option Addr} {sl_number_of : Array (Option Value)} {oc_number_of kV_number_of dc_number_of pm_number_of cd_number_of ct_number_of : Value} {f_number_of : Addr}
    {od_law_right an_law_right : Option Addr} {sl_law_right : Array (Option Value)} {oc_law_right kV_law_right dc_law_right pm_law_right cd_law_right ct_law_right : Value} {f_law_right : Addr}
    {od_law_cell_at an_law_cell_at : Option Addr} {sl_law_cell_at : Array (Option Value)} {oc_law_cell_at kV_law_cell_at dc_law_cell_at pm_law_cell_at cd_law_cell_at ct_law_cell_at : Value} {f_law_cell_at : Addr}
    {od_law_box an_law_box : Option Addr} {sl_law_box : Array (Option Value)} {oc_law_box kV_law_box dc_law_box pm_law_box cd_law_box ct_law_box : Value} {f_law_box : Addr}
    {od_law an_law : Option Addr} {sl_law : Array (Option Value)} {oc_law kV_law dc_law pm_law cd_law ct_law : Value} {f_law : Addr}
    (a_law_take : PySem.W.nsIn K mainGlobals "_law_take" = some (some (.ref f_law_take))) (l_law_take : K.lookup f_law_take = some ⟨oc_law_take, od_law_take, .func (PySem.W.fnOf "_law_take" "_law_take" (defArgs (topS 23)) (defBody (topS 23)) (defScope (topS 23)) .none kV_law_take dc_law_take pm_law_take an_law_take cd_law_take ct_law_take), sl_law_take⟩) (c_law_take : PySem.W.codeIn K cd_law_take "_law_take" = true) (h_law_take : PySem.W.keepIn K (.ref f_law_take) = true)
    (a_law_line : PySem.W.nsIn K mainGlobals "_law_line" = some (some (.ref f_law_line))) (l_law_line : K.lookup f_law_line = some ⟨oc_law_line, od_law_line, .func (PySem.W.fnOf "_law_line" "_law_line" (defArgs (topS 25)) (defBody (topS 25)) (defScope (topS 25)) .none kV_law_line dc_law_line pm_law_line an_law_line cd_law_line ct_law_line), sl_law_line⟩) (c_law_line : PySem.W.codeIn K cd_law_line "_law_line" = true) (h_law_line : PySem.W.keepIn K (.ref f_law_line) = true)
    (a_stepped : PySem.W.nsIn K mainGlobals "stepped" = some (some (.ref f_stepped))) (l_stepped : K.lookup f_stepped = some ⟨oc_stepped, od_stepped, .func (PySem.W.fnOf "stepped" "stepped" (defArgs (topS 4)) (defBody (topS 4)) (defScope (topS 4)) .none kV_stepped dc_stepped pm_stepped an_stepped cd_stepped ct_stepped), sl_stepped⟩) (c_stepped : PySem.W.codeIn K cd_stepped "stepped" = true) (h_stepped : PySem.W.keepIn K (.ref f_stepped) = true)
    (a_rests : PySem.W.nsIn K mainGlobals "rests" = some (some (.ref f_rests))) (l_rests : K.lookup f_rests = some ⟨oc_rests, od_rests, .func (PySem.W.fnOf "rests" "rests" (defArgs (topS 5)) (defBody (topS 5)) (defScope (topS 5)) .none kV_rests dc_rests pm_rests an_rests cd_rests ct_rests), sl_rests⟩) (c_rests : PySem.W.codeIn K cd_rests "rests" = true) (h_rests : PySem.W.keepIn K (.ref f_rests) = true)
    (a_rest : PySem.W.nsIn K mainGlobals "rest" = some (some (.ref f_rest))) (l_rest : K.lookup f_rest = some ⟨oc_rest, od_rest, .func (PySem.W.fnOf "rest" "rest" (defArgs (topS 6)) (defBody (topS 6)) (defScope (topS 6)) .none kV_rest dc_rest pm_rest an_rest cd_rest ct_rest), sl_rest⟩) (c_rest : PySem.W.codeIn K cd_rest "rest" = true) (h_rest : PySem.W.keepIn K (.ref f_rest) = true)
    (a_walks : PySem.W.nsIn K mainGlobals "walks" = some (some (.ref f_walks))) (l_walks : K.lookup f_walks = some ⟨oc_walks, od_walks, .func (PySem.W.fnOf "walks" "walks" (defArgs (topS 14)) (defBody (topS 14)) (defScope (topS 14)) .none kV_walks dc_walks pm_walks an_walks cd_walks ct_walks), sl_walks⟩) (c_walks : PySem.W.codeIn K cd_walks "walks" = true) (h_walks : PySem.W.keepIn K (.ref f_walks) = true)
    (a_walks_to : PySem.W.nsIn K mainGlobals "walks_to" = some (some (.ref f_walks_to))) (l_walks_to : K.lookup f_walks_to = some ⟨oc_walks_to, od_walks_to, .func (PySem.W.fnOf "walks_to" "walks_to" (defArgs (topS 15)) (defBody (topS 15)) (defScope (topS 15)) .none kV_walks_to dc_walks_to pm_walks_to an_walks_to cd_walks_to ct_walks_to), sl_walks_to⟩) (c_walks_to : PySem.W.codeIn K cd_walks_to "walks_to" = true) (h_walks_to : PySem.W.keepIn K (.ref f_walks_to) = true)
    (a_lot_many : PySem.W.nsIn K mainGlobals "lot_many" = some (some (.ref f_lot_many))) (l_lot_many : K.lookup f_lot_many = some ⟨oc_lot_many, od_lot_many, .func (PySem.W.fnOf "lot_many" "lot_many" (defArgs (topS 17)) (defBody (topS 17)) (defScope (topS 17)) .none kV_lot_many dc_lot_many pm_lot_many an_lot_many cd_lot_many ct_lot_many), sl_lot_many⟩) (c_lot_many : PySem.W.codeIn K cd_lot_many "lot_many" = true) (h_lot_many : PySem.W.keepIn K (.ref f_lot_many) = true)
    (a_common : PySem.W.nsIn K mainGlobals "common" = some (some (.ref f_common))) (l_common : K.lookup f_common = some ⟨oc_common, od_common, .func (PySem.W.fnOf "common" "common" (defArgs (topS 7)) (defBody (topS 7)) (defScope (topS 7)) .none kV_common dc_common pm_common an_common cd_common ct_common), sl_common⟩) (c_common : PySem.W.codeIn K cd_common "common" = true) (h_common : PySem.W.keepIn K (.ref f_common) = true)
    (a_apart : PySem.W.nsIn K mainGlobals "apart" = some (some (.ref f_apart))) (l_apart : K.lookup f_apart = some ⟨oc_apart, od_apart, .func (PySem.W.fnOf "apart" "apart" (defArgs (topS 8)) (defBody (topS 8)) (defScope (topS 8)) .none kV_apart dc_apart pm_apart an_apart cd_apart ct_apart), sl_apart⟩) (c_apart : PySem.W.codeIn K cd_apart "apart" = true) (h_apart : PySem.W.keepIn K (.ref f_apart) = true)
    (a_row_at : PySem.W.nsIn K mainGlobals "row_at" = some (some (.ref f_row_at))) (l_row_at : K.lookup f_row_at = some ⟨oc_row_at, od_row_at, .func (PySem.W.fnOf "row_at" "row_at" (defArgs (topS 18)) (defBody (topS 18)) (defScope (topS 18)) .none kV_row_at dc_row_at pm_row_at an_row_at cd_row_at ct_row_at), sl_row_at⟩) (c_row_at : PySem.W.codeIn K cd_row_at "row_at" = true) (h_row_at : PySem.W.keepIn K (.ref f_row_at) = true)
    (a_many_with : PySem.W.nsIn K mainGlobals "many_with" = some (some (.ref f_many_with))) (l_many_with : K.lookup f_many_with = some ⟨oc_many_with, od_many_with, .func (PySem.W.fnOf "many_with" "many_with" (defArgs (topS 16)) (defBody (topS 16)) (defScope (topS 16)) .none kV_many_with dc_many_with pm_many_with an_many_with cd_many_with ct_many_with), sl_many_with⟩) (c_many_with : PySem.W.codeIn K cd_many_with "many_with" = true) (h_many_with : PySem.W.keepIn K (.ref f_many_with) = true)
    (a_law_gap : PySem.W.nsIn K mainGlobals "_law_gap" = some (some (.ref f_law_gap))) (l_law_gap : K.lookup f_law_gap = some ⟨oc_law_gap, od_law_gap, .func (PySem.W.fnOf "_law_gap" "_law_gap" (defArgs (topS 26)) (defBody (topS 26)) (defScope (topS 26)) .none kV_law_gap dc_law_gap pm_law_gap an_law_gap cd_law_gap ct_law_gap), sl_law_gap⟩) (c_law_gap : PySem.W.codeIn K cd_law_gap "_law_gap" = true) (h_law_gap : PySem.W.keepIn K (.ref f_law_gap) = true)
    (a_law_words : PySem.W.nsIn K mainGlobals "_law_words" = some (some (.ref f_law_words))) (l_law_words : K.lookup f_law_words = some ⟨oc_law_words, od_law_words, .func (PySem.W.fnOf "_law_words" "_law_words" (defArgs (topS 24)) (defBody (topS 24)) (defScope (topS 24)) .none kV_law_words dc_law_words pm_law_words an_law_words cd_law_words ct_law_words), sl_law_words⟩) (c_law_words : PySem.W.codeIn K cd_law_words "_law_words" = true) (h_law_words : PySem.W.keepIn K (.ref f_law_words) = true)
    (a_law_goes_on : PySem.W.nsIn K mainGlobals "_law_goes_on" = some (some (.ref f_law_goes_on))) (l_law_goes_on : K.lookup f_law_goes_on = some ⟨oc_law_goes_on, od_law_goes_on, .func (PySem.W.fnOf "_law_goes_on" "_law_goes_on" (defArgs (topS 27)) (defBody (topS 27)) (defScope (topS 27)) .none kV_law_goes_on dc_law_goes_on pm_law_goes_on an_law_goes_on cd_law_goes_on ct_law_goes_on), sl_law_goes_on⟩) (c_law_goes_on : PySem.W.codeIn K cd_law_goes_on "_law_goes_on" = true) (h_law_goes_on : PySem.W.keepIn K (.ref f_law_goes_on) = true)
    (a_law_shades_at : PySem.W.nsIn K mainGlobals "_law_shades_at" = some (some (.ref f_law_shades_at))) (l_law_shades_at : K.lookup f_law_shades_at = some ⟨oc_law_shades_at, od_law_shades_at, .func (PySem.W.fnOf "_law_shades_at" "_law_shades_at" (defArgs (topS 28)) (defBody (topS 28)) (defScope (topS 28)) .none kV_law_shades_at dc_law_shades_at pm_law_shades_at an_law_shades_at cd_law_shades_at ct_law_shades_at), sl_law_shades_at⟩) (c_law_shades_at : PySem.W.codeIn K cd_law_shades_at "_law_shades_at" = true) (h_law_shades_at : PySem.W.keepIn K (.ref f_law_shades_at) = true)
    (a_bar : PySem.W.nsIn K mainGlobals "bar" = some (some (.ref f_bar))) (l_bar : K.lookup f_bar = some ⟨oc_bar, od_bar, .func (PySem.W.fnOf "bar" "bar" (defArgs (topS 10)) (defBody (topS 10)) (defScope (topS 10)) .none kV_bar dc_bar pm_bar an_bar cd_bar ct_bar), sl_bar⟩) (c_bar : PySem.W.codeIn K cd_bar "bar" = true) (h_bar : PySem.W.keepIn K (.ref f_bar) = true)
    (a_leads : PySem.W.nsIn K mainGlobals "leads" = some (some (.ref f_leads))) (l_leads : K.lookup f_leads = some ⟨oc_leads, od_leads, .func (PySem.W.fnOf "leads" "leads" (defArgs (topS 11)) (defBody (topS 11)) (defScope (topS 11)) .none kV_leads dc_leads pm_leads an_leads cd_leads ct_leads), sl_leads⟩) (c_leads : PySem.W.codeIn K cd_leads "leads" = true) (h_leads : PySem.W.keepIn K (.ref f_leads) = true)
    (a_look_leads : PySem.W.nsIn K mainGlobals "look_leads" = some (some (.ref f_look_leads))) (l_look_leads : K.lookup f_look_leads = some ⟨oc_look_leads, od_look_leads, .func (PySem.W.fnOf "look_leads" "look_leads" (defArgs (topS 12)) (defBody (topS 12)) (defScope (topS 12)) .none kV_look_leads dc_look_leads pm_look_leads an_look_leads cd_look_leads ct_look_leads), sl_look_leads⟩) (c_look_leads : PySem.W.codeIn K cd_look_leads "look_leads" = true) (h_look_leads : PySem.W.keepIn K (.ref f_look_leads) = true)
    (a_number_of : PySem.W.nsIn K mainGlobals "number_of" = some (some (.ref f_number_of))) (l_number_of : K.lookup f_number_of = some ⟨oc_number_of, od_number_of, .func (PySem.W.fnOf "number_of" "number_of" (defArgs (topS 19)) (defBody (topS 19)) (defScope (topS 19)) .none kV_number_of dc_number_of pm_number_of an_number_of cd_number_of ct_number_of), sl_number_of⟩) (c_number_of : PySem.W.codeIn K cd_number_of "number_of" = true) (h_number_of : PySem.W.keepIn K (.ref f_number_of) = true)
    (a_law_right : PySem.W.nsIn K mainGlobals "_law_right" = some (some (.ref f_law_right))) (l_law_right : K.lookup f_law_right = some ⟨oc_law_right, od_law_right, .func (PySem.W.fnOf "_law_right" "_law_right" (defArgs (topS 29)) (defBody (topS 29)) (defScope (topS 29)) .none kV_law_right dc_law_right pm_law_right an_law_right cd_law_right ct_law_right), sl_law_right⟩) (c_law_right : PySem.W.codeIn K cd_law_right "_law_right" = true) (h_law_right : PySem.W.keepIn K (.ref f_law_right) = true)
    (a_law_cell_at : PySem.W.nsIn K mainGlobals "_law_cell_at" = some (some (.ref f_law_cell_at))) (l_law_cell_at : K.lookup f_law_cell_at = some ⟨oc_law_cell_at, od_law_cell_at, .func (PySem.W.fnOf "_law_cell_at" "_law_cell_at" (defArgs (topS 21)) (defBody (topS 21)) (defScope (topS 21)) .none kV_law_cell_at dc_law_cell_at pm_law_cell_at an_law_cell_at cd_law_cell_at ct_law_cell_at), sl_law_cell_at⟩) (c_law_cell_at : PySem.W.codeIn K cd_law_cell_at "_law_cell_at" = true) (h_law_cell_at : PySem.W.keepIn K (.ref f_law_cell_at) = true)
    (a_law_box : PySem.W.nsIn K mainGlobals "_law_box" = some (some (.ref f_law_box))) (l_law_box : K.lookup f_law_box = some ⟨oc_law_box, od_law_box, .func (PySem.W.fnOf "_law_box" "_law_box" (defArgs (topS 22)) (defBody (topS 22)) (defScope (topS 22)) .none kV_law_box dc_law_box pm_law_box an_law_box cd_law_box ct_law_box), sl_law_box⟩) (c_law_box : PySem.W.codeIn K cd_law_box "_law_box" = true) (h_law_box : PySem.W.keepIn K (.ref f_law_box) = true)
    (a_law : PySem.W.nsIn K mainGlobals "law" = some (some (.ref f_law))) (l_law : K.lookup f_law = some ⟨oc_law, od_law, .func (PySem.W.fnOf "law" "law" (defArgs (topS 30)) (defBody (topS 30)) (defScope (topS 30)) .none kV_law dc_law pm_law an_law cd_law ct_law), sl_law⟩) (c_law : PySem.W.codeIn K cd_law "law" = true) (h_law : PySem.W.keepIn K (.ref f_law) = true)
    (y_tuple : PySem.W.nsIn K mainGlobals "tuple" = some none)
    (y_range : PySem.W.nsIn K mainGlobals "range" = some none)
    (y_len : PySem.W.nsIn K mainGlobals "len" = some none)
    (y_min : PySem.W.nsIn K mainGlobals "min" = some none)
    (y_enumerate : PySem.W.nsIn K mainGlobals "enumerate" = some none)
    (y_zip : PySem.W.nsIn K mainGlobals "zip" = some none)
    (y_max : PySem.W.nsIn K mainGlobals "max" = some none)
    (y_all : PySem.W.nsIn K mainGlobals "all" = some none)
    (y_abs : PySem.W.nsIn K mainGlobals "abs" = some none)
    (y_int : PySem.W.nsIn K mainGlobals "int" = some none) :
    ∃ fd : FuncData, (∀ (s : Shared) (v : Value), BindsTo s fd ⟨[v], []⟩ [("_law_script", v)]) ∧ ∀ base : Heap, K.In base → base.Ns mainGlobals mg → FnOk P w K mg base (L2.CX P w) 12 fa fd ["_law_script"] (spLaw K) := by
  have e := hfa.symm.trans (PySem.W.mg_of X G a_law)
  cases e
  have F_law_take := fun_mk (st := topS 23) l_law_take c_law_take h_law_take
  have b_law_take := F_law_take.binds (ps := ["_law_box_here", "_law_below"]) fun _ _ _ _ _ _ us hl => match us, hl with | [_, _], _ => rfl
  have g_law_take := PySem.W.mg_of X G a_law_take
  have F_law_line := fun_mk (st := topS 25) l_law_line c_law_line h_law_line
  have b_law_line := F_law_line.binds (ps := ["_law_box_here", "_law_size", "_law_shades"]) fun _ _ _ _ _ _ us hl => match us, hl with | [_, _, _], _ => rfl
  have g_law_line := PySem.W.mg_of X G a_law_line
  have F_stepped := fun_mk (st := topS 4) l_stepped c_stepped h_stepped
  have b_stepped := F_stepped.binds (ps := ["word", "tile"]) fun _ _ _ _ _ _ us hl => match us, hl with | [_, _], _ => rfl
  have g_stepped := PySem.W.mg_of X G a_stepped
  have F_rests := fun_mk (st := topS 5) l_rests c_rests h_rests
  have b_rests := F_rests.binds (ps := ["row"]) fun _ _ _ _ _ _ us hl => match us, hl with | [_], _ => rfl
  have g_rests := PySem.W.mg_of X G a_rests
  have F_rest := fun_mk (st := topS 6) l_rest c_rest h_rest
  have b_rest := F_rest.binds (ps := ["row"]) fun _ _ _ _ _ _ us hl => match us, hl with | [_], _ => rfl
  have g_rest := PySem.W.mg_of X G a_rest
  have F_walks := fun_mk (st := topS 14) l_walks c_walks h_walks
  have b_walks := F_walks.binds (ps := ["colours", "tiles"]) fun _ _ _ _ _ _ us hl => match us, hl with | [_, _], _ => rfl
  have g_walks := PySem.W.mg_of X G a_walks
  have F_walks_to := fun_mk (st := topS 15) l_walks_to c_walks_to h_walks_to
  have b_walks_to := F_walks_to.binds (ps := ["colours", "tiles", "far"]) fun _ _ _ _ _ _ us hl => match us, hl with | [_, _, _], _ => rfl
  have g_walks_to := PySem.W.mg_of X G a_walks_to
  have F_lot_many := fun_mk (st := topS 17) l_lot_many c_lot_many h_lot_many
  have b_lot_many := F_lot_many.binds (ps := ["colours", "row"]) fun _ _ _ _ _ _ us hl => match us, hl with | [_, _], _ => rfl
  have g_lot_many := PySem.W.mg_of X G a_lot_many
  have F_common := fun_mk (st := topS 7) l_common c_common h_common
  have b_common := F_common.binds (ps := ["one", "other"]) fun _ _ _ _ _ _ us hl => match us, hl with | [_, _], _ => rfl
  have g_common := PySem.W.mg_of X G a_common
  have F_apart := fun_mk (st := topS 8) l_apart c_apart h_apart
  have b_apart := F_apart.binds (ps := ["one", "other"]) fun _ _ _ _ _ _ us hl => match us, hl with | [_, _], _ => rfl
  have g_apart := PySem.W.mg_of X G a_apart
  have F_row_at := fun_mk (st := topS 18) l_row_at c_row_at h_row_at
  have b_row_at := F_row_at.binds (ps := ["colours", "row", "number"]) fun _ _ _ _ _ _ us hl => match us, hl with | [_, _, _], _ => rfl
  have g_row_at := PySem.W.mg_of X G a_row_at
  have F_many_with := fun_mk (st := topS 16) l_many_with c_many_with h_many_with
  have b_many_with := F_many_with.binds (ps := ["colours", "tiles", "length"]) fun _ _ _ _ _ _ us hl => match us, hl with | [_, _, _], _ => rfl
  have g_many_with := PySem.W.mg_of X G a_many_with
  have F_law_gap := fun_mk (st := topS 26) l_law_gap c_law_gap h_law_gap
  have b_law_gap := F_law_gap.binds (ps := ["_law_word", "_law_goal"]) fun _ _ _ _ _ _ us hl => match us, hl with | [_, _], _ => rfl
  have g_law_gap := PySem.W.mg_of X G a_law_gap
  have F_law_words := fun_mk (st := topS 24) l_law_words c_law_words h_law_words
  have b_law_words := F_law_words.binds (ps := ["_law_line_here"]) fun _ _ _ _ _ _ us hl => match us, hl with | [_], _ => rfl
  have g_law_words := PySem.W.mg_of X G a_law_words
  have F_law_goes_on := fun_mk (st := topS 27) l_law_goes_on c_law_goes_on h_law_goes_on
  have b_law_goes_on := F_law_goes_on.binds (ps := ["_law_shades", "_law_core", "_law_begun", "_law_left_so"]) fun _ _ _ _ _ _ us hl => match us, hl with | [_, _, _, _], _ => rfl
  have g_law_goes_on := PySem.W.mg_of X G a_law_goes_on
  have F_law_shades_at := fun_mk (st := topS 28) l_law_shades_at c_law_shades_at h_law_shades_at
  have b_law_shades_at := F_law_shades_at.binds (ps := ["_law_shades", "_law_core", "_law_line_here", "_law_spot"]) fun _ _ _ _ _ _ us hl => match us, hl with | [_, _, _, _], _ => rfl
  have g_law_shades_at := PySem.W.mg_of X G a_law_shades_at
  have F_bar := fun_mk (st := topS 10) l_bar c_bar h_bar
  have b_bar := F_bar.binds (ps := ["one", "other"]) fun _ _ _ _ _ _ us hl => match us, hl with | [_, _], _ => rfl
  have g_bar := PySem.W.mg_of X G a_bar
  have F_leads := fun_mk (st := topS 11) l_leads c_leads h_leads
  have b_leads := F_leads.binds (ps := ["one", "other"]) fun _ _ _ _ _ _ us hl => match us, hl with | [_, _], _ => rfl
  have g_leads := PySem.W.mg_of X G a_leads
  have F_look_leads := fun_mk (st := topS 12) l_look_leads c_look_leads h_look_leads
  have b_look_leads := F_look_leads.binds (ps := ["one", "other"]) fun _ _ _ _ _ _ us hl => match us, hl with | [_, _], _ => rfl
  have g_look_leads := PySem.W.mg_of X G a_look_leads
  have F_number_of := fun_mk (st := topS 19) l_number_of c_number_of h_number_of
  have b_number_of := F_number_of.binds (ps := ["colours", "row", "other"]) fun _ _ _ _ _ _ us hl => match us, hl with | [_, _, _], _ => rfl
  have g_number_of := PySem.W.mg_of X G a_number_of
  have F_law_right := fun_mk (st := topS 29) l_law_right c_law_right h_law_right
  have b_law_right := F_law_right.binds (ps := ["_law_box_here"]) fun _ _ _ _ _ _ us hl => match us, hl with | [_], _ => rfl
  have g_law_right := PySem.W.mg_of X G a_law_right
  have F_law_cell_at := fun_mk (st := topS 21) l_law_cell_at c_law_cell_at h_law_cell_at
  have b_law_cell_at := F_law_cell_at.binds (ps := ["_law_script", "_law_k"]) fun _ _ _ _ _ _ us hl => match us, hl with | [_, _], _ => rfl
  have g_law_cell_at := PySem.W.mg_of X G a_law_cell_at
  have F_law_box := fun_mk (st := topS 22) l_law_box c_law_box h_law_box
  have b_law_box := F_law_box.binds (ps := ["_law_script", "_law_k"]) fun _ _ _ _ _ _ us hl => match us, hl with | [_, _], _ => rfl
  have g_law_box := PySem.W.mg_of X G a_law_box
  have F_law := fun_mk (st := topS 30) l_law c_law h_law
  have b_law := F_law.binds (ps := ["_law_script"]) fun _ _ _ _ _ _ us hl => match us, hl with | [_], _ => rfl
  have g_law := PySem.W.mg_of X G a_law
  have z_tuple := PySem.W.mg_none_of X G y_tuple
  have z_range := PySem.W.mg_none_of X G y_range
  have z_len := PySem.W.mg_none_of X G y_len
  have z_min := PySem.W.mg_none_of X G y_min
  have z_enumerate := PySem.W.mg_none_of X G y_enumerate
  have z_zip := PySem.W.mg_none_of X G y_zip
  have z_max := PySem.W.mg_none_of X G y_max
  have z_all := PySem.W.mg_none_of X G y_all
  have z_abs := PySem.W.mg_none_of X G y_abs
  have z_int := PySem.W.mg_none_of X G y_int
  refine ⟨PySem.W.fnOf "law" "law" (defArgs (topS 30)) (defBody (topS 30)) (defScope (topS 30)) .none kV_law dc_law pm_law an_law cd_law ct_law, fun s v => .of_eq rfl, fun base _ _ => ?_⟩
  have d_law_take := ok_law_take (P := P) (w := w) (base := base) F_law_take g_law_take b_law_take  8
  have d_law_line := ok_law_line (P := P) (w := w) (base := base) F_law_line g_law_line b_law_line d_law_take z_tuple z_range
  have d_stepped := ok_stepped (P := P) (w := w) (base := base) F_stepped g_stepped b_stepped z_len
  have d_rests := ok_rests (P := P) (w := w) (base := base) F_rests g_rests b_rests d_stepped
  have d_rest := ok_rest (P := P) (w := w) (base := base) F_rest g_rest b_rest d_rests
  have d_walks := ok_walks (P := P) (w := w) (base := base) F_walks g_walks b_walks z_range
  have d_walks_to := ok_walks_to (P := P) (w := w) (base := base) F_walks_to g_walks_to b_walks_to d_walks
  have d_lot_many := ok_lot_many (P := P) (w := w) (base := base) F_lot_many g_lot_many b_lot_many d_rest d_walks_to z_len
  have d_common := ok_common (P := P) (w := w) (base := base) F_common g_common b_common z_len z_min z_enumerate z_zip
  have d_apart := ok_apart (P := P) (w := w) (base := base) F_apart g_apart b_apart d_common z_len
  have d_row_at := ok_row_at (P := P) (w := w) (base := base) F_row_at g_row_at b_row_at d_stepped d_apart d_walks_to d_rest d_lot_many z_len z_range
  have d_many_with := ok_many_with (P := P) (w := w) (base := base) F_many_with g_many_with b_many_with d_walks_to
  have d_law_gap := ok_law_gap (P := P) (w := w) (base := base) F_law_gap g_law_gap b_law_gap z_len z_min
  have d_law_words := ok_law_words (P := P) (w := w) (base := base) F_law_words g_law_words b_law_words 
  have d_law_goes_on := ok_law_goes_on (P := P) (w := w) (base := base) F_law_goes_on g_law_goes_on b_law_goes_on d_law_words d_law_gap d_many_with
  have d_law_shades_at := ok_law_shades_at (P := P) (w := w) (base := base) F_law_shades_at g_law_shades_at b_law_shades_at d_law_goes_on z_range z_len
  have d_bar := ok_bar (P := P) (w := w) (base := base) F_bar g_bar b_bar d_rest z_len
  have d_leads := ok_leads (P := P) (w := w) (base := base) F_leads g_leads b_leads d_bar
  have d_look_leads := ok_look_leads (P := P) (w := w) (base := base) F_look_leads g_look_leads b_look_leads d_bar
  have d_number_of := ok_number_of (P := P) (w := w) (base := base) F_number_of g_number_of b_number_of d_stepped d_apart d_walks_to d_rests d_rest d_look_leads z_enumerate z_range z_len
  have d_law_right := ok_law_right (P := P) (w := w) (base := base) F_law_right g_law_right b_law_right d_law_shades_at d_leads d_row_at d_number_of d_law_take d_lot_many d_law_words d_law_line z_len z_range z_min z_max z_all
  have d_law_cell_at := ok_law_cell_at (P := P) (w := w) (base := base) F_law_cell_at g_law_cell_at b_law_cell_at z_len
  have d_law_box := ok_law_box (P := P) (w := w) (base := base) F_law_box g_law_box b_law_box d_law_cell_at z_abs z_int
  exact law_end (ok_law (P := P) (w := w) (base := base) F_law g_law b_law d_law_box d_law_right z_len z_min z_range z_all) hlaw
end Lk77
open PySem PySem.W PyProof.Rows
set_option maxHeartbeats 0 in
theorem PySem.Challenge.cw_twintiles_k77_whole_neighbouring_numbers_holds : PySem.Challenge.rw_twintiles_k77_whole_neighbouring_numbers.Holds := by
  w_on; o_law; k_head; (case hw => w_witness2)
  k_fill
  refine L2.walk_of (l := PySem.Challenge.rw_twintiles_k77_whole_neighbouring_numbers) (n := 63) (k := 12) (x := "_law_script") (CX := fun w => L2.CX PySem.Challenge.pw_twintiles_k77_whole_neighbouring_numbers w) (sp := fun w => Tw.spLaw _) rfl (by decide) rfl ⟨rfl, by decide, by decide⟩ (fun w h Y => PySem.W.kIn_of Y) ?F (fun _ _ a ns hl ho hS => ⟨a, ns, rfl, hl, ho, hS, fun _ => rfl⟩) (fun w H s e s' z => Tw.cx_none z)
  case F =>
    intro w mg fa h KX G hmg
    refine' Lk77.all_mk KX G hmg Lk77.law_true ?a_law_take ?l_law_take ?c_law_take ?h_law_take ?a_law_line ?l_law_line ?c_law_line ?h_law_line ?a_stepped ?l_stepped ?c_stepped ?h_stepped ?a_rests ?l_rests ?c_rests ?h_rests ?a_rest ?l_rest ?c_rest ?h_rest ?a_walks ?l_walks ?c_walks ?h_walks ?a_walks_to ?l_walks_to ?c_walks_to ?h_walks_to ?a_lot_many ?l_lot_many ?c_lot_many ?h_lot_many ?a_common ?l_common ?c_common ?h_common ?a_apart ?l_apart ?c_apart ?h_apart ?a_row_at ?l_row_at ?c_row_at ?h_row_at ?a_many_with ?l_many_with ?c_many_with ?h_many_with ?a_law_gap ?l_law_gap ?c_law_gap ?h_law_gap ?a_law_words ?l_law_words ?c_law_words ?h_law_words ?a_law_goes_on ?l_law_goes_on ?c_law_goes_on ?h_law_goes_on ?a_law_shades_at ?l_law_shades_at ?c_law_shades_at ?h_law_shades_at ?a_bar ?l_bar ?c_bar ?h_bar ?a_leads ?l_leads ?c_leads ?h_leads ?a_look_leads ?l_look_leads ?c_look_leads ?h_look_leads ?a_number_of ?l_number_of ?c_number_of ?h_number_of ?a_law_right ?l_law_right ?c_law_right ?h_law_right ?a_law_cell_at ?l_law_cell_at ?c_law_cell_at ?h_law_cell_at ?a_law_box ?l_law_box ?c_law_box ?h_law_box ?a_law ?l_law ?c_law ?h_law ?y_tuple ?y_range ?y_len ?y_min ?y_enumerate ?y_zip ?y_max ?y_all ?y_abs ?y_int
    (case a_law_take => k_is); (case l_law_take => k_is); (case c_law_take => k_is); (case h_law_take => k_is); (case a_law_line => k_is); (case l_law_line => k_is); (case c_law_line => k_is); (case h_law_line => k_is); (case a_stepped => k_is); (case l_stepped => k_is); (case c_stepped => k_is); (case h_stepped => k_is); (case a_rests => k_is); (case l_rests => k_is); (case c_rests => k_is); (case h_rests => k_is); (case a_rest => k_is); (case l_rest => k_is); (case c_rest => k_is); (case h_rest => k_is); (case a_walks => k_is); (case l_walks => k_is); (case c_walks => k_is); (case h_walks => k_is); (case a_walks_to => k_is); (case l_walks_to => k_is); (case c_walks_to => k_is); (case h_walks_to => k_is); (case a_lot_many => k_is); (case l_lot_many => k_is); (case c_lot_many => k_is); (case h_lot_many => k_is); (case a_common => k_is); (case l_common => k_is); (case c_common => k_is); (case h_common => k_is); (case a_apart => k_is); (case l_apart => k_is); (case c_apart => k_is); (case h_apart => k_is); (case a_row_at => k_is); (case l_row_at => k_is); (case c_row_at => k_is); (case h_row_at => k_is); (case a_many_with => k_is); (case l_many_with => k_is); (case c_many_with => k_is); (case h_many_with => k_is); (case a_law_gap => k_is); (case l_law_gap => k_is); (case c_law_gap => k_is); (case h_law_gap => k_is); (case a_law_words => k_is); (case l_law_words => k_is); (case c_law_words => k_is); (case h_law_words => k_is); (case a_law_goes_on => k_is); (case l_law_goes_on => k_is); (case c_law_goes_on => k_is); (case h_law_goes_on => k_is); (case a_law_shades_at => k_is); (case l_law_shades_at => k_is); (case c_law_shades_at => k_is); (case h_law_shades_at => k_is); (case a_bar => k_is); (case l_bar => k_is); (case c_bar => k_is); (case h_bar => k_is); (case a_leads => k_is); (case l_leads => k_is); (case c_leads => k_is); (case h_leads => k_is); (case a_look_leads => k_is); (case l_look_leads => k_is); (case c_look_leads => k_is); (case h_look_leads => k_is); (case a_number_of => k_is); (case l_number_of => k_is); (case c_number_of => k_is); (case h_number_of => k_is); (case a_law_right => k_is); (case l_law_right => k_is); (case c_law_right => k_is); (case h_law_right => k_is); (case a_law_cell_at => k_is); (case l_law_cell_at => k_is); (case c_law_cell_at => k_is); (case h_law_cell_at => k_is); (case a_law_box => k_is); (case l_law_box => k_is); (case c_law_box => k_is); (case h_law_box => k_is); (case a_law => k_is); (case l_law => k_is); (case c_law => k_is); (case h_law => k_is); (case y_tuple => k_is); (case y_range => k_is); (case y_len => k_is); (case y_min => k_is); (case y_enumerate => k_is); (case y_zip => k_is); (case y_max => k_is); (case y_all => k_is); (case y_abs => k_is); (case y_int => k_is)

