import PyProof.Rows.All
import Wide.All
import OpenK.AllK
import Wide.FinOn
import HandS.ForMost
import HandS.ForExc
import HandS.Zip
import HandS.Iter
import HandS.CallSlots
import KE.KDictKeyed
import KE.KDictWalk
import HandS.Style
import HandS.Text
import HandS.TupAny
import HandS.Wide
import HandS.IsInst
import HandS.Deep
import HandS.TupLe
import HandS.Conv
import KE.GoesMore
import KE.GoesZip
import KE.GoesEnum
import HandS.SetFor
import HandS.TupMul
import PyProof.ListMulRoad
import HandS.Ends
import HandS.Exc
import HandS.OwnIter
import KE.SortData
import HandS.SortInts
import HandS.TupSets
import PyProof.SumWalkG
import HandS.Defaults
import PyProof.WalkInts
import PyProof.MinMaxWalk
import KE.KDictSum
import KE.DataCmp
import HandS.ExcInit
import KE.KExcInit
import KE.KExcIs
import KE.KTryMore
import HandS.FStr
import HandS.FStrTup
import PyProof.ReprNest
import HandS.ExcIs
import HandS.WordsExc
import HandS.Flow
import HandS.ExcValue
import HandS.TupLen
import KE.KDictCopyH
import HandS.List
import HandS.ExcOwn
import PyProof.ReprRoads
import HandS.More
import PySem.Challenge.RW_twintiles_k15_errors_by_hand
set_option Elab.async false
set_option linter.all false
set_option maxRecDepth 100000
set_option maxHeartbeats 4000000
namespace Tw
open PySem PySem.Spec PyProof.Rows L2
mutual
def pk : NestedKey → Bool
  | .num _ => true
  | .tup ks => pkL ks
  | _ => false
def pkL : List NestedKey → Bool
  | [] => true
  | k :: ks => pk k && pkL ks
end
abbrev Ent := NestedKey × V × V
structure GEnt (x : Ent) (e : DictEntry) : Prop where
  key : RelV x.2.1 e.key
  val : RelV x.2.2 e.val
  hash : ∀ w, e.hash = x.1.hash w
def NumE (x : Ent) : Prop := ∃ i, x.1 = .num i ∧ x.2.1 = .int i
def TupE (x : Ent) : Prop := ∃ ks a, x.1 = .tup ks ∧ x.2.1 = .ref a
structure GDat (d : Addr) (L : List Ent) (h : Heap) : Prop where
  len : L.length ≤ sizeLine
  ns : (d == sysModules) = false
  form : (∀ x ∈ L, NumE x) ∨ (∀ x ∈ L, TupE x)
  nd : (L.map (·.1)).Nodup
  pkk : ∀ x ∈ L, pk x.1 = true
  ob : ∃ o es, h.get? d = some o ∧ o.ExactDict ∧ o.data = .dict es L.length ∧ Paired GEnt L es.toList
def GDO (d : Addr) (L : List Ent) : HO := .ext (GDat d L)
theorem GDat.ok {P : Program} {w : World} {H : Hp} {h : Heap} {d : Addr} {L : List Ent} (g : GDat d L h) : ObjOk P w H h d (GDO d L) := by
  refine ⟨g, let ⟨o, _, ho, _⟩ := g.ob; ⟨o, ho⟩, fun h1 h2 q k => ?_⟩
  obtain ⟨o, es, ho, r⟩ := GDat.ob q
  exact ⟨q.len, q.ns, q.form, q.nd, q.pkk, o, es, k o ho, r⟩
section
variable {P : Program} {w : World}
abbrev NumP (x : Ent) (p : Int × Value) : Prop := x.1 = .num p.1 ∧ RelV x.2.2 p.2
theorem num_pairs : ∀ {L : List Ent} {es : List DictEntry}, Paired GEnt L es → (∀ x ∈ L, NumE x) → ∃ vs, Paired NumP L vs ∧ Pairs (PySem.intKind P w) es vs ∧ ∀ e ∈ es, ∃ k, (PySem.intKind P w).is k e.key = true ∧ e.hash = (PySem.intKind P w).hash k
  | _, _, .nil, _ => ⟨[], .nil, .nil, fun _ z => nomatch z⟩
  | x :: L, e :: es, .cons g t, h => by
    obtain ⟨vs, a, b, c⟩ := num_pairs t fun y hy => h y (by simp [hy])
    obtain ⟨i, e1, e2⟩ := h x (by simp)
    have rk := g.key
    rw [e2] at rk
    obtain ⟨tk, ek⟩ := rk
    have is : (PySem.intKind P w).is i e.key = true := by rw [ek]; simp [PySem.intKind, Value.isInt]
    refine ⟨(i, e.val) :: vs, .cons ⟨e1, g.val⟩ a, .cons is rfl b, fun y hy => ?_⟩
    rcases List.mem_cons.mp hy with z | z
    · rw [z]
      refine ⟨i, is, ?_⟩
      rw [g.hash w, e1]
      rfl
    · exact c y z
theorem num_keys {L : List Ent} {vs : List (Int × Value)} (a : Paired NumP L vs) : L.map (·.1) = vs.map fun p => NestedKey.num p.1 := by
  induction a with
  | nil => rfl
  | cons r _ ih => simp only [List.map_cons, r.1, ih]
theorem GDat.num {d : Addr} {L : List Ent} {h : Heap} (g : GDat d L h) (hn : ∀ x ∈ L, NumE x) : ∃ vs, Paired NumP L vs ∧ h.DictOf (PySem.intKind P w) d vs := by
  obtain ⟨o, es, h1, h2, h3, h4⟩ := g.ob
  obtain ⟨vs, a, b, c⟩ := num_pairs (P := P) (w := w) h4 hn
  refine ⟨vs, a, o, es, _, h1, h2, h3, fun e he => c e (by simpa using he), b, ?_⟩
  have nd := g.nd
  rw [num_keys a] at nd
  have : (vs.map fun p => NestedKey.num p.1) = (vs.map (·.1)).map NestedKey.num := by rw [List.map_map]; rfl
  rw [this] at nd
  exact List.Pairwise.of_map NestedKey.num (fun _ _ hne e => hne (congrArg NestedKey.num e)) nd
abbrev TupP (x : Ent) (y : NestedKey × Addr × Value) : Prop := x.1 = y.1 ∧ x.2.1 = .ref y.2.1 ∧ RelV x.2.2 y.2.2
theorem tup_pairs : ∀ {L : List Ent} {es : List DictEntry}, Paired GEnt L es → (∀ x ∈ L, TupE x) → ∃ xs, Paired TupP L xs ∧ es = xs.map (entryOfKey (nestedKind P w))
  | _, _, .nil, _ => ⟨[], .nil, rfl⟩
  | x :: L, e :: es, .cons g t, h => by
    obtain ⟨xs, a, b⟩ := tup_pairs t fun y hy => h y (by simp [hy])
    obtain ⟨ks, ad, e1, e2⟩ := h x (by simp)
    refine ⟨(x.1, ad, e.val) :: xs, .cons ⟨rfl, e2, g.val⟩ a, ?_⟩
    have rk := g.key
    rw [e2] at rk
    have ek : e.key = .ref ad := rk
    rw [List.map_cons, ← b]
    congr 1
    show e = ⟨NestedKey.hash w x.1, .ref ad, e.val⟩
    rw [← g.hash w, ← ek]
theorem tup_keys {L : List Ent} {xs : List (NestedKey × Addr × Value)} (a : Paired TupP L xs) : L.map (·.1) = xs.map (·.1) := by
  induction a with
  | nil => rfl
  | cons r _ ih => simp only [List.map_cons, r.1, ih]
def KeysAt (P : Program) (w : World) (h : Heap) (L : List Ent) : Prop := ∀ x ∈ L, ∀ a, x.2.1 = .ref a → (nestedKind P w).is h x.1 a
theorem keys_is {h : Heap} {L : List Ent} {xs : List (NestedKey × Addr × Value)} (a : Paired TupP L xs) : KeysAt P w h L → ∀ y ∈ xs, (nestedKind P w).is h y.1 y.2.1 := by
  induction a with
  | nil => exact fun _ _ z => nomatch z
  | cons r t ih =>
    rename_i x y L xs
    intro k z hz
    rcases List.mem_cons.mp hz with e | e
    · rw [e, ← r.1]
      exact k x (by simp) _ r.2.1
    · exact ih (fun q hq => k q (by simp [hq])) z e
theorem GDat.tup {d : Addr} {L : List Ent} {h : Heap} (g : GDat d L h) (hn : ∀ x ∈ L, TupE x) (hk : KeysAt P w h L) : ∃ xs, Paired TupP L xs ∧ h.DictOfH (nestedKind P w) d xs := by
  obtain ⟨o, es, h1, h2, h3, h4⟩ := g.ob
  obtain ⟨xs, a, b⟩ := tup_pairs (P := P) (w := w) h4 hn
  exact ⟨xs, a, o, es, _, h1, h2, h3, b, keys_is a hk, by rw [← tup_keys a]; exact g.nd⟩
end
end Tw

namespace Tw
open PySem PySem.Spec PyProof.Rows L2

inductive D where
  | non
  | bl (b : Bool)
  | int (i : Int)
  | str (s : Str)
  | tup (xs : List D)
  | lst (xs : List D)
  | dct (ks vs : List D)
  | rol (xs : List D)
  | ref (n : Nat)
  | glb (x : Str)
  | ty (n : String)
  | exc (C : Str) (ns : List Str) (xs : List D)
  deriving Inhabited

inductive Cell where
  | lst (xs : List D)
  | dct (ks vs : List D)
  | ins (C : Str) (ns : List Str) (xs : List D)

abbrev Hd := List Cell
abbrev En := List (Option D)

inductive R (α : Type) where
  | ok (a : α) (h : Hd)
  | exc (e : D) (h : Hd)
  | stuck

def R.bind {α β : Type} (r : R α) (f : α → Hd → R β) : R β := match r with
  | .ok a h => f a h
  | .exc e h => .exc e h
  | .stuck => .stuck
@[simp] theorem R.bind_ok {α β : Type} (a : α) (h : Hd) (f : α → Hd → R β) : (R.ok a h).bind f = f a h := id rfl
@[simp] theorem R.bind_exc {α β : Type} (e : D) (h : Hd) (f : α → Hd → R β) : (R.exc e h : R α).bind f = .exc e h := id rfl
@[simp] theorem R.bind_stuck {α β : Type} (f : α → Hd → R β) : (R.stuck : R α).bind f = .stuck := id rfl

inductive RS where
  | nx (env : En) (h : Hd)
  | rt (d : D) (h : Hd)
  | bk (env : En) (h : Hd)
  | ct (env : En) (h : Hd)
  | exc (e : D) (env : En) (h : Hd)
  | stuck

mutual
def box : D → Hd → D × Hd
  | .lst xs, h => (.ref (boxL xs h).2.length, (boxL xs h).2 ++ [.lst (boxL xs h).1])
  | .tup xs, h => (.tup (boxL xs h).1, (boxL xs h).2)
  | .dct ks vs, h => (.ref (boxL vs h).2.length, (boxL vs h).2 ++ [.dct ks (boxL vs h).1])
  | d, h => (d, h)
def boxL : List D → Hd → List D × Hd
  | [], h => ([], h)
  | x :: xs, h => ((box x h).1 :: (boxL xs (box x h).2).1, (boxL xs (box x h).2).2)
end

mutual
def D.pure : D → Bool
  | .tup xs => pureL xs
  | .lst _ => false
  | .dct _ _ => false
  | .ref _ => false
  | .exc _ _ xs => pureL xs
  | _ => true
def pureL : List D → Bool
  | [] => true
  | x :: xs => x.pure && pureL xs
end
mutual
theorem box_pure : ∀ (d : D) (h : Hd), d.pure = true → box d h = (d, h)
  | .tup xs, h, p => by
    have e := boxL_pure xs h (by simpa [D.pure] using p)
    simp [box, e]
  | .lst _, _, p => by simp [D.pure] at p
  | .dct _ _, _, p => by simp [D.pure] at p
  | .ref _, _, _ => rfl
  | .non, _, _ => rfl
  | .bl _, _, _ => rfl
  | .int _, _, _ => rfl
  | .str _, _, _ => rfl
  | .rol _, _, _ => rfl
  | .glb _, _, _ => rfl
  | .ty _, _, _ => rfl
  | .exc _ _ _, _, _ => rfl
theorem boxL_pure : ∀ (xs : List D) (h : Hd), pureL xs = true → boxL xs h = (xs, h)
  | [], _, _ => rfl
  | x :: xs, h, p => by
    have p' : x.pure = true ∧ pureL xs = true := by simpa [pureL] using p
    simp [boxL, box_pure x h p'.1, boxL_pure xs h p'.2]
end

mutual
def keyN : D → Option NestedKey
  | .int i => some (.num i)
  | .tup xs => match keyNL xs with
    | some ks => some (.tup ks)
    | none => none
  | _ => none
def keyNL : List D → Option (List NestedKey)
  | [] => some []
  | x :: xs => match keyN x, keyNL xs with
    | some k, some ks => some (k :: ks)
    | _, _ => none
end
def mutO : HO → Bool
  | .lst _ => true
  | .dK _ => true
  | .dT _ => true
  | .ins _ _ _ => true
  | .ext _ => true
  | _ => false
def TupAt (K : PySem.W.Frag) (ρ : List Addr) (H : Hp) (a : Addr) (vs : List V) : Prop :=
  (H a = some (.tup vs) ∧ a ∉ ρ) ∨
    ∃ (o : Obj) (its : Array Value) (n : Nat), K.lookup a = some o ∧ o.cls = .type "tuple" ∧ o.data = .seq its n ∧ its.size ≤ sizeLine ∧ Vals vs its.toList
theorem TupAt.sq {K : PySem.W.Frag} {ρ : List Addr} {H : Hp} {a : Addr} {vs : List V} (h : TupAt K ρ H a vs) : SqT K H a vs := by
  rcases h with ⟨h, _⟩ | h
  · exact .inl (.inl h)
  · exact .inr h
def RolAt (K : PySem.W.Frag) (ρ : List Addr) (H : Hp) (a : Addr) (vs : List V) : Prop :=
  ((∃ o, H a = some (.frz o (.lst vs))) ∧ a ∉ ρ) ∨
    ∃ (o : Obj) (its : Array Value) (n : Nat), K.lookup a = some o ∧ o.cls = .type "list" ∧ o.dict = none ∧ o.data = .seq its n ∧ its.size ≤ sizeLine ∧ Vals vs its.toList
theorem RolAt.sq {K : PySem.W.Frag} {ρ : List Addr} {H : Hp} {a : Addr} {vs : List V} (h : RolAt K ρ H a vs) : SqL K H a vs := by
  rcases h with ⟨⟨o, h⟩, _⟩ | h
  · exact .inl (.inr ⟨o, h⟩)
  · exact .inr h

def DctAt (H : Hp) (a : Addr) (ks : List D) (kvs vvs : List V) : Prop :=
  ∃ L : List Ent, H a = some (GDO a L) ∧ (ks.map keyN = L.map fun x => some x.1) ∧ kvs = L.map (fun x => x.2.1) ∧ vvs = L.map fun x => x.2.2
theorem DctAt.to {H H' : Hp} {a : Addr} {ks : List D} {kvs vvs : List V} (h : DctAt H a ks kvs vvs) (k : ∀ o, H a = some o → H' a = some o) : DctAt H' a ks kvs vvs :=
  let ⟨L, e, q⟩ := h; ⟨L, k _ e, q⟩
theorem DctAt.there {H : Hp} {a : Addr} {ks : List D} {kvs vvs : List V} (h : DctAt H a ks kvs vvs) : ∃ o, H a = some o ∧ mutO o = true := let ⟨_, e, _⟩ := h; ⟨_, e, rfl⟩

def ExcAt (mg : Str → Option Value) (ρ : List Addr) (H : Hp) (a : Addr) (C : Str) (ns : List Str) (vs : List V) : Prop :=
  ∃ (c : Addr) (oe : Obj) (u : HO) (dd : Option Addr), mg C = some (.ref c) ∧ H a = some (.frz oe u) ∧ a ∉ ρ ∧ Zc (.ref c) dd oe ∧ (∃ fs, oe.data = .fields fs) ∧ ((ns = [] ∧ dd = none) ∨ ∃ da, dd = some da ∧ H da = some (.xd (ns.zip vs)) ∧ da ∉ ρ)
section
variable (K : PySem.W.Frag) (mg : Str → Option Value) (ρ : List Addr) (H : Hp)
mutual
inductive Rep : D → V → List Addr → Prop
  | non : Rep .non .non []
  | bl (b : Bool) : Rep (.bl b) (.bl b) []
  | int (i : Int) : Rep (.int i) (.int i) []
  | str (s : Str) : Rep (.str s) (.str s) []
  | tup {a : Addr} {xs : List D} {vs : List V} {S : List Addr} : TupAt K ρ H a vs → RepL xs vs S → Rep (.tup xs) (.ref a) S
  | lst {a : Addr} {xs : List D} {vs : List V} {S : List Addr} : H a = some (.lst vs) → RepL xs vs S → Rep (.lst xs) (.ref a) (S ++ [a])
  | dct {a : Addr} {ks xs : List D} {kvs vs : List V} {S : List Addr} : DctAt H a ks kvs vs → RepL ks kvs [] → RepL xs vs S → Rep (.dct ks xs) (.ref a) (S ++ [a])
  | rol {a : Addr} {xs : List D} {vs : List V} : RolAt K ρ H a vs → RepL xs vs [] → Rep (.rol xs) (.ref a) []
  | ref {n : Nat} {a : Addr} : ρ[n]? = some a → Rep (.ref n) (.ref a) []
  | glb {x : Str} {a : Addr} : mg x = some (.ref a) → Rep (.glb x) (.ref a) []
  | ty (n : String) : Rep (.ty n) (.ty n) []
  | exc {C : Str} {ns : List Str} {xs : List D} {vs : List V} {a : Addr} : ExcAt mg ρ H a C ns vs → RepL xs vs [] → xs.length = ns.length → Rep (.exc C ns xs) (.ref a) []
inductive RepL : List D → List V → List Addr → Prop
  | nil : RepL [] [] []
  | cons {x : D} {xs : List D} {v : V} {vs : List V} {S T : List Addr} : Rep x v S → RepL xs vs T → RepL (x :: xs) (v :: vs) (S ++ T)
end
def CellOk (a : Addr) : Cell → Prop
  | .lst xs => ∃ vs, H a = some (.lst vs) ∧ RepL K mg ρ H xs vs []
  | .dct ks xs => ∃ kvs vs, DctAt H a ks kvs vs ∧ RepL K mg ρ H ks kvs [] ∧ RepL K mg ρ H xs vs []
  | .ins _ _ _ => False
structure HRel (h : Hd) : Prop where
  len : ρ.length = h.length
  nd : ρ.Nodup
  cell : ∀ (n : Nat) (c : Cell) (a : Addr), h[n]? = some c → ρ[n]? = some a → CellOk K mg ρ H a c
def EnvRel (env : En) (σ : L2.St) : Prop := env.length = σ.length ∧ ∀ (i : Nat) (d : D), env[i]? = some (some d) → ∃ v, σ[i]? = some (some v) ∧ Rep K mg ρ H d v []
end
structure Step (T : List Addr) (ρ : List Addr) (H : Hp) (ρ' : List Addr) (H' : Hp) : Prop where
  pre : ρ <+: ρ'
  new : ∀ a ∈ ρ', a ∉ ρ → H a = none ∨ a ∈ T
  frame : ∀ a o, H a = some o → a ∉ ρ → a ∉ T → H' a = some o

section
variable {K : PySem.W.Frag} {mg : Str → Option Value} {ρ ρ' : List Addr} {H H' : Hp}
theorem RepL.length : ∀ {xs : List D} {vs : List V} {S : List Addr}, RepL K mg ρ H xs vs S → xs.length = vs.length
  | _, _, _, .nil => rfl
  | _, _, _, .cons _ t => by simp [RepL.length t]
theorem TupAt.to {T : List Addr} {a : Addr} {vs : List V} (s : Step T ρ H ρ' H') (hT : ∀ b ∈ T, ∃ o, H b = some o ∧ mutO o = true) (h : TupAt K ρ H a vs) : TupAt K ρ' H' a vs := by
  rcases h with ⟨h, n⟩ | h
  · have nT : a ∉ T := fun z => by
      obtain ⟨o, e, m⟩ := hT a z
      rw [h] at e; cases e; cases m
    refine .inl ⟨s.frame a _ h n nT, fun z => ?_⟩
    rcases s.new a z n with e | e
    · rw [h] at e; cases e
    · exact nT e
  · exact .inr h
theorem RolAt.to {T : List Addr} {a : Addr} {vs : List V} (s : Step T ρ H ρ' H') (hT : ∀ b ∈ T, ∃ o, H b = some o ∧ mutO o = true) (h : RolAt K ρ H a vs) : RolAt K ρ' H' a vs := by
  rcases h with ⟨⟨o, h⟩, n⟩ | h
  · have nT : a ∉ T := fun z => by
      obtain ⟨o, e, m⟩ := hT a z
      rw [h] at e; cases e; cases m
    refine .inl ⟨⟨o, s.frame a _ h n nT⟩, fun z => ?_⟩
    rcases s.new a z n with e | e
    · rw [h] at e; cases e
    · exact nT e
  · exact .inr h
theorem ExcAt.to {T : List Addr} {a : Addr} {C : Str} {ns : List Str} {vs : List V} (s : Step T ρ H ρ' H') (hT : ∀ b ∈ T, ∃ o, H b = some o ∧ mutO o = true) (h : ExcAt mg ρ H a C ns vs) : ExcAt mg ρ' H' a C ns vs := by
  have stay : ∀ {b : Addr} {o : HO}, H b = some o → mutO o = false → b ∉ ρ → H' b = some o ∧ b ∉ ρ' := fun {b o} e m n => by
    have nT : b ∉ T := fun z => by
      obtain ⟨o', e', m'⟩ := hT b z
      rw [e] at e'; cases e'; rw [m] at m'; cases m'
    refine ⟨s.frame b o e n nT, fun z => ?_⟩
    rcases s.new b z n with q | q
    · rw [e] at q; cases q
    · exact nT q
  obtain ⟨c, oe, u, dd, h1, h2, h3, h4, h5, h6⟩ := h
  obtain ⟨k1, k2⟩ := stay h2 rfl h3
  refine ⟨c, oe, u, dd, h1, k1, k2, h4, h5, h6.imp id fun ⟨da, e1, e2, e3⟩ => ⟨da, e1, ?_⟩⟩
  exact stay e2 rfl e3
theorem pre_get {α : Type} {l l' : List α} {n : Nat} {a : α} (p : l <+: l') (h : l[n]? = some a) : l'[n]? = some a := by
  obtain ⟨t, rfl⟩ := p
  rw [List.getElem?_append_left (List.getElem?_eq_some_iff.mp h).1]
  exact h
mutual
theorem Rep.to {T : List Addr} (s : Step T ρ H ρ' H') (hT : ∀ b ∈ T, ∃ o, H b = some o ∧ mutO o = true) : ∀ {d : D} {v : V} {S : List Addr}, Rep K mg ρ H d v S → (∀ a ∈ S, a ∉ ρ ∧ a ∉ T) → Rep K mg ρ' H' d v S
  | _, _, _, .non, _ => .non
  | _, _, _, .bl b, _ => .bl b
  | _, _, _, .int i, _ => .int i
  | _, _, _, .str z, _ => .str z
  | _, _, _, .tup h r, n => .tup (h.to s hT) (RepL.to s hT r n)
  | _, _, _, .lst h r, n => by
    have na := n _ (List.mem_append_right _ (List.mem_singleton.mpr rfl))
    exact .lst (s.frame _ _ h na.1 na.2) (RepL.to s hT r fun b hb => n b (List.mem_append_left _ hb))
  | _, _, _, .dct h k r, n => by
    have na := n _ (List.mem_append_right _ (List.mem_singleton.mpr rfl))
    exact .dct (h.to fun o e => s.frame _ o e na.1 na.2) (RepL.to s hT k fun _ z => nomatch z) (RepL.to s hT r fun b hb => n b (List.mem_append_left _ hb))
  | _, _, _, .rol h r, n => .rol (h.to s hT) (RepL.to s hT r n)
  | _, _, _, .ref h, _ => .ref (pre_get s.pre h)
  | _, _, _, .glb h, _ => .glb h
  | _, _, _, .ty n, _ => .ty n
  | _, _, _, .exc h r l, n => .exc (h.to s hT) (RepL.to s hT r n) l
theorem RepL.to {T : List Addr} (s : Step T ρ H ρ' H') (hT : ∀ b ∈ T, ∃ o, H b = some o ∧ mutO o = true) : ∀ {xs : List D} {vs : List V} {S : List Addr}, RepL K mg ρ H xs vs S → (∀ a ∈ S, a ∉ ρ ∧ a ∉ T) → RepL K mg ρ' H' xs vs S
  | _, _, _, .nil, _ => .nil
  | _, _, _, .cons r t, n => .cons (Rep.to s hT r fun a ha => n a (List.mem_append_left _ ha)) (RepL.to s hT t fun a ha => n a (List.mem_append_right _ ha))
end
theorem Step.refl {T : List Addr} : Step T ρ H ρ H := ⟨List.prefix_refl _, fun _ h n => absurd h n, fun _ _ h _ _ => h⟩
theorem Step.trans {T : List Addr} {ρ1 ρ2 : List Addr} {H1 H2 : Hp} (s : Step T ρ H ρ1 H1) (t : Step [] ρ1 H1 ρ2 H2) : Step T ρ H ρ2 H2 where
  pre := s.pre.trans t.pre
  new := fun a h n => by
    by_cases m : a ∈ ρ1
    · exact s.new a m n
    · by_cases k : a ∈ T
      · exact .inr k
      · rcases t.new a h m with e | e
        · left
          cases q : H a with
          | none => rfl
          | some o => rw [s.frame a o q n k] at e; cases e
        · cases e
  frame := fun a o e n nT => by
    refine t.frame a o (s.frame a o e n nT) (fun m => ?_) (fun z => nomatch z)
    rcases s.new a m n with z | z
    · rw [e] at z; cases z
    · exact nT z
theorem Step.transT {T : List Addr} {ρ1 ρ2 : List Addr} {H1 H2 : Hp} (s : Step [] ρ H ρ1 H1) (t : Step T ρ1 H1 ρ2 H2) (hT : ∀ a ∈ T, H a = none ∧ a ∉ ρ1) : Step [] ρ H ρ2 H2 where
  pre := s.pre.trans t.pre
  new := fun a h n => by
    by_cases m : a ∈ ρ1
    · exact s.new a m n
    · rcases t.new a h m with e | e
      · left
        cases q : H a with
        | none => rfl
        | some o => rw [s.frame a o q n (fun z => nomatch z)] at e; cases e
      · exact .inl (hT a e).1
  frame := fun a o e n nT => by
    refine t.frame a o (s.frame a o e n nT) (fun m => ?_) (fun z => ?_)
    · rcases s.new a m n with z | z
      · rw [e] at z; cases z
      · cases z
    · rw [(hT a z).1] at e; cases e
theorem Step.mono {T T' : List Addr} (s : Step T ρ H ρ' H') (h : ∀ a ∈ T, a ∈ T') : Step T' ρ H ρ' H' :=
  ⟨s.pre, fun a m n => (s.new a m n).imp id (h a), fun a o e n nT => s.frame a o e n fun z => nT (h a z)⟩
theorem Step.fresh {ρ1 : List Addr} {H1 : Hp} (s : Step [] ρ H ρ1 H1) {a : Addr} (e : H1 a = none) (n : a ∉ ρ) : H a = none := by
  cases q : H a with
  | none => rfl
  | some o => rw [s.frame a o q n (fun z => nomatch z)] at e; cases e
theorem EnvRel.to {env : En} {σ : L2.St} (s : Step [] ρ H ρ' H') (r : EnvRel K mg ρ H env σ) : EnvRel K mg ρ' H' env σ :=
  ⟨r.1, fun i d e => by
    obtain ⟨v, h1, h2⟩ := r.2 i d e
    exact ⟨v, h1, h2.to s (fun _ z => nomatch z) fun _ z => nomatch z⟩⟩
theorem CellOk.there {a : Addr} {c : Cell} (h : CellOk K mg ρ H a c) : ∃ o, H a = some o ∧ mutO o = true := by
  cases c with
  | lst xs => obtain ⟨vs, e, _⟩ := h; exact ⟨_, e, rfl⟩
  | dct _ _ => obtain ⟨_, _, e, _⟩ := h; exact e.there
  | ins _ _ _ => exact h.elim
theorem HRel.there {h : Hd} (r : HRel K mg ρ H h) {a : Addr} (m : a ∈ ρ) : ∃ o, H a = some o ∧ mutO o = true := by
  obtain ⟨n, hn, e⟩ := List.mem_iff_getElem.mp m
  have hl : n < h.length := by rw [← r.len]; exact hn
  exact (r.cell n h[n] a (List.getElem?_eq_getElem hl) (by rw [List.getElem?_eq_getElem hn, e])).there
theorem HRel.notin {h : Hd} (r : HRel K mg ρ H h) {a : Addr} (e : H a = none) : a ∉ ρ := fun m => by
  obtain ⟨o, q, _⟩ := r.there m
  rw [e] at q; cases q
theorem HRel.get {h : Hd} (r : HRel K mg ρ H h) {n : Nat} {c : Cell} (e : h[n]? = some c) : ∃ a, ρ[n]? = some a ∧ CellOk K mg ρ H a c := by
  have hn : n < ρ.length := by rw [r.len]; exact (List.getElem?_eq_some_iff.mp e).1
  exact ⟨ρ[n], List.getElem?_eq_getElem hn, r.cell n c _ e (List.getElem?_eq_getElem hn)⟩
theorem HRel.kept {h : Hd} (r : HRel K mg ρ H h) (k : ∀ a o, H a = some o → H' a = some o) : HRel K mg ρ H' h := by
  refine ⟨r.len, r.nd, fun n c a e1 e2 => ?_⟩
  have s : Step [] ρ H ρ H' := ⟨List.prefix_refl _, fun _ m n => absurd m n, fun a o e _ _ => k a o e⟩
  have q := r.cell n c a e1 e2
  cases c with
  | lst xs => obtain ⟨vs, e, t⟩ := q; exact ⟨vs, k a _ e, t.to s (fun _ z => nomatch z) fun _ z => nomatch z⟩
  | dct _ _ => obtain ⟨kvs, vs, e, t, u⟩ := q; exact ⟨kvs, vs, e.to (k a), t.to s (fun _ z => nomatch z) (fun _ z => nomatch z), u.to s (fun _ z => nomatch z) fun _ z => nomatch z⟩
  | ins _ _ _ => exact q.elim
end

section
variable {K : PySem.W.Frag} {mg : Str → Option Value} {ρ ρ' : List Addr} {H H' : Hp}
mutual
theorem Rep.owned : ∀ {d : D} {v : V} {S : List Addr}, Rep K mg ρ H d v S → ∀ b ∈ S, ∃ o, H b = some o ∧ mutO o = true
  | _, _, _, .non, _, z => nomatch z
  | _, _, _, .bl _, _, z => nomatch z
  | _, _, _, .int _, _, z => nomatch z
  | _, _, _, .str _, _, z => nomatch z
  | _, _, _, .tup _ r, b, z => RepL.owned r b z
  | _, _, _, .lst h r, b, z => by
    rcases List.mem_append.mp z with z | z
    · exact RepL.owned r b z
    · rw [List.mem_singleton.mp z]; exact ⟨_, h, rfl⟩
  | _, _, _, .dct h _ r, b, z => by
    rcases List.mem_append.mp z with z | z
    · exact RepL.owned r b z
    · rw [List.mem_singleton.mp z]; exact h.there
  | _, _, _, .rol _ _, _, z => nomatch z
  | _, _, _, .ref _, _, z => nomatch z
  | _, _, _, .glb _, _, z => nomatch z
  | _, _, _, .ty _, _, z => nomatch z
  | _, _, _, .exc _ _ _, _, z => nomatch z
theorem RepL.owned : ∀ {xs : List D} {vs : List V} {S : List Addr}, RepL K mg ρ H xs vs S → ∀ b ∈ S, ∃ o, H b = some o ∧ mutO o = true
  | _, _, _, .nil, _, z => nomatch z
  | _, _, _, .cons r t, b, z => by
    rcases List.mem_append.mp z with z | z
    · exact Rep.owned r b z
    · exact RepL.owned t b z
end
theorem Step.boxed (ρ : List Addr) (H : Hp) (S : List Addr) : Step S ρ H (ρ ++ S) H :=
  ⟨List.prefix_append _ _, fun a m n => by
    rcases List.mem_append.mp m with m | m
    · exact absurd m n
    · exact .inr m, fun a o e _ _ => e⟩
structure Boxed (K : PySem.W.Frag) (mg : Str → Option Value) (ρ : List Addr) (H : Hp) (h : Hd) (S : List Addr) (h' : Hd) : Prop where
  rel : HRel K mg (ρ ++ S) H h'
  pre : h <+: h'
theorem HRel.push {h : Hd} (r : HRel K mg ρ H h) {a : Addr} {c : Cell} (na : a ∉ ρ) (ha : ∃ o, H a = some o ∧ mutO o = true) (hc : CellOk K mg (ρ ++ [a]) H a c) : HRel K mg (ρ ++ [a]) H (h ++ [c]) := by
  refine ⟨by simp [r.len], ?_, fun n c' b e1 e2 => ?_⟩
  · rw [List.nodup_append]
    refine ⟨r.nd, by simp, fun x hx y hy z => ?_⟩
    rw [List.mem_singleton.mp hy] at z
    subst z
    exact na hx
  · by_cases hn : n < h.length
    · rw [List.getElem?_append_left hn] at e1
      rw [List.getElem?_append_left (by rw [r.len]; exact hn)] at e2
      have q := r.cell n c' b e1 e2
      have st := Step.boxed ρ H [a]
      have hT : ∀ b ∈ [a], ∃ o, H b = some o ∧ mutO o = true := fun b hb => by rw [List.mem_singleton.mp hb]; exact ha
      cases c' with
      | lst xs => obtain ⟨vs, e, t⟩ := q; exact ⟨vs, e, t.to st hT fun _ z => nomatch z⟩
      | dct _ _ => obtain ⟨kvs, vs, e, t, u⟩ := q; exact ⟨kvs, vs, e, t.to st hT (fun _ z => nomatch z), u.to st hT fun _ z => nomatch z⟩
      | ins _ _ _ => exact q.elim
    · have hn' : n = h.length := by
        have := (List.getElem?_eq_some_iff.mp e1).1
        simp at this
        omega
      subst hn'
      rw [List.getElem?_append_right (Nat.le_refl _)] at e1
      rw [← r.len, List.getElem?_append_right (Nat.le_refl _)] at e2
      simp at e1 e2
      subst e1 e2
      exact hc
mutual
theorem box_ok : ∀ {d : D} {v : V} {S : List Addr} {ρ : List Addr} {h : Hd}, HRel K mg ρ H h → Rep K mg ρ H d v S → S.Nodup → (∀ a ∈ S, a ∉ ρ) → Boxed K mg ρ H h S (box d h).2 ∧ Rep K mg (ρ ++ S) H (box d h).1 v []
  | _, _, _, _, _, r, .non, _, _ => ⟨⟨by simpa [box] using r, List.prefix_refl _⟩, by simpa [box] using .non⟩
  | _, _, _, _, _, r, .bl b, _, _ => ⟨⟨by simpa [box] using r, List.prefix_refl _⟩, by simpa [box] using .bl b⟩
  | _, _, _, _, _, r, .int b, _, _ => ⟨⟨by simpa [box] using r, List.prefix_refl _⟩, by simpa [box] using .int b⟩
  | _, _, _, _, _, r, .str b, _, _ => ⟨⟨by simpa [box] using r, List.prefix_refl _⟩, by simpa [box] using .str b⟩
  | _, _, _, _, _, r, .tup (xs := xs) ht t, nd, na => by
    obtain ⟨b, t'⟩ := boxL_ok r t nd na
    refine ⟨by simpa [box] using b, ?_⟩
    simp only [box]
    refine .tup (ht.to (Step.boxed _ _ _) t.owned) t'
  | _, _, _, ρ, h, r, .lst (a := a) (S := S) (xs := xs) (vs := vs) ha t, nd, na => by
    rw [List.nodup_append] at nd
    obtain ⟨nd1, _, nd2⟩ := nd
    obtain ⟨b, t'⟩ := boxL_ok r t nd1 fun x hx => na x (List.mem_append_left _ hx)
    have na1 : a ∉ ρ ++ S := fun z => by
      rcases List.mem_append.mp z with z | z
      · exact na a (by simp) z
      · exact nd2 a z a (by simp) rfl
    have st := Step.boxed (ρ ++ S) H [a]
    have hT : ∀ b ∈ [a], ∃ o, H b = some o ∧ mutO o = true := fun b hb => by rw [List.mem_singleton.mp hb]; exact ⟨_, ha, rfl⟩
    have q := b.rel.push (c := .lst (boxL xs h).1) na1 ⟨_, ha, rfl⟩ ⟨vs, ha, t'.to st hT fun _ z => nomatch z⟩
    simp only [box]
    rw [← List.append_assoc (as := ρ)]
    refine ⟨⟨by rw [← List.append_assoc]; exact q, b.pre.trans (List.prefix_append _ _)⟩, .ref ?_⟩
    rw [← b.rel.len, List.getElem?_append_right (Nat.le_refl _)]
    simp
  | _, _, _, ρ, h, r, .dct (a := a) (S := S) (ks := ks) (xs := xs) (kvs := kvs) (vs := vs) ha tk t, nd, na => by
    rw [List.nodup_append] at nd
    obtain ⟨nd1, _, nd2⟩ := nd
    obtain ⟨b, t'⟩ := boxL_ok r t nd1 fun x hx => na x (List.mem_append_left _ hx)
    have na1 : a ∉ ρ ++ S := fun z => by
      rcases List.mem_append.mp z with z | z
      · exact na a (by simp) z
      · exact nd2 a z a (by simp) rfl
    have st := Step.boxed (ρ ++ S) H [a]
    have hT : ∀ b ∈ [a], ∃ o, H b = some o ∧ mutO o = true := fun b hb => by rw [List.mem_singleton.mp hb]; exact ha.there
    have tk1 := tk.to (Step.boxed ρ H S) t.owned fun _ z => nomatch z
    have q := b.rel.push (c := .dct ks (boxL xs h).1) na1 ha.there ⟨kvs, vs, ha, tk1.to st hT (fun _ z => nomatch z), t'.to st hT fun _ z => nomatch z⟩
    simp only [box]
    rw [← List.append_assoc (as := ρ)]
    refine ⟨⟨by rw [← List.append_assoc]; exact q, b.pre.trans (List.prefix_append _ _)⟩, .ref ?_⟩
    rw [← b.rel.len, List.getElem?_append_right (Nat.le_refl _)]
    simp
  | _, _, _, _, _, r, .rol ha t, _, _ => ⟨⟨by simpa [box] using r, List.prefix_refl _⟩, by simpa [box] using .rol ha t⟩
  | _, _, _, _, _, r, .ref e, _, _ => ⟨⟨by simpa [box] using r, List.prefix_refl _⟩, by simpa [box] using .ref e⟩
  | _, _, _, _, _, r, .glb e, _, _ => ⟨⟨by simpa [box] using r, List.prefix_refl _⟩, by simpa [box] using .glb e⟩
  | _, _, _, _, _, r, .ty n, _, _ => ⟨⟨by simpa [box] using r, List.prefix_refl _⟩, by simpa [box] using .ty n⟩
  | _, _, _, _, _, r, .exc h t l, _, _ => ⟨⟨by simpa [box] using r, List.prefix_refl _⟩, by simpa [box] using .exc h t l⟩
theorem boxL_ok : ∀ {xs : List D} {vs : List V} {S : List Addr} {ρ : List Addr} {h : Hd}, HRel K mg ρ H h → RepL K mg ρ H xs vs S → S.Nodup → (∀ a ∈ S, a ∉ ρ) → Boxed K mg ρ H h S (boxL xs h).2 ∧ RepL K mg (ρ ++ S) H (boxL xs h).1 vs []
  | _, _, _, _, _, r, .nil, _, _ => ⟨⟨by simpa [boxL] using r, List.prefix_refl _⟩, by simpa [boxL] using .nil⟩
  | _, _, _, ρ, h, r, .cons (x := x) (xs := xs) (S := S) (T := T) t u, nd, na => by
    rw [List.nodup_append] at nd
    obtain ⟨nd1, nd2, nd3⟩ := nd
    obtain ⟨b, t'⟩ := box_ok r t nd1 fun x hx => na x (List.mem_append_left _ hx)
    have u1 := u.to (Step.boxed ρ H S) t.owned fun a ha => ⟨na a (List.mem_append_right _ ha), fun z => nd3 a z a ha rfl⟩
    obtain ⟨b2, u'⟩ := boxL_ok b.rel u1 nd2 fun a ha z => by
      rcases List.mem_append.mp z with z | z
      · exact na a (List.mem_append_right _ ha) z
      · exact nd3 a z a ha rfl
    simp only [boxL]
    rw [← List.append_assoc (as := ρ)]
    exact ⟨⟨by rw [← List.append_assoc]; exact b2.rel, b.pre.trans b2.pre⟩, .cons (S := []) (t'.to (Step.boxed _ _ _) u1.owned fun _ z => nomatch z) u'⟩
end
end

mutual
def refsLt (n0 : Nat) : D → Bool
  | .ref n => decide (n < n0)
  | .tup xs => refsLtL n0 xs
  | .lst xs => refsLtL n0 xs
  | .dct ks vs => refsLtL n0 ks && refsLtL n0 vs
  | .rol xs => refsLtL n0 xs
  | .exc _ _ xs => refsLtL n0 xs
  | _ => true
def refsLtL (n0 : Nat) : List D → Bool
  | [] => true
  | x :: xs => refsLt n0 x && refsLtL n0 xs
end
def Cell.refsLt (n0 : Nat) : Cell → Bool
  | .lst xs => refsLtL n0 xs
  | .dct ks vs => refsLtL n0 ks && refsLtL n0 vs
  | .ins _ _ xs => refsLtL n0 xs
def unboxL (f : D → Option (D × List Nat)) : List D → Option (List D × List Nat)
  | [] => some ([], [])
  | x :: xs => match f x, unboxL f xs with
    | some (y, u), some (ys, us) => some (y :: ys, u ++ us)
    | _, _ => none
def unbox (h : Hd) (n0 : Nat) : Nat → D → Option (D × List Nat)
  | 0, _ => none
  | k + 1, .ref n => if n < n0 then some (.ref n, []) else match h[n]? with
    | some (.lst xs) => match unboxL (unbox h n0 k) xs with
      | some (ys, us) => some (.lst ys, us ++ [n])
      | none => none
    | some (.dct ks xs) => if refsLtL n0 ks = true then match unboxL (unbox h n0 k) xs with
      | some (ys, us) => some (.dct ks ys, us ++ [n])
      | none => none
      else none
    | _ => none
  | k + 1, .tup xs => match unboxL (unbox h n0 k) xs with
    | some (ys, us) => some (.tup ys, us)
    | none => none
  | k + 1, .lst xs => match unboxL (unbox h n0 k) xs with
    | some (ys, us) => some (.lst ys, us)
    | none => none
  | k + 1, .dct ks xs => if refsLtL n0 ks = true then match unboxL (unbox h n0 k) xs with
    | some (ys, us) => some (.dct ks ys, us)
    | none => none
    else none
  | _ + 1, d => if refsLt n0 d then some (d, []) else none
def gc (n0 : Nat) (d : D) (h : Hd) : R D :=
  if (h.take n0).all (Cell.refsLt n0) then match unbox h n0 20 d with
    | some (d', us) => if us.Nodup then .ok d' (h.take n0) else .ok d h
    | none => .ok d h
  else .ok d h
section
variable {K : PySem.W.Frag} {mg : Str → Option Value} {ρ ρ' : List Addr} {H H' : Hp}
theorem notin_take {a : Addr} {n : Nat} (h : a ∉ ρ) : a ∉ ρ.take n := fun z => h (List.mem_of_mem_take z)
theorem TupAt.take {a : Addr} {vs : List V} (n : Nat) (h : TupAt K ρ H a vs) : TupAt K (ρ.take n) H a vs := h.imp (fun h => ⟨h.1, notin_take h.2⟩) id
theorem RolAt.take {a : Addr} {vs : List V} (n : Nat) (h : RolAt K ρ H a vs) : RolAt K (ρ.take n) H a vs := h.imp (fun h => ⟨h.1, notin_take h.2⟩) id
theorem ExcAt.take {a : Addr} {C : Str} {ns : List Str} {vs : List V} (n : Nat) (h : ExcAt mg ρ H a C ns vs) : ExcAt mg (ρ.take n) H a C ns vs := by
  obtain ⟨c, oe, u, dd, h1, h2, h3, h4, h5, h6⟩ := h
  exact ⟨c, oe, u, dd, h1, h2, notin_take h3, h4, h5, h6.imp id fun ⟨da, e1, e2, e3⟩ => ⟨da, e1, e2, notin_take e3⟩⟩
mutual
theorem Rep.take (n0 : Nat) : ∀ {d : D} {v : V} {S : List Addr}, Rep K mg ρ H d v S → refsLt n0 d = true → Rep K mg (ρ.take n0) H d v S
  | _, _, _, .non, _ => .non
  | _, _, _, .bl b, _ => .bl b
  | _, _, _, .int i, _ => .int i
  | _, _, _, .str z, _ => .str z
  | _, _, _, .tup h r, p => .tup (h.take n0) (RepL.take n0 r (by simpa [refsLt] using p))
  | _, _, _, .lst h r, p => .lst h (RepL.take n0 r (by simpa [refsLt] using p))
  | _, _, _, .dct (ks := ks) (xs := xs) h k r, p => by
    have p' : refsLtL n0 ks = true ∧ refsLtL n0 xs = true := by simpa [refsLt] using p
    exact .dct h (RepL.take n0 k p'.1) (RepL.take n0 r p'.2)
  | _, _, _, .rol h r, p => .rol (h.take n0) (RepL.take n0 r (by simpa [refsLt] using p))
  | _, _, _, .ref h, p => .ref (by
    have p' := of_decide_eq_true (by simpa only [refsLt] using p)
    rw [List.getElem?_take, if_pos p']; exact h)
  | _, _, _, .glb h, _ => .glb h
  | _, _, _, .ty n, _ => .ty n
  | _, _, _, .exc h r l, p => .exc (h.take n0) (RepL.take n0 r (by simpa [refsLt] using p)) l
theorem RepL.take (n0 : Nat) : ∀ {xs : List D} {vs : List V} {S : List Addr}, RepL K mg ρ H xs vs S → refsLtL n0 xs = true → RepL K mg (ρ.take n0) H xs vs S
  | _, _, _, .nil, _ => .nil
  | _, _, _, .cons (x := x) (xs := xs) r t, p => by
    have p' : refsLt n0 x = true ∧ refsLtL n0 xs = true := by simpa [refsLtL] using p
    exact .cons (Rep.take n0 r p'.1) (RepL.take n0 t p'.2)
end
theorem HRel.take {h : Hd} (n0 : Nat) (r : HRel K mg ρ H h) (p : (h.take n0).all (Cell.refsLt n0) = true) : HRel K mg (ρ.take n0) H (h.take n0) := by
  refine ⟨by simp [r.len], r.nd.sublist (List.take_sublist _ _), fun n c a e1 e2 => ?_⟩
  have pc := List.all_eq_true.mp p c (List.mem_of_getElem? e1)
  have e1' : h[n]? = some c := by
    rw [List.getElem?_take] at e1
    split at e1
    · exact e1
    · cases e1
  have e2' : ρ[n]? = some a := by
    rw [List.getElem?_take] at e2
    split at e2
    · exact e2
    · cases e2
  have q := r.cell n c a e1' e2'
  cases c with
  | lst xs => obtain ⟨vs, e, t⟩ := q; exact ⟨vs, e, t.take n0 (by simpa [Cell.refsLt] using pc)⟩
  | dct ks xs =>
    obtain ⟨kvs, vs, e, t, u⟩ := q
    have pc' : refsLtL n0 ks = true ∧ refsLtL n0 xs = true := by simpa [Cell.refsLt] using pc
    exact ⟨kvs, vs, e, t.take n0 pc'.1, u.take n0 pc'.2⟩
  | ins _ _ _ => exact q.elim
def ats (ρ : List Addr) (us : List Nat) : List Addr := us.filterMap fun n => ρ[n]?
theorem ats_append {us ws : List Nat} : ats ρ (us ++ ws) = ats ρ us ++ ats ρ ws := by simp [ats, List.filterMap_append]
theorem unboxL_ok {n0 : Nat} {f : D → Option (D × List Nat)} (hf : ∀ d d' us v S, f d = some (d', us) → Rep K mg ρ H d v S → (∀ n ∈ us, n0 ≤ n) ∧ ∃ S', Rep K mg (ρ.take n0) H d' v S' ∧ S'.Perm (S ++ ats ρ us)) :
    ∀ (xs ys : List D) (us : List Nat) (vs : List V) (S : List Addr), unboxL f xs = some (ys, us) → RepL K mg ρ H xs vs S → (∀ n ∈ us, n0 ≤ n) ∧ ∃ S', RepL K mg (ρ.take n0) H ys vs S' ∧ S'.Perm (S ++ ats ρ us)
  | [], ys, us, _, _, e, .nil => by
    simp [unboxL] at e
    obtain ⟨rfl, rfl⟩ := e
    exact ⟨(fun _ z => nomatch z), [], .nil, by simp [ats]⟩
  | x :: xs, ys, us, _, _, e, .cons (S := S) (T := T) r t => by
    unfold unboxL at e
    split at e
    · rename_i y u ys' us' e1 e2
      simp at e
      obtain ⟨rfl, rfl⟩ := e
      obtain ⟨k1, S1, r1, p1⟩ := hf _ _ _ _ _ e1 r
      obtain ⟨k2, S2, r2, p2⟩ := unboxL_ok hf xs ys' us' _ _ e2 t
      refine ⟨fun n hn => (List.mem_append.mp hn).elim (k1 n) (k2 n), S1 ++ S2, .cons r1 r2, ?_⟩
      rw [ats_append]
      refine (p1.append p2).trans ?_
      rw [List.append_assoc, List.append_assoc]
      refine List.Perm.append_left _ ?_
      rw [← List.append_assoc, ← List.append_assoc]
      exact List.Perm.append_right _ List.perm_append_comm
    · cases e
theorem unbox_ok {h : Hd} {n0 : Nat} (r : HRel K mg ρ H h) : ∀ (k : Nat) (d d' : D) (us : List Nat) (v : V) (S : List Addr), unbox h n0 k d = some (d', us) → Rep K mg ρ H d v S →
    (∀ n ∈ us, n0 ≤ n) ∧ ∃ S', Rep K mg (ρ.take n0) H d' v S' ∧ S'.Perm (S ++ ats ρ us)
  | 0, _, _, _, _, _, e, _ => by simp [unbox] at e
  | k + 1, d, d', us, v, S, e, t => by
    have leaf : ∀ d : D, Rep K mg ρ H d v S → (if refsLt n0 d = true then some (d, ([] : List Nat)) else none) = some (d', us) → (∀ n ∈ us, n0 ≤ n) ∧ ∃ S', Rep K mg (ρ.take n0) H d' v S' ∧ S'.Perm (S ++ ats ρ us) := fun d t e => by
      split at e
      · rename_i p
        simp at e
        obtain ⟨rfl, rfl⟩ := e
        exact ⟨(fun _ z => nomatch z), S, t.take n0 p, by simp [ats]⟩
      · cases e
    cases d with
    | ref n =>
      cases t with
      | ref ha =>
        rename_i a
        simp only [unbox] at e
        split at e
        · rename_i p
          simp at e
          obtain ⟨rfl, rfl⟩ := e
          refine ⟨(fun _ z => nomatch z), [], .ref ?_, by simp [ats]⟩
          rw [List.getElem?_take, if_pos p]; exact ha
        · rename_i p
          split at e
          · rename_i xs hx
            split at e
            · rename_i ys us' e1
              simp at e
              obtain ⟨rfl, rfl⟩ := e
              obtain ⟨vs, hv, tv⟩ := r.cell n _ a hx ha
              obtain ⟨k1, S1, r1, p1⟩ := unboxL_ok (fun d d' us v S => unbox_ok r k d d' us v S) xs ys us' _ _ e1 tv
              refine ⟨fun m hm => ?_, S1 ++ [a], .lst hv r1, ?_⟩
              · rcases List.mem_append.mp hm with hm | hm
                · exact k1 m hm
                · rw [List.mem_singleton.mp hm]; omega
              · rw [ats_append]
                have : ats ρ [n] = [a] := by simp [ats, ha]
                rw [this]
                simpa using p1.append_right [a]
            · cases e
          · rename_i ks xs hx
            split at e
            · rename_i pk0
              split at e
              · rename_i ys us' e1
                simp at e
                obtain ⟨rfl, rfl⟩ := e
                obtain ⟨kvs, vs, hv, tk, tv⟩ := r.cell n _ a hx ha
                obtain ⟨k1, S1, r1, p1⟩ := unboxL_ok (fun d d' us v S => unbox_ok r k d d' us v S) xs ys us' _ _ e1 tv
                refine ⟨fun m hm => ?_, S1 ++ [a], .dct hv (tk.take n0 pk0) r1, ?_⟩
                · rcases List.mem_append.mp hm with hm | hm
                  · exact k1 m hm
                  · rw [List.mem_singleton.mp hm]; omega
                · rw [ats_append]
                  have : ats ρ [n] = [a] := by simp [ats, ha]
                  rw [this]
                  simpa using p1.append_right [a]
              · cases e
            · cases e
          · cases e
    | tup xs =>
      cases t with
      | tup ht tl =>
        simp only [unbox] at e
        split at e
        · rename_i ys us' e1
          simp at e
          obtain ⟨rfl, rfl⟩ := e
          obtain ⟨k1, S1, r1, p1⟩ := unboxL_ok (fun d d' us v S => unbox_ok r k d d' us v S) xs ys us' _ _ e1 tl
          exact ⟨k1, S1, .tup (ht.take n0) r1, p1⟩
        · cases e
    | lst xs =>
      cases t with
      | lst ht tl =>
        rename_i a vs S
        simp only [unbox] at e
        split at e
        · rename_i ys us' e1
          simp at e
          obtain ⟨rfl, rfl⟩ := e
          obtain ⟨k1, S1, r1, p1⟩ := unboxL_ok (fun d d' us v S => unbox_ok r k d d' us v S) xs ys us' _ _ e1 tl
          refine ⟨k1, S1 ++ [a], .lst ht r1, ?_⟩
          refine (p1.append_right [a]).trans ?_
          rw [List.append_assoc, List.append_assoc]
          exact List.Perm.append_left _ List.perm_append_comm
        · cases e
    | dct ks xs =>
      cases t with
      | dct ht tk tl =>
        rename_i a kvs vs S
        simp only [unbox] at e
        split at e
        · rename_i pk0
          split at e
          · rename_i ys us' e1
            simp at e
            obtain ⟨rfl, rfl⟩ := e
            obtain ⟨k1, S1, r1, p1⟩ := unboxL_ok (fun d d' us v S => unbox_ok r k d d' us v S) xs ys us' _ _ e1 tl
            refine ⟨k1, S1 ++ [a], .dct ht (tk.take n0 pk0) r1, ?_⟩
            refine (p1.append_right [a]).trans ?_
            rw [List.append_assoc, List.append_assoc]
            exact List.Perm.append_left _ List.perm_append_comm
          · cases e
        · cases e
    | exc _ _ _ => exact leaf _ t (by simpa only [unbox] using e)
    | non => exact leaf _ t (by simpa only [unbox] using e)
    | bl _ => exact leaf _ t (by simpa only [unbox] using e)
    | int _ => exact leaf _ t (by simpa only [unbox] using e)
    | str _ => exact leaf _ t (by simpa only [unbox] using e)
    | rol _ => exact leaf _ t (by simpa only [unbox] using e)
    | glb _ => exact leaf _ t (by simpa only [unbox] using e)
    | ty _ => exact leaf _ t (by simpa only [unbox] using e)
theorem nd_at {α : Type} {l : List α} (hN : l.Nodup) {i j : Nat} {x : α} (a : l[i]? = some x) (b : l[j]? = some x) : i = j := by
  obtain ⟨h1, e1⟩ := List.getElem?_eq_some_iff.mp a
  obtain ⟨h2, e2⟩ := List.getElem?_eq_some_iff.mp b
  exact (List.getElem_inj hN).mp (e1.trans e2.symm)
theorem mem_ats {us : List Nat} {a : Addr} : a ∈ ats ρ us ↔ ∃ n ∈ us, ρ[n]? = some a := by simp [ats, List.mem_filterMap]
theorem ats_nodup (nd : ρ.Nodup) : ∀ {us : List Nat}, us.Nodup → (ats ρ us).Nodup
  | [], _ => by simp [ats]
  | n :: us, h => by
    rw [List.nodup_cons] at h
    have ih := ats_nodup nd h.2
    cases q : ρ[n]? with
    | none => simpa [ats, q] using ih
    | some a =>
      have : ats ρ (n :: us) = a :: ats ρ us := by simp [ats, q]
      rw [this, List.nodup_cons]
      refine ⟨fun z => ?_, ih⟩
      obtain ⟨m, hm, e⟩ := mem_ats.mp z
      have := nd_at nd q e
      subst this
      exact h.1 hm
theorem gc_ok {T : List Addr} {ρ0 : List Addr} {H0 : Hp} {h h' : Hd} {n0 : Nat} {d d' : D} {v : V} {S : List Addr} (l : ρ0.length = n0) (r : HRel K mg ρ H h) (s : Step T ρ0 H0 ρ H) (t : Rep K mg ρ H d v S) (nd : S.Nodup) (na : ∀ a ∈ S, a ∉ ρ ∧ (H0 a = none ∨ a ∈ T))
    (e : gc n0 d h = .ok d' h') : ∃ ρ' S', HRel K mg ρ' H h' ∧ Step T ρ0 H0 ρ' H ∧ Rep K mg ρ' H d' v S' ∧ S'.Nodup ∧ ∀ a ∈ S', a ∉ ρ' ∧ (H0 a = none ∨ a ∈ T) := by
  have same : d' = d → h' = h → ∃ ρ' S', HRel K mg ρ' H h' ∧ Step T ρ0 H0 ρ' H ∧ Rep K mg ρ' H d' v S' ∧ S'.Nodup ∧ ∀ a ∈ S', a ∉ ρ' ∧ (H0 a = none ∨ a ∈ T) := fun e1 e2 => by
    subst e1 e2
    exact ⟨ρ, S, r, s, t, nd, na⟩
  have ht : ρ.take n0 = ρ0 := by
    obtain ⟨m, rfl⟩ := s.pre
    rw [← l, List.take_left]
  unfold gc at e
  split at e
  · rename_i p
    split at e
    · rename_i d1 us e1
      split at e
      · rename_i nu
        cases e
        obtain ⟨k, S', r', pm⟩ := unbox_ok r 20 d d' us v S e1 t
        have rt := r.take n0 p
        rw [ht] at rt r'
        have nots : ∀ a ∈ ats ρ us, a ∉ ρ0 := fun a ha z => by
          obtain ⟨n, hn, e⟩ := mem_ats.mp ha
          obtain ⟨j, hj, ej⟩ := List.mem_iff_getElem.mp z
          have e2 : ρ[j]? = some a := pre_get s.pre (by rw [List.getElem?_eq_getElem hj, ej])
          have := nd_at r.nd e e2
          have := k n hn
          omega
        refine ⟨ρ0, S', rt, ⟨List.prefix_refl _, fun _ m n => absurd m n, fun a o e n nT => s.frame a o e n nT⟩, r', ?_, fun a ha => ?_⟩
        · refine pm.nodup_iff.mpr (List.nodup_append.mpr ⟨nd, ats_nodup r.nd nu, fun a ha b hb z => ?_⟩)
          subst z
          obtain ⟨n, _, e⟩ := mem_ats.mp hb
          exact (na a ha).1 (List.mem_of_getElem? e)
        · rcases List.mem_append.mp (pm.mem_iff.mp ha) with ha | ha
          · exact ⟨fun z => (na a ha).1 (s.pre.subset z), (na a ha).2⟩
          · refine ⟨nots a ha, ?_⟩
            obtain ⟨n, _, e⟩ := mem_ats.mp ha
            exact s.new a (List.mem_of_getElem? e) (nots a ha)
      · cases e; exact same rfl rfl
    · cases e; exact same rfl rfl
  · cases e; exact same rfl rfl
theorem gc_isok {n0 : Nat} {d : D} {h : Hd} : ∃ d' h', gc n0 d h = .ok d' h' := by
  unfold gc
  split
  · split
    · split
      · exact ⟨_, _, rfl⟩
      · exact ⟨_, _, rfl⟩
    · exact ⟨_, _, rfl⟩
  · exact ⟨_, _, rfl⟩
end
end Tw

namespace Tw
open PySem PySem.Spec PyProof.Rows L2

abbrev ME := En → Hd → R D
abbrev MT := En → Hd → R Bool
abbrev MA := En → Hd → R (List D)
abbrev MS := En → Hd → RS

section
variable (K : PySem.W.Frag) (mg : Str → Option Value)
structure Fin (T : List Addr) (ρ : List Addr) (H : Hp) (d : D) (h' : Hd) (v : V) (ρ' : List Addr) (H' : Hp) (S : List Addr) : Prop where
  hr : HRel K mg ρ' H' h'
  st : Step T ρ H ρ' H'
  rp : Rep K mg ρ' H' d v S
  nd : S.Nodup
  fr : ∀ a ∈ S, a ∉ ρ' ∧ (H a = none ∨ a ∈ T)
structure FinL (T : List Addr) (ρ : List Addr) (H : Hp) (ds : List D) (h' : Hd) (vs : List V) (ρ' : List Addr) (H' : Hp) (S : List Addr) : Prop where
  hr : HRel K mg ρ' H' h'
  st : Step T ρ H ρ' H'
  rp : RepL K mg ρ' H' ds vs S
  nd : S.Nodup
  fr : ∀ a ∈ S, a ∉ ρ' ∧ (H a = none ∨ a ∈ T)
def RepX (ρ : List Addr) (H : Hp) (e : D) (cls : Value) (dd : Option Addr) : Prop := match e with
  | .exc C ns xs => ∃ c, mg C = some (.ref c) ∧ cls = .ref c ∧ ∃ vs, RepL K mg ρ H xs vs [] ∧ xs.length = ns.length ∧
      ((ns = [] ∧ dd = none) ∨ ∃ da, dd = some da ∧ H da = some (.xd (ns.zip vs)) ∧ da ∉ ρ)
  | _ => False
def XEnd (Wx : WX) (T : List Addr) (ρ : List Addr) (H : Hp) (e : D) (h' : Hd) (σ : L2.St) : Prop :=
  ∀ cls dd ρ' H', HRel K mg ρ' H' h' → Step T ρ H ρ' H' → RepX K mg ρ' H' e cls dd → Wx cls dd σ H'
def REnd (Wx : WX) (T : List Addr) (ρ : List Addr) (H : Hp) (σ : L2.St) (Q : VK) : R D → Prop
  | .ok d h' => ∀ v ρ' H' S, Fin K mg T ρ H d h' v ρ' H' S → Q v H'
  | .exc e h' => XEnd K mg Wx T ρ H e h' σ
  | .stuck => False
def REndL (Wx : WX) (T : List Addr) (ρ : List Addr) (H : Hp) (σ : L2.St) (Q : List V → Hp → Prop) : R (List D) → Prop
  | .ok ds h' => ∀ vs ρ' H' S, FinL K mg T ρ H ds h' vs ρ' H' S → Q vs H'
  | .exc e h' => XEnd K mg Wx T ρ H e h' σ
  | .stuck => False
def REndB (Wx : WX) (T : List Addr) (ρ : List Addr) (H : Hp) (σ : L2.St) (Q : Bool → Hp → Prop) : R Bool → Prop
  | .ok b h' => ∀ ρ' H', HRel K mg ρ' H' h' → Step T ρ H ρ' H' → Q b H'
  | .exc e h' => XEnd K mg Wx T ρ H e h' σ
  | .stuck => False
def SEnd (Wx : WX) (ρ : List Addr) (H : Hp) (D : Ends) : RS → Prop
  | .nx env' h' => ∀ σ' ρ' H', HRel K mg ρ' H' h' → EnvRel K mg ρ' H' env' σ' → Step [] ρ H ρ' H' → D.nx σ' H'
  | .bk env' h' => ∀ σ' ρ' H', HRel K mg ρ' H' h' → EnvRel K mg ρ' H' env' σ' → Step [] ρ H ρ' H' → D.bk σ' H'
  | .ct env' h' => ∀ σ' ρ' H', HRel K mg ρ' H' h' → EnvRel K mg ρ' H' env' σ' → Step [] ρ H ρ' H' → D.ct σ' H'
  | .rt d h' => ∀ v ρ' H' S, Fin K mg [] ρ H d h' v ρ' H' S → D.rt v H'
  | .exc e env' h' => ∀ cls dd σ' ρ' H', HRel K mg ρ' H' h' → EnvRel K mg ρ' H' env' σ' → Step [] ρ H ρ' H' → RepX K mg ρ' H' e cls dd → Wx cls dd σ' H'
  | .stuck => False
def tE (Wx : WX) (m : ME) : TE := fun σ H Q => ∃ ρ env h, HRel K mg ρ H h ∧ EnvRel K mg ρ H env σ ∧ REnd K mg Wx [] ρ H σ Q (m env h)
def tT (Wx : WX) (m : MT) : TT := fun σ H Q => ∃ ρ env h, HRel K mg ρ H h ∧ EnvRel K mg ρ H env σ ∧ REndB K mg Wx [] ρ H σ Q (m env h)
def tA (Wx : WX) (m : MA) : TA := fun σ H Q => ∃ ρ env h, HRel K mg ρ H h ∧ EnvRel K mg ρ H env σ ∧ REndL K mg Wx [] ρ H σ Q (m env h)
def tS (Wx : WX) (m : MS) : TS := fun D σ H => ∃ ρ env h, HRel K mg ρ H h ∧ EnvRel K mg ρ H env σ ∧ SEnd K mg Wx ρ H D (m env h)
end

abbrev JE (X : Cx) (Wx : WX) (e : Expr) (m : ME) : Prop := PE X e (tE X.K X.mg Wx m)
abbrev JT (X : Cx) (Wx : WX) (e : Expr) (m : MT) : Prop := PT X e (tT X.K X.mg Wx m)
abbrev JW (X : Cx) (Wx : WX) (e : Expr) (m : MT) : Prop := PW X e (tT X.K X.mg Wx m)
abbrev JA (X : Cx) (Wx : WX) (es : List Expr) (m : MA) : Prop := PA X es (tA X.K X.mg Wx m)
abbrev JS (X : Cx) (Wx : WX) (s : Stmt) (m : MS) : Prop := PS X s (tS X.K X.mg Wx m)
abbrev JB (X : Cx) (Wx : WX) (ss : List Stmt) (m : MS) : Prop := PSs X ss (tS X.K X.mg Wx m)

section
variable {X : Cx} {e : Expr} {es : List Expr} {s : Stmt} {ss : List Stmt}
theorem PE.mono {t t' : TE} (h : PE X e t) (i : ∀ σ H Q, t' σ H Q → t σ H Q) : PE X e t' := ⟨fun pins s σ H Q I q => h.run pins s σ H Q I (i σ H Q q)⟩
theorem PT.mono {t t' : TT} (h : PT X e t) (i : ∀ σ H Q, t' σ H Q → t σ H Q) : PT X e t' := ⟨fun pins s σ H Q I q => h.run pins s σ H Q I (i σ H Q q)⟩
theorem PW.mono {t t' : TT} (h : PW X e t) (i : ∀ σ H Q, t' σ H Q → t σ H Q) : PW X e t' := ⟨fun w pins s σ H Q I q => h.run w pins s σ H Q I (i σ H Q q)⟩
theorem PA.mono {t t' : TA} (h : PA X es t) (i : ∀ σ H Q, t' σ H Q → t σ H Q) : PA X es t' := ⟨fun pos pins s σ H Q I q => h.run pos pins s σ H Q I (i σ H Q q)⟩
theorem PS.mono {t t' : TS} (h : PS X s t) (i : ∀ D σ H, t' D σ H → t D σ H) : PS X s t' := ⟨fun pins s σ H D I q => h.run pins s σ H D I (i D σ H q)⟩
theorem PSs.mono {t t' : TS} (h : PSs X ss t) (i : ∀ D σ H, t' D σ H → t D σ H) : PSs X ss t' := ⟨fun pins s σ H D I q => h.run pins s σ H D I (i D σ H q)⟩
end

section
variable {K : PySem.W.Frag} {mg : Str → Option Value} {Wx : WX} {ρ ρ1 : List Addr} {H H1 : Hp} {σ : L2.St} {h : Hd}
theorem XEnd.later {T : List Addr} {e : D} (s : Step [] ρ H ρ1 H1) (hT : ∀ a ∈ T, H a = none ∧ a ∉ ρ1) (x : XEnd K mg Wx [] ρ H e h σ) : XEnd K mg Wx T ρ1 H1 e h σ :=
  fun cls dd ρ' H' r st rx => x cls dd ρ' H' r (s.transT st hT) rx
theorem Fin.later {T : List Addr} {d : D} {v : V} {ρ' S : List Addr} {H' : Hp} (s : Step [] ρ H ρ1 H1) (hr1 : HRel K mg ρ1 H1 h) {h' : Hd} (hT : ∀ a ∈ T, H a = none ∧ a ∉ ρ1) (f : Fin K mg T ρ1 H1 d h' v ρ' H' S) (n : ∀ a, H a = none → a ∉ ρ) : Fin K mg [] ρ H d h' v ρ' H' S :=
  ⟨f.hr, s.transT f.st hT, f.rp, f.nd, fun a ha => ⟨(f.fr a ha).1, .inl (by
    rcases (f.fr a ha).2 with z | z
    · cases q : H a with
      | none => rfl
      | some o =>
        by_cases m : a ∈ ρ
        · obtain ⟨o', e, _⟩ := hr1.there (s.pre.subset m)
          rw [z] at e; cases e
        · rw [s.frame a o q m (fun z => nomatch z)] at z; cases z
    · exact (hT a z).1)⟩⟩
theorem REnd.later {T : List Addr} {Q : VK} {r : R D} (s : Step [] ρ H ρ1 H1) (hr : HRel K mg ρ H h) {h1 : Hd} (hr1 : HRel K mg ρ1 H1 h1) (hT : ∀ a ∈ T, H a = none ∧ a ∉ ρ1) (x : REnd K mg Wx [] ρ H σ Q r) : REnd K mg Wx T ρ1 H1 σ Q r := by
  cases r with
  | ok d h' => exact fun v ρ' H' S f => x v ρ' H' S (f.later s hr1 hT fun a e => hr.notin e)
  | exc e h' => exact XEnd.later s hT x
  | stuck => exact x
end
end Tw

namespace Tw
open PySem PySem.Spec PyProof.Rows L2

def eVar (i : Nat) : ME := fun env h => match env[i]? with
  | some (some d) => .ok d h
  | _ => .stuck
def eC (d : D) : ME := fun _ h => .ok d h
def R.lift (h : Hd) : Option D → R D
  | some d => .ok d h
  | none => .stuck
@[simp] theorem R.lift_some (h : Hd) (d : D) : R.lift h (some d) = .ok d h := id rfl
@[simp] theorem R.lift_none (h : Hd) : R.lift h none = .stuck := id rfl
def eUn (op : D → Hd → Option D) (a : ME) : ME := fun env h => (a env h).bind fun x h1 => R.lift h1 (op x h1)
def eBin (op : D → D → Hd → Option D) (a b : ME) : ME := fun env h => (a env h).bind fun x h1 => (b env h1).bind fun y h2 => R.lift h2 (op x y h2)
def aNil : MA := fun _ h => .ok [] h
def aCons (a : ME) (as : MA) : MA := fun env h => (a env h).bind fun x h1 => (as env h1).bind fun xs h2 => .ok (x :: xs) h2
def eN (op : List D → Hd → Option D) (as : MA) : ME := fun env h => (as env h).bind fun xs h1 => R.lift h1 (op xs h1)
def asB (h : Hd) : D → R Bool
  | .bl b => .ok b h
  | _ => .stuck
def tVal (a : ME) : MT := fun env h => (a env h).bind fun x h1 => asB h1 x
def tNot (a : MT) : MT := fun env h => (a env h).bind fun b h1 => .ok (!b) h1
def tAnd (a b : MT) : MT := fun env h => (a env h).bind fun c h1 => if c = true then b env h1 else .ok false h1
def tOr (a b : MT) : MT := fun env h => (a env h).bind fun c h1 => if c = true then .ok true h1 else b env h1
def eIf (t : MT) (a b : ME) : ME := fun env h => (t env h).bind fun c h1 => if c = true then a env h1 else b env h1
def asBD (h : Hd) (x : D) (f : Bool → R D) : R D := match x with
  | .bl b => f b
  | _ => .stuck
def eAnd (a b : ME) : ME := fun env h => (a env h).bind fun x h1 => asBD h1 x fun c => if c = true then b env h1 else .ok (.bl false) h1
def eOr (a b : ME) : ME := fun env h => (a env h).bind fun x h1 => asBD h1 x fun c => if c = true then .ok (.bl true) h1 else b env h1
def eNot (a : ME) : ME := fun env h => (a env h).bind fun x h1 => asBD h1 x fun c => .ok (.bl (!c)) h1

section
variable (K : PySem.W.Frag) (mg : Str → Option Value)
def Op1 (op : D → Hd → Option D) (r : V → Hp → VK → Prop) : Prop :=
  ∀ x h d, op x h = some d → ∀ ρ H vx S Q, HRel K mg ρ H h → Rep K mg ρ H x vx S → S.Nodup → (∀ a ∈ S, a ∉ ρ) →
    (∀ v H' S', Same H H' → Rep K mg ρ H' d v S' → S'.Nodup → (∀ a ∈ S', a ∉ ρ ∧ (H a = none ∨ a ∈ S)) → Q v H') → r vx H Q
def Op2 (op : D → D → Hd → Option D) (r : R2) : Prop :=
  ∀ x y h d, op x y h = some d → ∀ ρ H vx vy S1 S2 Q, HRel K mg ρ H h → Rep K mg ρ H x vx S1 → Rep K mg ρ H y vy S2 → (S1 ++ S2).Nodup → (∀ a ∈ S1 ++ S2, a ∉ ρ) →
    (∀ v H' S', Same H H' → Rep K mg ρ H' d v S' → S'.Nodup → (∀ a ∈ S', a ∉ ρ ∧ (H a = none ∨ a ∈ S1 ++ S2)) → Q v H') → r vx vy H Q
def OpN (op : List D → Hd → Option D) (r : List V → Hp → VK → Prop) : Prop :=
  ∀ xs h d, op xs h = some d → ∀ ρ H vs S Q, HRel K mg ρ H h → RepL K mg ρ H xs vs S → S.Nodup → (∀ a ∈ S, a ∉ ρ) →
    (∀ v H' S', Same H H' → Rep K mg ρ H' d v S' → S'.Nodup → (∀ a ∈ S', a ∉ ρ ∧ (H a = none ∨ a ∈ S)) → Q v H') → r vs H Q
end
section
variable {K : PySem.W.Frag} {mg : Str → Option Value} {Wx : WX} {ρ ρ1 ρ' : List Addr} {H H1 H' : Hp} {σ : L2.St} {h h' : Hd}
theorem Step.same {T : List Addr} (s : Same H H') : Step T ρ H ρ H' := ⟨List.prefix_refl _, fun _ m n => absurd m n, fun a o e _ _ => s a o e⟩
theorem Fin.same {T S : List Addr} {d : D} {v : V} (hr : HRel K mg ρ H h) (s : Same H H') (r : Rep K mg ρ H' d v S) (nd : S.Nodup) (fr : ∀ a ∈ S, a ∉ ρ ∧ (H a = none ∨ a ∈ T)) : Fin K mg T ρ H d h v ρ H' S :=
  ⟨hr.kept s, Step.same s, r, nd, fr⟩
theorem same_refl : Same H H := fun _ _ e => e
theorem Fin.owns {d : D} {v : V} {S : List Addr} (f : Fin K mg [] ρ H d h' v ρ' H' S) : ∀ a ∈ S, a ∉ ρ' := fun a ha => (f.fr a ha).1
theorem Fin.isnew {d : D} {v : V} {S : List Addr} (f : Fin K mg [] ρ H d h' v ρ' H' S) : ∀ a ∈ S, H a = none := fun a ha => (f.fr a ha).2.elim id fun z => nomatch z
theorem FinL.owns {d : List D} {v : List V} {S : List Addr} (f : FinL K mg [] ρ H d h' v ρ' H' S) : ∀ a ∈ S, a ∉ ρ' := fun a ha => (f.fr a ha).1
theorem FinL.isnew {d : List D} {v : List V} {S : List Addr} (f : FinL K mg [] ρ H d h' v ρ' H' S) : ∀ a ∈ S, H a = none := fun a ha => (f.fr a ha).2.elim id fun z => nomatch z
theorem Fin.two {d1 d2 : D} {v1 v2 : V} {S1 S2 : List Addr} {ρ2 : List Addr} {H2 : Hp} {h2 : Hd} (f1 : Fin K mg [] ρ H d1 h' v1 ρ1 H1 S1) (f2 : Fin K mg [] ρ1 H1 d2 h2 v2 ρ2 H2 S2) :
    Rep K mg ρ2 H2 d1 v1 S1 ∧ (S1 ++ S2).Nodup ∧ ∀ a ∈ S1 ++ S2, a ∉ ρ2 := by
  have own : ∀ a ∈ S1, ∃ o, H1 a = some o := fun a ha => let ⟨o, e, _⟩ := f1.rp.owned a ha; ⟨o, e⟩
  refine ⟨f1.rp.to f2.st (fun _ z => nomatch z) fun a ha => ⟨f1.owns a ha, fun z => nomatch z⟩, ?_, fun a ha z => ?_⟩
  · refine List.nodup_append.mpr ⟨f1.nd, f2.nd, fun a ha b hb e => ?_⟩
    subst e
    obtain ⟨o, e⟩ := own a ha
    rw [f2.isnew a hb] at e; cases e
  · rcases List.mem_append.mp ha with ha | ha
    · rcases f2.st.new a z (f1.owns a ha) with e | e
      · obtain ⟨o, q⟩ := own a ha
        rw [e] at q; cases q
      · cases e
    · exact f2.owns a ha z
theorem Fin.twoL {d1 : D} {d2 : List D} {v1 : V} {v2 : List V} {S1 S2 : List Addr} {ρ2 : List Addr} {H2 : Hp} {h2 : Hd} (f1 : Fin K mg [] ρ H d1 h' v1 ρ1 H1 S1) (f2 : FinL K mg [] ρ1 H1 d2 h2 v2 ρ2 H2 S2) :
    Rep K mg ρ2 H2 d1 v1 S1 ∧ (S1 ++ S2).Nodup ∧ ∀ a ∈ S1 ++ S2, a ∉ ρ2 := by
  have own : ∀ a ∈ S1, ∃ o, H1 a = some o := fun a ha => let ⟨o, e, _⟩ := f1.rp.owned a ha; ⟨o, e⟩
  refine ⟨f1.rp.to f2.st (fun _ z => nomatch z) fun a ha => ⟨f1.owns a ha, fun z => nomatch z⟩, ?_, fun a ha z => ?_⟩
  · refine List.nodup_append.mpr ⟨f1.nd, f2.nd, fun a ha b hb e => ?_⟩
    subst e
    obtain ⟨o, e⟩ := own a ha
    rw [f2.isnew a hb] at e; cases e
  · rcases List.mem_append.mp ha with ha | ha
    · rcases f2.st.new a z (f1.owns a ha) with e | e
      · obtain ⟨o, q⟩ := own a ha
        rw [e] at q; cases q
      · cases e
    · exact f2.owns a ha z
theorem none_back (s : Step [] ρ H ρ1 H1) (hr1 : HRel K mg ρ1 H1 h) {a : Addr} (e : H1 a = none) : H a = none := by
  cases q : H a with
  | none => rfl
  | some o =>
    by_cases m : a ∈ ρ
    · obtain ⟨o', e', _⟩ := hr1.there (s.pre.subset m)
      rw [e] at e'; cases e'
    · rw [s.frame a o q m (fun z => nomatch z)] at e; cases e
theorem Fin.one {d1 d : D} {v1 v : V} {S1 S : List Addr} {H2 : Hp} (f1 : Fin K mg [] ρ H d1 h' v1 ρ1 H1 S1) (s : Same H1 H2) (r : Rep K mg ρ1 H2 d v S) (nd : S.Nodup) (fr : ∀ a ∈ S, a ∉ ρ1 ∧ (H1 a = none ∨ a ∈ S1)) :
    Fin K mg [] ρ H d h' v ρ1 H2 S :=
  ⟨f1.hr.kept s, f1.st.trans (Step.same s), r, nd, fun a ha => ⟨(fr a ha).1, .inl ((fr a ha).2.elim (none_back f1.st f1.hr) (f1.isnew a))⟩⟩
end

section
variable {X : Cx} {Wx : WX} {a b c : Expr} {ma mb mc : ME} {pos : Pos}
theorem je_var {i : Nat} {x : Str} (hN : X.N[i]? = some x := by rfl) (hv : Vis X.env.scope x := by first | exact Or.inl rfl | exact Or.inr (Or.inl rfl) | exact Or.inr (Or.inr rfl)) (hd : (x == ("__debug__" : Str)) = false := by decide) (hcd : (x == ("__classdict__" : Str)) = false := by decide) : JE X Wx (.Name x pos) (eVar i) := by
  refine PE.mono (pe_var hN hv hd hcd) fun σ H Q ⟨ρ, env, h, hr, er, q⟩ => ?_
  unfold eVar at q
  split at q
  · rename_i d e
    obtain ⟨v, e1, r⟩ := er.2 i d e
    exact ⟨v, e1, q v ρ H [] ⟨hr, Step.refl, r, List.nodup_nil, fun _ z => nomatch z⟩⟩
  · exact q.elim
theorem je_const {v : V} {d : D} (h0 : PE X a (tC v)) (hd : ∀ ρ H, Rep X.K X.mg ρ H d v []) : JE X Wx a (eC d) := by
  refine PE.mono h0 fun σ H Q ⟨ρ, env, h, hr, er, q⟩ => ?_
  exact q v ρ H [] ⟨hr, Step.refl, hd _ _, List.nodup_nil, fun _ z => nomatch z⟩
theorem je_int {i : Int} {j : Nat} : JE X Wx (.Constant (.int i) j pos) (eC (.int i)) := je_const pe_int fun _ _ => .int i
theorem je_bl {i : Bool} {j : Nat} : JE X Wx (.Constant (.bool i) j pos) (eC (.bl i)) := je_const pe_bl fun _ _ => .bl i
theorem je_str {i : Str} {j : Nat} : JE X Wx (.Constant (.str i) j pos) (eC (.str i)) := je_const pe_str fun _ _ => .str i
theorem je_non {j : Nat} : JE X Wx (.Constant .none j pos) (eC .non) := je_const pe_non fun _ _ => .non
theorem je_gint {x : Str} {i : Int} {t : Tok} (hm : X.mg x = some (.int i t)) (hg : Gl X x := by rfl) (hd : (x == ("__debug__" : Str)) = false := by decide) : JE X Wx (.Name x pos) (eC (.int i)) :=
  je_const (pe_glob hg hm (v := .int i) ⟨_, rfl⟩ hd) fun _ _ => .int i
theorem je_bty {x : Str} {n : String} (hm : X.mg x = none) (hv : bootBuiltins x = some (.type n) := by decide +kernel) (hg : Gl X x := by rfl) (hn : x ≠ "__name__" := by decide) (hd : (x == ("__debug__" : Str)) = false := by decide) : JE X Wx (.Name x pos) (eC (.ty n)) :=
  je_const (pe_bltn hg hm hv (v := .ty n) rfl hn hd) fun _ _ => .ty n

theorem tE_un {K mg} {σ : L2.St} {H : Hp} {Q : VK} {op : D → Hd → Option D} {r : V → Hp → VK → Prop} (ho : Op1 K mg op r) (q : tE K mg Wx (eUn op ma) σ H Q) : tE K mg Wx ma σ H fun x H1 => r x H1 Q := by
  obtain ⟨ρ, env, h, hr, er, q⟩ := q
  refine ⟨ρ, env, h, hr, er, ?_⟩
  unfold eUn at q
  cases ea : ma env h with
  | ok x h1 =>
    rw [ea] at q
    simp only [R.bind_ok] at q
    intro v1 ρ1 H1 S1 f1
    cases eo : op x h1 with
    | none => rw [eo] at q; exact q.elim
    | some d =>
      rw [eo] at q
      refine ho x h1 d eo ρ1 H1 v1 S1 Q f1.hr f1.rp f1.nd f1.owns fun v H' S' sm rp nd fr => ?_
      exact q v ρ1 H' S' (f1.one sm rp nd fr)
  | exc e h1 => rw [ea] at q; exact q
  | stuck => rw [ea] at q; exact q
theorem tE_bin {K mg} {σ : L2.St} {H : Hp} {Q : VK} {op : D → D → Hd → Option D} {r : R2} (ho : Op2 K mg op r) (q : tE K mg Wx (eBin op ma mb) σ H Q) : tE K mg Wx ma σ H fun x H1 => tE K mg Wx mb σ H1 fun y H2 => r x y H2 Q := by
  obtain ⟨ρ, env, h, hr, er, q⟩ := q
  refine ⟨ρ, env, h, hr, er, ?_⟩
  unfold eBin at q
  cases ea : ma env h with
  | ok x h1 =>
    rw [ea] at q
    simp only [R.bind_ok] at q
    intro v1 ρ1 H1 S1 f1
    refine ⟨ρ1, env, h1, f1.hr, er.to f1.st, ?_⟩
    cases eb : mb env h1 with
    | ok y h2 =>
      rw [eb] at q
      simp only [R.bind_ok] at q
      intro v2 ρ2 H2 S2 f2
      obtain ⟨r1, nd, na⟩ := f1.two f2
      cases eo : op x y h2 with
      | none => rw [eo] at q; exact q.elim
      | some d =>
        rw [eo] at q
        refine ho x y h2 d eo ρ2 H2 v1 v2 S1 S2 Q f2.hr r1 f2.rp nd na fun v H' S' sm rp nd' fr => ?_
        refine q v ρ2 H' S' ⟨f2.hr.kept sm, (f1.st.trans f2.st).trans (Step.same sm), rp, nd', fun a ha => ⟨(fr a ha).1, .inl ?_⟩⟩
        rcases (fr a ha).2 with z | z
        · exact none_back (f1.st.trans f2.st) f2.hr z
        · rcases List.mem_append.mp z with z | z
          · exact f1.isnew a z
          · exact none_back f1.st f1.hr (f2.isnew a z)
    | exc e h2 => rw [eb] at q; exact XEnd.later f1.st (fun _ z => nomatch z) q
    | stuck => rw [eb] at q; exact q
  | exc e h1 => rw [ea] at q; exact q
  | stuck => rw [ea] at q; exact q
theorem je_bin {op : Operator} {f : D → D → Hd → Option D} {r : R2} (hr : OpR X (binaryOp op) r) (ho : Op2 X.K X.mg f r) (ha : JE X Wx a ma) (hb : JE X Wx b mb) : JE X Wx (.BinOp a op b pos) (eBin f ma mb) :=
  PE.mono (pe_op hr ha hb) fun _ _ _ q => tE_bin ho q
theorem je_cmp {op : CmpOp} {f : D → D → Hd → Option D} {r : R2} (hr : OpR X (compareOp op) r) (ho : Op2 X.K X.mg f r) (ha : JE X Wx a ma) (hb : JE X Wx b mb) (hm : behindInMarks op b = false := by first | exact nomark _ | rfl) : JE X Wx (.Compare a [op] [b] pos) (eBin f ma mb) :=
  PE.mono (pe_cmpR hr ha hb hm) fun _ _ _ q => tE_bin ho q
theorem Fin.bl {K mg} {ρ ρ' : List Addr} {H H' : Hp} {h' : Hd} {b : Bool} (hr : HRel K mg ρ' H' h') (s : Step [] ρ H ρ' H') : Fin K mg [] ρ H (.bl b) h' (.bl b) ρ' H' [] := ⟨hr, s, .bl b, List.nodup_nil, fun _ z => nomatch z⟩
theorem tT_val {K mg} {σ : L2.St} {H : Hp} {Q : Bool → Hp → Prop} (q : tT K mg Wx (tVal ma) σ H Q) : tE K mg Wx ma σ H fun x H1 => ∃ k, x = .bl k ∧ Q k H1 := by
  obtain ⟨ρ, env, h, hr, er, q⟩ := q
  refine ⟨ρ, env, h, hr, er, ?_⟩
  unfold tVal at q
  cases ea : ma env h with
  | ok x h1 =>
    rw [ea] at q
    simp only [R.bind_ok] at q
    intro v1 ρ1 H1 S1 f1
    cases x with
    | bl b =>
      have rp := f1.rp
      cases rp
      exact ⟨b, rfl, q ρ1 H1 f1.hr f1.st⟩
    | _ => exact q.elim
  | exc e h1 => rw [ea] at q; exact q
  | stuck => rw [ea] at q; exact q
theorem jt_val (ha : JE X Wx a ma) (he : ∀ whole, isTrue a X.env whole = (do let v ← whole; standAt a.pos; holding [v] (truthy v)) := by intro _; rfl) : JT X Wx a (tVal ma) :=
  PT.mono (pt_val ha he) fun _ _ _ q => tT_val q
theorem jt_cmp {op : CmpOp} {f : D → D → Hd → Option D} {r : R2} (hr : OpR X (compareOp op) r) (ho : Op2 X.K X.mg f r) (ha : JE X Wx a ma) (hb : JE X Wx b mb) (hm : behindInMarks op b = false := by first | exact nomark _ | rfl) : JT X Wx (.Compare a [op] [b] pos) (tVal (eBin f ma mb)) := by
  refine PT.mono (pt_cmpR hr ha hb hm) fun σ H Q q => ?_
  have := tT_val q
  exact tE_bin ho this
theorem jt_not {mt : MT} (ha : JT X Wx a mt) : JT X Wx (.UnaryOp .Not a pos) (tNot mt) := by
  refine PT.mono (pt_not ha) fun σ H Q ⟨ρ, env, h, hr, er, q⟩ => ⟨ρ, env, h, hr, er, ?_⟩
  unfold Tw.tNot at q
  cases ea : mt env h with
  | ok x h1 => rw [ea] at q; exact fun ρ' H' h1 s => q ρ' H' h1 s
  | exc e h1 => rw [ea] at q; exact q
  | stuck => rw [ea] at q; exact q
theorem jw_one {op : BoolOp} {mt : MT} (ha : JT X Wx a mt) : JW X Wx (.BoolOp op [a] pos) mt := by
  cases op with
  | And => exact pw_and1 ha
  | Or => exact pw_or1 ha
theorem jw_or {rest : List Expr} {mt mu : MT} (ha : JT X Wx a mt) (hb : JW X Wx (.BoolOp .Or (b :: rest) pos) mu) : JW X Wx (.BoolOp .Or (a :: b :: rest) pos) (tOr mt mu) := by
  refine PW.mono (pw_or ha hb) fun σ H Q ⟨ρ, env, h, hr, er, q⟩ => ⟨ρ, env, h, hr, er, ?_⟩
  unfold Tw.tOr at q
  cases ea : mt env h with
  | ok c h1 =>
    rw [ea] at q
    intro ρ1 H1 hr1 s1
    cases c with
    | true => exact (if_pos rfl).mpr (q ρ1 H1 hr1 s1)
    | false =>
      refine (if_neg (by decide)).mpr ⟨ρ1, env, h1, hr1, er.to s1, ?_⟩
      simp only [R.bind_ok, Bool.false_eq_true, if_false] at q
      cases eb : mu env h1 with
      | ok b h2 => rw [eb] at q; exact fun ρ2 H2 hr2 s2 => q ρ2 H2 hr2 (s1.trans s2)
      | exc e h2 => rw [eb] at q; exact XEnd.later s1 (fun _ z => nomatch z) q
      | stuck => rw [eb] at q; exact q
  | exc e h1 => rw [ea] at q; exact q
  | stuck => rw [ea] at q; exact q
theorem jt_w {mt : MT} (h : JW X Wx a mt) : JT X Wx a mt := PW.pt h
theorem je_one {op : BoolOp} (ha : JE X Wx a ma) : JE X Wx (.BoolOp op [a] pos) ma := pe_one ha
theorem je_and {rest : List Expr} (ha : JE X Wx a ma) (hb : JE X Wx (.BoolOp .And (b :: rest) pos) mb) : JE X Wx (.BoolOp .And (a :: b :: rest) pos) (eAnd ma mb) := by
  refine PE.mono (pe_and ha hb) fun σ H Q ⟨ρ, env, h, hr, er, q⟩ => ⟨ρ, env, h, hr, er, ?_⟩
  unfold eAnd at q
  cases ea : ma env h with
  | ok x h1 =>
    rw [ea] at q
    simp only [R.bind_ok] at q
    intro v1 ρ1 H1 S1 f1
    cases x with
    | bl c =>
      have rp := f1.rp
      cases rp
      refine ⟨c, rfl, ?_⟩
      cases c with
      | true =>
        refine (if_pos rfl).mpr ⟨ρ1, env, h1, f1.hr, er.to f1.st, ?_⟩
        simp only [asBD, if_true] at q
        exact q.later f1.st hr f1.hr (fun _ z => nomatch z)
      | false =>
        refine (if_neg (by decide)).mpr ?_
        simp only [asBD, Bool.false_eq_true, if_false] at q
        exact q _ ρ1 H1 [] (.bl f1.hr f1.st)
    | _ => exact q.elim
  | exc e h1 => rw [ea] at q; exact q
  | stuck => rw [ea] at q; exact q
theorem je_not (ha : JE X Wx a ma) : JE X Wx (.UnaryOp .Not a pos) (eNot ma) := by
  refine PE.mono (pe_not ha) fun σ H Q ⟨ρ, env, h, hr, er, q⟩ => ⟨ρ, env, h, hr, er, ?_⟩
  unfold eNot at q
  cases ea : ma env h with
  | ok x h1 =>
    rw [ea] at q
    simp only [R.bind_ok] at q
    intro v1 ρ1 H1 S1 f1
    cases x with
    | bl c =>
      have rp := f1.rp
      cases rp
      exact ⟨c, rfl, q _ ρ1 H1 [] (.bl f1.hr f1.st)⟩
    | _ => exact q.elim
  | exc e h1 => rw [ea] at q; exact q
  | stuck => rw [ea] at q; exact q

theorem ja_nil : JA X Wx [] aNil := by
  refine PA.mono pa_nil fun σ H Q ⟨ρ, env, h, hr, er, q⟩ => ?_
  exact q [] ρ H [] ⟨hr, Step.refl, .nil, List.nodup_nil, fun _ z => nomatch z⟩
theorem tA_cons {K mg} {σ : L2.St} {H : Hp} {Q : List V → Hp → Prop} {mas : MA} (q : tA K mg Wx (aCons ma mas) σ H Q) : tE K mg Wx ma σ H fun x H1 => tA K mg Wx mas σ H1 fun xs H2 => Q (x :: xs) H2 := by
  obtain ⟨ρ, env, h, hr, er, q⟩ := q
  refine ⟨ρ, env, h, hr, er, ?_⟩
  unfold aCons at q
  cases ea : ma env h with
  | ok x h1 =>
    rw [ea] at q
    simp only [R.bind_ok] at q
    intro v1 ρ1 H1 S1 f1
    refine ⟨ρ1, env, h1, f1.hr, er.to f1.st, ?_⟩
    cases eb : mas env h1 with
    | ok ys h2 =>
      rw [eb] at q
      simp only [R.bind_ok] at q
      intro v2 ρ2 H2 S2 f2
      obtain ⟨r1, nd, na⟩ := f1.twoL f2
      refine q (v1 :: v2) ρ2 H2 (S1 ++ S2) ⟨f2.hr, f1.st.trans f2.st, .cons r1 f2.rp, nd, fun a ha => ⟨na a ha, .inl ?_⟩⟩
      rcases List.mem_append.mp ha with z | z
      · exact f1.isnew a z
      · exact none_back f1.st f1.hr (f2.isnew a z)
    | exc e h2 => rw [eb] at q; exact XEnd.later f1.st (fun _ z => nomatch z) q
    | stuck => rw [eb] at q; exact q
  | exc e h1 => rw [ea] at q; exact q
  | stuck => rw [ea] at q; exact q
theorem ja_cons {es : List Expr} {mas : MA} (ha : JE X Wx a ma) (hr : JA X Wx es mas) (hs : starEach (a :: es) X.env = (false, eval a X.env) :: starEach es X.env := by rfl) : JA X Wx (a :: es) (aCons ma mas) :=
  PA.mono (pa_cons ha hr hs) fun _ _ _ q => tA_cons q
theorem tE_N {K mg} {σ : L2.St} {H : Hp} {Q : VK} {mas : MA} {op : List D → Hd → Option D} {r : List V → Hp → VK → Prop} (ho : OpN K mg op r) (q : tE K mg Wx (eN op mas) σ H Q) : tA K mg Wx mas σ H fun xs H1 => r xs H1 Q := by
  obtain ⟨ρ, env, h, hr, er, q⟩ := q
  refine ⟨ρ, env, h, hr, er, ?_⟩
  unfold eN at q
  cases ea : mas env h with
  | ok xs h1 =>
    rw [ea] at q
    simp only [R.bind_ok] at q
    intro v1 ρ1 H1 S1 f1
    cases eo : op xs h1 with
    | none => rw [eo] at q; exact q.elim
    | some d =>
      rw [eo] at q
      refine ho xs h1 d eo ρ1 H1 v1 S1 Q f1.hr f1.rp f1.nd f1.owns fun v H' S' sm rp nd fr => ?_
      exact q v ρ1 H' S' ⟨f1.hr.kept sm, f1.st.trans (Step.same sm), rp, nd, fun a ha => ⟨(fr a ha).1, .inl ((fr a ha).2.elim (none_back f1.st f1.hr) (f1.isnew a))⟩⟩
  | exc e h1 => rw [ea] at q; exact q
  | stuck => rw [ea] at q; exact q
variable {es : List Expr} {mas : MA}
theorem je_callB {x : Str} {p : Pos} {e : Expr} {id : String} {f : List D → Hd → Option D} {r : List V → Hp → VK → Prop} (hc : CallR X (.builtin id) r) (ho : OpN X.K X.mg f r) (hm : X.mg x = none) (ha : JA X Wx (e :: es) mas) (hv : bootBuiltins x = some (.builtin id) := by decide +kernel) (hg : Gl X x := by rfl) (hn : x ≠ "__name__" := by decide) (hdb : (x == ("__debug__" : Str)) = false := by decide)
    (he : starEach (e :: es) X.env = (false, eval e X.env) :: starEach es X.env := by rfl) (hpl : (backTo pos (starEach es X.env)).any (·.1) = false := by rfl) : JE X Wx (.Call (.Name x p) (e :: es) [] pos) (eN f mas) :=
  PE.mono (pe_callB hc hg hm hv ha hn hdb he hpl) fun _ _ _ q => tE_N ho q
theorem je_callTy {x : Str} {p : Pos} {e : Expr} {T : String} {f : List D → Hd → Option D} {r : List V → Hp → VK → Prop} (hc : CallR X (.type T) r) (ho : OpN X.K X.mg f r) (hm : X.mg x = none) (ha : JA X Wx (e :: es) mas) (hv : bootBuiltins x = some (.type T) := by decide +kernel) (hg : Gl X x := by rfl) (hn : x ≠ "__name__" := by decide) (hdb : (x == ("__debug__" : Str)) = false := by decide)
    (he : starEach (e :: es) X.env = (false, eval e X.env) :: starEach es X.env := by rfl) (hpl : (backTo pos (starEach es X.env)).any (·.1) = false := by rfl) : JE X Wx (.Call (.Name x p) (e :: es) [] pos) (eN f mas) :=
  PE.mono (pe_callTy hc hg hm hv ha hn hdb he hpl) fun _ _ _ q => tE_N ho q
end

def dTup (xs : List D) (_ : Hd) : Option D := if xs.length ≤ sizeLine then some (.tup xs) else none
def dLst (xs : List D) (_ : Hd) : Option D := if xs.length ≤ sizeLine then some (.lst xs) else none
theorem same_upd {H : Hp} {p : Addr} {o : HO} (n : H p = none) : Same H (upd H p o) := fun b x e => by
  rw [upd_ne (ne_of_none e n)]; exact e
section
variable {K : PySem.W.Frag} {mg : Str → Option Value} {ρ : List Addr} {H H' : Hp} {h : Hd}
theorem Rep.same {d : D} {v : V} {S : List Addr} (s : Same H H') (r : Rep K mg ρ H d v S) (n : ∀ a ∈ S, a ∉ ρ) : Rep K mg ρ H' d v S := r.to (Step.same s : Step [] ρ H ρ H') (fun _ z => nomatch z) fun a ha => ⟨n a ha, fun z => nomatch z⟩
theorem RepL.same {d : List D} {v : List V} {S : List Addr} (s : Same H H') (r : RepL K mg ρ H d v S) (n : ∀ a ∈ S, a ∉ ρ) : RepL K mg ρ H' d v S := r.to (Step.same s : Step [] ρ H ρ H') (fun _ z => nomatch z) fun a ha => ⟨n a ha, fun z => nomatch z⟩
theorem Rep.newTup (hr : HRel K mg ρ H h) {xs : List D} {vs : List V} {S : List Addr} (r : RepL K mg ρ H xs vs S) (n : ∀ a ∈ S, a ∉ ρ) {p : Addr} (np : H p = none) : Rep K mg ρ (upd H p (.tup vs)) (.tup xs) (.ref p) S :=
  .tup (.inl ⟨upd_same, hr.notin np⟩) (r.same (same_upd np) n)
theorem Rep.newLst (hr : HRel K mg ρ H h) {xs : List D} {vs : List V} {S : List Addr} (r : RepL K mg ρ H xs vs S) (n : ∀ a ∈ S, a ∉ ρ) {p : Addr} (np : H p = none) : Rep K mg ρ (upd H p (.lst vs)) (.lst xs) (.ref p) (S ++ [p]) :=
  .lst upd_same (r.same (same_upd np) n)
theorem fresh_p {xs : List D} {vs : List V} {S : List Addr} (hr : HRel K mg ρ H h) (r : RepL K mg ρ H xs vs S) (nd : S.Nodup) (n : ∀ a ∈ S, a ∉ ρ) {p : Addr} (np : H p = none) : (S ++ [p]).Nodup ∧ ∀ a ∈ S ++ [p], a ∉ ρ ∧ (H a = none ∨ a ∈ S) := by
  refine ⟨List.nodup_append.mpr ⟨nd, by simp, fun a ha b hb e => ?_⟩, fun a ha => ?_⟩
  · rw [List.mem_singleton.mp hb] at e
    subst e
    obtain ⟨o, q, _⟩ := r.owned a ha
    rw [np] at q; cases q
  · rcases List.mem_append.mp ha with ha | ha
    · exact ⟨n a ha, .inr ha⟩
    · rw [List.mem_singleton.mp ha]; exact ⟨hr.notin np, .inl np⟩
theorem opTup : OpN K mg dTup (fun xs H Q => xs.length ≤ sizeLine ∧ ∀ p, H p = none → Q (.ref p) (upd H p (.tup xs))) := by
  intro xs h d e ρ H vs S Q hr r nd na q
  unfold dTup at e
  split at e
  · rename_i z
    cases e
    rw [r.length] at z
    refine ⟨z, fun p np => q _ _ S (same_upd np) (.newTup hr r na np) nd fun a ha => ⟨na a ha, .inr ha⟩⟩
  · cases e
theorem opLst : OpN K mg dLst (fun xs H Q => xs.length ≤ sizeLine ∧ ∀ p, H p = none → Q (.ref p) (upd H p (.lst xs))) := by
  intro xs h d e ρ H vs S Q hr r nd na q
  unfold dLst at e
  split at e
  · rename_i z
    cases e
    rw [r.length] at z
    refine ⟨z, fun p np => ?_⟩
    obtain ⟨n1, n2⟩ := fresh_p hr r nd na np
    exact q _ _ (S ++ [p]) (same_upd np) (.newLst hr r na np) n1 n2
  · cases e
end
section
variable {X : Cx} {Wx : WX} {es : List Expr} {mas : MA} {pos : Pos}
theorem je_tup {k : Nat} (ha : JA X Wx es mas) : JE X Wx (.Tuple es k pos) (eN dTup mas) := PE.mono (pe_tup ha) fun _ _ _ q => tE_N opTup q
theorem je_lst (ha : JA X Wx es mas) : JE X Wx (.List es pos) (eN dLst mas) := PE.mono (pe_lst ha) fun _ _ _ q => tE_N opLst q
end
end Tw

namespace Tw
open PySem PySem.Spec PyProof.Rows L2

mutual
def D.beq : D → D → Bool
  | .non, .non => true
  | .bl a, .bl b => a == b
  | .int a, .int b => a == b
  | .str a, .str b => a == b
  | .tup a, .tup b => beqL a b
  | .lst a, .lst b => beqL a b
  | .dct a b, .dct c d => beqL a c && beqL b d
  | .rol a, .rol b => beqL a b
  | .ref a, .ref b => a == b
  | .glb a, .glb b => a == b
  | .ty a, .ty b => a == b
  | .exc a b c, .exc d e f => a == d && b == e && beqL c f
  | _, _ => false
def beqL : List D → List D → Bool
  | [], [] => true
  | x :: xs, y :: ys => D.beq x y && beqL xs ys
  | _, _ => false
end
mutual
theorem D.beq_eq : ∀ {x y : D}, D.beq x y = true → x = y
  | .non, y, h => by cases y <;> simp [D.beq] at h; rfl
  | .bl a, y, h => by cases y <;> simp [D.beq] at h; rw [h]
  | .int a, y, h => by cases y <;> simp [D.beq] at h; rw [h]
  | .str a, y, h => by cases y <;> simp [D.beq] at h; rw [h]
  | .tup a, y, h => by
    cases y <;> simp [D.beq] at h
    rw [beqL_eq h]
  | .lst a, y, h => by
    cases y <;> simp [D.beq] at h
    rw [beqL_eq h]
  | .dct a b, y, h => by
    cases y <;> simp [D.beq] at h
    rw [beqL_eq h.1, beqL_eq h.2]
  | .rol a, y, h => by
    cases y <;> simp [D.beq] at h
    rw [beqL_eq h]
  | .ref a, y, h => by cases y <;> simp [D.beq] at h; rw [h]
  | .glb a, y, h => by cases y <;> simp [D.beq] at h; rw [h]
  | .ty a, y, h => by cases y <;> simp [D.beq] at h; rw [h]
  | .exc a b c, y, h => by
    cases y <;> simp [D.beq] at h
    rw [h.1.1, h.1.2, beqL_eq h.2]
theorem beqL_eq : ∀ {xs ys : List D}, beqL xs ys = true → xs = ys
  | [], [], _ => rfl
  | [], _ :: _, h => by simp [beqL] at h
  | _ :: _, [], h => by simp [beqL] at h
  | x :: xs, y :: ys, h => by
    have h' : D.beq x y = true ∧ beqL xs ys = true := by simpa [beqL] using h
    rw [D.beq_eq h'.1, beqL_eq h'.2]
end
mutual
theorem D.beq_refl : ∀ (x : D), D.beq x x = true
  | .non => rfl
  | .bl a => by simp [D.beq]
  | .int a => by simp [D.beq]
  | .str a => by simp [D.beq]
  | .tup a => by simp [D.beq, beqL_refl a]
  | .lst a => by simp [D.beq, beqL_refl a]
  | .dct a b => by simp [D.beq, beqL_refl a, beqL_refl b]
  | .rol a => by simp [D.beq, beqL_refl a]
  | .ref a => by simp [D.beq]
  | .glb a => by simp [D.beq]
  | .ty a => by simp [D.beq]
  | .exc a b c => by simp [D.beq, beqL_refl c]
theorem beqL_refl : ∀ (xs : List D), beqL xs xs = true
  | [] => rfl
  | x :: xs => by simp [beqL, D.beq_refl x, beqL_refl xs]
end

def RS.of (env : En) : R D → (D → Hd → RS) → RS
  | .ok d h, f => f d h
  | .exc e h, _ => .exc e env h
  | .stuck, _ => .stuck
def RS.ofB (env : En) : R Bool → (Bool → Hd → RS) → RS
  | .ok d h, f => f d h
  | .exc e h, _ => .exc e env h
  | .stuck, _ => .stuck
@[simp] theorem RS.of_ok (env : En) (d : D) (h : Hd) (f : D → Hd → RS) : RS.of env (.ok d h) f = f d h := id rfl
@[simp] theorem RS.ofB_ok (env : En) (d : Bool) (h : Hd) (f : Bool → Hd → RS) : RS.ofB env (.ok d h) f = f d h := id rfl
def sNil : MS := fun env h => .nx env h
def sSeq (a b : MS) : MS := fun env h => match a env h with
  | .nx env' h' => b env' h'
  | r => r
def sDrop (a : ME) : MS := fun env h => RS.of env (a env h) fun _ h1 => .nx env h1
def sRet (a : ME) : MS := fun env h => RS.of env (a env h) fun d h1 => .rt d h1
def sRetN : MS := fun _ h => .rt .non h
def sBk : MS := fun env h => .bk env h
def sCt : MS := fun env h => .ct env h
def sIf (t : MT) (a b : MS) : MS := fun env h => RS.ofB env (t env h) fun c h1 => if c = true then a env h1 else b env h1
abbrev MG := D → Hd → Option (List (Nat × D))
def setAll (env : En) (ps : List (Nat × D)) : En := ps.foldl (fun e p => e.set p.1 (some p.2)) env
def gNm (i : Nat) : MG := fun d _ => some [(i, d)]
def gAll : List MG → List D → Hd → Option (List (Nat × D))
  | [], [], _ => some []
  | g :: gs, d :: ds, h => match g d h, gAll gs ds h with
    | some a, some b => some (a ++ b)
    | _, _ => none
  | _, _, _ => none
def gTp (gs : List MG) : MG := fun d h => match d with
  | .tup ds => gAll gs ds h
  | .ref n => match h[n]? with
    | some (.lst ds) => gAll gs ds h
    | _ => none
  | _ => none
def sAsg (g : MG) (a : ME) : MS := fun env h => RS.of env (a env h) fun d h1 => match g (box d h1).1 (box d h1).2 with
  | some ps => .nx (setAll env ps) (box d h1).2
  | none => .stuck
abbrev Src := List (Nat × Cell)
abbrev MI := En → Hd → R (List D × Src)
def Cell.beq : Cell → Cell → Bool
  | .lst xs, .lst ys => beqL xs ys
  | .dct ks xs, .dct us ys => beqL ks us && beqL xs ys
  | .ins a b xs, .ins c d ys => a == c && b == d && beqL xs ys
  | _, _ => false
theorem Cell.beq_refl (c : Cell) : Cell.beq c c = true := by cases c <;> simp [Cell.beq, beqL_refl]
def srcOk : Src → Hd → Bool
  | [], _ => true
  | (n, c) :: r, h => (match h[n]? with
    | some c' => Cell.beq c' c
    | none => false) && srcOk r h
def forGo (g : MG) (body : MS) (src : Src) : List D → En → Hd → RS
  | [], env, h => if srcOk src h = true then .nx env h else .stuck
  | x :: xs, env, h => if srcOk src h = true then match g x h with
      | none => .stuck
      | some ps => match body (setAll env ps) h with
        | .nx env' h' => forGo g body src xs env' h'
        | .ct env' h' => forGo g body src xs env' h'
        | .bk env' h' => .nx env' h'
        | .rt d h' => .rt d h'
        | .exc e env' h' => .exc e env' h'
        | .stuck => .stuck
    else .stuck
def sFor (mi : MI) (g : MG) (body : MS) : MS := fun env h => match mi env h with
  | .ok (items, src) h1 => forGo g body src items env h1
  | .exc e h1 => .exc e env h1
  | .stuck => .stuck
def wipeE (env : En) : List Nat → En
  | [] => env
  | v :: vs => (wipeE env vs).set v none
def compGo (env : En) (g : MG) (tt : MT) (te : ME) (src : Src) : List D → Hd → R (List D)
  | [], h => if srcOk src h = true then .ok [] h else .stuck
  | x :: xs, h => if srcOk src h = true then match g x h with
      | none => .stuck
      | some ps => match tt (setAll env ps) h with
        | .ok true h1 => match te (setAll env ps) h1 with
          | .ok d h2 => (compGo env g tt te src xs h2).bind fun ds h3 => .ok (d :: ds) h3
          | _ => .stuck
        | .ok false h1 => compGo env g tt te src xs h1
        | _ => .stuck
    else .stuck
def eComp (vs : List Nat) (mi : MI) (g : MG) (tt : MT) (te : ME) : ME := fun env h => match mi env h with
  | .ok (items, src) h1 => (compGo (wipeE env vs) g tt te src items h1).bind fun ds h2 => if ds.length ≤ sizeLine then .ok (.lst ds) h2 else .stuck
  | .exc e h1 => .exc e h1
  | .stuck => .stuck
def tTrue : MT := fun _ h => .ok true h

section
variable (K : PySem.W.Frag) (mg : Str → Option Value)
inductive PRel (ρ : List Addr) (H : Hp) : List (Nat × D) → List (Nat × V) → Prop
  | nil : PRel ρ H [] []
  | cons {i : Nat} {d : D} {v : V} {ps : List (Nat × D)} {ws : List (Nat × V)} : Rep K mg ρ H d v [] → PRel ρ H ps ws → PRel ρ H ((i, d) :: ps) ((i, v) :: ws)
def setV (σ : L2.St) (ws : List (Nat × V)) : L2.St := ws.foldl (fun e p => e.set p.1 (some p.2)) σ
def tG (g : MG) : TG := fun v σ H Q => ∃ ρ h d ps, HRel K mg ρ H h ∧ Rep K mg ρ H d v [] ∧ g d h = some ps ∧ ∀ ws, PRel K mg ρ H ps ws → Q (setV σ ws) H
def tGs (gs : List MG) : TGs := fun vs σ H Q => ∃ ρ h ds ps, HRel K mg ρ H h ∧ RepL K mg ρ H ds vs [] ∧ gAll gs ds h = some ps ∧ ∀ ws, PRel K mg ρ H ps ws → Q (setV σ ws) H
end
section
variable {K : PySem.W.Frag} {mg : Str → Option Value} {ρ : List Addr} {H : Hp}
theorem PRel.append {ps ps' : List (Nat × D)} {ws ws' : List (Nat × V)} (a : PRel K mg ρ H ps ws) (b : PRel K mg ρ H ps' ws') : PRel K mg ρ H (ps ++ ps') (ws ++ ws') := by
  induction a with
  | nil => exact b
  | cons r _ ih => exact .cons r ih
theorem setV_append (σ : L2.St) (ws ws' : List (Nat × V)) : setV σ (ws ++ ws') = setV (setV σ ws) ws' := List.foldl_append
theorem RepL.split : ∀ {x : D} {xs : List D} {vs : List V}, RepL K mg ρ H (x :: xs) vs [] → ∃ v ws, vs = v :: ws ∧ Rep K mg ρ H x v [] ∧ RepL K mg ρ H xs ws [] := by
  intro x xs vs h
  generalize hS : ([] : List Addr) = S at h
  cases h with
  | cons r t =>
    obtain ⟨e1, e2⟩ := List.append_eq_nil_iff.mp hS.symm
    subst e1 e2
    exact ⟨_, _, rfl, r, t⟩
theorem EnvRel.set {env : En} {σ : L2.St} (r : EnvRel K mg ρ H env σ) {i : Nat} {d : D} {v : V} (h : Rep K mg ρ H d v []) : EnvRel K mg ρ H (env.set i (some d)) (σ.set i (some v)) := by
  refine ⟨by simpa using r.1, fun j d' e => ?_⟩
  by_cases hj : j = i
  · subst hj
    have hl : j < env.length := by simpa using (List.getElem?_eq_some_iff.mp e).1
    rw [List.getElem?_set_self hl] at e
    cases e
    exact ⟨v, by rw [List.getElem?_set_self (by rw [← r.1]; exact hl)], h⟩
  · rw [List.getElem?_set_ne (Ne.symm hj)] at e ⊢
    exact r.2 j d' e
theorem EnvRel.setAll {ps : List (Nat × D)} {ws : List (Nat × V)} {env : En} {σ : L2.St} (r : EnvRel K mg ρ H env σ) (p : PRel K mg ρ H ps ws) : EnvRel K mg ρ H (Tw.setAll env ps) (setV σ ws) := by
  induction p generalizing env σ with
  | nil => exact r
  | cons h _ ih => exact ih (r.set h)
end
abbrev JG (X : Cx) (e : Expr) (g : MG) : Prop := PG X e (tG X.K X.mg g)
abbrev JGs (X : Cx) (es : List Expr) (gs : List MG) : Prop := PGs X es (tGs X.K X.mg gs)
section
variable {X : Cx} {pos : Pos} {e : Expr} {es : List Expr} {g : MG} {gs : List MG}
theorem PG.mono {t t' : TG} (h : PG X e t) (i : ∀ v σ H Q, t' v σ H Q → t v σ H Q) : PG X e t' := ⟨fun pins s σ H v u Q I r q => h.run pins s σ H v u Q I r (i v σ H Q q)⟩
theorem PGs.mono {t t' : TGs} (h : PGs X es t) (i : ∀ v σ H Q, t' v σ H Q → t v σ H Q) : PGs X es t' := ⟨fun pins s σ H v u Q I r q => h.run pins s σ H v u Q I r (i v σ H Q q)⟩
theorem jg_name {i : Nat} {x : Str} (hN : X.N.Nodup) (hi : X.N[i]? = some x := by rfl) (hx : Loc X.env.scope x := by first | exact Or.inl rfl | exact Or.inr rfl) (hf : X.fn x = true ∨ X.env.scope.names.lookup x = some .local := by first | exact .inl rfl | exact .inr rfl | assumption) : JG X (.Name x pos) (gNm i) := by
  refine PG.mono (pg_name hN hi hx hf) fun v σ H Q ⟨ρ, h, d, ps, hr, r, e, q⟩ => ?_
  cases e
  exact q [(i, v)] (.cons r .nil)
theorem jgs_nil : JGs X [] [] := by
  refine PGs.mono pgs_nil fun vs σ H Q ⟨ρ, h, ds, ps, hr, r, e, q⟩ => ?_
  cases ds with
  | nil => cases e; cases r; exact ⟨rfl, q [] .nil⟩
  | cons _ _ => cases e
theorem jgs_cons (h1 : JG X e g) (h2 : JGs X es gs) (hs : (assignEach (e :: es) X.env).map (·.2) = assign e X.env :: (assignEach es X.env).map (·.2) := by rfl) : JGs X (e :: es) (g :: gs) := by
  refine PGs.mono (pgs_cons h1 h2 hs) fun vs σ H Q ⟨ρ, h, ds, ps, hr, r, e, q⟩ => ?_
  cases ds with
  | nil => cases e
  | cons d ds =>
    obtain ⟨v, ws, rfl, r1, r2⟩ := r.split
    unfold gAll at e
    split at e
    · rename_i a b e1 e2
      cases e
      refine ⟨v, ws, rfl, ρ, h, d, a, hr, r1, e1, fun wa pa => ⟨ρ, h, ds, b, hr, r2, e2, fun wb pb => ?_⟩⟩
      rw [← setV_append]
      exact q _ (pa.append pb)
    · cases e
theorem jg_tup {k : Nat} (hc : X.calm = true) (h : JGs X es gs) (hl : es.length = gs.length := by rfl) (hn : (assignEach es X.env).length = es.length := by rfl) (hst : (assignEach es X.env).findIdx? (·.1) = none := by rfl) : JG X (.Tuple es k pos) (gTp gs) := by
  have both : PG X (.Tuple es k pos) (fun v σ H Q => gTup X.K es.length (tGs X.K X.mg gs) v σ H Q ∨ gLst X.K es.length (tGs X.K X.mg gs) v σ H Q) :=
    ⟨fun pins s σ H v u Q I r q => q.elim (fun q => (pg_tup hc h hn hst).run pins s σ H v u Q I r q) fun q => (pg_lst hc h hn hst).run pins s σ H v u Q I r q⟩
  have len : ∀ {gs : List MG} {ds : List D} {hh : Hd} {ps : List (Nat × D)}, gAll gs ds hh = some ps → gs.length = ds.length := by
    intro gs
    induction gs with
    | nil => intro ds hh ps e; cases ds with
      | nil => rfl
      | cons _ _ => cases e
    | cons g gs ih => intro ds hh ps e; cases ds with
      | nil => cases e
      | cons d ds =>
        unfold gAll at e
        split at e
        · rename_i e2
          simp [ih e2]
        · cases e
  refine PG.mono both fun v σ H Q ⟨ρ, hh, d, ps, hr, r, e, q⟩ => ?_
  unfold gTp at e
  cases d with
  | tup ds =>
    cases r with
    | tup ht t => exact .inl ⟨_, _, rfl, ht.sq, by rw [← t.length, hl, len e], ρ, hh, ds, ps, hr, t, e, q⟩
  | ref n =>
    cases r with
    | ref ha =>
      simp only at e
      split at e
      · rename_i ds hd
        obtain ⟨vs, hv, t⟩ := hr.cell n _ _ hd ha
        exact .inr ⟨_, _, rfl, SqL.of hv, by rw [← t.length, hl, len e], ρ, hh, ds, ps, hr, t, e, q⟩
      · cases e
  | _ => cases e
end

section
variable {X : Cx} {Wx : WX} {pos : Pos} {e : Expr} {s : Stmt} {ss : List Stmt} {a : ME} {ma mb : MS} {g : MG}
theorem jb_nil : JB X Wx [] sNil := PSs.mono pss_nil fun D σ H ⟨ρ, env, h, hr, er, q⟩ => q σ ρ H hr er Step.refl
section
variable {K : PySem.W.Frag} {mg : Str → Option Value} {ρ ρ1 : List Addr} {H H1 : Hp} {σ : L2.St} {h h1 : Hd} {D : Ends}
theorem SEnd.later {r : RS} (hr : HRel K mg ρ H h) (hr1 : HRel K mg ρ1 H1 h1) (s : Step [] ρ H ρ1 H1) (q : SEnd K mg Wx ρ H D r) : SEnd K mg Wx ρ1 H1 D r := by
  cases r with
  | nx env' h' => exact fun σ' ρ' H' a b c => q σ' ρ' H' a b (s.trans c)
  | bk env' h' => exact fun σ' ρ' H' a b c => q σ' ρ' H' a b (s.trans c)
  | ct env' h' => exact fun σ' ρ' H' a b c => q σ' ρ' H' a b (s.trans c)
  | rt d h' => exact fun v ρ' H' S f => q v ρ' H' S (f.later (T := []) s hr1 (fun _ z => nomatch z) fun a e => hr.notin e)
  | exc e env' h' => exact fun cls dd σ' ρ' H' a b c => q cls dd σ' ρ' H' a b (s.trans c)
  | stuck => exact q
theorem SEnd.nx {D' : Ends} {r : RS} (q : SEnd K mg Wx ρ H D r) (hnx : ∀ σ' H', D.nx σ' H' → D'.nx σ' H') (hbk : ∀ σ' H', D.bk σ' H' → D'.bk σ' H') (hct : ∀ σ' H', D.ct σ' H' → D'.ct σ' H') (hrt : ∀ v H', D.rt v H' → D'.rt v H') : SEnd K mg Wx ρ H D' r := by
  cases r with
  | nx env' h' => exact fun σ' ρ' H' a b c => hnx _ _ (q σ' ρ' H' a b c)
  | bk env' h' => exact fun σ' ρ' H' a b c => hbk _ _ (q σ' ρ' H' a b c)
  | ct env' h' => exact fun σ' ρ' H' a b c => hct _ _ (q σ' ρ' H' a b c)
  | rt d h' => exact fun v ρ' H' S f => hrt _ _ (q v ρ' H' S f)
  | exc e env' h' => exact q
  | stuck => exact q
end
theorem jb_cons (h1 : JS X Wx s ma) (h2 : JB X Wx ss mb) : JB X Wx (s :: ss) (sSeq ma mb) := by
  refine PSs.mono (pss_cons h1 h2) fun D σ H ⟨ρ, env, h, hr, er, q⟩ => ⟨ρ, env, h, hr, er, ?_⟩
  unfold sSeq at q
  cases ea : ma env h with
  | nx env' h' =>
    rw [ea] at q
    exact fun σ' ρ' H' a b c => ⟨ρ', env', h', a, b, SEnd.later hr a c q⟩
  | bk env' h' => rw [ea] at q; exact q
  | ct env' h' => rw [ea] at q; exact q
  | rt d h' => rw [ea] at q; exact q
  | exc e env' h' => rw [ea] at q; exact q
  | stuck => rw [ea] at q; exact q
theorem jb_one (h1 : JS X Wx s ma) : JB X Wx [s] ma := pss_one h1
def sNo : MS := fun _ _ => .stuck
theorem jb_never : JB X Wx ss sNo := PSs.mono pss_never fun D σ H q => by obtain ⟨ρ, env, h, hr, er, q⟩ := q; exact q
theorem js_expr (he : JE X Wx e a) (hs : swapsWith e none pos.line X.env = pure false := by rfl) : JS X Wx (.Expr e pos) (sDrop a) := by
  refine PS.mono (ps_expr he hs) fun D σ H ⟨ρ, env, h, hr, er, q⟩ => ⟨ρ, env, h, hr, er, ?_⟩
  unfold sDrop at q
  cases ea : a env h with
  | ok d h1 => rw [ea] at q; exact fun v ρ1 H1 S f => q σ ρ1 H1 f.hr (er.to f.st) f.st
  | exc e h1 => rw [ea] at q; exact fun cls dd ρ' H' a b c => q cls dd σ ρ' H' a (er.to b) b c
  | stuck => rw [ea] at q; exact q
theorem js_ret (he : JE X Wx e a) : JS X Wx (.Return (some e) pos) (sRet a) := by
  refine PS.mono (ps_ret he) fun D σ H ⟨ρ, env, h, hr, er, q⟩ => ⟨ρ, env, h, hr, er, ?_⟩
  unfold sRet at q
  cases ea : a env h with
  | ok d h1 => rw [ea] at q; exact q
  | exc e h1 => rw [ea] at q; exact fun cls dd ρ' H' a b c => q cls dd σ ρ' H' a (er.to b) b c
  | stuck => rw [ea] at q; exact q
theorem js_if {c : Expr} {b1 b2 : List Stmt} {t : MT} (hc : JT X Wx c t) (h1 : JB X Wx b1 ma) (h2 : JB X Wx b2 mb) : JS X Wx (.If c b1 b2 pos) (sIf t ma mb) := by
  refine PS.mono (ps_if hc h1 h2) fun D σ H ⟨ρ, env, h, hr, er, q⟩ => ⟨ρ, env, h, hr, er, ?_⟩
  unfold sIf at q
  cases ea : t env h with
  | ok c h1 =>
    rw [ea] at q
    simp only [RS.ofB_ok] at q
    intro ρ1 H1 hr1 s1
    cases c with
    | true => exact (if_pos rfl).mpr ⟨ρ1, env, h1, hr1, er.to s1, SEnd.later hr hr1 s1 (by simpa using q)⟩
    | false => exact (if_neg (by decide)).mpr ⟨ρ1, env, h1, hr1, er.to s1, SEnd.later hr hr1 s1 (by simpa using q)⟩
  | exc e h1 => rw [ea] at q; exact fun cls dd ρ' H' a b c => q cls dd σ ρ' H' a (er.to b) b c
  | stuck => rw [ea] at q; exact q
theorem EnvRel.boxed {K mg} {ρ : List Addr} {H : Hp} {env : En} {S : List Addr} {σ : L2.St} (hS : ∀ b ∈ S, ∃ o, H b = some o ∧ mutO o = true) (r : EnvRel K mg ρ H env σ) : EnvRel K mg (ρ ++ S) H env σ :=
  ⟨r.1, fun i d e => by
    obtain ⟨v, h1, h2⟩ := r.2 i d e
    exact ⟨v, h1, h2.to (Step.boxed ρ H S) hS fun _ z => nomatch z⟩⟩
theorem tS_asg {K mg} {D : Ends} {σ : L2.St} {H : Hp} (q : tS K mg Wx (sAsg g a) D σ H) : tE K mg Wx a σ H fun x H1 => tG K mg g x σ H1 D.nx := by
  obtain ⟨ρ, env, h, hr, er, q⟩ := q
  refine ⟨ρ, env, h, hr, er, ?_⟩
  unfold sAsg at q
  cases ea : a env h with
  | ok d h1 =>
    rw [ea] at q
    simp only [RS.of_ok] at q
    intro v ρ1 H1 S f
    obtain ⟨b, rb⟩ := box_ok f.hr f.rp f.nd f.owns
    cases eg : g (box d h1).1 (box d h1).2 with
    | none => rw [eg] at q; exact q.elim
    | some ps =>
      rw [eg] at q
      refine ⟨ρ1 ++ S, _, _, ps, b.rel, rb, eg, fun ws pw => ?_⟩
      refine q _ _ H1 b.rel (((er.to f.st).boxed f.rp.owned).setAll pw) ?_
      exact f.st.transT (Step.boxed ρ1 H1 S) fun x hx => ⟨f.isnew x hx, f.owns x hx⟩
  | exc e h1 => rw [ea] at q; exact fun cls dd ρ' H' a b c => q cls dd σ ρ' H' a (er.to b) b c
  | stuck => rw [ea] at q; exact q
theorem js_set {i : Nat} {x : Str} {p : Pos} (hN : X.N.Nodup) (he : JE X Wx e a) (hi : X.N[i]? = some x := by rfl) (hx : Loc X.env.scope x := by first | exact Or.inl rfl | exact Or.inr rfl) (hs : swapsWith e (some (.Name x p)) pos.line X.env = pure false := by rfl) (hf : X.fn x = true ∨ X.env.scope.names.lookup x = some .local := by first | exact .inl rfl | exact .inr rfl | assumption) :
    JS X Wx (.Assign [.Name x p] e pos) (sAsg (gNm i) a) := by
  refine PS.mono (ps_set hN hi hx he hs hf) fun D σ H q => ?_
  obtain ⟨ρ, env, h, hr, er, q'⟩ := tS_asg q
  refine ⟨ρ, env, h, hr, er, ?_⟩
  cases ea : a env h with
  | ok d h1 =>
    rw [ea] at q'
    intro v ρ1 H1 S f
    obtain ⟨ρ2, h2, d2, ps, hr2, r2, e2, q2⟩ := q' v ρ1 H1 S f
    cases e2
    exact q2 [(i, v)] (.cons r2 .nil)
  | exc e h1 => rw [ea] at q'; exact q'
  | stuck => rw [ea] at q'; exact q'
end
end Tw

namespace Tw
open PySem PySem.Spec PyProof.Rows L2

section
variable (K : PySem.W.Frag) (mg : Str → Option Value)
def ItOk (ρ : List Addr) (H : Hp) (J : It) (items : List D) (src : Src) : Prop :=
  ∀ ρ2 H2 h2, HRel K mg ρ2 H2 h2 → Step [] ρ H ρ2 H2 → srcOk src h2 = true →
    (∀ (i : Nat) x, items[i]? = some x → J.go i H2 ∧ ∀ v H3, J.yld i H2 v H3 → Same H2 H3 ∧ Rep K mg ρ2 H3 x v []) ∧ J.stop items.length H2
def tI (Wx : WX) (mi : MI) : TI := fun σ H R => ∃ ρ env h, HRel K mg ρ H h ∧ EnvRel K mg ρ H env σ ∧ (match mi env h with
  | .ok (items, src) h' => ∀ J ρ' H', HRel K mg ρ' H' h' → Step [] ρ H ρ' H' → ItOk K mg ρ' H' J items src → R J H'
  | .exc e h' => XEnd K mg Wx [] ρ H e h' σ
  | .stuck => False)
end
abbrev JI (X : Cx) (Wx : WX) (tg iter : Expr) (mi : MI) : Prop := PI X tg iter (tI X.K X.mg Wx mi)
theorem PI.mono {X : Cx} {tg iter : Expr} {t t' : TI} (h : PI X tg iter t) (i : ∀ σ H R, t' σ H R → t σ H R) : PI X tg iter t' := ⟨fun pins s σ H R I q => h.run pins s σ H R I (i σ H R q)⟩
theorem Cell.beq_eq {c c' : Cell} (e : Cell.beq c' c = true) : c' = c := by
  cases c' with
  | lst xs =>
    cases c with
    | lst ys => rw [beqL_eq e]
    | _ => cases e
  | dct ks xs =>
    cases c with
    | dct us ys =>
      simp only [Cell.beq, Bool.and_eq_true] at e
      rw [beqL_eq e.1, beqL_eq e.2]
    | _ => cases e
  | ins a b xs =>
    cases c with
    | ins a' b' ys =>
      simp only [Cell.beq, Bool.and_eq_true, beq_iff_eq] at e
      rw [e.1.1, e.1.2, beqL_eq e.2]
    | _ => cases e
theorem srcOk_one {n : Nat} {c : Cell} {r : Src} {h : Hd} (e : srcOk ((n, c) :: r) h = true) : h[n]? = some c ∧ srcOk r h = true := by
  unfold srcOk at e
  rw [Bool.and_eq_true] at e
  refine ⟨?_, e.2⟩
  have e1 := e.1
  split at e1
  · rename_i y hy
    have z := Cell.beq_eq e1
    subst z
    exact hy
  · cases e1
theorem srcOk_get {n : Nat} {c : Cell} {h : Hd} (e : srcOk [(n, c)] h = true) : h[n]? = some c := (srcOk_one e).1
theorem srcOk_consC {n : Nat} {c : Cell} {r : Src} {h : Hd} (e : h[n]? = some c) : srcOk ((n, c) :: r) h = srcOk r h := by
  rw [srcOk]
  simp only [e, Cell.beq_refl, Bool.true_and]
theorem srcOk_cons {n : Nat} {items : List D} {r : Src} {h : Hd} (e : h[n]? = some (.lst items)) : srcOk ((n, .lst items) :: r) h = srcOk r h := srcOk_consC e
theorem srcOk_self {n : Nat} {items : List D} {h : Hd} (e : h[n]? = some (.lst items)) : srcOk [(n, .lst items)] h = true := by rw [srcOk_cons e]; rfl

section
variable {X : Cx} {Wx : WX} {pos : Pos} {tg iter : Expr} {body : List Stmt} {mi : MI} {g : MG} {mb : MS}
theorem js_for (hp : PassesOwn (model X.prog X.w) X.A X.env X.xe) (hc : X.calm = true) (hi : JI X Wx tg iter mi) (hg : JG X tg g) (hb : JB X Wx body mb) (hs : ∀ x, foldedSetIterable iter X.env x = pure x := by intro _; rfl) : JS X Wx (.For tg iter body [] pos) (sFor mi g mb) := by
  refine PS.mono (ps_for hp hc hi hg hb hs) fun D σ H ⟨ρ, env, h, hr, er, q⟩ => ⟨ρ, env, h, hr, er, ?_⟩
  unfold sFor at q
  cases ei : mi env h with
  | exc e h1 => rw [ei] at q; exact fun cls dd ρ' H' a b c => q cls dd σ ρ' H' a (er.to b) b c
  | stuck => rw [ei] at q; exact q
  | ok p h1 =>
    obtain ⟨items, src⟩ := p
    rw [ei] at q
    simp only at q ⊢
    intro J ρ1 H1 hr1 s1 it
    generalize hres : forGo g mb src items env h1 = r at q
    refine ⟨fun i m σ2 H2 => m = items.length - i ∧ i ≤ items.length ∧ ∃ ρ2 env2 h2, HRel X.K X.mg ρ2 H2 h2 ∧ EnvRel X.K X.mg ρ2 H2 env2 σ2 ∧ Step [] ρ1 H1 ρ2 H2 ∧ forGo g mb src (items.drop i) env2 h2 = r,
      ⟨items.length, rfl, Nat.zero_le _, ρ1, env, h1, hr1, er.to s1, Step.refl, by simpa using hres⟩, ?_⟩
    rintro i m σ2 H2 ⟨rfl, hi', ρ2, env2, h2, hr2, er2, s2, e2⟩
    have s02 := s1.trans s2
    by_cases hlt : i < items.length
    · have hd : items.drop i = items[i] :: items.drop (i + 1) := (List.drop_eq_getElem_cons hlt)
      rw [hd] at e2
      unfold forGo at e2
      split at e2
      · rename_i so
        obtain ⟨hy, _⟩ := it ρ2 H2 h2 hr2 s2 so
        obtain ⟨hgo, hyl⟩ := hy i _ (List.getElem?_eq_getElem hlt)
        refine .inr ⟨hgo, _, fun σ' H' z => z, fun v H3 yy => ?_⟩
        · obtain ⟨sm, rv⟩ := hyl v H3 yy
          cases eg : g items[i] h2 with
          | none =>
            rw [eg] at e2
            simp only at e2
            subst e2
            exact q.elim
          | some ps =>
            rw [eg] at e2
            simp only at e2
            have hr3 := hr2.kept sm
            have s3 : Step [] ρ2 H2 ρ2 H3 := Step.same sm
            have er3 := er2.to s3
            refine ⟨ρ2, h2, items[i], ps, hr3, rv, eg, fun ws pw => ⟨ρ2, setAll env2 ps, h2, hr3, er3.setAll pw, ?_⟩⟩
            have s03 := s02.trans s3
            cases eb : mb (setAll env2 ps) h2 with
            | nx env' h' =>
              rw [eb] at e2
              exact fun σ' ρ' H' a b c => ⟨_, by omega, rfl, hlt, ρ', env', h', a, b, (s2.trans s3).trans c, e2⟩
            | ct env' h' =>
              rw [eb] at e2
              exact fun σ' ρ' H' a b c => ⟨_, by omega, rfl, hlt, ρ', env', h', a, b, (s2.trans s3).trans c, e2⟩
            | bk env' h' =>
              rw [eb] at e2
              simp only at e2
              subst e2
              exact fun σ' ρ' H' a b c => q σ' ρ' H' a b (s03.trans c)
            | rt d h' =>
              rw [eb] at e2
              simp only at e2
              subst e2
              exact fun v ρ' H' S f => q v ρ' H' S (f.later (T := []) s03 hr3 (fun _ z => nomatch z) fun a e => hr.notin e)
            | exc e env' h' =>
              rw [eb] at e2
              simp only at e2
              subst e2
              exact fun cls dd σ' ρ' H' a b c => q cls dd σ' ρ' H' a b (s03.trans c)
            | stuck =>
              rw [eb] at e2
              simp only at e2
              subst e2
              exact q
      · subst e2; exact q.elim
    · have hn : i = items.length := by omega
      subst hn
      rw [List.drop_length] at e2
      unfold forGo at e2
      split at e2
      · rename_i so
        subst e2
        obtain ⟨_, hst⟩ := it ρ2 H2 h2 hr2 s2 so
        exact .inl ⟨hst, q σ2 ρ2 H2 hr2 er2 s02⟩
      · subst e2; exact q.elim
abbrev Wn : WX := fun _ _ _ _ => False
theorem takesN {X : Cx} : Takes X Wn := fun u s' x => by
  obtain ⟨_, _, _, _, _, _, _, _, _, _, _, _, _, _, _, _, z⟩ := x
  exact z.elim
abbrev JTs (X : Cx) (ifs : List Expr) (t : MT) : Prop := PTs X ifs (tT X.K X.mg Wn t)
theorem PTs.mono {X : Cx} {ifs : List Expr} {t t' : TT} (h : PTs X ifs t) (i : ∀ σ H Q, t' σ H Q → t σ H Q) : PTs X ifs t' := ⟨fun pins s σ H Q I q => h.run pins s σ H Q I (i σ H Q q)⟩
theorem jts_nil {X : Cx} : JTs X [] tTrue := PTs.mono pts_nil fun σ H Q ⟨ρ, env, h, hr, er, q⟩ => q ρ H hr Step.refl
theorem wipeE_length (env : En) : ∀ vs : List Nat, (wipeE env vs).length = env.length
  | [] => rfl
  | v :: vs => by simp [wipeE, wipeE_length env vs]
theorem wipeE_get {env : En} {i : Nat} {d : D} : ∀ {vs : List Nat}, (wipeE env vs)[i]? = some (some d) → env[i]? = some (some d) ∧ i ∉ vs
  | [], e => ⟨e, fun z => nomatch z⟩
  | v :: vs, e => by
    simp only [wipeE] at e
    by_cases h : i = v
    · subst h
      rw [List.getElem?_set, if_pos rfl] at e
      split at e <;> cases e
    · rw [List.getElem?_set_ne (Ne.symm h)] at e
      obtain ⟨e1, e2⟩ := wipeE_get e
      exact ⟨e1, fun z => (List.mem_cons.mp z).elim h e2⟩
theorem wipe_keep {σ : L2.St} {i : Nat} {v : Option V} : ∀ {vs : List Nat}, σ[i]? = some v → i ∉ vs → (wipe σ vs)[i]? = some v
  | [], e, _ => e
  | w :: vs, e, n => by
    simp only [wipe]
    rw [List.getElem?_set_ne (fun z => n (by rw [z]; exact List.mem_cons_self))]
    exact wipe_keep e fun z => n (List.mem_cons_of_mem _ z)
theorem EnvRel.wiped {K mg} {ρ : List Addr} {H : Hp} {env : En} {σ : L2.St} (r : EnvRel K mg ρ H env σ) (vs : List Nat) : EnvRel K mg ρ H (wipeE env vs) (wipe σ vs) := by
  refine ⟨by rw [wipeE_length, wipe_length]; exact r.1, fun i d e => ?_⟩
  obtain ⟨e1, n⟩ := wipeE_get e
  obtain ⟨v, h1, h2⟩ := r.2 i d e1
  exact ⟨v, wipe_keep h1 n, h2⟩
theorem wipe_set_mem {σ : L2.St} {i : Nat} {x : Option V} : ∀ {vs : List Nat}, i ∈ vs → wipe (σ.set i x) vs = wipe σ vs
  | w :: vs, m => by
    by_cases h : i = w
    · subst h
      by_cases k : i ∈ vs
      · simp only [wipe]; rw [wipe_set_mem k]
      · have c : ∀ {us : List Nat}, i ∉ us → wipe (σ.set i x) us = (wipe σ us).set i x := by
          intro us
          induction us with
          | nil => intro _; rfl
          | cons u us ih =>
            intro n
            simp only [wipe]
            rw [ih fun z => n (List.mem_cons_of_mem _ z), List.set_comm _ _ (fun z => n (by rw [z]; exact List.mem_cons_self))]
        simp only [wipe]
        rw [c k, List.set_set]
    · simp only [wipe]
      rw [wipe_set_mem ((List.mem_cons.mp m).resolve_left h)]
theorem wipe_setV {σ : L2.St} {vs : List Nat} : ∀ {ws : List (Nat × V)}, (∀ p ∈ ws, p.1 ∈ vs) → wipe (setV σ ws) vs = wipe σ vs := by
  intro ws
  induction ws generalizing σ with
  | nil => intro _; rfl
  | cons p ws ih =>
    intro h
    show wipe (setV (σ.set p.1 (some p.2)) ws) vs = _
    rw [ih fun q hq => h q (List.mem_cons_of_mem _ hq), wipe_set_mem (h p List.mem_cons_self)]
theorem PRel.ix {K mg} {ρ : List Addr} {H : Hp} {ps : List (Nat × D)} {ws : List (Nat × V)} (p : PRel K mg ρ H ps ws) : ws.map (·.1) = ps.map (·.1) := by
  induction p with
  | nil => rfl
  | cons _ _ ih => simp [ih]
def Slots (g : MG) (vs : List Nat) : Prop := ∀ d h ps, g d h = some ps → ∀ p ∈ ps, p.1 ∈ vs
theorem slots_nm {i : Nat} {vs : List Nat} (h : i ∈ vs) : Slots (gNm i) vs := fun d h' ps e p hp => by
  cases e
  rw [List.mem_singleton.mp hp]
  exact h
def SlotsL (gs : List MG) (vs : List Nat) : Prop := ∀ ds h ps, gAll gs ds h = some ps → ∀ p ∈ ps, p.1 ∈ vs
theorem slotsL_nil {vs : List Nat} : SlotsL [] vs := fun ds h ps e p hp => by
  cases ds with
  | nil => cases e; cases hp
  | cons _ _ => cases e
theorem slotsL_cons {g : MG} {gs : List MG} {vs : List Nat} (h1 : Slots g vs) (h2 : SlotsL gs vs) : SlotsL (g :: gs) vs := fun ds h ps e p hp => by
  cases ds with
  | nil => cases e
  | cons d ds =>
    unfold gAll at e
    split at e
    · rename_i a b e1 e2
      cases e
      rcases List.mem_append.mp hp with z | z
      · exact h1 _ _ _ e1 p z
      · exact h2 _ _ _ e2 p z
    · cases e
theorem slots_tp {gs : List MG} {vs : List Nat} (h : SlotsL gs vs) : Slots (gTp gs) vs := fun d hh ps e p hp => by
  unfold gTp at e
  split at e
  · exact h _ _ _ e p hp
  · split at e
    · exact h _ _ _ e p hp
    · cases e
  · cases e
section
variable {K : PySem.W.Frag} {mg : Str → Option Value} {ρ ρ' : List Addr} {H H' : Hp} {h : Hd}
theorem RepL.snoc {xs : List D} {vs : List V} {S T : List Addr} {x : D} {v : V} (t : RepL K mg ρ H xs vs S) (r : Rep K mg ρ H x v T) : RepL K mg ρ H (xs ++ [x]) (vs ++ [v]) (S ++ T) := by
  have key : ∀ {xs : List D} {vs : List V} {S : List Addr}, RepL K mg ρ H xs vs S → RepL K mg ρ H (xs ++ [x]) (vs ++ [v]) (S ++ T) := by
    intro xs
    induction xs with
    | nil => intro vs S t; cases t; simpa using RepL.cons r .nil
    | cons y ys ih =>
      intro vs S t
      cases t with
      | cons r1 t1 => rw [List.cons_append, List.cons_append, List.append_assoc]; exact .cons r1 (ih t1)
  exact key t
theorem poke_step {p : Addr} {o : HO} : Step [p] ρ H ρ (upd H p o) :=
  ⟨List.prefix_refl _, fun _ a b => absurd a b, fun a x ea na nT => by rw [upd_ne (fun z => nT (by rw [z]; exact List.mem_singleton.mpr rfl))]; exact ea⟩
theorem one_own {p : Addr} {u : HO} (e : H p = some u) (m : mutO u = true) : ∀ b ∈ [p], ∃ o, H b = some o ∧ mutO o = true := fun b hb => by rw [List.mem_singleton.mp hb]; exact ⟨u, e, m⟩
theorem Rep.poke {p : Addr} {o u : HO} (e : H p = some u) (m : mutO u = true) {d : D} {v : V} {S : List Addr} (r : Rep K mg ρ H d v S) (hS : ∀ a ∈ S, a ∉ ρ) (nS : p ∉ S) : Rep K mg ρ (upd H p o) d v S :=
  r.to poke_step (one_own e m) fun a ha => ⟨hS a ha, fun z => nS (by rw [← List.mem_singleton.mp z]; exact ha)⟩
theorem RepL.poke {p : Addr} {o u : HO} (e : H p = some u) (m : mutO u = true) {d : List D} {v : List V} {S : List Addr} (r : RepL K mg ρ H d v S) (hS : ∀ a ∈ S, a ∉ ρ) (nS : p ∉ S) : RepL K mg ρ (upd H p o) d v S :=
  r.to poke_step (one_own e m) fun a ha => ⟨hS a ha, fun z => nS (by rw [← List.mem_singleton.mp z]; exact ha)⟩
theorem HRel.poke {p : Addr} {o u : HO} (hr : HRel K mg ρ H h) (n : p ∉ ρ) (e : H p = some u) (m : mutO u = true) : HRel K mg ρ (upd H p o) h := by
  refine ⟨hr.len, hr.nd, fun k c a e1 e2 => ?_⟩
  have q := hr.cell k c a e1 e2
  have na : a ≠ p := fun z => n (by rw [← z]; exact List.mem_of_getElem? e2)
  cases c with
  | lst xs => obtain ⟨vs, ea, t⟩ := q; exact ⟨vs, by rw [upd_ne na]; exact ea, t.poke e m (fun _ z => nomatch z) (fun z => nomatch z)⟩
  | dct _ _ => obtain ⟨kvs, vs, ea, t, w⟩ := q; exact ⟨kvs, vs, ea.to (fun o eo => by rw [upd_ne na]; exact eo), t.poke e m (fun _ z => nomatch z) (fun z => nomatch z), w.poke e m (fun _ z => nomatch z) (fun z => nomatch z)⟩
  | ins _ _ _ => exact q.elim
theorem EnvRel.poke {p : Addr} {o u : HO} {env : En} {σ : L2.St} (er : EnvRel K mg ρ H env σ) (e : H p = some u) (m : mutO u = true) : EnvRel K mg ρ (upd H p o) env σ :=
  ⟨er.1, fun i d ed => by
    obtain ⟨v, h1, h2⟩ := er.2 i d ed
    exact ⟨v, h1, h2.poke e m (fun _ z => nomatch z) (fun z => nomatch z)⟩⟩
end
theorem tE_comp {K mg} {σ : L2.St} {H : Hp} {Q : VK} {vs : List Nat} {tt : MT} {te : ME} (hg : Slots g vs) (q : tE K mg Wx (eComp vs mi g tt te) σ H Q) : tLc (tI K mg Wx mi) (tG K mg g) (tT K mg Wn tt) (tE K mg Wn te) vs σ H Q := by
  obtain ⟨ρ, env, h, hr, er, q⟩ := q
  refine ⟨ρ, env, h, hr, er, ?_⟩
  unfold eComp at q
  cases ei : mi env h with
  | exc e h1 => rw [ei] at q; exact q
  | stuck => rw [ei] at q; exact q
  | ok p h1 =>
    obtain ⟨items, src⟩ := p
    rw [ei] at q
    simp only at q ⊢
    intro J ρ1 H1 hr1 s1 it Dl nD
    generalize hres : compGo (wipeE env vs) g tt te src items h1 = r at q
    -- the result is a value
    cases r with
    | exc e h2 =>
      exfalso
      have noexc : ∀ (xs : List D) (hh : Hd) e' h', compGo (wipeE env vs) g tt te src xs hh ≠ .exc e' h' := by
        intro xs
        induction xs with
        | nil => intro hh e' h' z; unfold compGo at z; split at z <;> cases z
        | cons x xs ih =>
          intro hh e' h' z
          unfold compGo at z
          split at z
          · split at z
            · cases z
            · split at z
              · split at z
                · rename_i d h2 _
                  cases ec : compGo (wipeE env vs) g tt te src xs h2 with
                  | ok ds h3 => rw [ec] at z; cases z
                  | exc e3 h3 => exact ih _ _ _ ec
                  | stuck => rw [ec] at z; cases z
                · cases z
              · exact ih _ _ _ z
              · cases z
          · cases z
      exact noexc _ _ _ _ hres
    | stuck => exact q.elim
    | ok ds h2 =>
      simp only [R.bind_ok] at q
      have hz : ds.length ≤ sizeLine := by
        by_cases z : ds.length ≤ sizeLine
        · exact z
        · rw [if_neg z] at q; exact q.elim
      rw [if_pos hz] at q
      have nρ1 : Dl ∉ ρ1 := hr1.notin nD
      have n0 : H Dl = none := none_back s1 hr1 nD
      -- the state ahead of turn i: done the made items, in the list
      refine ⟨fun i m H2 => m = items.length - i ∧ i ≤ items.length ∧ ∃ (ρ2 : List Addr) (h3 : Hd) (done : List D) (vd : List V) (S : List Addr), HRel K mg ρ2 H2 h3 ∧ Step [] ρ1 H1 ρ2 H2 ∧ H2 Dl = some (.lst vd) ∧ Dl ∉ ρ2 ∧ RepL K mg ρ2 H2 done vd S ∧ S.Nodup ∧ Dl ∉ S ∧
        (∀ a ∈ S, a ∉ ρ2 ∧ H a = none) ∧ done.length ≤ ds.length ∧ ∃ more, ds = done ++ more ∧ compGo (wipeE env vs) g tt te src (items.drop i) h3 = .ok more h2, ⟨items.length, ?_⟩, ?_⟩
      · refine ⟨rfl, Nat.zero_le _, ρ1, h1, [], [], [], hr1.kept (same_upd nD), Step.same (same_upd nD), upd_same, nρ1, .nil, List.nodup_nil, (fun z => nomatch z), (fun _ z => nomatch z), Nat.zero_le _, ds, rfl, by simpa using hres⟩
      · rintro i m H2 ⟨rfl, hi', ρ2, h3, done, vd, S, hr2, s2, eD, nD2, rd, ndS, nDS, fS, hl, more, hds, e2⟩
        have s02 := s1.trans s2
        by_cases hlt : i < items.length
        · have hd : items.drop i = items[i] :: items.drop (i + 1) := (List.drop_eq_getElem_cons hlt)
          rw [hd] at e2
          unfold compGo at e2
          split at e2
          case isFalse => cases e2
          rename_i so
          obtain ⟨hy, _⟩ := it ρ2 H2 h3 hr2 s2 so
          obtain ⟨hgo, hyl⟩ := hy i _ (List.getElem?_eq_getElem hlt)
          refine .inr ⟨hgo, _, fun H' z => z, fun v H3 yy => ?_⟩
          obtain ⟨sm, rv⟩ := hyl v H3 yy
          cases eg : g items[i] h3 with
          | none => rw [eg] at e2; cases e2
          | some ps =>
            rw [eg] at e2
            simp only at e2
            have hr3 := hr2.kept sm
            have s3 : Step [] ρ2 H2 ρ2 H3 := Step.same sm
            have er3 : EnvRel K mg ρ2 H3 (wipeE env vs) (wipe σ vs) := (er.to (s02.trans s3)).wiped vs
            refine ⟨ρ2, h3, items[i], ps, hr3, rv, eg, fun ws pw => ⟨wipe_setV ?_ |>.trans ?_, ?_⟩⟩
            · intro p hp
              have : p.1 ∈ ps.map (·.1) := by rw [← pw.ix]; exact List.mem_map_of_mem hp
              obtain ⟨p', hp', e'⟩ := List.mem_map.mp this
              rw [← e']
              exact hg _ _ _ eg p' hp'
            · have : ∀ {us ws : List Nat}, (∀ i ∈ us, i ∈ ws) → wipe (wipe σ us) ws = wipe σ ws := by
                intro us
                induction us with
                | nil => intro ws _; rfl
                | cons u us ih =>
                  intro ws hh
                  show wipe ((wipe σ us).set u none) ws = _
                  rw [wipe_set_mem (hh u List.mem_cons_self)]
                  exact ih fun i hi => hh i (List.mem_cons_of_mem _ hi)
              exact this fun _ z => z
            · refine ⟨ρ2, setAll (wipeE env vs) ps, h3, hr3, er3.setAll pw, ?_⟩
              have s03 := s02.trans s3
              have rd3 := rd.same sm fun a ha => (fS a ha).1
              have eD3 := sm _ _ eD
              cases et : tt (setAll (wipeE env vs) ps) h3 with
              | exc e h4 => rw [et] at e2; cases e2
              | stuck => rw [et] at e2; cases e2
              | ok b h4 =>
                rw [et] at e2
                intro ρ4 H4 hr4 s4
                have rd4 := rd3.to s4 (fun _ z => nomatch z) fun a ha => ⟨(fS a ha).1, fun z => nomatch z⟩
                have eD4 := s4.frame _ _ eD3 nD2 (fun z => nomatch z)
                have nD4 : Dl ∉ ρ4 := fun z => by
                  rcases s4.new _ z nD2 with y | y
                  · rw [eD3] at y; cases y
                  · cases y
                have nS4 : ∀ a ∈ S, a ∉ ρ4 := fun a ha z => by
                  obtain ⟨o, eo, _⟩ := rd3.owned a ha
                  rcases s4.new _ z (fS a ha).1 with y | y
                  · rw [eo] at y; cases y
                  · cases y
                cases b with
                | false =>
                  simp only at e2
                  refine (if_neg (by decide)).mpr ⟨_, by omega, rfl, hlt, ρ4, h4, done, vd, S, hr4, (s2.trans s3).trans s4, eD4, nD4, rd4, ndS, nDS, fun a ha => ⟨nS4 a ha, (fS a ha).2⟩, hl, more, hds, e2⟩
                | true =>
                  simp only at e2
                  refine (if_pos rfl).mpr ⟨ρ4, setAll (wipeE env vs) ps, h4, hr4, (er3.setAll pw).to s4, ?_⟩
                  cases ee : te (setAll (wipeE env vs) ps) h4 with
                  | exc e h5 => rw [ee] at e2; cases e2
                  | stuck => rw [ee] at e2; cases e2
                  | ok d h5 =>
                    rw [ee] at e2
                    simp only at e2
                    intro v5 ρ5 H5 S5 f5
                    have eD5 := f5.st.frame _ _ eD4 nD4 (fun z => nomatch z)
                    have rd5 := rd4.to f5.st (fun _ z => nomatch z) fun a ha => ⟨nS4 a ha, fun z => nomatch z⟩
                    have nD5 : Dl ∉ ρ5 := fun z => by
                      rcases f5.st.new _ z nD4 with y | y
                      · rw [eD4] at y; cases y
                      · cases y
                    have nS5 : ∀ a ∈ S, a ∉ ρ5 := fun a ha z => by
                      obtain ⟨o, eo, _⟩ := rd4.owned a ha
                      rcases f5.st.new _ z (nS4 a ha) with y | y
                      · rw [eo] at y; cases y
                      · cases y
                    have nDS5 : Dl ∉ S5 := fun z => by
                      have := f5.isnew _ z
                      rw [eD4] at this; cases this
                    have dj : ∀ a ∈ S, ∀ b ∈ S5, a ≠ b := fun a ha b hb z => by
                      subst z
                      obtain ⟨o, eo, _⟩ := rd4.owned a ha
                      rw [f5.isnew _ hb] at eo; cases eo
                    cases ec : compGo (wipeE env vs) g tt te src (items.drop (i + 1)) h5 with
                    | exc e h6 => rw [ec] at e2; cases e2
                    | stuck => rw [ec] at e2; cases e2
                    | ok ds' h6 =>
                      rw [ec] at e2
                      simp only [R.bind_ok, R.ok.injEq] at e2
                      obtain ⟨rfl, rfl⟩ := e2
                      have lvd : vd.length < sizeLine := by
                        rw [← rd.length]
                        have : ds.length = done.length + (ds'.length + 1) := by rw [hds]; simp
                        omega
                      refine ⟨vd, eD5, lvd, _, by omega, rfl, hlt, ρ5, h5, done ++ [d], vd ++ [v5], S ++ S5, f5.hr.poke nD5 eD5 rfl, ?_, upd_same, nD5, ?_, List.nodup_append.mpr ⟨ndS, f5.nd, dj⟩, fun z => ?_, fun a ha => ?_, ?_, ds', by rw [hds]; simp, ec⟩
                      · have st := ((s2.trans s3).trans s4).trans f5.st
                        refine ⟨st.pre, st.new, fun a o ea na nT => ?_⟩
                        rw [upd_ne (fun z => by rw [z, nD] at ea; cases ea)]
                        exact st.frame a o ea na nT
                      · exact (rd5.poke eD5 rfl nS5 nDS).snoc (f5.rp.poke eD5 rfl f5.owns nDS5)
                      · exact (List.mem_append.mp z).elim nDS nDS5
                      · rcases List.mem_append.mp ha with z | z
                        · exact ⟨nS5 a z, (fS a z).2⟩
                        · exact ⟨f5.owns a z, none_back (s03.trans s4) hr4 (f5.isnew a z)⟩
                      · have : ds.length = done.length + (ds'.length + 1) := by rw [hds]; simp
                        simp; omega
        · have hn : i = items.length := by omega
          subst hn
          rw [List.drop_length] at e2
          unfold compGo at e2
          split at e2
          case isFalse => cases e2
          rename_i so
          cases e2
          obtain ⟨_, hst⟩ := it ρ2 H2 _ hr2 s2 so
          refine .inl ⟨hst, ?_⟩
          rw [List.append_nil] at hds
          subst hds
          refine q (.ref Dl) ρ2 H2 (S ++ [Dl]) ⟨hr2, s02, .lst eD rd, List.nodup_append.mpr ⟨ndS, by simp, fun a ha b hb z => ?_⟩, fun a ha => ?_⟩
          · rw [List.mem_singleton.mp hb] at z; subst z; exact nDS ha
          · rcases List.mem_append.mp ha with z | z
            · exact ⟨(fS a z).1, .inl (fS a z).2⟩
            · rw [List.mem_singleton.mp z]; exact ⟨nD2, .inl n0⟩
end
end Tw

namespace Tw
open PySem PySem.Spec PyProof.Rows L2

section
variable {X : Cx} {Wx : WX} {pos spos : Pos} {tg iter elt : Expr} {ifs : List Expr} {scope : Scope} {own : List (Str × Nat)} {mi : MI} {g : MG} {tt : MT} {te : ME}
theorem je_comp (hc : X.calm = true) (hN : X.N.Nodup) (hi : JI X Wx tg iter mi) (ok : BlkOk X.N X.env.scope scope own) (sl : Slots g (own.map (·.2)))
    (hg : ∀ (s : Shared) (H : Hp) (C : Addr) (cl : List (Str × Addr)) (fp : List Addr), JG (X.blk s H scope (compEnvC scope cl C X.env) fp) tg g) (ht : ∀ (s : Shared) (H : Hp) (C : Addr) (cl : List (Str × Addr)) (fp : List Addr), JTs (X.blk s H scope (compEnvC scope cl C X.env) fp) ifs tt)
    (he : ∀ (s : Shared) (H : Hp) (C : Addr) (cl : List (Str × Addr)) (fp : List Addr), JE (X.blk s H scope (compEnvC scope cl C X.env) fp) Wn elt te) (hs : ∀ x, foldedSetIterable iter X.env x = pure x := by intro _; rfl) :
    JE X Wx (.ListComp elt [⟨tg, iter, ifs, 0⟩] scope pos) (eComp (own.map (·.2)) mi g tt te) :=
  PE.mono (pe_lc hc hN hi ok hg ht he hs) fun σ H Q q => tE_comp sl q
end

mutual
def D.set : D → Bool
  | .tup xs => setL xs
  | .lst _ => false
  | .dct _ _ => false
  | .exc _ _ xs => setL xs
  | _ => true
def setL : List D → Bool
  | [] => true
  | x :: xs => x.set && setL xs
end
mutual
theorem D.set_of_pure : ∀ {d : D}, d.pure = true → d.set = true
  | .tup xs, h => by simp only [D.set]; exact setL_of_pure (by simpa [D.pure] using h)
  | .exc _ _ xs, h => by simp only [D.set]; exact setL_of_pure (by simpa [D.pure] using h)
  | .lst _, h => by simp [D.pure] at h
  | .dct _ _, h => by simp [D.pure] at h
  | .ref _, h => rfl
  | .non, _ => rfl
  | .bl _, _ => rfl
  | .int _, _ => rfl
  | .str _, _ => rfl
  | .rol _, _ => rfl
  | .glb _, _ => rfl
  | .ty _, _ => rfl
theorem setL_of_pure : ∀ {xs : List D}, pureL xs = true → setL xs = true
  | [], _ => rfl
  | x :: xs, h => by
    have h' : x.pure = true ∧ pureL xs = true := by simpa [pureL] using h
    simp [setL, D.set_of_pure h'.1, setL_of_pure h'.2]
end
section
variable {K : PySem.W.Frag} {mg : Str → Option Value} {ρ ρ' : List Addr} {H H' : Hp} {h : Hd}
mutual
theorem Rep.set_nil : ∀ {d : D} {v : V} {S : List Addr}, Rep K mg ρ H d v S → d.set = true → S = []
  | _, _, _, .non, _ => rfl
  | _, _, _, .bl _, _ => rfl
  | _, _, _, .int _, _ => rfl
  | _, _, _, .str _, _ => rfl
  | _, _, _, .tup _ r, p => RepL.set_nil r (by simpa [D.set] using p)
  | _, _, _, .lst _ _, p => by simp [D.set] at p
  | _, _, _, .rol _ _, _ => rfl
  | _, _, _, .ref _, _ => rfl
  | _, _, _, .glb _, _ => rfl
  | _, _, _, .ty _, _ => rfl
  | _, _, _, .exc _ _ _, _ => rfl
theorem RepL.set_nil : ∀ {xs : List D} {vs : List V} {S : List Addr}, RepL K mg ρ H xs vs S → setL xs = true → S = []
  | _, _, _, .nil, _ => rfl
  | _, _, _, .cons (x := x) (xs := xs) r t, p => by
    have p' : x.set = true ∧ setL xs = true := by simpa [setL] using p
    rw [Rep.set_nil r p'.1, RepL.set_nil t p'.2]; rfl
end
theorem RepL.get : ∀ {xs : List D} {vs : List V} {i : Nat} {x : D}, RepL K mg ρ H xs vs [] → xs[i]? = some x → ∃ v, vs[i]? = some v ∧ Rep K mg ρ H x v [] := by
  intro xs
  induction xs with
  | nil => intro vs i x _ e; simp at e
  | cons y ys ih =>
    intro vs i x r e
    obtain ⟨v, ws, rfl, r1, r2⟩ := r.split
    cases i with
    | zero => simp at e; subst e; exact ⟨v, rfl, r1⟩
    | succ i => simpa using ih r2 (by simpa using e)
end
def seqI (h : Hd) : D → R (List D × Src)
  | .tup xs => if setL xs = true then .ok (xs, []) h else .ok ((boxL xs h).1, []) (boxL xs h).2
  | .rol xs => .ok (xs, []) h
  | .ref n => match h[n]? with
    | some (.lst xs) => .ok (xs, [(n, .lst xs)]) h
    | _ => .stuck
  | .lst xs => if setL xs = true then .ok (xs, []) h else .ok ((boxL xs h).1, [((boxL xs h).2.length, .lst (boxL xs h).1)]) ((boxL xs h).2 ++ [.lst (boxL xs h).1])
  | .str s => .ok (s.cps.toList.map (fun c => .str ⟨#[c]⟩), []) h
  | _ => .stuck
def iSeq (a : ME) : MI := fun env h => match a env h with
  | .ok d h1 => seqI h1 d
  | .exc e h1 => .exc e h1
  | .stuck => .stuck
section
variable {K : PySem.W.Frag} {mg : Str → Option Value} {ρ : List Addr} {H : Hp} {h : Hd}
theorem itOk_list {a : Addr} {items : List D} {src : Src} (hh : ∀ ρ2 H2 h2, HRel K mg ρ2 H2 h2 → Step [] ρ H ρ2 H2 → srcOk src h2 = true → ∃ vs, SqL K H2 a vs ∧ RepL K mg ρ2 H2 items vs []) : ItOk K mg ρ H (Itl K a) items src := by
  intro ρ2 H2 h2 hr s so
  obtain ⟨vs, sq, r⟩ := hh ρ2 H2 h2 hr s so
  refine ⟨fun i x e => ?_, ⟨vs, sq, by rw [r.length]; exact Nat.le_refl _⟩⟩
  obtain ⟨v, ev, rv⟩ := r.get e
  refine ⟨⟨vs, v, sq, ev⟩, fun w H3 ⟨e3, y⟩ => ?_⟩
  subst e3
  refine ⟨fun _ _ z => z, ?_⟩
  have : w = v := by
    have := y vs sq
    rw [ev] at this
    exact (Option.some.inj this).symm
  rw [this]; exact rv
theorem itOk_tup {a : Addr} {items : List D} (hh : ∀ ρ2 H2 h2, HRel K mg ρ2 H2 h2 → Step [] ρ H ρ2 H2 → ∃ vs, SqT K H2 a vs ∧ RepL K mg ρ2 H2 items vs []) : ItOk K mg ρ H (Itt K a) items [] := by
  intro ρ2 H2 h2 hr s so
  obtain ⟨vs, sq, r⟩ := hh ρ2 H2 h2 hr s
  refine ⟨fun i x e => ?_, ⟨vs, sq, by rw [r.length]; exact Nat.le_refl _⟩⟩
  obtain ⟨v, ev, rv⟩ := r.get e
  refine ⟨⟨vs, v, sq, ev⟩, fun w H3 ⟨e3, y⟩ => ?_⟩
  subst e3
  refine ⟨fun _ _ z => z, ?_⟩
  have : w = v := by
    have := y vs sq
    rw [ev] at this
    exact (Option.some.inj this).symm
  rw [this]; exact rv
theorem itOk_str {z : Str} : ItOk K mg ρ H (Its z) (z.cps.toList.map (fun c => .str ⟨#[c]⟩)) [] := by
  intro ρ2 H2 h2 hr s so
  refine ⟨fun i x e => ?_, by show z.cps.size ≤ (z.cps.toList.map _).length; simp⟩
  rw [List.getElem?_map] at e
  cases ec : z.cps.toList[i]? with
  | none => rw [ec] at e; cases e
  | some c =>
    rw [ec] at e
    cases e
    have hi : i < z.cps.size := by simpa using (List.getElem?_eq_some_iff.mp ec).1
    refine ⟨hi, fun v H3 ⟨e3, c', hc, hv⟩ => ?_⟩
    subst e3
    refine ⟨fun _ _ z => z, ?_⟩
    have : c' = c := by
      have e2 : z.cps.toList[i]? = some c' := by simpa using hc
      rw [ec] at e2
      exact (Option.some.inj e2).symm
    subst this
    rw [hv]
    exact .str _
theorem itOk_range {lo : Int} {n : Nat} : ItOk K mg ρ H (Itr lo n) ((List.range n).map fun i => .int (lo + (i : Nat))) [] := by
  intro ρ2 H2 h2 hr s so
  refine ⟨fun i x e => ?_, by show n ≤ ((List.range n).map _).length; simp⟩
  rw [List.getElem?_map] at e
  cases ei : (List.range n)[i]? with
  | none => rw [ei] at e; cases e
  | some j =>
    rw [ei] at e
    cases e
    obtain ⟨hi, hj⟩ := List.getElem?_eq_some_iff.mp ei
    simp at hi hj
    subst hj
    refine ⟨hi, fun v H3 ⟨e3, hv⟩ => ?_⟩
    subst e3
    refine ⟨fun _ _ z => z, ?_⟩
    rw [hv]
    exact .int _
end
def iVal (K : PySem.W.Frag) (te : TE) : TI := fun σ H R => te σ H fun x H1 =>
  (∃ a, x = .ref a ∧ (∃ xs, SqL K H1 a xs) ∧ R (Itl K a) H1) ∨ (∃ a, x = .ref a ∧ (∃ xs, SqT K H1 a xs) ∧ R (Itt K a) H1) ∨ ∃ z, x = .str z ∧ R (Its z) H1
theorem pi_val {X : Cx} {tg l : Expr} {tl : TE} (hl : PE X l tl) : PI X tg l (iVal X.K tl) := by
  refine ⟨fun pins s σ H R I h => ?_⟩
  refine thn (hl.run pins s σ H _ I h) fun v s1 ⟨x, H1, I1, r1, q1⟩ => ?_
  rcases q1 with ⟨a, e, ⟨xs, hq⟩, q⟩ | ⟨a, e, ⟨xs, hq⟩, q⟩ | ⟨z, e, q⟩
  · subst e
    cases r1
    obtain ⟨its, rv, p, hz⟩ := I1.list hq
    refine wpAny_pyIter_list p.isList ?_
    refine ⟨s1.heap.objs.size, [s1.heap.objs.size], _, _, H1, rfl, I1.kept (t' := s1.toks) fun b o e => Heap.get?_push_of_some _ e, turn_list a _, ⟨_, Heap.get?_push_size _ rfl, rfl, rfl⟩, fun b hb => ?_, q⟩
    have e : b = s1.heap.objs.size := by simpa using hb
    subst e
    exact I1.fpOk (Nat.le_refl _) (I1.hok.fresh (Nat.le_refl _))
  · subst e
    cases r1
    obtain ⟨its, rv, p, hz⟩ := I1.tuple hq
    refine wpAny_pyIter_tuple (show s1.heap.IsTuple a its.toArray from p) ?_
    refine ⟨s1.heap.objs.size, [s1.heap.objs.size], _, _, H1, rfl, I1.kept (t' := s1.toks) fun b o e => Heap.get?_push_of_some _ e, turn_tuple a _, ⟨_, Heap.get?_push_size _ rfl, rfl, rfl⟩, fun b hb => ?_, q⟩
    have e : b = s1.heap.objs.size := by simpa using hb
    subst e
    exact I1.fpOk (Nat.le_refl _) (I1.hok.fresh (Nat.le_refl _))
  · subst e
    obtain ⟨t, rfl⟩ := r1
    cases ha : z.cps.all (· < 128)
    · exact wpAny_pyIter_wide ha (pi_one (tk := s1.toks) I1 _ (turn_str _ z t "str_iterator" (.inr rfl)) ⟨_, Heap.get?_push_size _ rfl, rfl, rfl⟩ q)
    · exact wpAny_pyIter_ascii ha (pi_one (tk := s1.toks) I1 _ (turn_str _ z t "str_ascii_iterator" (.inl rfl)) ⟨_, Heap.get?_push_size _ rfl, rfl, rfl⟩ q)
theorem ji_val {X : Cx} {Wx : WX} {tg l : Expr} {ma : ME} (hl : JE X Wx l ma) : JI X Wx tg l (iSeq ma) := by
  refine PI.mono (pi_val hl) fun σ H R ⟨ρ, env, h, hr, er, q⟩ => ⟨ρ, env, h, hr, er, ?_⟩
  unfold iSeq at q
  cases ea : ma env h with
  | exc e h1 => rw [ea] at q; exact q
  | stuck => rw [ea] at q; exact q
  | ok d h1 =>
    rw [ea] at q
    simp only at q
    intro v ρ1 H1 S f
    cases d with
    | tup xs =>
      have rp := f.rp
      cases rp with
      | tup ht t =>
        simp only [seqI] at q
        by_cases hs : setL xs = true
        · rw [if_pos hs] at q
          cases (t.set_nil hs)
          refine .inr (.inl ⟨_, rfl, ⟨_, ht.sq⟩, q _ ρ1 H1 f.hr f.st (itOk_tup fun ρ2 H2 h2 hr2 s2 => ⟨_, (ht.to s2 fun _ z => nomatch z).sq, t.to s2 (fun _ z => nomatch z) fun _ z => nomatch z⟩)⟩)
        · rw [if_neg hs] at q
          obtain ⟨b, rb⟩ := box_ok f.hr f.rp f.nd f.owns
          simp only [box] at b rb
          cases rb with
          | tup ht' u =>
            have st := f.st.transT (Step.boxed ρ1 H1 S) fun x hx => ⟨f.isnew x hx, f.owns x hx⟩
            exact .inr (.inl ⟨_, rfl, ⟨_, ht.sq⟩, q _ _ H1 b.rel st (itOk_tup fun ρ2 H2 h2 hr2 s2 => ⟨_, (ht'.to s2 fun _ z => nomatch z).sq, u.to s2 (fun _ z => nomatch z) fun _ z => nomatch z⟩)⟩)
    | rol xs =>
      have rp := f.rp
      cases rp with
      | rol ht t =>
        simp only [seqI] at q
        exact .inl ⟨_, rfl, ⟨_, ht.sq⟩, q _ ρ1 H1 f.hr f.st (itOk_list fun ρ2 H2 h2 hr2 s2 so => ⟨_, (ht.to s2 fun _ z => nomatch z).sq, t.to s2 (fun _ z => nomatch z) fun _ z => nomatch z⟩)⟩
    | ref n =>
      have rp := f.rp
      cases rp with
      | ref ha =>
        simp only [seqI] at q
        cases hx : h1[n]? with
        | none => rw [hx] at q; exact q.elim
        | some c =>
          rw [hx] at q
          cases c with
          | lst xs =>
            obtain ⟨vs, hv, t⟩ := f.hr.cell n _ _ hx ha
            refine .inl ⟨_, rfl, ⟨_, SqL.of hv⟩, q _ ρ1 H1 f.hr f.st (itOk_list fun ρ2 H2 h2 hr2 s2 so => ?_)⟩
            obtain ⟨ws, hw, u⟩ := hr2.cell n _ _ (srcOk_get so) (pre_get s2.pre ha)
            exact ⟨ws, SqL.of hw, u⟩
          | dct _ _ => exact q.elim
          | ins _ _ _ => exact q.elim
    | lst xs =>
      have rp := f.rp
      have fr := f.fr
      have nd := f.nd
      cases rp with
      | lst ha t =>
        rename_i a vs S0
        simp only [seqI] at q
        by_cases hs : setL xs = true
        · rw [if_pos hs] at q
          cases (t.set_nil hs)
          have na := (fr a (by simp)).1
          refine .inl ⟨_, rfl, ⟨_, SqL.of ha⟩, q _ ρ1 H1 f.hr f.st (itOk_list fun ρ2 H2 h2 hr2 s2 so => ⟨vs, SqL.of (s2.frame _ _ ha na fun z => nomatch z), t.to s2 (fun _ z => nomatch z) fun _ z => nomatch z⟩)⟩
        · rw [if_neg hs] at q
          obtain ⟨b, rb⟩ := box_ok f.hr f.rp f.nd f.owns
          simp only [box] at b rb
          cases rb with
          | ref hb =>
            have st : Step [] ρ H (ρ1 ++ (S0 ++ [a])) H1 := f.st.transT (Step.boxed ρ1 H1 _) fun x hx => ⟨f.isnew x hx, f.owns x hx⟩
            refine .inl ⟨_, rfl, ⟨_, SqL.of ha⟩, q _ _ H1 b.rel st (itOk_list fun ρ2 H2 h2 hr2 s2 so => ?_)⟩
            obtain ⟨ws, hw, u⟩ := hr2.cell _ _ _ (srcOk_get so) (pre_get s2.pre hb)
            exact ⟨ws, SqL.of hw, u⟩
    | str z =>
      have rp := f.rp
      cases rp with
      | str =>
        simp only [seqI] at q
        exact .inr (.inr ⟨z, rfl, q _ ρ1 H1 f.hr f.st itOk_str⟩)
    | _ => exact q.elim
def rngOk (i : Int) : Bool := decide (-(2 ^ 62) ≤ i) && decide (i < 2 ^ 62)
def rng1 : List D → Option (List D)
  | [.int j] => if rngOk j = true then some ((List.range j.toNat).map fun i => .int (0 + (i : Nat))) else none
  | _ => none
def liftI (h : Hd) : Option (List D) → R (List D × Src)
  | some items => .ok (items, []) h
  | none => .stuck
def iN (f : List D → Option (List D)) (as : MA) : MI := fun env h => match as env h with
  | .ok ds h1 => liftI h1 (f ds)
  | .exc e h1 => .exc e h1
  | .stuck => .stuck
section
variable {X : Cx} {Wx : WX} {tg a b : Expr} {ma : MA} {p pos : Pos}
theorem ji_range1 (hm : X.mg "range" = none) (ha : JA X Wx [a] ma) (hg : Gl X "range" := by rfl) (hs : starEach [a] X.env = [(false, eval a X.env)] := by rfl) : JI X Wx tg (.Call (.Name "range" p) [a] [] pos) (iN rng1 ma) := by
  refine PI.mono (pi_range1 hg hm ha hs) fun σ H R ⟨ρ, env, h, hr, er, q⟩ => ⟨ρ, env, h, hr, er, ?_⟩
  unfold iN at q
  cases ea : ma env h with
  | exc e h1 => rw [ea] at q; exact q
  | stuck => rw [ea] at q; exact q
  | ok ds h1 =>
    rw [ea] at q
    simp only at q
    intro vs ρ1 H1 S f
    cases er1 : rng1 ds with
    | none => rw [er1] at q; exact q.elim
    | some items =>
      rw [er1] at q
      unfold rng1 at er1
      split at er1
      · rename_i j
        split at er1
        · rename_i hj
          cases er1
          have rp := f.rp
          cases rp with
          | cons r t =>
            cases r
            cases t
            simp [rngOk] at hj
            exact ⟨j, rfl, hj.1, hj.2, q _ ρ1 H1 f.hr f.st itOk_range⟩
        · cases er1
      · cases er1
end
end Tw

namespace Tw
open PySem PySem.Spec PyProof.Rows L2

def mulOk (i j : Int) : Bool := (decide (-(2 ^ 64) < i) && decide (i < 2 ^ 64)) || (decide (-(2 ^ 64) < j) && decide (j < 2 ^ 64)) || (decide (i.natAbs < 2 ^ 400000) && decide (j.natAbs < 2 ^ 400000))
def seqOf (h : Hd) : D → Option (List D)
  | .tup xs => some xs
  | .lst xs => some xs
  | .rol xs => some xs
  | .ref n => match h[n]? with
    | some (.lst xs) => some xs
    | _ => none
  | _ => none
def isLst (h : Hd) : D → Option (List D)
  | .lst xs => some xs
  | .ref n => match h[n]? with
    | some (.lst xs) => some xs
    | _ => none
  | _ => none
def dAdd (x y : D) (h : Hd) : Option D := match x, y with
  | .int i, .int j => some (.int (i + j))
  | .str i, .str j => if i.length + j.length ≤ sizeLine then some (.str (i ++ j)) else none
  | .tup xs, .tup ys => if xs.length + ys.length ≤ sizeLine then some (.tup (xs ++ ys)) else none
  | x, y => match isLst h x, isLst h y with
    | some xs, some ys => if xs.length + ys.length ≤ sizeLine then some (.lst (xs ++ ys)) else none
    | _, _ => none
def dSub (x y : D) (_ : Hd) : Option D := match x, y with
  | .int i, .int j => some (.int (i - j))
  | _, _ => none
def dMul (x y : D) (_ : Hd) : Option D := match x, y with
  | .int i, .int j => if mulOk i j = true then some (.int (i * j)) else none
  | _, _ => none
def dFdiv (x y : D) (_ : Hd) : Option D := match x, y with
  | .int i, .int j => if (decide (0 < j) && decide (j.natAbs < 2 ^ 8000)) = true then some (.int (i / j)) else none
  | _, _ => none
def dMod (x y : D) (_ : Hd) : Option D := match x, y with
  | .int i, .int j => if 0 < j then some (.int (i % j)) else none
  | _, _ => none
def dPow (x y : D) (_ : Hd) : Option D := match x, y with
  | .int i, .int j => if (decide (0 ≤ j) && decide (j ≤ 1000000) && decide (i.natAbs < 2 ^ 64)) = true then some (.int (i ^ j.toNat)) else none
  | _, _ => none
def dNeg (x : D) (_ : Hd) : Option D := match x with
  | .int i => some (.int (-i))
  | _ => none
def dCmp (p : Int → Int → Bool) (x y : D) (_ : Hd) : Option D := match x, y with
  | .int i, .int j => some (.bl (p i j))
  | _, _ => none
def dLt := dCmp fun i j => decide (i < j)
def dLe := dCmp fun i j => decide (i ≤ j)
def dGt := dCmp fun i j => decide (j < i)
def dGe := dCmp fun i j => decide (j ≤ i)
def isNon : D → Bool
  | .non => true
  | _ => false
def dIs (x y : D) (_ : Hd) : Option D := match y, x with
  | .non, x => some (.bl (isNon x))
  | .bl b, .bl a => some (.bl (decide (a = b)))
  | _, _ => none
def dIsNot (x y : D) (_ : Hd) : Option D := match y, x with
  | .non, x => some (.bl (!isNon x))
  | .bl b, .bl a => some (.bl (!decide (a = b)))
  | _, _ => none
def dLen (xs : List D) (h : Hd) : Option D := match xs with
  | [.str s] => if s.length ≤ sizeLine then some (.int s.length) else none
  | [x] => match seqOf h x with
    | some ys => some (.int ys.length)
    | none => none
  | _ => none
def dIx (x y : D) (h : Hd) : Option D := match y, x with
  | .int i, .str z => if z.length ≤ sizeLine then match atI z.cps.toList i with
      | some c => some (.str ⟨#[c]⟩)
      | none => none
    else none
  | .int i, x => match seqOf h x with
    | some xs => atI xs i
    | none => none
  | _, _ => none

section
variable {X : Cx}
end
section
variable {K : PySem.W.Frag} {mg : Str → Option Value} {ρ : List Addr} {H : Hp} {h : Hd}
theorem q0 {d : D} {v : V} {S : List Addr} {Q : VK} (q : ∀ v H' S', Same H H' → Rep K mg ρ H' d v S' → S'.Nodup → (∀ a ∈ S', a ∉ ρ ∧ (H a = none ∨ a ∈ S)) → Q v H') (r : Rep K mg ρ H d v []) : Q v H :=
  q v H [] same_refl r List.nodup_nil fun _ z => nomatch z
theorem Rep.int_inv {i : Int} {v : V} {S : List Addr} (r : Rep K mg ρ H (.int i) v S) : v = .int i ∧ S = [] := by cases r; exact ⟨rfl, rfl⟩
theorem opII {f : D → D → Hd → Option D} {C : Int → Int → Prop} {g : Int → Int → V} {gd : Int → Int → D} (hf : ∀ x y h d, f x y h = some d → ∃ i j, x = .int i ∧ y = .int j ∧ C i j ∧ d = gd i j) (hg : ∀ i j ρ H, Rep K mg ρ H (gd i j) (g i j) []) : Op2 K mg f (rI C g) := by
  intro x y h d e ρ H vx vy S1 S2 Q hr r1 r2 nd na q
  obtain ⟨i, j, rfl, rfl, c, rfl⟩ := hf x y h d e
  obtain ⟨rfl, rfl⟩ := r1.int_inv
  obtain ⟨rfl, rfl⟩ := r2.int_inv
  exact ⟨i, j, rfl, rfl, c, q0 q (hg i j ρ H)⟩
theorem opII0 {f : D → D → Hd → Option D} {g : Int → Int → V} {gd : Int → Int → D} (hf : ∀ x y h d, f x y h = some d → ∃ i j, x = .int i ∧ y = .int j ∧ d = gd i j) (hg : ∀ i j ρ H, Rep K mg ρ H (gd i j) (g i j) []) : Op2 K mg f (rI0 g) := by
  intro x y h d e ρ H vx vy S1 S2 Q hr r1 r2 nd na q
  obtain ⟨i, j, rfl, rfl, rfl⟩ := hf x y h d e
  obtain ⟨rfl, rfl⟩ := r1.int_inv
  obtain ⟨rfl, rfl⟩ := r2.int_inv
  exact ⟨i, j, rfl, rfl, q0 q (hg i j ρ H)⟩
theorem op2_sub : Op2 K mg dSub (rI0 fun i j => .int (i - j)) := opII0 (gd := fun i j => .int (i - j)) (fun x y h d e => by
  unfold dSub at e
  split at e
  · cases e; exact ⟨_, _, rfl, rfl, rfl⟩
  · cases e) fun i j _ _ => .int _
theorem op2_cmp (p : Int → Int → Bool) : Op2 K mg (dCmp p) (rI0 fun i j => .bl (p i j)) := opII0 (gd := fun i j => .bl (p i j)) (fun x y h d e => by
  unfold dCmp at e
  split at e
  · cases e; exact ⟨_, _, rfl, rfl, rfl⟩
  · cases e) fun i j _ _ => .bl _
theorem op2_fdiv : Op2 K mg dFdiv (rI CDivW fun i j => .int (i / j)) := opII (gd := fun i j => .int (i / j)) (fun x y h d e => by
  unfold dFdiv at e
  split at e
  · split at e
    · rename_i c
      cases e
      simp only [Bool.and_eq_true, decide_eq_true_eq] at c
      exact ⟨_, _, rfl, rfl, wide_div c.1 c.2 (by decide) (by decide), rfl⟩
    · cases e
  · cases e) fun i j _ _ => .int _
theorem op2_mod : Op2 K mg dMod (rI (fun _ j => 0 < j) fun i j => .int (i % j)) := opII (gd := fun i j => .int (i % j)) (fun x y h d e => by
  unfold dMod at e
  split at e
  · split at e
    · rename_i c
      cases e
      exact ⟨_, _, rfl, rfl, c, rfl⟩
    · cases e
  · cases e) fun i j _ _ => .int _
theorem op2_pow : Op2 K mg dPow (rI CPow fun i j => .int (i ^ j.toNat)) := opII (gd := fun i j => .int (i ^ j.toNat)) (fun x y h d e => by
  unfold dPow at e
  split at e
  · split at e
    · rename_i c
      cases e
      simp only [Bool.and_eq_true, decide_eq_true_eq] at c
      exact ⟨_, _, rfl, rfl, ⟨c.1.1, c.1.2, c.2⟩, rfl⟩
    · cases e
  · cases e) fun i j _ _ => .int _
def rMul : R2 := fun x y H Q => rI CMul (fun i j => .int (i * j)) x y H Q ∨ rI CMulW (fun i j => .int (i * j)) x y H Q
theorem op_mulA {X : Cx} : OpR X (binaryOp .Mult) rMul := OpR.or op_mul op_mulW
theorem op2_mul : Op2 K mg dMul rMul := by
  intro x y h d e ρ H vx vy S1 S2 Q hr r1 r2 nd na q
  unfold dMul at e
  split at e
  · rename_i i j
    split at e
    · rename_i c
      cases e
      obtain ⟨rfl, rfl⟩ := r1.int_inv
      obtain ⟨rfl, rfl⟩ := r2.int_inv
      simp only [mulOk, Bool.or_eq_true, Bool.and_eq_true, decide_eq_true_eq] at c
      rcases c with c | c
      · exact .inl ⟨i, j, rfl, rfl, c, q0 q (.int _)⟩
      · exact .inr ⟨i, j, rfl, rfl, wide_mul c.1 c.2 (by decide) (by decide) (by decide), q0 q (.int _)⟩
    · cases e
  · cases e
theorem isNon_eq {d : D} {v : V} {S : List Addr} (r : Rep K mg ρ H d v S) : isNon d = decide (v = .non) := by
  cases r <;> rfl
def rIsA : R2 := fun x y H Q => (y = .non ∧ Q (.bl (decide (x = .non))) H) ∨ ∃ a b, x = .bl a ∧ y = .bl b ∧ Q (.bl (decide (a = b))) H
theorem op_isA {X : Cx} : OpR X (compareOp .Is) rIsA := OpR.or op_isN op_is_bl
theorem op2_is : Op2 K mg dIs rIsA := by
  intro x y h d e ρ H vx vy S1 S2 Q hr r1 r2 nd na q
  unfold dIs at e
  split at e
  · cases e
    cases r2
    refine .inl ⟨rfl, ?_⟩
    rw [← isNon_eq r1]
    exact q0 q (.bl _)
  · cases e
    cases r1
    cases r2
    exact .inr ⟨_, _, rfl, rfl, q0 q (.bl _)⟩
  · cases e
theorem RepL.append {xs ys : List D} {vs ws : List V} {S T : List Addr} (r : RepL K mg ρ H xs vs S) (t : RepL K mg ρ H ys ws T) : RepL K mg ρ H (xs ++ ys) (vs ++ ws) (S ++ T) := by
  have key : ∀ {xs : List D} {vs : List V} {S : List Addr}, RepL K mg ρ H xs vs S → RepL K mg ρ H (xs ++ ys) (vs ++ ws) (S ++ T) := by
    intro xs
    induction xs with
    | nil => intro vs S r; cases r; exact t
    | cons x xs ih =>
      intro vs S r
      cases r with
      | cons r1 r2 => rw [List.cons_append, List.cons_append, List.append_assoc]; exact .cons r1 (ih r2)
  exact key r
theorem seqOf_rep {x : D} {xs : List D} {v : V} {S : List Addr} (hr : HRel K mg ρ H h) (e : seqOf h x = some xs) (r : Rep K mg ρ H x v S) :
    ∃ a vs S', v = .ref a ∧ (SqL K H a vs ∨ SqT K H a vs) ∧ RepL K mg ρ H xs vs S' ∧ S'.Sublist S := by
  cases x with
  | tup ys => cases e; cases r with | tup ht t => exact ⟨_, _, _, rfl, .inr ht.sq, t, List.Sublist.refl _⟩
  | lst ys => cases e; cases r with | lst ha t => exact ⟨_, _, _, rfl, .inl (SqL.of ha), t, List.sublist_append_left _ _⟩
  | rol ys => cases e; cases r with | rol ha t => exact ⟨_, _, _, rfl, .inl ha.sq, t, List.Sublist.refl _⟩
  | ref n =>
    simp only [seqOf] at e
    split at e
    · rename_i ys hy
      cases e
      cases r with
      | ref ha =>
        obtain ⟨vs, hv, t⟩ := hr.cell n _ _ hy ha
        exact ⟨_, _, _, rfl, .inl (SqL.of hv), t, List.Sublist.refl _⟩
    · cases e
  | _ => cases e
theorem isLst_rep {x : D} {xs : List D} {v : V} {S : List Addr} (hr : HRel K mg ρ H h) (e : isLst h x = some xs) (r : Rep K mg ρ H x v S) :
    ∃ a vs S', v = .ref a ∧ H a = some (.lst vs) ∧ RepL K mg ρ H xs vs S' ∧ S'.Sublist S := by
  cases x with
  | lst ys => cases e; cases r with | lst ha t => exact ⟨_, _, _, rfl, ha, t, List.sublist_append_left _ _⟩
  | ref n =>
    simp only [isLst] at e
    split at e
    · rename_i ys hy
      cases e
      cases r with
      | ref ha =>
        obtain ⟨vs, hv, t⟩ := hr.cell n _ _ hy ha
        exact ⟨_, _, _, rfl, hv, t, List.Sublist.refl _⟩
    · cases e
  | _ => cases e
def rAdd (K : PySem.W.Frag) : R2 := fun x y H Q => rI0 (fun i j => .int (i + j)) x y H Q ∨ (∃ i j, x = .str i ∧ y = .str j ∧ i.length + j.length ≤ sizeLine ∧ Q (.str (i ++ j)) H) ∨ rCatA K x y H Q ∨ rCat x y H Q
theorem op_addA {X : Cx} : OpR X (binaryOp .Add) (rAdd X.K) := OpR.or op_add (OpR.or op_add_str (OpR.or op_catA op_cat))
theorem op2_add : Op2 K mg dAdd (rAdd K) := by
  intro x y h d e ρ H vx vy S1 S2 Q hr r1 r2 nd na q
  unfold dAdd at e
  split at e
  · cases e
    obtain ⟨rfl, rfl⟩ := r1.int_inv
    obtain ⟨rfl, rfl⟩ := r2.int_inv
    exact .inl ⟨_, _, rfl, rfl, q0 q (.int _)⟩
  · split at e
    · rename_i c
      cases e
      cases r1
      cases r2
      exact .inr (.inl ⟨_, _, rfl, rfl, c, q0 q (.str _)⟩)
    · cases e
  · split at e
    · rename_i xs ys c
      cases e
      cases r1 with
      | tup h1 t1 =>
        cases r2 with
        | tup h2 t2 =>
          refine .inr (.inr (.inl ⟨_, _, _, _, rfl, rfl, h1.sq, h2.sq, by rw [← t1.length, ← t2.length]; exact c, fun e1 => ?_, fun n1 e2 => ?_, fun n1 n2 p np => ?_⟩))
          · have : xs = [] := by
              have := t1.length
              rw [e1] at this
              exact List.eq_nil_of_length_eq_zero this
            subst this
            cases t1
            exact q _ H _ same_refl (.tup h2 t2) (by simpa using nd) fun a ha => ⟨na a (by simpa using ha), .inr (by simpa using ha)⟩
          · have : ys = [] := by
              have := t2.length
              rw [e2] at this
              exact List.eq_nil_of_length_eq_zero this
            subst this
            cases t2
            simp only [List.append_nil] at q nd na ⊢
            exact q _ H _ same_refl (.tup h1 t1) nd fun a ha => ⟨na a ha, .inr ha⟩
          · exact q _ _ _ (same_upd np) (.newTup hr (t1.append t2) na np) nd fun a ha => ⟨na a ha, .inr ha⟩
    · cases e
  · split at e
    · rename_i xs ys e1 e2
      split at e
      · rename_i c
        cases e
        obtain ⟨a1, v1, T1, rfl, h1, t1, s1⟩ := isLst_rep hr e1 r1
        obtain ⟨a2, v2, T2, rfl, h2, t2, s2⟩ := isLst_rep hr e2 r2
        refine .inr (.inr (.inr ⟨_, _, _, _, rfl, rfl, h1, h2, by rw [← t1.length, ← t2.length]; exact c, fun p np => ?_⟩))
        have sub : (T1 ++ T2).Sublist (S1 ++ S2) := s1.append s2
        have nd' := nd.sublist sub
        have na' : ∀ a ∈ T1 ++ T2, a ∉ ρ := fun a ha => na a (sub.subset ha)
        obtain ⟨n1, n2⟩ := fresh_p hr (t1.append t2) nd' na' np
        exact q _ _ _ (same_upd np) (.newLst hr (t1.append t2) na' np) n1 fun a ha => ⟨(n2 a ha).1, (n2 a ha).2.imp id fun z => sub.subset z⟩
      · cases e
    · cases e
theorem opN_len : OpN K mg dLen (fun xs H Q => ∃ x n, xs = [x] ∧ LenV K x H n ∧ Q (.int n) H) := by
  intro xs h d e ρ H vs S Q hr r nd na q
  unfold dLen at e
  split at e
  · split at e
    · rename_i c
      cases e
      cases r with
      | cons r t =>
        cases r
        cases t
        exact ⟨_, _, rfl, ⟨c, rfl⟩, q0 q (.int _)⟩
    · cases e
  · split at e
    · rename_i x _ ys ey
      cases e
      cases r with
      | cons r t =>
        cases t
        obtain ⟨a, ws, S', rfl, sq, rw', _⟩ := seqOf_rep hr ey r
        refine ⟨_, ys.length, rfl, ?_, q0 q (.int _)⟩
        rcases sq with sq | sq
        · exact .inl ⟨ws, sq, rw'.length⟩
        · exact .inr ⟨ws, sq, rw'.length⟩
    · cases e
  · cases e
theorem RepL.ix : ∀ {xs : List D} {vs : List V} {S : List Addr} {i : Nat} {x : D}, RepL K mg ρ H xs vs S → xs[i]? = some x → ∃ v T, vs[i]? = some v ∧ Rep K mg ρ H x v T ∧ T.Sublist S := by
  intro xs
  induction xs with
  | nil => intro vs S i x _ e; simp at e
  | cons y ys ih =>
    intro vs S i x r e
    cases r with
    | cons r1 r2 =>
      cases i with
      | zero => simp at e; subst e; exact ⟨_, _, rfl, r1, List.sublist_append_left _ _⟩
      | succ i =>
        obtain ⟨v, T, h1, h2, h3⟩ := ih r2 (by simpa using e)
        exact ⟨v, T, by simpa using h1, h2, h3.trans (List.sublist_append_right _ _)⟩
theorem atI_rep {xs : List D} {vs : List V} {S : List Addr} {i : Int} {x : D} (r : RepL K mg ρ H xs vs S) (e : atI xs i = some x) : ∃ v T, atI vs i = some v ∧ Rep K mg ρ H x v T ∧ T.Sublist S := by
  unfold atI at e ⊢
  rw [← r.length]
  cases ei : ixN xs.length i with
  | none => rw [ei] at e; cases e
  | some j =>
    rw [ei] at e
    exact r.ix (show xs[j]? = some x from e)
theorem op2_ix : Op2 K mg dIx (rIx K) := by
  intro x y h d e ρ H vx vy S1 S2 Q hr r1 r2 nd na q
  unfold dIx at e
  split at e
  · split at e
    · rename_i c
      split at e
      · rename_i cc ec
        cases e
        cases r1
        cases r2
        exact .inr (.inr ⟨_, _, cc, rfl, rfl, c, ec, q0 q (.str _)⟩)
      · cases e
    · cases e
  · split at e
    · rename_i i _ xs ex
      obtain ⟨rfl, rfl⟩ := r2.int_inv
      obtain ⟨a, vs, S', rfl, sq, rl, sub⟩ := seqOf_rep hr ex r1
      obtain ⟨v, T, ev, rv, sT⟩ := atI_rep rl e
      have sT' := sT.trans sub
      rw [List.append_nil] at nd na q
      have fin : Q v H := q v H T same_refl rv (nd.sublist sT') fun b hb => ⟨na b (sT'.subset hb), .inr (sT'.subset hb)⟩
      rcases sq with sq | sq
      · exact .inl ⟨_, _, _, _, rfl, rfl, sq, ev, fin⟩
      · exact .inr (.inl ⟨_, _, _, _, rfl, rfl, sq, ev, fin⟩)
    · cases e
  · cases e
end
section
variable {X : Cx} {Wx : WX} {a b : Expr} {ma mb : ME} {pos : Pos}
theorem je_add (ha : JE X Wx a ma) (hb : JE X Wx b mb) : JE X Wx (.BinOp a .Add b pos) (eBin dAdd ma mb) := je_bin op_addA op2_add ha hb
theorem je_sub (ha : JE X Wx a ma) (hb : JE X Wx b mb) : JE X Wx (.BinOp a .Sub b pos) (eBin dSub ma mb) := je_bin op_sub op2_sub ha hb
theorem je_fdiv (ha : JE X Wx a ma) (hb : JE X Wx b mb) : JE X Wx (.BinOp a .FloorDiv b pos) (eBin dFdiv ma mb) := je_bin op_fdivW op2_fdiv ha hb
theorem je_mod (ha : JE X Wx a ma) (hb : JE X Wx b mb) : JE X Wx (.BinOp a .Mod b pos) (eBin dMod ma mb) := je_bin op_mod op2_mod ha hb
theorem je_pow (ha : JE X Wx a ma) (hb : JE X Wx b mb) : JE X Wx (.BinOp a .Pow b pos) (eBin dPow ma mb) := je_bin op_pow op2_pow ha hb
theorem je_ge (ha : JE X Wx a ma) (hb : JE X Wx b mb) : JE X Wx (.Compare a [.GtE] [b] pos) (eBin dGe ma mb) := je_cmp op_ge (op2_cmp _) ha hb
theorem jt_lt (ha : JE X Wx a ma) (hb : JE X Wx b mb) : JT X Wx (.Compare a [.Lt] [b] pos) (tVal (eBin dLt ma mb)) := jt_cmp op_lt (op2_cmp _) ha hb
theorem jt_gt (ha : JE X Wx a ma) (hb : JE X Wx b mb) : JT X Wx (.Compare a [.Gt] [b] pos) (tVal (eBin dGt ma mb)) := jt_cmp op_gt (op2_cmp _) ha hb
theorem je_is (ha : JE X Wx a ma) (hb : JE X Wx b mb) : JE X Wx (.Compare a [.Is] [b] pos) (eBin dIs ma mb) := je_cmp op_isA op2_is ha hb
theorem jt_is (ha : JE X Wx a ma) (hb : JE X Wx b mb) : JT X Wx (.Compare a [.Is] [b] pos) (tVal (eBin dIs ma mb)) := jt_cmp op_isA op2_is ha hb
theorem je_ix (ha : JE X Wx a ma) (hb : JE X Wx b mb) (hs : PlainIx b := by intro _ _; rfl) : JE X Wx (.Subscript a b pos) (eBin dIx ma mb) := PE.mono (pe_ix ix_seq ha hb hs) fun _ _ _ q => tE_bin op2_ix q
theorem je_len {p : Pos} {e : Expr} {mas : MA} (hm : X.mg "len" = none) (ha : JA X Wx [e] mas) (hg : Gl X "len" := by rfl) (he : starEach [e] X.env = (false, eval e X.env) :: starEach [] X.env := by rfl) : JE X Wx (.Call (.Name "len" p) [e] [] pos) (eN dLen mas) := je_callB call_len opN_len hm ha (by decide +kernel) hg (by decide) (by decide) he
end
end Tw

namespace Tw
open PySem PySem.Spec PyProof.Rows L2

abbrev MF := List D → Hd → R D
def runDef (np nl : Nat) (body : MS) : MF := fun ds h =>
  if ds.length = np then match body ((boxL ds h).1.map some ++ List.replicate (nl - np) none) (boxL ds h).2 with
    | .nx _ h' => gc h.length .non h'
    | .rt d h' => gc h.length d h'
    | .exc e _ h' => .exc e h'
    | _ => .stuck
  else .stuck
def eCall (mf : MF) (as : MA) : ME := fun env h => (as env h).bind fun ds h1 => mf ds h1

section
variable (K : PySem.W.Frag) (mg : Str → Option Value)
def spF (np : Nat) (mf : MF) : Sp := fun vs H Q E => vs.length = np ∧ ∃ ρ h ds S, HRel K mg ρ H h ∧ RepL K mg ρ H ds vs S ∧ S.Nodup ∧ (∀ a ∈ S, a ∉ ρ) ∧ (match mf ds h with
  | .ok d h' => ∀ v ρ' H' S', Fin K mg S ρ H d h' v ρ' H' S' → Q v H'
  | .exc e h' => ∀ cls dd ρ' H', HRel K mg ρ' H' h' → Step S ρ H ρ' H' → RepX K mg ρ' H' e cls dd → E cls dd H'
  | .stuck => False)
end
structure Df (P : Program) (w : World) (K : PySem.W.Frag) (mg : Str → Option Value) (base : Heap) (x : Str) (k : Nat) (ps : List Str) (mf : MF) : Prop where
  ex : ∃ f fd, FnOk P w K mg base (L2.CX P w) k f fd ps (spF K mg ps.length mf) ∧ mg x = some (.ref f) ∧ PySem.W.keepIn K (.ref f) = true ∧ Binds K fd ps []
  np : ∀ ds h, mf ds h ≠ .stuck → ds.length = ps.length
theorem Df.mono {P : Program} {w : World} {K : PySem.W.Frag} {mg : Str → Option Value} {base : Heap} {x : Str} {j k : Nat} {ps : List Str} {mf : MF} (d : Df P w K mg base x j ps mf) (h : j ≤ k) : Df P w K mg base x k ps mf := by
  obtain ⟨⟨f, fd, F, a, b, c⟩, n⟩ := d
  exact ⟨⟨f, fd, F.mono h, a, b, c⟩, n⟩
section
variable {X : Cx} {Wx : WX} {k : Nat} {x : Str} {ps : List Str} {mf : MF} {p pos : Pos} {e : Expr} {es : List Expr} {mas : MA}
theorem tE_call {K mg} {σ : L2.St} {H : Hp} {Q : VK} {np : Nat} (hn : ∀ ds h, mf ds h ≠ .stuck → ds.length = np) (q : tE K mg Wx (eCall mf mas) σ H Q) : tA K mg Wx mas σ H fun vs H1 => spF K mg np mf vs H1 Q (WE Wx σ) := by
  obtain ⟨ρ, env, h, hr, er, q⟩ := q
  refine ⟨ρ, env, h, hr, er, ?_⟩
  unfold eCall at q
  cases ea : mas env h with
  | ok ds h1 =>
    rw [ea] at q
    simp only [R.bind_ok] at q
    intro vs ρ1 H1 S f
    have hl : ds.length = np := hn ds h1 fun z => by rw [z] at q; exact q
    have hT : ∀ a ∈ S, H a = none ∧ a ∉ ρ1 := fun a ha => ⟨f.isnew a ha, f.owns a ha⟩
    refine ⟨by rw [← f.rp.length]; exact hl, ρ1, h1, ds, S, f.hr, f.rp, f.nd, f.owns, ?_⟩
    cases em : mf ds h1 with
    | ok d h' => rw [em] at q; exact fun v ρ' H' S' g => q v ρ' H' S' (g.later f.st f.hr hT fun a e => hr.notin e)
    | exc e h' => rw [em] at q; exact fun cls dd ρ' H' a b c => q cls dd ρ' H' a (f.st.transT b hT) c
    | stuck => rw [em] at q; exact q
  | exc e h1 => rw [ea] at q; exact q
  | stuck => rw [ea] at q; exact q
theorem je_call (d : Df X.prog X.w X.K X.mg X.base x k ps mf) (hr : Room k X.A) (tk : Takes X Wx) (ha : JA X Wx (e :: es) mas) (hg : Gl X x := by rfl) (hdb : (x == ("__debug__" : Str)) = false := by decide) (he : starEach (e :: es) X.env = (false, eval e X.env) :: starEach es X.env := by rfl) (hpl : (backTo pos (starEach es X.env)).any (·.1) = false := by rfl) :
    JE X Wx (.Call (.Name x p) (e :: es) [] pos) (eCall mf mas) := by
  obtain ⟨⟨f, fd, F, hm, hk, hb⟩, hn⟩ := d
  exact PE.mono (pe_callS F hr hg hm hk hb (fun σ => passAt tk σ) ha hdb he hpl) fun σ H Q q => tE_call hn q
end
section
variable {P : Program} {w : World} {K : PySem.W.Frag} {mg : Str → Option Value} {base : Heap}
theorem start_rel {ρ : List Addr} {H : Hp} {N : List Str} {ds : List D} {vs : List V} {nl np : Nat} (hl : N.length = nl) (hn : ds.length = np) (r : RepL K mg ρ H ds vs []) : EnvRel K mg ρ H (ds.map some ++ List.replicate (nl - np) none) (L2.start N vs) := by
  have l := r.length
  unfold L2.start
  refine ⟨by simp; omega, fun i d e => ?_⟩
  by_cases hi : i < ds.length
  · rw [List.getElem?_append_left (by simpa using hi)] at e
    rw [List.getElem?_map] at e
    cases ei : ds[i]? with
    | none => rw [ei] at e; cases e
    | some d' =>
      rw [ei] at e
      cases e
      obtain ⟨v, ev, rv⟩ := r.get ei
      refine ⟨v, ?_, rv⟩
      rw [List.getElem?_append_left (by simp; omega), List.getElem?_map, ev]
      rfl
  · rw [List.getElem?_append_right (by simp; omega)] at e
    have := List.mem_of_getElem? e
    simp at this
theorem boxL_length : ∀ (xs : List D) (h : Hd), (boxL xs h).1.length = xs.length
  | [], _ => rfl
  | x :: xs, h => by simp [boxL, boxL_length xs]
theorem def_ok {x qual : Str} {st : Stmt} {f : Addr} {fd : FuncData} {N ps : List Str} {k nl np : Nat} {body : MS} (F : Fun K x qual st f fd) (S : FnScope N ps (defScope st)) (hN : N.length = nl := by rfl) (hp : ps.length = np := by rfl)
    (hb : ∀ (cdv : Value) (A : Around) (outer : List Env) (s : Shared) (H : Hp) (E : XK), Room k (A.deeper (envOfC qual (defScope st) s.heap.objs.size f cdv)) →
      JB (cxOf (L2.CX P w) P w K mg base N qual (defScope st) f cdv A outer s H E) (fun cls d _ H => E cls d H) (defBody st) body) : FnOk P w K mg base (L2.CX P w) (k + 1) f fd ps (spF K mg ps.length (runDef np nl body)) := by
  refine F.okX S (fun vs H Q E h => h.1) fun cdv A outer s H vs Q E hr h => ⟨_, hb cdv A outer s H E hr, ?_⟩
  obtain ⟨hl, ρ, h, ds, T, hr', rl, nd, na, q⟩ := h
  have hld : ds.length = np := by rw [rl.length, hl, hp]
  unfold runDef at q
  rw [if_pos hld] at q
  obtain ⟨b, rb⟩ := boxL_ok hr' rl nd na
  refine ⟨ρ ++ T, (boxL ds h).1.map some ++ List.replicate (nl - np) none, (boxL ds h).2, b.rel, start_rel hN (by rw [boxL_length]; exact hld) rb, ?_⟩
  have sb := Step.boxed ρ H T
  have hh : h.length = ρ.length := hr'.len.symm
  cases eb : body ((boxL ds h).1.map some ++ List.replicate (nl - np) none) (boxL ds h).2 with
  | nx env' h' =>
    rw [eb] at q
    intro σ' ρ' H' r1 _ s1
    obtain ⟨d', h'', eg⟩ := @gc_isok h.length .non h'
    simp only [eg] at q
    obtain ⟨ρ2, S2, a1, a2, a3, a4, a5⟩ := gc_ok hh.symm r1 (sb.trans s1) (.non) List.nodup_nil (fun _ z => nomatch z) eg
    exact q .non ρ2 H' S2 ⟨a1, a2, a3, a4, a5⟩
  | rt d h' =>
    rw [eb] at q
    intro v ρ' H' S' f'
    obtain ⟨d', h'', eg⟩ := @gc_isok h.length d h'
    simp only [eg] at q
    obtain ⟨ρ2, S2, a1, a2, a3, a4, a5⟩ := gc_ok hh.symm f'.hr (sb.trans f'.st) f'.rp f'.nd (fun a ha => ⟨f'.owns a ha, .inl (f'.isnew a ha)⟩) eg
    exact q v ρ2 H' S2 ⟨a1, a2, a3, a4, a5⟩
  | exc e env' h' =>
    rw [eb] at q
    exact fun cls dd σ' ρ' H' r1 _ s1 rx => q cls dd ρ' H' r1 (sb.trans s1) rx
  | bk _ _ => rw [eb] at q; exact q.elim
  | ct _ _ => rw [eb] at q; exact q.elim
  | stuck => rw [eb] at q; exact q.elim
theorem runDef_np {np nl : Nat} {body : MS} : ∀ ds h, runDef np nl body ds h ≠ .stuck → ds.length = np := fun ds h n => by
  unfold runDef at n
  split at n
  · assumption
  · exact absurd rfl n
end
end Tw

namespace Tw
open PySem PySem.Spec PyProof.Rows L2

def optL {α β : Type} (f : α → Option β) : List α → Option (List β)
  | [] => some []
  | x :: xs => match f x, optL f xs with
    | some y, some ys => some (y :: ys)
    | _, _ => none
def toPy (h : Hd) : Nat → D → Option PyData
  | 0, _ => none
  | _ + 1, .non => some .none
  | _ + 1, .bl b => some (.bool b)
  | _ + 1, .int i => some (.int i)
  | _ + 1, .str s => if PyData.strOk s = true then some (.str s) else none
  | k + 1, .tup xs => match optL (toPy h k) xs with
    | some ys => some (.tuple ys)
    | none => none
  | k + 1, .lst xs => match optL (toPy h k) xs with
    | some ys => some (.list ys)
    | none => none
  | k + 1, .rol xs => match optL (toPy h k) xs with
    | some ys => some (.list ys)
    | none => none
  | k + 1, .ref n => match h[n]? with
    | some (.lst xs) => match optL (toPy h k) xs with
      | some ys => some (.list ys)
      | none => none
    | _ => none
  | _, _ => none
def dEq (x y : D) (h : Hd) : Option D := match toPy h 20 x, toPy h 20 y with
  | some a, some b => some (.bl (PyData.eqv a b))
  | _, _ => none
def dNe (x y : D) (h : Hd) : Option D := match toPy h 20 x, toPy h 20 y with
  | some a, some b => some (.bl (!PyData.eqv a b))
  | _, _ => none
theorem optL_shaped {k : Nat} {f : D → Option PyData} (hf : ∀ d p, f d = some p → p.canLay0 = true ∧ p.depth ≤ k) : ∀ xs ys, optL f xs = some ys → PyData.canLayAll0 ys = true ∧ PyData.depthAll ys ≤ k
  | [], ys, e => by
    simp [optL] at e
    subst e
    exact ⟨rfl, Nat.zero_le _⟩
  | x :: xs, ys, e => by
    unfold optL at e
    split at e
    · rename_i y ys' e1 e2
      cases e
      obtain ⟨a, b⟩ := hf _ _ e1
      obtain ⟨c, d⟩ := optL_shaped hf xs ys' e2
      refine ⟨by simp [PyData.canLayAll0, a, c], ?_⟩
      simp only [PyData.depthAll]
      omega
    · cases e
theorem toPy_lay (h : Hd) : ∀ k d p, toPy h k d = some p → p.canLay0 = true ∧ p.depth ≤ k
  | 0, d, p, e => by simp [toPy] at e
  | k + 1, d, p, e => by
    have seq : ∀ {xs : List D} {c : List PyData → PyData}, (∀ ys, (c ys).canLay0 = PyData.canLayAll0 ys) → (∀ ys, (c ys).depth = PyData.depthAll ys + 1) → (match optL (toPy h k) xs with
        | some ys => some (c ys)
        | none => none) = some p → p.canLay0 = true ∧ p.depth ≤ k + 1 := fun {xs c} h1 h2 e => by
      split at e
      · rename_i ys e1
        cases e
        obtain ⟨a, b⟩ := optL_shaped (toPy_lay h k) xs ys e1
        exact ⟨by rw [h1]; exact a, by rw [h2]; omega⟩
      · cases e
    cases d with
    | non => cases e; exact ⟨rfl, Nat.zero_le _⟩
    | bl b => cases e; exact ⟨rfl, Nat.zero_le _⟩
    | int i => cases e; exact ⟨rfl, Nat.zero_le _⟩
    | str s =>
      simp only [toPy] at e
      split at e
      · rename_i z
        cases e
        exact ⟨z, Nat.zero_le _⟩
      · cases e
    | tup xs => exact seq (c := .tuple) (fun _ => rfl) (fun _ => rfl) (by simpa only [toPy] using e)
    | lst xs => exact seq (c := .list) (fun _ => rfl) (fun _ => rfl) (by simpa only [toPy] using e)
    | rol xs => exact seq (c := .list) (fun _ => rfl) (fun _ => rfl) (by simpa only [toPy] using e)
    | ref n =>
      simp only [toPy] at e
      split at e
      · exact seq (c := .list) (fun _ => rfl) (fun _ => rfl) e
      · cases e
    | _ => simp [toPy] at e
theorem toPy_shaped {h : Hd} {k : Nat} {d : D} {p : PyData} (hk : k ≤ 64) (e : toPy h k d = some p) : SeqAt.shaped p = true := by
  obtain ⟨a, b⟩ := toPy_lay h k d p e
  unfold SeqAt.shaped
  rw [a, Bool.true_and]
  exact decide_eq_true (Nat.le_trans b hk)
section
variable {K : PySem.W.Frag} {mg : Str → Option Value} {ρ : List Addr} {H : Hp} {h : Hd}
theorem optL_dp {k : Nat} (hf : ∀ d p v S, toPy h k d = some p → Rep K mg ρ H d v S → Dp K H v p) : ∀ xs ys vs S, optL (toPy h k) xs = some ys → RepL K mg ρ H xs vs S → DpAll K H vs ys
  | [], ys, vs, S, e, r => by
    simp [optL] at e
    subst e
    cases r
    exact .nil
  | x :: xs, ys, vs, S, e, r => by
    unfold optL at e
    split at e
    · rename_i y ys' e1 e2
      cases e
      cases r with
      | cons r t => exact .cons (hf _ _ _ _ e1 r) (optL_dp hf xs ys' _ _ e2 t)
    · cases e
theorem toPy_dp (hr : HRel K mg ρ H h) : ∀ k d p v S, toPy h k d = some p → Rep K mg ρ H d v S → Dp K H v p
  | 0, d, p, v, S, e, r => by simp [toPy] at e
  | k + 1, d, p, v, S, e, r => by
    cases r with
    | non => cases e; exact .non
    | bl b => cases e; exact .bl b
    | int i => cases e; exact .int i
    | str s =>
      simp only [toPy] at e
      split at e
      · cases e; exact .str s
      · cases e
    | tup ht t =>
      simp only [toPy] at e
      split at e
      · rename_i ys e1
        cases e
        exact .tup ht.sq (optL_dp (toPy_dp hr k) _ _ _ _ e1 t)
      · cases e
    | lst ht t =>
      simp only [toPy] at e
      split at e
      · rename_i ys e1
        cases e
        exact .lst (SqL.of ht) (optL_dp (toPy_dp hr k) _ _ _ _ e1 t)
      · cases e
    | rol ht t =>
      simp only [toPy] at e
      split at e
      · rename_i ys e1
        cases e
        exact .lst ht.sq (optL_dp (toPy_dp hr k) _ _ _ _ e1 t)
      · cases e
    | ref ha =>
      simp only [toPy] at e
      split at e
      · rename_i xs hx
        split at e
        · rename_i ys e1
          cases e
          obtain ⟨vs, hv, t⟩ := hr.cell _ _ _ hx ha
          exact .lst (SqL.of hv) (optL_dp (toPy_dp hr k) _ _ _ _ e1 t)
        · cases e
      · cases e
    | dct _ _ _ => simp [toPy] at e
    | glb _ => simp [toPy] at e
    | ty _ => simp [toPy] at e
    | exc _ _ _ => simp [toPy] at e
theorem op2_eq : Op2 K mg dEq (rEqD K) := by
  intro x y h d e ρ H vx vy S1 S2 Q hr r1 r2 nd na q
  unfold dEq at e
  split at e
  · rename_i a b e1 e2
    cases e
    exact ⟨a, b, toPy_dp hr _ _ _ _ _ e1 r1, toPy_dp hr _ _ _ _ _ e2 r2, toPy_shaped (by decide) e1, toPy_shaped (by decide) e2, q0 q (.bl _)⟩
  · cases e
theorem op2_ne : Op2 K mg dNe (rNeD K) := by
  intro x y h d e ρ H vx vy S1 S2 Q hr r1 r2 nd na q
  unfold dNe at e
  split at e
  · rename_i a b e1 e2
    cases e
    exact ⟨a, b, toPy_dp hr _ _ _ _ _ e1 r1, toPy_dp hr _ _ _ _ _ e2 r2, toPy_shaped (by decide) e1, toPy_shaped (by decide) e2, q0 q (.bl _)⟩
  · cases e
end

section
variable {K : PySem.W.Frag} {mg : Str → Option Value} {ρ : List Addr} {H : Hp} {h : Hd}
end
section
variable {X : Cx} {Wx : WX} {a b : Expr} {ma mb : ME} {pos : Pos} {k : Nat}
theorem je_eq (hr : Room k X.A) (ha : JE X Wx a ma) (hb : JE X Wx b mb) : JE X Wx (.Compare a [.Eq] [b] pos) (eBin dEq ma mb) := je_cmp (op_eqD hr.units) op2_eq ha hb
theorem jt_ne (hr : Room k X.A) (ha : JE X Wx a ma) (hb : JE X Wx b mb) : JT X Wx (.Compare a [.NotEq] [b] pos) (tVal (eBin dNe ma mb)) := jt_cmp (op_neD hr.units) op2_ne ha hb
theorem units65 {A : Around} (hr : Room k A) : A.units + 65 < cLine := by have := hr.un; omega
end

def eChain (f g : D → D → Hd → Option D) (a b c : ME) : ME := fun env h => (a env h).bind fun x h1 => (b env h1).bind fun y h2 => match f x y h2 with
  | some (.bl true) => if y.set = true then (c env h2).bind fun z h3 => R.lift h3 (g y z h3) else .stuck
  | some (.bl false) => .ok (.bl false) h2
  | _ => .stuck
section
variable {X : Cx} {Wx : WX} {a b c : Expr} {ma mb mc : ME} {pos : Pos}
end

def cutL {α : Type} (xs : List α) (lo hi : Option Int) : List α := (xs.drop (HT.sIx xs.length 0 lo)).take (HT.sIx xs.length xs.length hi - HT.sIx xs.length 0 lo)
abbrev MO := En → Hd → R (Option Int)
def oNone : MO := fun _ h => .ok none h
def asI (h : Hd) : D → R (Option Int)
  | .int i => .ok (some i) h
  | _ => .stuck
def oSome (a : ME) : MO := fun env h => (a env h).bind fun x h1 => asI h1 x
def dSl (x : D) (lo hi : Option Int) (h : Hd) : Option D := match x with
  | .tup xs => some (.tup (cutL xs lo hi))
  | .str z => if z.length ≤ sizeLine then some (.str (cutS z lo hi)) else none
  | .rol xs => some (.lst (cutL xs lo hi))
  | x => match isLst h x with
    | some xs => some (.lst (cutL xs lo hi))
    | none => none
def eSl (a : ME) (lo hi : MO) : ME := fun env h => (a env h).bind fun x h1 => (lo env h1).bind fun l h2 => (hi env h2).bind fun u h3 => R.lift h3 (dSl x l u h3)
section
variable (K : PySem.W.Frag) (mg : Str → Option Value)
end
section
variable {X : Cx} {Wx : WX} {a e : Expr} {ma : ME} {pos p2 : Pos}
theorem PO.mono {e : Option Expr} {t t' : TO} (h : PO X e t) (i : ∀ σ H Q, t' σ H Q → t σ H Q) : PO X e t' := ⟨fun pins s σ H Q I q => h.run pins s σ H Q I (i σ H Q q)⟩
section
variable {K : PySem.W.Frag} {mg : Str → Option Value} {ρ : List Addr} {H : Hp} {h : Hd}
theorem RepL.drop : ∀ {xs : List D} {vs : List V} {S : List Addr} (n : Nat), RepL K mg ρ H xs vs S → ∃ T, RepL K mg ρ H (xs.drop n) (vs.drop n) T ∧ T.Sublist S
  | _, _, S, 0, r => ⟨S, r, List.Sublist.refl _⟩
  | _, _, _, n + 1, .nil => ⟨[], .nil, List.Sublist.refl _⟩
  | _, _, _, n + 1, .cons r t => by
    obtain ⟨T, a, b⟩ := RepL.drop n t
    exact ⟨T, a, b.trans (List.sublist_append_right _ _)⟩
theorem RepL.take' : ∀ {xs : List D} {vs : List V} {S : List Addr} (n : Nat), RepL K mg ρ H xs vs S → ∃ T, RepL K mg ρ H (xs.take n) (vs.take n) T ∧ T.Sublist S
  | _, _, _, 0, _ => ⟨[], .nil, List.nil_sublist _⟩
  | _, _, _, n + 1, .nil => ⟨[], .nil, List.Sublist.refl _⟩
  | _, _, _, n + 1, .cons r t => by
    obtain ⟨T, a, b⟩ := RepL.take' n t
    exact ⟨_, .cons r a, List.Sublist.append_left b _⟩
theorem RepL.cut {xs : List D} {vs : List V} {S : List Addr} (r : RepL K mg ρ H xs vs S) (lo hi : Option Int) : ∃ T, RepL K mg ρ H (cutL xs lo hi) (cutV vs lo hi) T ∧ T.Sublist S := by
  unfold cutL cutV
  rw [r.length]
  obtain ⟨T, a, b⟩ := r.drop (HT.sIx vs.length 0 lo)
  obtain ⟨T', a', b'⟩ := a.take' (HT.sIx vs.length vs.length hi - HT.sIx vs.length 0 lo)
  exact ⟨T', a', b'.trans b⟩
end
end

def dAbs : List D → Hd → Option D
  | [.int i], _ => some (.int (if i < 0 then -i else i))
  | _, _ => none
def dMin2 : List D → Hd → Option D
  | [.int i, .int j], _ => some (.int (if j < i then j else i))
  | _, _ => none
def dInt : List D → Hd → Option D
  | [.int i], _ => some (.int i)
  | [.bl k], _ => some (.int (if k then 1 else 0))
  | _, _ => none
def unI : D → Option Int
  | .int i => some i
  | _ => none
def unB : D → Option Bool
  | .bl b => some b
  | _ => none
def dAll : List D → Hd → Option D
  | [x], h => match isLst h x with
    | some xs => match optL unB xs with
      | some bs => some (.bl (bs.all id))
      | none => none
    | none => none
  | _, _ => none
def dTuple : List D → Hd → Option D
  | [x], h => match seqOf h x with
    | some xs => some (.tup xs)
    | none => none
  | _, _ => none
section
variable {K : PySem.W.Frag} {mg : Str → Option Value} {ρ : List Addr} {H : Hp} {h : Hd}
theorem RepL.one {x : D} {vs : List V} {S : List Addr} (r : RepL K mg ρ H [x] vs S) : ∃ v, vs = [v] ∧ Rep K mg ρ H x v S := by
  cases r with
  | cons r t => cases t; exact ⟨_, rfl, by simpa using r⟩
theorem RepL.two {x y : D} {vs : List V} {S : List Addr} (r : RepL K mg ρ H [x, y] vs S) : ∃ v w S1 S2, vs = [v, w] ∧ Rep K mg ρ H x v S1 ∧ Rep K mg ρ H y w S2 ∧ S = S1 ++ S2 := by
  cases r with
  | cons r t => cases t with
    | cons r2 t2 => cases t2; exact ⟨_, _, _, _, rfl, r, r2, by simp⟩
theorem optL_ints : ∀ {xs : List D} {ns : List Int} {vs : List V} {S : List Addr}, optL unI xs = some ns → RepL K mg ρ H xs vs S → vs = ns.map V.int
  | [], ns, vs, S, e, r => by simp [optL] at e; subst e; cases r; rfl
  | x :: xs, ns, vs, S, e, r => by
    unfold optL at e
    split at e
    · rename_i y ys e1 e2
      cases e
      cases r with
      | cons r t =>
        cases x <;> simp [unI] at e1
        subst e1
        cases r
        rw [optL_ints e2 t]; rfl
    · cases e
theorem optL_bls : ∀ {xs : List D} {ns : List Bool} {vs : List V} {S : List Addr}, optL unB xs = some ns → RepL K mg ρ H xs vs S → vs = ns.map V.bl
  | [], ns, vs, S, e, r => by simp [optL] at e; subst e; cases r; rfl
  | x :: xs, ns, vs, S, e, r => by
    unfold optL at e
    split at e
    · rename_i y ys e1 e2
      cases e
      cases r with
      | cons r t =>
        cases x <;> simp [unB] at e1
        subst e1
        cases r
        rw [optL_bls e2 t]; rfl
    · cases e
theorem opN_abs : OpN K mg dAbs (fun xs H Q => ∃ i, xs = [.int i] ∧ Q (.int (if i < 0 then -i else i)) H) := by
  intro xs h d e ρ H vs S Q hr r nd na q
  unfold dAbs at e
  split at e
  · cases e
    obtain ⟨v, rfl, r1⟩ := r.one
    cases r1
    exact ⟨_, rfl, q0 q (.int _)⟩
  · cases e
theorem opN_min2 : OpN K mg dMin2 (fun xs H Q => ∃ i j, xs = [.int i, .int j] ∧ Q (.int (if j < i then j else i)) H) := by
  intro xs h d e ρ H vs S Q hr r nd na q
  unfold dMin2 at e
  split at e
  · cases e
    obtain ⟨v, w, S1, S2, rfl, r1, t1, _⟩ := r.two
    cases r1
    cases t1
    exact ⟨_, _, rfl, q0 q (.int _)⟩
  · cases e
theorem opN_int : OpN K mg dInt (fun xs H Q => (∃ i, xs = [.int i] ∧ Q (.int i) H) ∨ ∃ k, xs = [.bl k] ∧ Q (.int (if k then 1 else 0)) H) := by
  intro xs h d e ρ H vs S Q hr r nd na q
  unfold dInt at e
  split at e
  · cases e
    obtain ⟨v, rfl, r1⟩ := r.one
    cases r1
    exact .inl ⟨_, rfl, q0 q (.int _)⟩
  · cases e
    obtain ⟨v, rfl, r1⟩ := r.one
    cases r1
    exact .inr ⟨_, rfl, q0 q (.int _)⟩
  · cases e
theorem opN_all : OpN K mg dAll (rAll K) := by
  intro xs h d e ρ H vs S Q hr r nd na q
  unfold dAll at e
  split at e
  · split at e
    · rename_i ex
      split at e
      · rename_i en
        cases e
        obtain ⟨v, rfl, r1⟩ := r.one
        obtain ⟨a, ws, S', rfl, h1, t1, _⟩ := isLst_rep hr ex r1
        refine ⟨a, _, rfl, SqL.of (by rw [h1, optL_bls en t1]), q0 q (.bl _)⟩
      · cases e
    · cases e
  · cases e
end
section
variable {X : Cx} {Wx : WX} {a b : Expr} {mas : MA} {p pos : Pos}
theorem je_abs (hm : X.mg "abs" = none) (ha : JA X Wx [a] mas) (hg : Gl X "abs" := by rfl) (he : starEach [a] X.env = (false, eval a X.env) :: starEach [] X.env := by rfl) : JE X Wx (.Call (.Name "abs" p) [a] [] pos) (eN dAbs mas) := je_callB call_abs opN_abs hm ha (by decide +kernel) hg (by decide) (by decide) he
theorem je_min2 (hc : X.calm = true) (hm : X.mg "min" = none) (ha : JA X Wx [a, b] mas) (hg : Gl X "min" := by rfl) (he : starEach [a, b] X.env = (false, eval a X.env) :: starEach [b] X.env := by rfl) (hpl : (backTo pos (starEach [b] X.env)).any (·.1) = false := by rfl) : JE X Wx (.Call (.Name "min" p) [a, b] [] pos) (eN dMin2 mas) := je_callB (call_min2 hc) opN_min2 hm ha (by decide +kernel) hg (by decide) (by decide) he hpl
theorem je_all (hc : X.calm = true) (hm : X.mg "all" = none) (ha : JA X Wx [a] mas) (hg : Gl X "all" := by rfl) (he : starEach [a] X.env = (false, eval a X.env) :: starEach [] X.env := by rfl) : JE X Wx (.Call (.Name "all" p) [a] [] pos) (eN dAll mas) := je_callB (cr_all hc) opN_all hm ha (by decide +kernel) hg (by decide) (by decide) he
theorem je_toInt (hm : X.mg "int" = none) (ha : JA X Wx [a] mas) (hg : Gl X "int" := by rfl) (he : starEach [a] X.env = (false, eval a X.env) :: starEach [] X.env := by rfl) : JE X Wx (.Call (.Name "int" p) [a] [] pos) (eN dInt mas) := je_callTy call_int1 opN_int hm ha (by decide +kernel) hg (by decide) (by decide) he
end
end Tw

namespace Tw
open PySem PySem.Spec PyProof.Rows L2

def SqA (b : Bool) (K : PySem.W.Frag) (H : Hp) (a : Addr) (xs : List V) : Prop := if b = true then SqL K H a xs else SqT K H a xs
def SqI (b : Bool) (h : Heap) (it a : Addr) (i : Nat) : Prop := if b = true then h.IsListIter it a i else h.IsTupleIter it a i
def SqP (b : Bool) (h : Heap) (a : Addr) (its : Array Value) : Prop := if b = true then h.IsList a its else h.IsTuple a its
theorem SqI.there {b : Bool} {h : Heap} {it a : Addr} {i : Nat} (s : SqI b h it a i) : ∃ o vs, h.get? it = some o ∧ o.data = .fields vs := by
  cases b with
  | true => obtain ⟨o, e, _, d⟩ := (show h.IsListIter it a i from s); exact ⟨o, _, e, d⟩
  | false => obtain ⟨o, e, _, d⟩ := (show h.IsTupleIter it a i from s); exact ⟨o, _, e, d⟩
theorem SqI.at' {b : Bool} {h h' : Heap} {it a : Addr} {i : Nat} (s : SqI b h it a i) (k : ∀ o, h.get? it = some o → h'.get? it = some o) : SqI b h' it a i := by
  cases b with
  | true => exact (show h.IsListIter it a i from s).at k
  | false => exact (show h.IsTupleIter it a i from s).at k
section
variable {X : Cx} {pins : List (Addr × Obj)} {σ : L2.St} {H : Hp} {s : Shared}
theorem SqA.reads (I : Inv X pins σ H s) {b : Bool} {a : Addr} {xs : List V} (h : SqA b X.K H a xs) : ∃ its : List Value, Vals xs its ∧ SqP b s.heap a its.toArray ∧ a < s.heap.objs.size := by
  cases b with
  | true =>
    obtain ⟨its, r, p, _⟩ := I.list (show SqL X.K H a xs from h)
    exact ⟨its, r, show s.heap.IsList a its.toArray from p.isList, p.lt⟩
  | false =>
    obtain ⟨its, r, p, _⟩ := I.tuple (show SqT X.K H a xs from h)
    exact ⟨its, r, show s.heap.IsTuple a its.toArray from p, p.lt⟩
theorem SqA.inj (I : Inv X pins σ H s) {b : Bool} {a : Addr} {xs ys : List V} (h : SqA b X.K H a xs) (h' : SqA b X.K H a ys) : xs = ys := by
  cases b with
  | true => exact I.list_inj (show SqL X.K H a xs from h) h'
  | false => exact I.tuple_inj (show SqT X.K H a xs from h) h'
end
theorem sq_draws {P : Program} {w : World} {A : Around} (b : Bool) (hh : A.handled = none) (it a : Addr) (hne : a ≠ it) (its : Array Value) : Draws P w A it [it, a] its.size (fun i v => its[i]? = some v) (fun i h => SqI b h it a i ∧ SqP b h a its) := by
  cases b with
  | true => exact Draws.list hh it a hne its
  | false => exact Draws.tuple hh it a hne its
def sqO (b : Bool) (a : Addr) : Obj := if b = true then { cls := .type "list_iterator", data := .fields #[.ref a, .int 0 0] } else { cls := .type "tuple_iterator", data := .fields #[.ref a, .int 0 0] }
theorem sq_begins (b : Bool) (a : Addr) (its : Array Value) : Begins (.ref a) (sqO b a) fun h => SqP b h a its := by
  cases b with
  | true => exact begins_list a its
  | false => exact begins_tuple a its
theorem sq_first (b : Bool) {h : Heap} {it a : Addr} (e : h.get? it = some (sqO b a)) : SqI b h it a 0 := by
  cases b with
  | true => exact ⟨_, e, rfl, rfl⟩
  | false => exact ⟨_, e, rfl, rfl⟩
theorem SqP.keep {b : Bool} {h h' : Heap} {a : Addr} {its : Array Value} (s : SqP b h a its) (k : ∀ o, h.get? a = some o → h'.get? a = some o) : SqP b h' a its := by
  cases b with
  | true => exact (show h.IsList a its from s).at k
  | false => exact (show h.IsTuple a its from s).at k

def ItZ (K : PySem.W.Frag) (b1 b2 : Bool) (a1 a2 : Addr) : It :=
  ⟨fun i H => ∃ (xs ys : List V) (x y : V), SqA b1 K H a1 xs ∧ SqA b2 K H a2 ys ∧ xs[i]? = some x ∧ ys[i]? = some y,
    fun i H v H' => ∃ T x y, v = .ref T ∧ H T = none ∧ H' = upd H T (.tup [x, y]) ∧ (∀ xs, SqA b1 K H a1 xs → xs[i]? = some x) ∧ ∀ ys, SqA b2 K H a2 ys → ys[i]? = some y,
    fun i H => ∃ xs ys : List V, SqA b1 K H a1 xs ∧ SqA b2 K H a2 ys ∧ i ≤ xs.length ∧ i ≤ ys.length ∧ (xs.length = i ∨ ys.length = i)⟩
structure ZSep (z TI TO i1 i2 a1 a2 : Addr) : Prop where
  sep : ZipSep2 z TI TO i1 i2 [i1, a1] [i2, a2]
  n1 : a1 ≠ i1
  n2 : a2 ≠ i2
  i12 : i1 ≠ i2
theorem turn_Z {P : Program} {w : World} {K : PySem.W.Frag} {elts : List Expr} {kk : Nat} {tpos : Pos} {b1 b2 : Bool} {a1 a2 z TI TO i1 i2 : Addr} (S : ZSep z TI TO i1 i2 a1 a2) :
    Turn P w K (.Tuple elts kk tpos) (ItZ K b1 b2 a1 a2) [z, TI, TO, i1, i2] z (fun i h => IsZip h z TI TO .none ∧ IsTupOf2 h TI (.ref i1) (.ref i2) ∧ (∃ x y, IsTupOf2 h TO x y) ∧ SqI b1 h i1 a1 i ∧ SqI b2 h i2 a2 i) where
  mem := by simp
  obj := fun i h st c hc => by
    obtain ⟨hz, hTI, ⟨x, y, hTO⟩, h1, h2⟩ := st
    obtain ⟨o1, v1, e1, d1⟩ := h1.there
    obtain ⟨o2, v2, e2, d2⟩ := h2.there
    have e' : c = z ∨ c = TI ∨ c = TO ∨ c = i1 ∨ c = i2 := by simpa using hc
    rcases e' with q | q | q | q | q
    · rw [q]; exact ⟨_, hz, fun v q => nomatch q⟩
    · rw [q]; exact ⟨_, hTI, fun v q => nomatch q⟩
    · rw [q]; exact ⟨_, hTO, fun v q => nomatch q⟩
    · rw [q]; exact ⟨o1, e1, fun v q => by rw [d1] at q; cases q⟩
    · rw [q]; exact ⟨o2, e2, fun v q => by rw [d2] at q; cases q⟩
  keep := fun i h h' st k => by
    obtain ⟨hz, hTI, ⟨x, y, hTO⟩, h1, h2⟩ := st
    exact ⟨k z (by simp) _ hz, k TI (by simp) _ hTI, ⟨x, y, k TO (by simp) _ hTO⟩, h1.at' fun o q => k i1 (by simp) o q, h2.at' fun o q => k i2 (by simp) o q⟩
  item := by
    intro X hP hw hK hc i pins s σ H E I hf st hg
    subst hP hw hK
    obtain ⟨hz, hTI, ⟨x0, y0, hTO⟩, h1, h2⟩ := st
    obtain ⟨xs, ys, x, y, hqx, hqy, hx, hy⟩ := hg
    obtain ⟨its, rv, p, _⟩ := hqx.reads I
    obtain ⟨its2, rv2, p2, _⟩ := hqy.reads I
    obtain ⟨u, hu, ru⟩ := rv.get hx
    obtain ⟨u2, hu2, ru2⟩ := rv2.get hy
    have l1 : i < its.toArray.size := by simpa using (List.getElem?_eq_some_iff.mp hu).1
    have l2 : i < its2.toArray.size := by simpa using (List.getElem?_eq_some_iff.mp hu2).1
    have hzl : z < s.heap.objs.size := Heap.lt_size hz
    have hh : X.A.in1.handled = none := I.ok.hd hc
    refine wpAny_pyNext_zipD2_item S.sep (sq_draws b1 hh i1 a1 S.n1 its.toArray) (sq_draws b2 hh i2 a2 S.n2 its2.toArray) hz hTI hTO ⟨h1, p⟩ ⟨h2, p2⟩ l1 l2 fun w1 w2 h' tk hw1 hw2 z' TO' st1' st2' hT hsz hk => ?_
    have ew1 : w1 = u := by
      have : its[i]? = some w1 := by simpa using hw1
      rw [hu] at this; exact (Option.some.inj this).symm
    have ew2 : w2 = u2 := by
      have : its2[i]? = some w2 := by simpa using hw2
      rw [hu2] at this; exact (Option.some.inj this).symm
    subst ew1 ew2
    refine ⟨_, rfl, wpAny_letOwnedTupleGo_zip (s := { s with heap := h', toks := tk }) z' fun h'' z'' sb => ?_⟩
    have hT2 : h''.get? s.heap.objs.size = some { cls := .type "tuple", data := .seq #[w1, w2] } := (sb.2 _ (Nat.ne_of_gt hzl)).trans hT
    have new : ObjOk X.prog X.w (upd H s.heap.objs.size (.tup [x, y])) h'' s.heap.objs.size (.tup [x, y]) :=
      ⟨by show 2 ≤ sizeLine; decide, [w1, w2], .cons ru (.cons ru2 .nil), ⟨_, hT2, rfl, _, rfl⟩⟩
    have I1 : Inv X pins σ (upd H s.heap.objs.size (.tup [x, y])) { s with heap := h'', toks := tk } :=
      I.turnedNew (ch := [z, TI, TO, i1, i2]) (fun c o hb q => (sb.2 c (fun q' => hb (by simp [q']))).trans (hk c o (fun q' => hb (by simp [q'])) (fun q' => hb (by simp [q'])) (fun q' => hb (by simp [q'])) (fun q' => hb (by simp [q'])) q)) hf (Nat.le_refl _) new
    refine ⟨.ref s.heap.objs.size, _, I1, rfl, ⟨_, x, y, rfl, I.hok.fresh (Nat.le_refl _), rfl, fun l hl => by rw [hl.inj I hqx]; exact hx, fun l hl => by rw [hl.inj I hqy]; exact hy⟩, ⟨z'', ?_, ⟨w1, w2, ?_⟩, ?_, ?_⟩, fun c hcm => ?_⟩
    · exact (sb.2 _ S.sep.TIz).trans (hk _ _ S.sep.TIz S.sep.TITO S.sep.TIi1 S.sep.TIi2 hTI)
    · exact (sb.2 _ S.sep.TOz).trans TO'
    · exact st1'.1.at' fun o q => (sb.2 _ (Ne.symm S.sep.zi1)).trans q
    · exact st2'.1.at' fun o q => (sb.2 _ (Ne.symm S.sep.zi2)).trans q
    · have hlt : c < s.heap.objs.size := by
        have e' : c = z ∨ c = TI ∨ c = TO ∨ c = i1 ∨ c = i2 := by simpa using hcm
        rcases e' with q | q | q | q | q
        · rw [q]; exact hzl
        · rw [q]; exact Heap.lt_size hTI
        · rw [q]; exact Heap.lt_size hTO
        · rw [q]; obtain ⟨_, _, e1, _⟩ := h1.there; exact Heap.lt_size e1
        · rw [q]; obtain ⟨_, _, e2, _⟩ := h2.there; exact Heap.lt_size e2
      rw [upd_ne (Nat.ne_of_lt hlt)]
      exact (hf c hcm).1
  done := by
    intro X hP hw hK hc i pins s σ H E I hf st hg
    subst hP hw hK
    obtain ⟨hz, hTI, ⟨x0, y0, hTO⟩, h1, h2⟩ := st
    obtain ⟨xs, ys, hqx, hqy, le1, le2, hend⟩ := hg
    obtain ⟨its, rv, p, _⟩ := hqx.reads I
    obtain ⟨its2, rv2, p2, _⟩ := hqy.reads I
    have l1 := rv.length
    have l2 := rv2.length
    have hh : X.A.in1.handled = none := I.ok.hd hc
    exact wpAny_pyNext_zipD2_end S.sep (sq_draws b1 hh i1 a1 S.n1 its.toArray) (sq_draws b2 hh i2 a2 S.n2 its2.toArray) hz hTI hTO ⟨h1, p⟩ ⟨h2, p2⟩ (by simp; omega) (by simp; omega) (by simp; omega)
      fun h' tk hk => ⟨rfl, I.turnedL (t' := tk) (ch := [z, TI, TO, i1, i2]) (fun c o hb q =>
      hk c o (fun q' => hb (by simp [q'])) (fun q' => hb (by simp [q'])) (fun q' => hb (by simp [q'])) (fun q' => hb (by simp [q'])) q) hf⟩
  self := fun A i s Q E st h => wpAny_pyIter_zip st.1 h
def iZ2 (K : PySem.W.Frag) (ta : TA) : TI := fun σ H R => ta σ H fun vs H1 => ∃ b1 b2 a1 a2 xs ys, vs = [.ref a1, .ref a2] ∧ SqA b1 K H1 a1 xs ∧ SqA b2 K H1 a2 ys ∧ R (ItZ K b1 b2 a1 a2) H1
theorem zsep_new {N a1 a2 : Nat} (h1 : a1 < N) (h2 : a2 < N) : ZSep (N + 4) (N + 2) (N + 3) N (N + 1) a1 a2 :=
  ⟨zip_sep2 (fp1 := [a1]) (fp2 := [a2]) (fun b hb => by rw [List.mem_singleton.mp hb]; exact h1) (fun b hb => by rw [List.mem_singleton.mp hb]; exact h2), Nat.ne_of_lt h1, Nat.ne_of_lt (Nat.lt_succ_of_lt h2), Nat.ne_of_lt (Nat.lt_succ_self N)⟩
theorem pi_Z2 {X : Cx} {e e2 : Expr} {ta : TA} {p pos tpos : Pos} {elts : List Expr} {kk : Nat} (hg : Gl X "zip") (hm : X.mg "zip" = none) (ha : PA X [e, e2] ta)
    (hs : starEach [e, e2] X.env = (false, eval e X.env) :: starEach [e2] X.env := by rfl) (hpl : (backTo pos (starEach [e2] X.env)).any (·.1) = false := by rfl) :
    PI X (.Tuple elts kk tpos) (.Call (.Name "zip" p) [e, e2] [] pos) (iZ2 X.K ta) := by
  refine ⟨fun pins s σ H R I h => ?_⟩
  refine Call_ (ld_blt I hg hm PyProof.Rows.boot_zip (PyProof.Rows.callWith_type1 (thn (ha.run pos pins s σ H _ I h) fun us s1 ⟨vs, H1, I1, r1, q1⟩ => ?_) hs hpl))
  obtain ⟨b1, b2, a, b, xs, ys, ex, hqx, hqy, q⟩ := q1
  subst ex
  cases r1 with
  | cons r rr =>
    cases rr with
    | cons r' rr =>
      cases rr
      cases r
      cases r'
      obtain ⟨its, rv, p1, la⟩ := hqx.reads I1
      obtain ⟨its2, rv2, p2, lb⟩ := hqy.reads I1
      refine zip_begins2 (sq_begins b1 a its.toArray) (sq_begins b2 b its2.toArray) p1 p2 fun h' hz hTI hTO h1 h2 hsz hk => wpAny_pyIter_zip hz ?_
      have I2 : Inv X pins σ H1 { s1 with heap := h' } := I1.kept (t' := s1.toks) hk
      refine ⟨s1.heap.objs.size + 4, [s1.heap.objs.size + 4, s1.heap.objs.size + 2, s1.heap.objs.size + 3, s1.heap.objs.size, s1.heap.objs.size + 1], _, _, H1, rfl, I2, turn_Z (zsep_new la lb), ⟨hz, hTI, ⟨_, _, hTO⟩, sq_first b1 h1, sq_first b2 h2⟩, fun c hcm => ?_, q⟩
      have e' : c = s1.heap.objs.size + 4 ∨ c = s1.heap.objs.size + 2 ∨ c = s1.heap.objs.size + 3 ∨ c = s1.heap.objs.size ∨ c = s1.heap.objs.size + 1 := by simpa using hcm
      have hle : s1.heap.objs.size ≤ c := by
        rcases e' with z | z | z | z | z
        · rw [z]; exact Nat.le_add_right _ _
        · rw [z]; exact Nat.le_add_right _ _
        · rw [z]; exact Nat.le_add_right _ _
        · rw [z]; exact Nat.le_refl _
        · rw [z]; exact Nat.le_add_right _ _
      exact I1.fpOk hle (I1.hok.fresh hle)

section
variable {P : Program} {w : World} {A : Around} {E : Value → Shared → Prop} {s : Shared} {z TI TO i1 i2 : Addr} {fp1 fp2 : List Addr} {n1 n2 i : Nat} {P1 P2 : Nat → Value → Prop} {St1 St2 : Nat → Heap → Prop} {x0 y0 : Value}
end
end Tw

namespace Tw
open PySem PySem.Spec PyProof.Rows L2

section
variable {P : Program} {w : World} {A : Around} {E : Value → Shared → Prop} {s : Shared} {e it : Addr} {c : Int} {old : Value}
end
structure EZSep (e z TI TO i1 i2 a1 a2 : Addr) : Prop where
  s : ZSep z TI TO i1 i2 a1 a2
  ez : e ≠ z
  eTI : e ≠ TI
  eTO : e ≠ TO
  e1 : e ≠ i1
  e2 : e ≠ i2
end Tw

namespace Tw
open PySem PySem.Spec PyProof.Rows L2

def seqP (h : Hd) : D → Option (List D × Src)
  | .tup xs => if setL xs = true then some (xs, []) else none
  | .rol xs => some (xs, [])
  | .ref n => match h[n]? with
    | some (.lst xs) => some (xs, [(n, .lst xs)])
    | _ => none
  | .lst xs => if setL xs = true then some (xs, []) else none
  | _ => none
def zipD (xs ys : List D) : List D := List.zipWith (fun x y => .tup [x, y]) xs ys
def twoM (f : List D → List D → List D) (h : Hd) : List D → Option (List D × Src)
  | [a, b] => (seqP h a).bind fun p => (seqP h b).map fun q => (f p.1 q.1, p.2 ++ q.2)
  | _ => none
def zip2M : Hd → List D → Option (List D × Src) := twoM zipD
def liftS (h : Hd) : Option (List D × Src) → R (List D × Src)
  | some r => .ok r h
  | none => .stuck
def iS (f : Hd → List D → Option (List D × Src)) (as : MA) : MI := fun env h => match as env h with
  | .ok ds h1 => liftS h1 (f h1 ds)
  | .exc e h1 => .exc e h1
  | .stuck => .stuck
theorem srcOk_append : ∀ {s1 s2 : Src} {h : Hd}, srcOk (s1 ++ s2) h = true → srcOk s1 h = true ∧ srcOk s2 h = true
  | [], s2, h, e => ⟨rfl, e⟩
  | (n, xs) :: r, s2, h, e => by
    have e' : srcOk ((n, xs) :: (r ++ s2)) h = true := e
    obtain ⟨a, b⟩ := srcOk_one e'
    obtain ⟨c, d⟩ := srcOk_append b
    exact ⟨by rw [srcOk_consC a]; exact c, d⟩

section
variable (K : PySem.W.Frag) (mg : Str → Option Value)
def SqOk (ρ : List Addr) (H : Hp) (b : Bool) (a : Addr) (items : List D) (src : Src) : Prop :=
  ∀ ρ2 H2 h2, HRel K mg ρ2 H2 h2 → Step [] ρ H ρ2 H2 → srcOk src h2 = true → ∃ vs, SqA b K H2 a vs ∧ RepL K mg ρ2 H2 items vs []
end
section
variable {K : PySem.W.Frag} {mg : Str → Option Value} {ρ : List Addr} {H : Hp} {h : Hd}
theorem seqP_ok (hr : HRel K mg ρ H h) {d : D} {v : V} {S : List Addr} (r : Rep K mg ρ H d v S) (n : ∀ a ∈ S, a ∉ ρ) {items : List D} {src : Src} (e : seqP h d = some (items, src)) :
    ∃ b a, v = .ref a ∧ SqOk K mg ρ H b a items src ∧ srcOk src h = true := by
  cases r with
  | tup ht t =>
    simp only [seqP] at e
    split at e
    · rename_i hs
      cases e
      cases (t.set_nil hs)
      exact ⟨false, _, rfl, fun ρ2 H2 h2 hr2 s2 so => ⟨_, (ht.to s2 fun _ z => nomatch z).sq, t.to s2 (fun _ z => nomatch z) fun _ z => nomatch z⟩, rfl⟩
    · cases e
  | rol ht t =>
    simp only [seqP] at e
    cases e
    exact ⟨true, _, rfl, fun ρ2 H2 h2 hr2 s2 so => ⟨_, (ht.to s2 fun _ z => nomatch z).sq, t.to s2 (fun _ z => nomatch z) fun _ z => nomatch z⟩, rfl⟩
  | ref ha =>
    rename_i m a
    simp only [seqP] at e
    cases hx : h[m]? with
    | none => rw [hx] at e; cases e
    | some c =>
      rw [hx] at e
      cases c with
      | lst xs =>
        cases e
        refine ⟨true, _, rfl, fun ρ2 H2 h2 hr2 s2 so => ?_, srcOk_self hx⟩
        obtain ⟨ws, hw, u⟩ := hr2.cell m _ _ (srcOk_get so) (pre_get s2.pre ha)
        exact ⟨ws, SqL.of hw, u⟩
      | dct _ _ => cases e
      | ins _ _ _ => cases e
  | lst ha t =>
    rename_i a xs vs S0
    simp only [seqP] at e
    split at e
    · rename_i hs
      cases e
      cases (t.set_nil hs)
      have na := n a (by simp)
      exact ⟨true, _, rfl, fun ρ2 H2 h2 hr2 s2 so => ⟨vs, SqL.of (s2.frame _ _ ha na fun z => nomatch z), t.to s2 (fun _ z => nomatch z) fun _ z => nomatch z⟩, rfl⟩
    · cases e
  | _ => cases e
theorem SqOk.now (hr : HRel K mg ρ H h) {b : Bool} {a : Addr} {items : List D} {src : Src} (s : SqOk K mg ρ H b a items src) (so : srcOk src h = true) : ∃ vs, SqA b K H a vs := let ⟨vs, q, _⟩ := s ρ H h hr Step.refl so; ⟨vs, q⟩
theorem pair_rep {ρ2 : List Addr} {H2 : Hp} {h2 : Hd} (hr2 : HRel K mg ρ2 H2 h2) {x y : D} {v w : V} (rx : Rep K mg ρ2 H2 x v []) (ry : Rep K mg ρ2 H2 y w []) {T : Addr} (np : H2 T = none) : Rep K mg ρ2 (upd H2 T (.tup [v, w])) (.tup [x, y]) (.ref T) [] :=
  Rep.newTup hr2 (.cons rx (.cons ry .nil) : RepL K mg ρ2 H2 [x, y] [v, w] ([] ++ ([] ++ []))) (fun _ z => nomatch z) np
theorem itOk_Z {b1 b2 : Bool} {a1 a2 : Addr} {xs ys : List D} {s1 s2 : Src} (h1 : SqOk K mg ρ H b1 a1 xs s1) (h2' : SqOk K mg ρ H b2 a2 ys s2) : ItOk K mg ρ H (ItZ K b1 b2 a1 a2) (zipD xs ys) (s1 ++ s2) := by
  intro ρ2 H2 h2 hr st so
  obtain ⟨o1, o2⟩ := srcOk_append so
  obtain ⟨vs, q1, r1⟩ := h1 ρ2 H2 h2 hr st o1
  obtain ⟨ws, q2, r2⟩ := h2' ρ2 H2 h2 hr st o2
  refine ⟨fun i x e => ?_, ?_⟩
  · unfold zipD at e
    rw [List.getElem?_zipWith] at e
    cases ex : xs[i]? with
    | none => rw [ex] at e; cases e
    | some x1 =>
      cases ey : ys[i]? with
      | none => rw [ex, ey] at e; cases e
      | some y1 =>
        rw [ex, ey] at e
        cases e
        obtain ⟨v, ev, rv⟩ := r1.get ex
        obtain ⟨w, ew, rw_⟩ := r2.get ey
        refine ⟨⟨vs, ws, v, w, q1, q2, ev, ew⟩, fun u H3 ⟨T, x', y', eu, nT, e3, fx, fy⟩ => ?_⟩
        have ex' : v = x' := by
          have := fx vs q1
          rw [ev] at this
          exact Option.some.inj this
        have ey' : w = y' := by
          have := fy ws q2
          rw [ew] at this
          exact Option.some.inj this
        subst eu e3 ex' ey'
        exact ⟨same_upd nT, pair_rep hr rv rw_ nT⟩
  · have l1 := r1.length
    have l2 := r2.length
    have l3 : (zipD xs ys).length = min xs.length ys.length := by simp [zipD]
    exact ⟨vs, ws, q1, q2, by omega, by omega, by omega⟩
end
section
variable {X : Cx} {Wx : WX} {elts : List Expr} {kk : Nat} {tpos : Pos} {a b : Expr} {ma : MA} {p p2 pos pos2 : Pos}
theorem two_of {K mg ρ H h} {f : List D → List D → List D} {ds : List D} {vs : List V} {S : List Addr} {items : List D} {src : Src} (hr : HRel K mg ρ H h) (rp : RepL K mg ρ H ds vs S) (n : ∀ a ∈ S, a ∉ ρ)
    (e : twoM f h ds = some (items, src)) :
    ∃ b1 b2 a1 a2 xs ys s1 s2, vs = [.ref a1, .ref a2] ∧ SqOk K mg ρ H b1 a1 xs s1 ∧ SqOk K mg ρ H b2 a2 ys s2 ∧ srcOk s1 h = true ∧ srcOk s2 h = true ∧ items = f xs ys ∧ src = s1 ++ s2 := by
  unfold twoM at e
  split at e
  · rename_i da db
    cases rp with
    | cons r t =>
      cases t with
      | cons r' t' =>
        cases t'
        cases e1 : seqP h da with
        | none => rw [e1] at e; cases e
        | some p =>
          cases e2 : seqP h db with
          | none => rw [e1, e2] at e; cases e
          | some q =>
            rw [e1, e2] at e
            cases e
            obtain ⟨b1, a1, rfl, o1, s1⟩ := seqP_ok hr r (fun a ha => n a (by simp [ha])) (items := p.1) (src := p.2) e1
            obtain ⟨b2, a2, rfl, o2, s2⟩ := seqP_ok hr r' (fun a ha => n a (by simp [ha])) (items := q.1) (src := q.2) e2
            exact ⟨b1, b2, a1, a2, p.1, q.1, p.2, q.2, rfl, o1, o2, s1, s2, rfl, rfl⟩
  · cases e
end
end Tw

namespace Tw
open PySem PySem.Spec PyProof.Rows L2

section
variable {K : PySem.W.Frag} {mg : Str → Option Value} {ρ : List Addr} {H : Hp} {h : Hd}
theorem Step.upd {a : Addr} {o : HO} (m : a ∈ ρ) : Step [] ρ H ρ (L2.upd H a o) := ⟨List.prefix_refl _, fun _ m n => absurd m n, fun b o' e n _ => by rw [upd_ne (fun z => n (by rw [z]; exact m))]; exact e⟩
theorem HRel.write (r : HRel K mg ρ H h) {n : Nat} {a : Addr} {xs ys : List D} {vs : List V} (ha : ρ[n]? = some a) (hc : h[n]? = some (.lst ys)) (t : RepL K mg ρ H xs vs []) : HRel K mg ρ (upd H a (.lst vs)) (h.set n (.lst xs)) := by
  have m : a ∈ ρ := List.mem_of_getElem? ha
  have st : Step [] ρ H ρ (L2.upd H a (.lst vs)) := Step.upd m
  refine ⟨by rw [List.length_set]; exact r.len, r.nd, fun i c b e1 e2 => ?_⟩
  by_cases hin : i = n
  · subst hin
    rw [ha] at e2
    cases e2
    have hl : i < h.length := (List.getElem?_eq_some_iff.mp hc).1
    rw [List.getElem?_set_self hl] at e1
    cases e1
    exact ⟨vs, upd_same, t.to st (fun _ z => nomatch z) fun _ z => nomatch z⟩
  · rw [List.getElem?_set_ne (Ne.symm hin)] at e1
    have q := r.cell i c b e1 e2
    have nb : b ≠ a := fun z => by
      subst z
      have h1 := (List.getElem?_eq_some_iff.mp e2)
      have h2 := (List.getElem?_eq_some_iff.mp ha)
      obtain ⟨l1, g1⟩ := h1
      obtain ⟨l2, g2⟩ := h2
      exact hin ((List.getElem_inj r.nd).mp (g1.trans g2.symm))
    cases c with
    | lst zs =>
      obtain ⟨ws, e, u⟩ := q
      exact ⟨ws, by rw [upd_ne nb]; exact e, u.to st (fun _ z => nomatch z) fun _ z => nomatch z⟩
    | dct _ _ => obtain ⟨kvs, ws, e, t, u⟩ := q; exact ⟨kvs, ws, e.to (fun o eo => by rw [upd_ne nb]; exact eo), t.to st (fun _ z => nomatch z) (fun _ z => nomatch z), u.to st (fun _ z => nomatch z) fun _ z => nomatch z⟩
    | ins _ _ _ => exact q.elim
end

def tyD (T : String) (h : Hd) : D → Bool
  | .str _ => T == "str"
  | .ref n => match h[n]? with
    | some (.lst _) => T == "list"
    | _ => false
  | .lst _ => T == "list"
  | .rol _ => T == "list"
  | _ => false
def liftM : Option (D × Hd) → R D
  | some (d, h) => .ok d h
  | none => .stuck
def eBM (T : String) (f : D → List D → Hd → Option (D × Hd)) (mo : ME) (as : MA) : ME := fun env h => (mo env h).bind fun x h1 => if tyD T h1 x = true then (as env h1).bind fun ds h2 => liftM (f x ds h2) else .stuck
def OpM (K : PySem.W.Frag) (mg : Str → Option Value) (f : D → List D → Hd → Option (D × Hd)) (r : V → List V → Hp → VK → Prop) : Prop :=
  ∀ x ds h d h', f x ds h = some (d, h') → ∀ ρ H v vs S T Q, HRel K mg ρ H h → Rep K mg ρ H x v S → RepL K mg ρ H ds vs T → (S ++ T).Nodup → (∀ a ∈ S ++ T, a ∉ ρ) →
    (∀ v' ρ' H' S', Tw.Fin K mg (S ++ T) ρ H d h' v' ρ' H' S' → Q v' H') → r v vs H Q
section
variable {K : PySem.W.Frag} {mg : Str → Option Value} {ρ : List Addr} {H : Hp} {h : Hd}
theorem tyD_v (hr : HRel K mg ρ H h) {T : String} {d : D} {v : V} {S : List Addr} (r : Rep K mg ρ H d v S) (e : tyD T h d = true) : tyV K T v H := by
  cases r with
  | str s => exact eq_of_beq e
  | lst ha t => exact .inl ⟨eq_of_beq e, _, SqL.of ha⟩
  | rol ha t => exact .inl ⟨eq_of_beq e, _, ha.sq⟩
  | ref ha =>
    rename_i n a
    simp only [tyD] at e
    split at e
    · rename_i xs hx
      obtain ⟨vs, hv, _⟩ := hr.cell n _ _ hx ha
      exact .inl ⟨eq_of_beq e, _, SqL.of hv⟩
    · cases e
  | _ => cases e
end
section
variable {X : Cx} {Wx : WX} {o e : Expr} {es : List Expr} {mo : ME} {mas : MA} {name : Str} {apos cpos : Pos} {T id : String} {f : D → List D → Hd → Option (D × Hd)} {r : V → List V → Hp → VK → Prop}
theorem tE_BM {K mg} {σ : L2.St} {H : Hp} {Q : VK} (ho : OpM K mg f r) (q : tE K mg Wx (eBM T f mo mas) σ H Q) : tE K mg Wx mo σ H fun x H1 => tyV K T x H1 ∧ tA K mg Wx mas σ H1 fun xs H2 => r x xs H2 Q := by
  obtain ⟨ρ, env, h, hr, er, q⟩ := q
  refine ⟨ρ, env, h, hr, er, ?_⟩
  unfold eBM at q
  cases ea : mo env h with
  | ok x h1 =>
    rw [ea] at q
    simp only [R.bind_ok] at q
    intro v1 ρ1 H1 S1 f1
    split at q
    · rename_i ht
      refine ⟨tyD_v f1.hr f1.rp ht, ρ1, env, h1, f1.hr, er.to f1.st, ?_⟩
      cases eb : mas env h1 with
      | ok ys h2 =>
        rw [eb] at q
        simp only [R.bind_ok] at q
        intro v2 ρ2 H2 S2 f2
        obtain ⟨r1, nd, na⟩ := f1.twoL f2
        cases eo : f x ys h2 with
        | none => rw [eo] at q; exact q.elim
        | some p =>
          obtain ⟨d, h3⟩ := p
          rw [eo] at q
          refine ho x ys h2 d h3 eo ρ2 H2 v1 v2 S1 S2 Q f2.hr r1 f2.rp nd na fun v' ρ' H' S' g => ?_
          refine q v' ρ' H' S' (g.later (f1.st.trans f2.st) f2.hr (fun a ha => ⟨?_, na a ha⟩) fun a e => hr.notin e)
          rcases List.mem_append.mp ha with z | z
          · exact f1.isnew a z
          · exact none_back f1.st f1.hr (f2.isnew a z)
      | exc e h2 => rw [eb] at q; exact XEnd.later f1.st (fun _ z => nomatch z) q
      | stuck => rw [eb] at q; exact q
    · exact q.elim
  | exc e h1 => rw [ea] at q; exact q
  | stuck => rw [ea] at q; exact q
theorem je_bm (pa : PlainAttrs T) (slot : Slot T name id) (hty : typeOf (.builtin id) = pure (.type "method_descriptor")) (hm : MtR X id r) (hf : OpM X.K X.mg f r) (ho : JE X Wx o mo) (ha : JA X Wx (e :: es) mas)
    (hbase : attributeBase o name X.env (eval o X.env) = eval o X.env := by rfl)
    (hfew : ((backTo cpos (starEach (e :: es) X.env)).all (fun x => !x.1) && (backToKw cpos (keywordEach [] X.env)).all (fun x => x.1.isSome)
      && decide ((e :: es).length + ([] : List Keyword).length + (if ([] : List Keyword).isEmpty then 0 else 1) < 30)) = true := by rfl)
    (hline : (apos.endLine == cpos.line) = true := by rfl) (hs : starEach (e :: es) X.env = (false, eval e X.env) :: starEach es X.env := by rfl) (hplain : (backTo cpos (starEach es X.env)).any (·.1) = false := by rfl) :
    JE X Wx (.Call (.Attribute o name apos) (e :: es) [] cpos) (eBM T f mo mas) :=
  PE.mono (pe_bm pa slot hty hm ho ha hbase hfew hline hs hplain) fun _ _ _ q => tE_BM hf q
end
def mAppend : D → List D → Hd → Option (D × Hd)
  | .ref n, [y], h => match (box y h).2[n]? with
    | some (.lst xs) => if xs.length < sizeLine then some (.non, (box y h).2.set n (.lst (xs ++ [(box y h).1]))) else none
    | _ => none
  | _, _, _ => none
section
variable {K : PySem.W.Frag} {mg : Str → Option Value} {ρ : List Addr} {H : Hp} {h : Hd}
theorem Fin.cell {S : List Addr} {n : Nat} {a : Addr} {xs ys : List D} {vs : List V} {d : D} {v : V} {ρ' : List Addr} {h' : Hd} (st : Step S ρ H ρ' H) (hr : HRel K mg ρ' H h') (ha : ρ'[n]? = some a) (hc : h'[n]? = some (.lst ys)) (t : RepL K mg ρ' H xs vs []) (rv : Rep K mg ρ' H d v []) : Tw.Fin K mg S ρ H d (h'.set n (.lst xs)) v ρ' (upd H a (.lst vs)) [] :=
  have m : a ∈ ρ' := List.mem_of_getElem? ha
  have st2 : Step [] ρ' H ρ' (L2.upd H a (.lst vs)) := Step.upd m
  ⟨hr.write ha hc t, st.trans st2, rv.to st2 (fun _ z => nomatch z) (fun _ z => nomatch z), List.nodup_nil, (fun _ z => nomatch z)⟩
theorem om_append : OpM K mg mAppend rAppend := by
  intro x ds h d h' e ρ H v vs S T Q hr r rs nd na q
  unfold mAppend at e
  split at e
  · rename_i n y
    cases r with
    | ref ha =>
      rename_i a
      cases rs with
      | cons ry t =>
        rename_i vy vt S1 S2
        cases t
        simp only [List.append_nil, List.nil_append] at nd na q
        obtain ⟨b, rb⟩ := box_ok hr ry nd na
        split at e
        · rename_i xs hx
          split at e
          · rename_i hz
            cases e
            have ha' : (ρ ++ S1)[n]? = some a := pre_get (List.prefix_append _ _) ha
            obtain ⟨ws, hw, t⟩ := b.rel.cell n _ _ hx ha'
            refine ⟨a, ws, vy, rfl, rfl, hw, by rw [← t.length]; exact hz, ?_⟩
            exact q .non _ _ [] (Fin.cell (Step.boxed ρ H S1) b.rel ha' hx (t.snoc rb) .non)
          · cases e
        · cases e
  · cases e
end
section
variable {X : Cx} {Wx : WX} {o e : Expr} {mo : ME} {mas : MA} {apos cpos : Pos} {k : Nat}
theorem je_append (ho : JE X Wx o mo) (ha : JA X Wx [e] mas) (hbase : attributeBase o (Str.ofString "append") X.env (eval o X.env) = eval o X.env := by rfl)
    (hfew : ((backTo cpos (starEach [e] X.env)).all (fun x => !x.1) && (backToKw cpos (keywordEach [] X.env)).all (fun x => x.1.isSome) && decide ([e].length + ([] : List Keyword).length + (if ([] : List Keyword).isEmpty then 0 else 1) < 30)) = true := by rfl)
    (hline : (apos.endLine == cpos.line) = true := by rfl) (hs : starEach [e] X.env = (false, eval e X.env) :: starEach [] X.env := by rfl) (hplain : (backTo cpos (starEach [] X.env)).any (·.1) = false := by rfl) : JE X Wx (.Call (.Attribute o "append" apos) [e] [] cpos) (eBM "list" mAppend mo mas) :=
  je_bm PySem.F.plainAttrs_list PySem.F.slot_list_append PySem.F.type_list_append mt_append om_append ho ha hbase hfew hline hs hplain
end
end Tw

namespace Tw
open PySem PySem.Spec PyProof.Rows L2

def setIx (o i : D) (d : D) (h : Hd) : Option Hd := match o, i with
  | .ref n, .int k => match h[n]? with
    | some (.lst xs) => match ixN xs.length k with
      | some j => some (h.set n (.lst (xs.set j d)))
      | none => none
    | _ => none
  | _, _ => none
def sSetIx (me mo mi : ME) : MS := fun env h => RS.of env (me env h) fun d h1 => RS.of env (mo env (box d h1).2) fun o h2 => RS.of env (mi env h2) fun i h3 => match setIx o i (box d h1).1 h3 with
  | some h4 => .nx env h4
  | none => .stuck
section
variable {K : PySem.W.Frag} {mg : Str → Option Value} {ρ : List Addr} {H : Hp} {h : Hd}
theorem RepL.setAt : ∀ {xs : List D} {vs : List V} {d : D} {v : V} (j : Nat), RepL K mg ρ H xs vs [] → Rep K mg ρ H d v [] → RepL K mg ρ H (xs.set j d) (vs.set j v) []
  | [], vs, d, v, j, t, r => by cases t; exact .nil
  | x :: xs, vs, d, v, 0, t, r => by
    obtain ⟨w, ws, rfl, _, u⟩ := t.split
    exact .cons (S := []) (T := []) r u
  | x :: xs, vs, d, v, j + 1, t, r => by
    obtain ⟨w, ws, rfl, s, u⟩ := t.split
    exact .cons (S := []) (T := []) s (RepL.setAt j u r)
end
section
variable {X : Cx} {Wx : WX} {e o i : Expr} {me mo mi : ME} {pos tpos : Pos}
theorem js_setIx (he : JE X Wx e me) (ho : JE X Wx o mo) (hi : JE X Wx i mi)
    (ha : ∀ v, assign (.Subscript o i tpos) X.env v = (do
      let ov ← holding [v] (eval o X.env)
      let iv ← holding [v, ov] (eval i X.env)
      standAt tpos
      holding [v, ov, iv] (setItem ov iv v)
      release [v, ov, iv] []) := by intro _; rfl)
    (hs : swapsWithSole [.Subscript o i tpos] e pos.line X.env = pure false := by rfl) (hw : swappedStores [.Subscript o i tpos] e X.env = pure none := by rfl)
    (h1 : (assignEach [.Subscript o i tpos] X.env).map (·.2) = [assign (.Subscript o i tpos) X.env] := by rfl) : JS X Wx (.Assign [.Subscript o i tpos] e pos) (sSetIx me mo mi) := by
  refine PS.mono (ps_asg he (pg_sub ho hi set_list ha) hs hw h1) fun D σ H ⟨ρ, env, h, hr, er, q⟩ => ⟨ρ, env, h, hr, er, ?_⟩
  unfold sSetIx at q
  cases ea : me env h with
  | exc e h1 => rw [ea] at q; exact fun cls dd ρ' H' a b c => q cls dd σ ρ' H' a (er.to b) b c
  | stuck => rw [ea] at q; exact q
  | ok d h1 =>
    rw [ea] at q
    simp only [RS.of_ok] at q
    intro v ρ1 H1 S f
    obtain ⟨b, rb⟩ := box_ok f.hr f.rp f.nd f.owns
    have er1 := (er.to f.st).boxed (S := S) f.rp.owned
    have st1 : Step [] ρ H (ρ1 ++ S) H1 := f.st.transT (Step.boxed ρ1 H1 S) fun x hx => ⟨f.isnew x hx, f.owns x hx⟩
    refine ⟨ρ1 ++ S, env, (box d h1).2, b.rel, er1, ?_⟩
    cases eb : mo env (box d h1).2 with
    | exc e h2 => rw [eb] at q; exact fun cls dd ρ' H' a b' c => q cls dd σ ρ' H' a (er1.to b') (st1.trans b') c
    | stuck => rw [eb] at q; exact q
    | ok ov h2 =>
      rw [eb] at q
      simp only [RS.of_ok] at q
      intro v2 ρ2 H2 S2 f2
      refine ⟨ρ2, env, h2, f2.hr, er1.to f2.st, ?_⟩
      cases ec : mi env h2 with
      | exc e h3 => rw [ec] at q; exact fun cls dd ρ' H' a b' c => q cls dd σ ρ' H' a ((er1.to f2.st).to b') ((st1.trans f2.st).trans b') c
      | stuck => rw [ec] at q; exact q
      | ok iv h3 =>
        rw [ec] at q
        simp only [RS.of_ok] at q
        intro v3 ρ3 H3 S3 f3
        cases es : setIx ov iv (box d h1).1 h3 with
        | none => rw [es] at q; exact q.elim
        | some h4 =>
          rw [es] at q
          unfold setIx at es
          split at es
          · rename_i n k
            split at es
            · rename_i xs hx
              split at es
              · rename_i j hj
                cases es
                have rp2 := f2.rp
                cases rp2 with
                | ref ha2 =>
                  rename_i a
                  obtain ⟨rfl, _⟩ := f3.rp.int_inv
                  have ha3 : ρ3[n]? = some a := pre_get f3.st.pre ha2
                  obtain ⟨ws, hw3, t⟩ := f3.hr.cell n _ _ hx ha3
                  have rb3 := (rb.to f2.st (fun _ z => nomatch z) fun _ z => nomatch z).to f3.st (fun _ z => nomatch z) fun _ z => nomatch z
                  refine ⟨a, ws, k, j, rfl, rfl, hw3, by rw [← t.length]; exact hj, ?_⟩
                  have m : a ∈ ρ3 := List.mem_of_getElem? ha3
                  have st4 : Step [] ρ3 H3 ρ3 (L2.upd H3 a (.lst (ws.set j v))) := Step.upd m
                  exact q σ ρ3 _ (f3.hr.write ha3 hx (t.setAt j rb3)) (((er1.to f2.st).to f3.st).to st4) (((st1.trans f2.st).trans f3.st).trans st4)
              · cases es
            · cases es
          · cases es
end
def sAug (i : Nat) (f : D → D → Hd → Option D) (me : ME) : MS := fun env h => match env[i]? with
  | some (some x) => RS.of env (me env h) fun y h1 => match f x y h1 with
    | some z => if z.set = true then .nx (env.set i (some z)) h1 else .stuck
    | none => .stuck
  | _ => .stuck
def dIAdd (x y : D) (_ : Hd) : Option D := match x, y with
  | .int i, .int j => some (.int (i + j))
  | .str i, .str j => if i.length + j.length ≤ sizeLine then some (.str (i ++ j)) else none
  | _, _ => none
def dISub (x y : D) (_ : Hd) : Option D := match x, y with
  | .int i, .int j => some (.int (i - j))
  | _, _ => none
section
variable {X : Cx} {Wx : WX} {e : Expr} {me : ME} {pos p : Pos} {i : Nat} {x : Str} {op : Operator} {f : D → D → Hd → Option D} {r : R2}
end

section
variable {K : PySem.W.Frag} {mg : Str → Option Value}
end
section
variable {X : Cx} {Wx : WX} {e : Expr} {me : ME} {pos p : Pos} {i : Nat} {x : Str}
end
section
variable {K : PySem.W.Frag} {mg : Str → Option Value}
end
section
variable {K : PySem.W.Frag} {mg : Str → Option Value} {ρ : List Addr} {H : Hp}
theorem prel_names : ∀ {is : List Nat} {ds : List D} {vs : List V} {h : Hd} {ps}, RepL K mg ρ H ds vs [] → gAll (is.map gNm) ds h = some ps → PRel K mg ρ H ps (is.zip vs) ∧ is.length = vs.length
  | [], ds, vs, h, ps, t, e => by
    cases ds with
    | nil => cases t; cases e; exact ⟨.nil, rfl⟩
    | cons d ds => cases e
  | i :: is, ds, vs, h, ps, t, e => by
    cases ds with
    | nil => cases e
    | cons d ds =>
      obtain ⟨v, ws, rfl, r, u⟩ := t.split
      simp only [List.map_cons, gAll, gNm] at e
      cases eg : gAll (is.map gNm) ds h with
      | none => rw [eg] at e; cases e
      | some b =>
        rw [eg] at e
        cases e
        obtain ⟨h1, h2⟩ := prel_names u eg
        exact ⟨.cons r h1, by simp [h2]⟩
end
section
variable {X : Cx} {Wx : WX} {pos : Pos} {mas : MA}
theorem tS_par {K mg} {D : Ends} {σ : L2.St} {H : Hp} {is : List Nat} (q : tS K mg Wx (sAsg (gTp (is.map gNm)) (eN dTup mas)) D σ H) : tA K mg Wx mas σ H fun vs H1 => is.length = vs.length ∧ D.nx (setV σ (is.zip vs)) H1 := by
  obtain ⟨ρ, env, h, hr, er, q⟩ := q
  refine ⟨ρ, env, h, hr, er, ?_⟩
  unfold sAsg eN at q
  cases ea : mas env h with
  | ok ds h1 =>
    rw [ea] at q
    simp only [R.bind_ok] at q
    intro vs ρ1 H1 S f
    unfold dTup at q
    by_cases hl : ds.length ≤ sizeLine
    · rw [if_pos hl] at q
      simp only [R.lift, RS.of_ok, box, gTp] at q
      obtain ⟨b, rb⟩ := boxL_ok f.hr f.rp f.nd f.owns
      cases eg : gAll (is.map gNm) (boxL ds h1).1 (boxL ds h1).2 with
      | none => rw [eg] at q; exact q.elim
      | some ps =>
        rw [eg] at q
        obtain ⟨p1, p2⟩ := prel_names rb eg
        refine ⟨p2, q _ _ H1 b.rel (((er.to f.st).boxed f.rp.owned).setAll p1) ?_⟩
        exact f.st.transT (Step.boxed ρ1 H1 S) fun x hx => ⟨f.isnew x hx, f.owns x hx⟩
    · rw [if_neg hl] at q
      exact q.elim
  | exc e h1 => rw [ea] at q; exact fun cls dd ρ' H' a b c => q cls dd σ ρ' H' a (er.to b) b c
  | stuck => rw [ea] at q; exact q
theorem js_par2 {i j : Nat} {x y : Str} {a b : Expr} {px py pt : Pos} {kt k2 pt2} (hc : X.calm = true) (hN : X.N.Nodup) (ha : JA X Wx [a, b] mas) (hi : X.N[i]? = some x := by rfl) (hj : X.N[j]? = some y := by rfl) (hij : i ≠ j := by decide)
    (hx : X.env.scope.names.lookup x = some .local := by rfl) (hy : X.env.scope.names.lookup y = some .local := by rfl)
    (hw : swappedStores [.Tuple [.Name x px, .Name y py] kt pt] (.Tuple [a, b] k2 pt2) X.env = pure (some [x, y]) := by rfl)
    (hs : swapsWithSole [.Tuple [.Name x px, .Name y py] kt pt] (.Tuple [a, b] k2 pt2) pos.line X.env = pure false := by rfl) :
    JS X Wx (.Assign [.Tuple [.Name x px, .Name y py] kt pt] (.Tuple [a, b] k2 pt2) pos) (sAsg (gTp ([i, j].map gNm)) (eN dTup mas)) := by
  refine PS.mono (ps_par hc hN hi hj hij hx hy ha hw hs) fun D σ H q => ?_
  obtain ⟨ρ, env, h, hr, er, q'⟩ := tS_par q
  refine ⟨ρ, env, h, hr, er, ?_⟩
  cases ea : mas env h with
  | ok ds h1 =>
    rw [ea] at q'
    intro vs ρ1 H1 S f
    obtain ⟨z1, z2⟩ := q' vs ρ1 H1 S f
    match vs, z1, z2 with
    | [v, w], _, z2 => exact ⟨v, w, rfl, z2⟩
  | exc e h1 => rw [ea] at q'; exact q'
  | stuck => rw [ea] at q'; exact q'
end
def tyN (h : Hd) : D → Option String
  | .non => some "NoneType"
  | .bl _ => some "bool"
  | .int _ => some "int"
  | .str _ => some "str"
  | .tup _ => some "tuple"
  | .lst _ => some "list"
  | .rol _ => some "list"
  | .ref n => match h[n]? with
    | some (.lst _) => some "list"
    | _ => none
  | _ => none
def kitAll (t : String) : List D → Option Bool
  | [] => some false
  | .ty n :: cs => match kitB t n, kitAll t cs with
    | some b, some r => some (b || r)
    | _, _ => none
  | _ => none
def dIsi (xs : List D) (h : Hd) : Option D := match xs with
  | [x, .ty n] => match tyN h x with
    | some t => match kitB t n with
      | some b => some (.bl b)
      | none => none
    | none => none
  | [x, .tup cs] => match tyN h x with
    | some t => match kitAll t cs with
      | some b => some (.bl b)
      | none => none
    | none => none
  | _ => none
def rIsiA (K : PySem.W.Frag) : List V → Hp → VK → Prop := fun xs H Q => rIsi K xs H Q ∨ rIsiT K xs H Q ∨ rIsiK K xs H Q
theorem call_isiA {X : Cx} : CallR X (.builtin "isinstance") (rIsiA X.K) := by
  intro pins s σ H xs us Q I r h
  rcases h with h | h | h
  · exact call_isi pins s σ H xs us Q I r h
  · exact call_isiT pins s σ H xs us Q I r h
  · exact call_isiK pins s σ H xs us Q I r h
section
variable {K : PySem.W.Frag} {mg : Str → Option Value} {ρ : List Addr} {H : Hp} {h : Hd}
theorem tyN_x (hr : HRel K mg ρ H h) {d : D} {v : V} {S : List Addr} (r : Rep K mg ρ H d v S) {t : String} (e : tyN h d = some t) : TyX K H v (.type t) := by
  cases r with
  | non => cases e; exact .base .non
  | bl b => cases e; exact .base (.bl b)
  | int i => cases e; exact .base (.int i)
  | str s => cases e; exact .base (.str s)
  | tup ht _ =>
    cases e
    rcases ht with ⟨z, _⟩ | ⟨o, its, n, z, c, _⟩
    · exact .base (.tup z)
    · exact .kTuple z c
  | lst ha _ => cases e; exact .base (.lst ha)
  | rol ht _ =>
    cases e
    rcases ht with ⟨⟨o, z⟩, _⟩ | ⟨o, its, n, z, c, _⟩
    · exact .base (.frz z)
    · exact .kList z c
  | ref ha =>
    rename_i n a
    simp only [tyN] at e
    split at e
    · rename_i xs hx
      cases e
      obtain ⟨vs, hv, _⟩ := hr.cell n _ _ hx ha
      exact .base (.lst hv)
    · cases e
  | _ => cases e
theorem kitAll_v {t : String} : ∀ {cs : List D} {vs : List V} {b : Bool}, kitAll t cs = some b → RepL K mg ρ H cs vs [] → ∃ us, Paired ClsV vs us ∧ PySem.W.kitAny K (.type t) us = some b ∧ Vals vs us
  | [], vs, b, e, r => by
    cases r
    cases e
    exact ⟨[], .nil, kitAny_nil, .nil⟩
  | c :: cs, vs, b, e, r => by
    obtain ⟨v, ws, rfl, rc, u⟩ := r.split
    cases c with
    | ty n =>
      cases rc
      simp only [kitAll] at e
      split at e
      · rename_i x y k e2
        cases e
        obtain ⟨us, p, q, w⟩ := kitAll_v e2 u
        refine ⟨.type n :: us, .cons (.ty n) p, kitAny_cons (b := x) (kit_ty k) (fun z => ?_) (fun z => ?_), .cons rfl w⟩
        · rw [z, Bool.false_or]; exact q
        · rw [z, Bool.true_or]
      · cases e
    | _ => cases e
theorem opN_isi : OpN K mg dIsi (rIsiA K) := by
  intro xs h d e ρ H vs S Q hr r nd na q
  unfold dIsi at e
  split at e
  · rename_i x n
    split at e
    · rename_i t et
      split at e
      · rename_i b eb
        cases e
        cases r with
        | cons r1 r2 =>
          cases r2 with
          | cons r2 r3 =>
            cases r3
            cases r2
            exact .inl ⟨_, _, .type t, .type n, b, rfl, .ty n, tyN_x hr r1 et, kit_ty eb, q0 q (.bl _)⟩
      · cases e
    · cases e
  · rename_i x cs
    split at e
    · rename_i t et
      split at e
      · rename_i b eb
        cases e
        cases r with
        | cons r1 r2 =>
          cases r2 with
          | cons r2 r3 =>
            cases r3
            cases r2 with
            | tup ht u =>
              rename_i a ws
              have u0 : ∃ us, Paired ClsV ws us ∧ PySem.W.kitAny K (.type t) us = some b ∧ Vals ws us := by
                have hs : setL cs = true := by
                  have : ∀ (cs : List D) (b : Bool), kitAll t cs = some b → setL cs = true := by
                    intro cs
                    induction cs with
                    | nil => intro _ _; rfl
                    | cons c cs ih =>
                      intro b eb
                      cases c with
                      | ty n =>
                        simp only [kitAll] at eb
                        split at eb
                        · rename_i e2
                          simp [setL, D.set, ih _ e2]
                        · cases eb
                      | _ => cases eb
                  exact this cs b eb
                cases u.set_nil hs
                exact kitAll_v eb u
              obtain ⟨us, p, k, w⟩ := u0
              rcases ht with ⟨z, _⟩ | ⟨o, its, n, z, c, dt, _, w2⟩
              · exact .inr (.inl ⟨_, a, ws, .type t, us, b, rfl, z, p, tyN_x hr r1 et, k, q0 q (.bl _)⟩)
              · have e3 := ClsV.all p w2
                obtain ⟨oc, od, odt, sl⟩ := o
                simp only at c dt
                subst c dt
                have e4 : its = us.toArray := by rw [← e3]
                subst e4
                exact .inr (.inr ⟨_, a, od, us, n, sl, .type t, b, rfl, z, tyN_x hr r1 et, k, q0 q (.bl _)⟩)
      · cases e
    · cases e
  · cases e
end
section
variable {X : Cx} {Wx : WX} {a b : Expr} {mas : MA} {p pos : Pos}
theorem je_isi (hm : X.mg "isinstance" = none) (ha : JA X Wx [a, b] mas) (hg : Gl X "isinstance" := by rfl) (he : starEach [a, b] X.env = (false, eval a X.env) :: starEach [b] X.env := by rfl) (hpl : (backTo pos (starEach [b] X.env)).any (·.1) = false := by rfl) :
    JE X Wx (.Call (.Name "isinstance" p) [a, b] [] pos) (eN dIsi mas) := je_callB call_isiA opN_isi hm ha (by decide +kernel) hg (by decide) (by decide) he hpl
end
end Tw

set_option maxHeartbeats 4000000
namespace Tw
open PySem PySem.Spec PyProof.Rows L2
theorem tuple_mul0 (l : Addr) (items : Array Value) (n : Nat) (dd : Option Addr) (sl : Array (Option Value)) (u : Tok) (c1 : items.isEmpty = false) :
    Meets (Builtin.«tuple.__mul__» ⟨[.ref l, .int 0 u], []⟩) (fun _ R s => s.heap.get? l = some { cls := .type "tuple", dict := dd, data := .seq items n, slots := sl } ∧
      R (.ok (.ret (Value.ref s.heap.objs.size))) { s with heap := s.heap.push { cls := Value.type "tuple", data := Data.seq #[] }, toks := s.toks }) :=
  .of_wp fun prog w A R s h => by
    obtain ⟨hp, g, d, tk, os⟩ := s
    obtain ⟨hl, h⟩ := h
    have f1 := AutoSeq1.idx_int
    have e1 : (decide ((0 : Int) < -(2 ^ 63)) || decide ((0 : Int) ≥ 2 ^ 63)) = false := by decide
    have e2 : (items.isEmpty || (0 : Int) == 1) = false := by rw [c1]; rfl
    wp_walk using wpAny_loadPart' hl
    repeat (first
      | (refine wpAny_ite_false (decide_eq_false (by rw [e1]; exact Bool.false_ne_true)) ?_; wp_walk using wpAny_loadPart' hl)
      | (refine wpAny_ite_false (decide_eq_false (by rw [e2]; exact Bool.false_ne_true)) ?_; wp_walk using wpAny_loadPart' hl))
    exact ⟨_, rfl, h⟩
theorem tuple_mul1 (l : Addr) (items : Array Value) (n : Nat) (sl : Array (Option Value)) (dd : Option Addr) (u : Tok) :
    Meets (Builtin.«tuple.__mul__» ⟨[.ref l, .int 1 u], []⟩) (fun _ R s => s.heap.get? l = some { cls := .type "tuple", dict := dd, data := .seq items n, slots := sl } ∧ R (.ok (.ret (Value.ref l))) s) :=
  .of_wp fun prog w A R s h => by
    obtain ⟨hp, g, d, tk, os⟩ := s
    obtain ⟨hl, h⟩ := h
    have f1 := AutoSeq1.idx_int
    have e1 : (decide ((1 : Int) < -(2 ^ 63)) || decide ((1 : Int) ≥ 2 ^ 63)) = false := by decide
    have e2 : (items.isEmpty || (1 : Int) == 1) = true := by rw [show ((1 : Int) == 1) = true from rfl, Bool.or_true]
    wp_walk using wpAny_loadPart' hl
    repeat (first
      | (refine wpAny_ite_false (decide_eq_false (by rw [e1]; exact Bool.false_ne_true)) ?_; wp_walk using wpAny_loadPart' hl)
      | (refine wpAny_ite_true (decide_eq_true (by rw [e2])) ?_; wp_walk using wpAny_loadPart' hl))
    exact ⟨_, rfl, h⟩
theorem tuple_mulE (l : Addr) (items : Array Value) (n : Nat) (sl : Array (Option Value)) (dd : Option Addr) (k : Int) (u : Tok) (k0 : 0 ≤ k) (k1 : k ≤ 1000) (c1 : items.isEmpty = true) :
    Meets (Builtin.«tuple.__mul__» ⟨[.ref l, .int k u], []⟩) (fun _ R s => s.heap.get? l = some { cls := .type "tuple", dict := dd, data := .seq items n, slots := sl } ∧ R (.ok (.ret (Value.ref l))) s) :=
  .of_wp fun prog w A R s h => by
    obtain ⟨hp, g, d, tk, os⟩ := s
    obtain ⟨hl, h⟩ := h
    have f1 := AutoSeq1.idx_int
    have e1 : (decide (k < -(2 ^ 63)) || decide (k ≥ 2 ^ 63)) = false := by
      rw [decide_eq_false (by omega), decide_eq_false (by omega)]
      rfl
    have e2 : (items.isEmpty || k == 1) = true := by rw [c1, Bool.true_or]
    wp_walk using wpAny_loadPart' hl
    repeat (first
      | (refine wpAny_ite_false (decide_eq_false (by rw [e1]; exact Bool.false_ne_true)) ?_; wp_walk using wpAny_loadPart' hl)
      | (refine wpAny_ite_true (decide_eq_true (by rw [e2])) ?_; wp_walk using wpAny_loadPart' hl))
    exact ⟨_, rfl, h⟩
def rRepS (K : PySem.W.Frag) : R2 := fun x y H Q => ∃ l k xs, x = .ref l ∧ y = .int k ∧ SqT K H l xs ∧ ((xs ≠ [] ∧ ((k = 0 ∧ ∀ p, H p = none → Q (.ref p) (upd H p (.tup []))) ∨ (k = 1 ∧ Q (.ref l) H))) ∨ (xs = [] ∧ 0 ≤ k ∧ k ≤ 1000 ∧ Q (.ref l) H))
theorem op_repS {X : Cx} : OpR X (binaryOp .Mult) (rRepS X.K) := by
  intro pins s σ H x y v u Q I rx ry h
  obtain ⟨l, k, xs, rfl, rfl, hT, h⟩ := h
  cases rx
  obtain ⟨t, rfl⟩ := ry
  obtain ⟨its, r, ⟨⟨cls, dd, data, sl⟩, ho, hc, n, hd⟩, hs⟩ := I.tuple hT
  simp only at hc hd
  subst hc hd
  have ht : s.TypeIs (.ref l) "tuple" := ⟨_, ho, rfl⟩
  have road := fun {Q' : Value → Shared → Prop} (c : wpAny (model X.prog X.w) X.A (call (.builtin "tuple.__mul__") [.ref l, .int k t]) Q' X.xe s) =>
    wpAny_binaryOp_repeat_ref (T := "tuple") (U := "int") (E := X.xe) (by decide) ht (fun s' => typeIs_int s' k t) noFill_tuple_mul F.fills_int_mul F.slot_int_rmul repeat_tuple F.slot_int_index.lookup
      (call_meets F.slot_int_rmul (typeIs_int s k t) F.entry_int_rmul (F.args_int_rmul_2 _ _) (int_rmul_tuple k t l its.toArray n dd sl) ⟨ho, rfl, ht, c⟩)
  rcases h with ⟨hne, h⟩ | ⟨he, k0, k1, q⟩
  rotate_left
  · have hi : its.toArray.isEmpty = true := by
      cases its with
      | nil => rfl
      | cons a b => exact absurd r.length (by rw [he]; simp)
    refine road (call_meets F.slot_tuple_mul ht F.entry_tuple_mul (F.args_tuple_mul_2 _ _) (tuple_mulE l its.toArray n sl dd k t k0 k1 hi) ⟨ho, ?_⟩)
    exact ⟨.ref l, H, I, rfl, q⟩
  have hi : its.toArray.isEmpty = false := by
    cases its with
    | nil => exact absurd (List.eq_nil_of_length_eq_zero (by rw [r.length]; rfl)) hne
    | cons a b => rfl
  rcases h with ⟨rfl, q⟩ | ⟨rfl, q⟩
  · refine road (call_meets F.slot_tuple_mul ht F.entry_tuple_mul (F.args_tuple_mul_2 _ _) (tuple_mul0 l its.toArray n dd sl t hi) ⟨ho, ?_⟩)
    refine ⟨.ref s.heap.objs.size, _, I.laid (t' := s.toks) (o := .tup []) (fun b ob q => Heap.get?_push_of_some _ q) (Nat.le_refl _) ?_, rfl, q _ (I.hok.fresh (Nat.le_refl _))⟩
    exact ⟨Nat.zero_le _, [], .nil, IsTup.new _ _⟩
  · refine road (call_meets F.slot_tuple_mul ht F.entry_tuple_mul (F.args_tuple_mul_2 _ _) (tuple_mul1 l its.toArray n sl dd t) ⟨ho, ?_⟩)
    exact ⟨.ref l, H, I, rfl, q⟩
end Tw

namespace Tw
open PySem PySem.Spec PyProof.Rows L2

def dTimes (x y : D) (h : Hd) : Option D := match x, y with
  | .lst xs, .int k => if setL xs = true ∧ -(2 ^ 63) ≤ k ∧ k < 2 ^ 63 ∧ xs.length * k.toNat ≤ sizeLine then some (.lst (List.replicate k.toNat xs).flatten) else none
  | .ref n, .int k => match h[n]? with
    | some (.lst xs) => if -(2 ^ 63) ≤ k ∧ k < 2 ^ 63 ∧ xs.length * k.toNat ≤ sizeLine then some (.lst (List.replicate k.toNat xs).flatten) else none
    | _ => none
  | .tup xs, .int k => if setL xs = true ∧ 0 ≤ k ∧ k ≤ 1000 ∧ xs.length ≤ 1000 then some (.tup (List.replicate k.toNat xs).flatten) else none
  | _, _ => dMul x y h
def rTimes (K : PySem.W.Frag) : R2 := fun x y H Q => rMul x y H Q ∨ rRep x y H Q ∨ rRepT K x y H Q ∨ rRepS K x y H Q
section
variable {K : PySem.W.Frag} {mg : Str → Option Value} {ρ : List Addr} {H : Hp} {h : Hd}
theorem op_times {X : Cx} : OpR X (binaryOp .Mult) (rTimes X.K) := OpR.or op_mulA (OpR.or op_rep (OpR.or op_repT op_repS))
theorem RepL.rep {xs : List D} {vs : List V} (t : RepL K mg ρ H xs vs []) : ∀ k : Nat, RepL K mg ρ H (List.replicate k xs).flatten (List.replicate k vs).flatten []
  | 0 => .nil
  | k + 1 => by
    rw [List.replicate_succ, List.replicate_succ, List.flatten_cons, List.flatten_cons]
    exact t.append (RepL.rep t k)
theorem op2_times : Op2 K mg dTimes (rTimes K) := by
  intro x y h d e ρ H vx vy S1 S2 Q hr r1 r2 nd na q
  unfold dTimes at e
  split at e
  · rename_i xs k
    split at e
    · rename_i c
      cases e
      obtain ⟨rfl, rfl⟩ := r2.int_inv
      cases r1 with
      | lst ha t =>
        rename_i a vs S0
        cases t.set_nil c.1
        refine .inr (.inl ⟨a, k, vs, rfl, rfl, ha, c.2.1, c.2.2.1, by rw [← t.length]; exact c.2.2.2, fun p np => ?_⟩)
        exact q _ _ [p] (same_upd np) (.newLst (S := []) hr (t.rep k.toNat) (fun _ z => nomatch z) np) (by simp) fun b hb => by
          rw [List.mem_singleton.mp hb]; exact ⟨hr.notin np, .inl np⟩
    · cases e
  · rename_i n k
    split at e
    · rename_i xs hx
      split at e
      · rename_i c
        cases e
        obtain ⟨rfl, rfl⟩ := r2.int_inv
        cases r1 with
        | ref ha =>
          rename_i a
          obtain ⟨vs, hv, t⟩ := hr.cell n _ _ hx ha
          refine .inr (.inl ⟨a, k, vs, rfl, rfl, hv, c.1, c.2.1, by rw [← t.length]; exact c.2.2, fun p np => ?_⟩)
          exact q _ _ [p] (same_upd np) (.newLst (S := []) hr (t.rep k.toNat) (fun _ z => nomatch z) np) (by simp) fun b hb => by
            rw [List.mem_singleton.mp hb]; exact ⟨hr.notin np, .inl np⟩
      · cases e
    · cases e
  · rename_i xs k
    split at e
    · rename_i c
      cases e
      obtain ⟨rfl, rfl⟩ := r2.int_inv
      cases r1 with
      | tup ht t =>
        rename_i a vs
        cases t.set_nil c.1
        have c3 := c.2.1
        have le := t.length
        by_cases ze : vs = []
        · refine .inr (.inr (.inr ⟨a, k, vs, rfl, rfl, ht.sq, .inr ⟨ze, c.2.1, c.2.2.1, q _ _ [] same_refl ?_ List.nodup_nil fun _ z => nomatch z⟩⟩))
          have xe : xs = [] := List.length_eq_zero_iff.mp (by rw [le, ze]; rfl)
          subst xe
          have e : (List.replicate k.toNat ([] : List D)).flatten = [] := by simp
          rw [e]
          exact .tup ht t
        have ne : vs ≠ [] := ze
        by_cases k2 : 2 ≤ k
        · exact .inr (.inr (.inl ⟨a, k, vs, rfl, rfl, ht.sq, ne, k2, c.2.2.1, by rw [← t.length]; exact c.2.2.2, fun p np => q _ _ [] (same_upd np) (.newTup (S := []) hr (t.rep k.toNat) (fun _ z => nomatch z) np) List.nodup_nil fun _ z => nomatch z⟩))
        · refine .inr (.inr (.inr ⟨a, k, vs, rfl, rfl, ht.sq, .inl ⟨ne, ?_⟩⟩))
          rcases (show k = 0 ∨ k = 1 by omega) with rfl | rfl
          · refine .inl ⟨rfl, fun p np => q _ _ [] (same_upd np) ?_ List.nodup_nil fun _ z => nomatch z⟩
            exact .newTup (S := []) hr (t.rep 0) (fun _ z => nomatch z) np
          · refine .inr ⟨rfl, q _ _ [] same_refl ?_ List.nodup_nil fun _ z => nomatch z⟩
            have e : (List.replicate (1 : Int).toNat xs).flatten = xs := by simp
            rw [e]
            exact .tup ht t
    · cases e
  · exact .inl (op2_mul x y h d e ρ H vx vy S1 S2 Q hr r1 r2 nd na q)
end
section
variable {K : PySem.W.Frag} {mg : Str → Option Value} {ρ : List Addr} {H : Hp} {h : Hd}
theorem rep_ints (ρ : List Addr) (H : Hp) : ∀ ns : List Int, RepL K mg ρ H (ns.map .int) (ns.map V.int) []
  | [] => .nil
  | n :: ns => .cons (S := []) (T := []) (.int n) (rep_ints ρ H ns)
end
section
variable {X : Cx} {Wx : WX} {a b o e : Expr} {ma mb mo : ME} {mas : MA} {p pos apos cpos : Pos} {k : Nat}
theorem je_times (ha : JE X Wx a ma) (hb : JE X Wx b mb) : JE X Wx (.BinOp a .Mult b pos) (eBin dTimes ma mb) := je_bin op_times op2_times ha hb
end
section
variable {X : Cx} {Wx : WX} {e : Expr} {me : ME} {pos p : Pos} {i : Nat} {x : Str}
end
end Tw

namespace Tw
open PySem PySem.Spec PyProof.Rows L2

def blkB (N : List Str) (sc scope : Scope) (own : List (Str × Nat)) : Bool :=
  decide (scope.kind = .function) && scope.names.all (fun y => decide (scope.names.lookup y.1 = some y.2)) && own.all (fun p => decide (N[p.2]? = some p.1)) &&
    scope.names.all (fun y => !decide (y.2 = .free) || decide (sc.names.lookup y.1 = some .cell) || decide (sc.names.lookup y.1 = some .free)) &&
    scope.names.all (fun y => !(decide (y.2 = .local) || decide (y.2 = .cell)) || decide (y.1 ∈ own.map (·.1)) || decide (y.1 ∉ N))
theorem blk_of {N : List Str} {sc scope : Scope} {own : List (Str × Nat)} (h : blkB N sc scope own = true) : BlkOk N sc scope own := by
  unfold blkB at h
  simp only [Bool.and_eq_true, List.all_eq_true, decide_eq_true_eq, Bool.or_eq_true, Bool.not_eq_true', decide_eq_false_iff_not] at h
  obtain ⟨⟨⟨⟨h1, h2⟩, h3⟩, h4⟩, h5⟩ := h
  refine ⟨h1, h2, h3, fun y hy e => ?_, fun y hy e => ?_⟩
  · rcases h4 y hy with (z | z) | z
    · exact absurd e z
    · exact .inl z
    · exact .inr z
  · rcases h5 y hy with (z | z) | z
    · rcases e with e | e <;> simp [e] at z
    · exact .inl z
    · exact .inr z
theorem cx_none {P : Program} {w : World} {H : Hp} {s : Shared} {e : Value} {s' : Shared} (z : L2.CX P w [] H s (fun _ _ _ => False) e s') : False := by
  obtain ⟨_, _, _, _, _, _, _, _, _, _, _, _, z⟩ := z
  exact z
theorem script_rep {K : PySem.W.Frag} {mg : Str → Option Value} {H : Hp} {a : Addr} {ns : List Int} (ho : Only H) (hS : SqL K H a (ns.map V.int)) : Rep K mg [] H (.rol (ns.map .int)) (.ref a) [] := by
  refine .rol ?_ (rep_ints [] H ns)
  rcases hS with (h | h) | h
  · rcases ho a with z | ⟨o, xs, z⟩
    · rw [z] at h; cases h
    · rw [z] at h; cases h
  · exact .inl ⟨h, fun z => nomatch z⟩
  · exact .inr h
def spLaw (K : PySem.W.Frag) : Sp := fun vs H Q _ => ∃ (a : Addr) (ns : List Int), vs = [.ref a] ∧ ns.length ≤ 63 ∧ Only H ∧ SqL K H a (ns.map V.int) ∧ ∀ H', Q (.bl true) H'
theorem law_end {P : Program} {w : World} {K : PySem.W.Frag} {mg : Str → Option Value} {base : Heap} {k : Nat} {f : Addr} {fd : FuncData} {x : Str} {mf : MF} (F : FnOk P w K mg base (L2.CX P w) k f fd [x] (spF K mg 1 mf))
    (hlaw : ∀ ns : List Int, ns.length ≤ 63 → ∃ h', mf [.rol (ns.map .int)] [] = .ok (.bl true) h') : FnOk P w K mg base (L2.CX P w) k f fd [x] (spLaw K) :=
  F.imp fun vs H Q E ⟨a, ns, e, hl, ho, hS, q⟩ => by
    subst e
    obtain ⟨h', e⟩ := hlaw ns hl
    refine ⟨rfl, [], [], [.rol (ns.map .int)], [], ⟨rfl, List.nodup_nil, fun n c a e => nomatch e⟩, .cons (S := []) (T := []) (script_rep ho hS) .nil, List.nodup_nil, fun _ z => (nomatch z), ?_⟩
    rw [e]
    intro v ρ' H' S' g
    have rp := g.rp
    cases rp
    exact q H'
end Tw

namespace Tw
open PySem PySem.Spec PyProof.Rows L2
section
variable {P : Program} {w : World} {A : Around} {E : Value → Shared → Prop} {s : Shared} {z TI TO i1 i2 : Addr} {fp1 fp2 : List Addr} {n1 n2 i : Nat} {P1 P2 : Nat → Value → Prop} {St1 St2 : Nat → Heap → Prop} {x0 y0 : Value}
end
section
variable {X : Cx} {pins : List (Addr × Obj)} {σ : L2.St} {b1 b2 : Bool} {a1 a2 z TI TO i1 i2 q : Addr} {xs ys : List V} {Rs : Result → Shared → Prop} {A1 : Around}
end
section
variable {K : PySem.W.Frag} {mg : Str → Option Value} {ρ : List Addr} {H : Hp} {h : Hd}
end
section
variable {X : Cx} {Wx : WX} {a b : Expr} {mas : MA} {p p2 pos pos2 : Pos}
end
end Tw

namespace Tw
open PySem PySem.Spec PyProof.Rows L2
section
variable {prog : Program} {w : World} {A : Around} {E : Value → Shared → Prop} {s : Shared}
end

end Tw

namespace Tw.Srt
open PySem PySem.W PySem.Calls PyProof.Rows PySem.SeqAt
def encT (b : List Int) : PyData := .tuple (b.map .int)
section
variable {prog : Program} {w : World} {A : Around} {E : Value → Shared → Prop} {s : Shared}
abbrev Rows (h : Heap) := EachIs (fun v (b : List Int) => ∃ as, Reads h v (encT b) as)
end
end Tw.Srt

namespace Tw
open PySem PySem.Spec PyProof.Rows L2
open PySem.W (EachIs)
section
variable {K : PySem.W.Frag} {mg : Str → Option Value} {ρ : List Addr} {H : Hp} {h : Hd}
end
section
variable {X : Cx} {Wx : WX} {a : Expr} {mas : MA} {p pos : Pos} {k : Nat}
end
end Tw

namespace Tw
open PySem PySem.Spec PyProof.Rows L2
section
variable {K : PySem.W.Frag} {mg : Str → Option Value} {ρ : List Addr} {H : Hp} {h : Hd}
end
section
variable {X : Cx} {Wx : WX} {o e : Expr} {mo : ME} {mas : MA} {apos cpos : Pos} {k : Nat}
end
end Tw

namespace Tw
open PySem PySem.Spec PyProof.Rows L2
def iSB (f : Hd → List D → Option (List D × Src)) (as : MA) : MI := fun env h => match as env h with
  | .ok ds h1 => liftS (boxL ds h1).2 (f (boxL ds h1).2 (boxL ds h1).1)
  | .exc e h1 => .exc e h1
  | .stuck => .stuck
section
variable {X : Cx} {Wx : WX} {a b : Expr} {ma : MA} {p pos tpos : Pos}
theorem ji_zip2B {elts : List Expr} {kk} (hm : X.mg "zip" = none) (ha : JA X Wx [a, b] ma) (hg : Gl X "zip" := by rfl) (hs : starEach [a, b] X.env = (false, eval a X.env) :: starEach [b] X.env := by rfl) (hpl : (backTo pos (starEach [b] X.env)).any (·.1) = false := by rfl) : JI X Wx (.Tuple elts kk tpos) (.Call (.Name "zip" p) [a, b] [] pos) (iSB zip2M ma) := by
  refine PI.mono (pi_Z2 hg hm ha hs hpl) fun σ H R ⟨ρ, env, h, hr, er, q⟩ => ⟨ρ, env, h, hr, er, ?_⟩
  unfold iSB at q
  cases ea : ma env h with
  | exc e h1 => rw [ea] at q; exact q
  | stuck => rw [ea] at q; exact q
  | ok ds h1 =>
    rw [ea] at q
    simp only at q
    intro vs ρ1 H1 S f
    obtain ⟨bx, rb⟩ := boxL_ok f.hr f.rp f.nd (fun a ha => (f.fr a ha).1)
    have st : Step [] ρ H (ρ1 ++ S) H1 := f.st.transT (Step.boxed ρ1 H1 S) fun a ha => ⟨(f.fr a ha).2.elim id (fun z => nomatch z), (f.fr a ha).1⟩
    cases er1 : zip2M (boxL ds h1).2 (boxL ds h1).1 with
    | none => rw [er1] at q; exact q.elim
    | some r =>
      rw [er1] at q
      obtain ⟨items, src⟩ := r
      obtain ⟨b1, b2, a1, a2, xs, ys, s1, s2, e1, o1, o2, n1, n2, rfl, rfl⟩ := two_of (f := zipD) bx.rel rb (fun _ z => nomatch z) er1
      obtain ⟨vs1, q1⟩ := o1.now bx.rel n1
      obtain ⟨vs2, q2⟩ := o2.now bx.rel n2
      exact ⟨b1, b2, a1, a2, vs1, vs2, e1, q1, q2, q _ (ρ1 ++ S) H1 bx.rel st (itOk_Z o1 o2)⟩
end
end Tw

namespace Tw
open PySem PySem.Spec PyProof.Rows L2
section
variable {X : Cx}
end
section
variable {K : PySem.W.Frag} {mg : Str → Option Value} {ρ : List Addr} {H : Hp} {h : Hd}
end
section
variable {X : Cx} {Wx : WX} {a : Expr} {mas : MA} {p p2 q pos : Pos} {k : Nat}
end
end Tw

namespace Tw.Srt
open PySem PySem.W PySem.Calls PyProof.Rows PySem.SeqAt L2
section
variable {P : Program} {w : World} {A : Around} {E : Value → Shared → Prop} {s : Shared}
end
end Tw.Srt

namespace Tw
open PySem PySem.Spec PyProof.Rows L2
open PySem.W (EachIs)
section
variable {X : Cx}
end
section
variable {K : PySem.W.Frag} {mg : Str → Option Value} {ρ : List Addr} {H : Hp} {h : Hd}
end
section
variable {X : Cx} {Wx : WX} {a : Expr} {mas : MA} {p p2 q pos : Pos} {k : Nat}
end
end Tw

namespace Tw
open PySem PySem.Spec PyProof.Rows L2
section
variable {X : Cx} {pins : List (Addr × Obj)} {σ : L2.St} {H : Hp} {s : Shared} {a : Addr} {L : List Ent} {k : NestedKey} {y : V} {u : Value} {A : Around} {E : Value → Shared → Prop}
end
section
variable {X : Cx} {pins : List (Addr × Obj)} {σ : L2.St} {H : Hp} {s : Shared} {a : Addr} {L : List Ent} {k : NestedKey} {y : V} {u : Value} {A : Around} {E : Value → Shared → Prop}
end
end Tw

namespace Tw
open PySem PySem.Spec PyProof.Rows L2
section
variable {X : Cx} {pins : List (Addr × Obj)} {σ : L2.St} {H : Hp} {s : Shared} {ρ : List Addr}
def keyOk (x : D) : Bool := match keyN x with
  | some k => decide (k.depth ≤ 8)
  | none => false
end
def isIntD : D → Bool
  | .int _ => true
  | _ => false
def isTupD : D → Bool
  | .tup _ => true
  | _ => false
def sortD (ks : List D) (k : NestedKey) : Bool := ks.all keyOk && decide (k.depth ≤ 8) && (match k with
  | .num _ => ks.all isIntD
  | .tup _ => ks.all isTupD
  | _ => false)
section
variable {K : PySem.W.Frag} {mg : Str → Option Value} {ρ : List Addr} {H : Hp} {h : Hd}
end
end Tw

namespace Tw
open PySem PySem.Spec PyProof.Rows L2
section
variable {K : PySem.W.Frag} {mg : Str → Option Value} {ρ : List Addr} {H : Hp} {h : Hd}
end
section
variable {X : Cx} {ρ : List Addr} {H : Hp}
end
end Tw

namespace Tw
open PySem PySem.Spec PyProof.Rows L2
section
variable {X : Cx} {e : Expr} {td : TE} {apos cpos : Pos}
end
section
variable {X : Cx} {Wx : WX} {e : Expr} {me : ME} {apos cpos : Pos}
end
end Tw

namespace Tw
open PySem PySem.Spec PyProof.Rows L2
structure ZSep3 (z TI TO i1 i2 i3 a1 a2 a3 : Addr) : Prop where
  sep : ZipSep3 z TI TO i1 i2 i3 [i1, a1] [i2, a2] [i3, a3]
  n1 : a1 ≠ i1
  n2 : a2 ≠ i2
  n3 : a3 ≠ i3
section
variable {K : PySem.W.Frag} {mg : Str → Option Value} {ρ : List Addr} {H : Hp} {h : Hd}
end
section
variable {X : Cx} {Wx : WX} {elts : List Expr} {kk : Nat} {tpos : Pos} {a b c : Expr} {ma : MA} {p pos : Pos}
end
end Tw

namespace Tw
open PySem PySem.Spec PyProof.Rows L2
def permL {α : Type} (perm : List Nat) (xs : List α) : List α := perm.filterMap fun i => xs[i]?
section
variable {K : PySem.W.Frag} {mg : Str → Option Value} {ρ : List Addr} {H : Hp}
theorem Step.perm {S T : List Addr} {ρ' : List Addr} {H' : Hp} (p : S.Perm T) (s : Step S ρ H ρ' H') : Step T ρ H ρ' H' :=
  ⟨s.pre, fun a h1 h2 => (s.new a h1 h2).imp_right p.mem_iff.mp, fun a o h1 h2 h3 => s.frame a o h1 h2 fun z => h3 (p.mem_iff.mp z)⟩
theorem Fin.perm {S T : List Addr} {d : D} {h' : Hd} {v : V} {ρ' : List Addr} {H' : Hp} {U : List Addr} (p : S.Perm T) (f : Fin K mg S ρ H d h' v ρ' H' U) : Fin K mg T ρ H d h' v ρ' H' U :=
  ⟨f.hr, f.st.perm p, f.rp, f.nd, fun a ha => ⟨(f.fr a ha).1, (f.fr a ha).2.imp_right p.mem_iff.mp⟩⟩
end
structure DfA (P : Program) (w : World) (K : PySem.W.Frag) (mg : Str → Option Value) (base : Heap) (x : Str) (k : Nat) (ps : List Str) (mf : MF) (f : Addr) (fd : FuncData) : Prop where
  ok : FnOk P w K mg base (L2.CX P w) k f fd ps (spF K mg ps.length mf)
  gl : mg x = some (.ref f)
  kp : PySem.W.keepIn K (.ref f) = true
  bi : Binds K fd ps []
  np : ∀ ds h, mf ds h ≠ .stuck → ds.length = ps.length
theorem DfA.df {P : Program} {w : World} {K : PySem.W.Frag} {mg : Str → Option Value} {base : Heap} {x : Str} {k : Nat} {ps : List Str} {mf : MF} {f : Addr} {fd : FuncData} (d : DfA P w K mg base x k ps mf f fd) : Df P w K mg base x k ps mf := ⟨⟨f, fd, d.ok, d.gl, d.kp, d.bi⟩, d.np⟩
theorem dfa_ok {P : Program} {w : World} {K : PySem.W.Frag} {mg : Str → Option Value} {base : Heap} {x : Str} {st : Stmt} {f : Addr} {fd : FuncData} {N ps : List Str} {k nl np : Nat} {body : MS} (F : Fun K x x st f fd) (S : FnScope N ps (defScope st)) (gl : mg x = some (.ref f)) (bi : Binds K fd ps [])
    (hb : ∀ (cdv : Value) (A : Around) (outer : List Env) (s : Shared) (H : Hp) (E : XK), Room k (A.deeper (envOfC x (defScope st) s.heap.objs.size f cdv)) →
      JB (cxOf (L2.CX P w) P w K mg base N x (defScope st) f cdv A outer s H E) (fun cls d _ H => E cls d H) (defBody st) body) (hN : N.length = nl := by rfl) (hp : ps.length = np := by rfl) : DfA P w K mg base x (k + 1) ps (runDef np nl body) f fd :=
  ⟨def_ok F S hN hp hb, gl, F.kp, bi, by rw [hp]; exact runDef_np⟩
structure DfK (P : Program) (w : World) (K : PySem.W.Frag) (mg : Str → Option Value) (base : Heap) (x : Str) (k : Nat) (ps : List Str) (mf : MF) (ks : List Str) (perm : List Nat) : Prop where
  ex : ∃ f fd, FnOk P w K mg base (L2.CX P w) k f fd ps (spF K mg ps.length mf) ∧ mg x = some (.ref f) ∧ PySem.W.keepIn K (.ref f) = true ∧ KBn K fd ps 0 ks (fun _ ws => permL perm ws) (fun _ zs => permL perm zs)
  np : ∀ ds h, mf ds h ≠ .stuck → ds.length = ps.length
  pm : perm.Perm (List.range ps.length)
  kl : ks.length = ps.length
theorem DfK.mono {P : Program} {w : World} {K : PySem.W.Frag} {mg : Str → Option Value} {base : Heap} {x : Str} {j k : Nat} {ps : List Str} {mf : MF} {ks : List Str} {perm : List Nat} (d : DfK P w K mg base x j ps mf ks perm) (h : j ≤ k) : DfK P w K mg base x k ps mf ks perm := by
  obtain ⟨⟨f, fd, F, a, b, c⟩, n, p, l⟩ := d
  exact ⟨⟨f, fd, F.mono h, a, b, c⟩, n, p, l⟩
theorem vals_get : ∀ {zs : List V} {ws : List Value}, Vals zs ws → ∀ i : Nat, (∃ z w, zs[i]? = some z ∧ ws[i]? = some w ∧ RelV z w) ∨ (zs[i]? = none ∧ ws[i]? = none)
  | _, _, .nil, i => .inr ⟨by simp, by simp⟩
  | _, _, .cons r t, 0 => .inl ⟨_, _, rfl, rfl, r⟩
  | _, _, .cons r t, i + 1 => by simpa using vals_get t i
theorem vals_perm {zs : List V} {ws : List Value} (r : Vals zs ws) : ∀ perm : List Nat, Vals (permL perm zs) (permL perm ws)
  | [] => .nil
  | i :: perm => by
    have ih := vals_perm r perm
    unfold permL at ih ⊢
    rw [List.filterMap_cons, List.filterMap_cons]
    rcases vals_get r i with ⟨z, w, e1, e2, q⟩ | ⟨e1, e2⟩
    · rw [e1, e2]
      exact .cons q ih
    · rw [e1, e2]
      exact ih
theorem DfA.kw {P : Program} {w : World} {K : PySem.W.Frag} {mg : Str → Option Value} {base : Heap} {x : Str} {k : Nat} {ps : List Str} {mf : MF} {f : Addr} {fd : FuncData} {st : Stmt} (d : DfA P w K mg base x k ps mf f fd) (F : Fun K x x st f fd) (ks : List Str) (perm : List Nat) (pm : perm.isPerm (List.range ps.length) = true) (kl : ks.length = ps.length)
    (h : ∀ (kV doc pm : Value) (an : Option Addr) (cdv ct : Value) (ws : List Value), ws.length = ks.length → bindArgs (PySem.W.fnOf x x (defArgs st) (defBody st) (defScope st) .none kV doc pm an cdv ct) ⟨[], ks.zip ws⟩ = pure (ps.zip (permL perm ws))) : DfK P w K mg base x k ps mf ks perm := by
  refine ⟨⟨f, fd, d.ok, d.gl, d.kp, ⟨fun s us ws X l1 l2 => ?_, fun _ r => vals_perm r perm⟩⟩, d.np, List.isPerm_iff.mp pm, kl⟩
  obtain rfl : us = [] := List.length_eq_zero_iff.mp l1
  obtain ⟨oc, od, kV, doc, pmv, an, cdv, ct, osl, rfl, lk, hcd⟩ := F.ex
  exact .of_eq (h kV doc pmv an cdv ct ws l2)
section
variable {X : Cx} {Wx : WX}
def JK (X : Cx) (Wx : WX) (kws : List Keyword) (m : MA) : Prop := PK X kws (tA X.K X.mg Wx m)
theorem jk_nil : JK X Wx [] aNil := by
  refine ⟨fun pos pins s σ H Q I q => ?_⟩
  refine pk_nil.run pos pins s σ H Q I ?_
  obtain ⟨ρ, env, h, hr, er, q⟩ := q
  exact q [] ρ H [] ⟨hr, Step.refl, .nil, List.nodup_nil, fun _ z => nomatch z⟩
theorem jk_cons {nm : Option Str} {a : Expr} {kpos : Pos} {kws : List Keyword} {ma : ME} {mas : MA} (ha : JE X Wx a ma) (hr : JK X Wx kws mas) : JK X Wx (⟨nm, a, kpos⟩ :: kws) (aCons ma mas) := by
  refine ⟨fun pos pins s σ H Q I q => ?_⟩
  exact (pk_cons ha hr).run pos pins s σ H Q I (tA_cons q)
end
end Tw

namespace Tw
open PySem PySem.Spec PyProof.Rows L2
section
variable {X : Cx}
variable {ρ : List Addr} {H : Hp}
end
section
variable {X : Cx} {Wx : WX} {a b : Expr} {ma mb : ME} {pos : Pos} {k : Nat}
end
section
variable {K : PySem.W.Frag} {mg : Str → Option Value} {ρ : List Addr} {H : Hp}
end
section
variable {X : Cx} {Wx : WX} {tg a b c : Expr} {ma : MA} {p pos : Pos}
end
end Tw

namespace Tw
open PySem PySem.Spec PyProof.Rows L2
section
variable {X : Cx} {pins : List (Addr × Obj)} {σ : L2.St} {H : Hp} {s : Shared} {A : Around} {E : Value → Shared → Prop} {a : Addr} {L : List Ent} {k : NestedKey} {y : V} {u : Value}
end
section
variable {X : Cx}
end
end Tw

namespace Tw
open PySem PySem.Spec PyProof.Rows L2
section
variable {X : Cx} {e : Expr} {td : TE} {tg : Expr}
end
section
variable {X : Cx} {Wx : WX} {e : Expr} {me : ME} {tg : Expr}
end
end Tw

namespace Tw
open PySem PySem.Spec PyProof.Rows L2
section
variable {X : Cx} {Wx : WX} {a : Expr} {mas : MA} {p pos : Pos}
end
end Tw

namespace Tw.Srt
open PySem PySem.W PySem.Calls PyProof.Rows PySem.SeqAt L2
end Tw.Srt
namespace Tw
open PySem PySem.Spec PyProof.Rows L2 PySem.Calls
open PySem.W (EachIs)
section
variable {X : Cx} {Wx : WX} {a : Expr} {mas : MA} {p pos : Pos} {k : Nat}
end
end Tw

namespace Tw
open PySem PySem.Spec PyProof.Rows L2
section
variable {X : Cx}
end
section
variable {X : Cx} {Wx : WX} {a : Expr} {mas : MA} {p p2 q pos : Pos}
end
end Tw

namespace Tw.Srt
open PySem PySem.W PySem.Calls PyProof.Rows PySem.SeqAt L2 PySem.Spec
section
variable {P : Program} {w : World} {A : Around} {E : Value → Shared → Prop} {s : Shared} {a : Addr} {L : List (Addr × List Int)} {es : Array (Int × Value)} {ep : Nat} {t : SetTable}
def Held (P : Program) (w : World) (h0 : Heap) (S : Addr) (ks : List (Addr × List Int)) (i : Nat) (h : Heap) : Prop :=
  (∀ b o, h0.get? b = some o → h.get? b = some o) ∧ ∃ L es ep t, SetTR P w h S L es ep t ∧ Got ks i L
theorem Held.to {h0 h h' : Heap} {S : Addr} {ks : List (Addr × List Int)} {i : Nat} (x : Held P w h0 S ks i h) (hk : ∀ p ∈ ks, IsT P w h0 p.2 p.1) (k0 : ∀ b o, h0.get? b = some o → h'.get? b = some o) (kS : ∀ o, h.get? S = some o → h'.get? S = some o) : Held P w h0 S ks i h' :=
  let ⟨_, L, es, ep, t, R, g⟩ := x
  ⟨k0, L, es, ep, t, R.keep kS fun p hp => isT_keep (hk p (List.mem_of_mem_take (g.sub p hp))) k0, g⟩
section
variable {I : Addr} {fp wr : List Addr} {G : Array GenState → Array GenState → Prop} {n : Nat} {Pv : Nat → Value → Prop} {St : Nat → Shared → Prop} {R : Result → Shared → Prop} {S : Addr} {ks : List (Addr × List Int)} {h0 : Heap}
end
end
section
variable {P : Program} {w : World} {A : Around} {E : Value → Shared → Prop} {s : Shared}
end
end Tw.Srt
namespace Tw
open PySem PySem.Spec PyProof.Rows L2
open PySem.W (EachIs)
section
variable {X : Cx}
end
section
variable {K : PySem.W.Frag} {mg : Str → Option Value} {ρ : List Addr} {H : Hp} {h : Hd}
end
section
variable {X : Cx} {Wx : WX} {a : Expr} {mas : MA} {p p2 q pos : Pos} {k : Nat}
end
end Tw

namespace Tw.Srt
open PySem PySem.W PySem.Calls PyProof.Rows PySem.SeqAt L2 PySem.Spec
section
variable {P : Program} {w : World} {A : Around} {E : Value → Shared → Prop} {s : Shared}
end
end Tw.Srt
namespace Tw
open PySem PySem.Spec PyProof.Rows L2
section
variable {X : Cx}
end
section
variable {K : PySem.W.Frag} {mg : Str → Option Value} {ρ : List Addr} {H : Hp} {h : Hd}
end
section
variable {X : Cx} {Wx : WX} {a : Expr} {mas : MA} {p p2 q pos : Pos} {k : Nat}
end
end Tw

namespace Tw
open PySem PySem.Spec PyProof.Rows L2
section
variable {X : Cx} {Wx : WX} {a b : Expr} {ma mb : ME} {p p2 pos pos2 : Pos}
end
end Tw

namespace Tw
open PySem PySem.Spec PyProof.Rows L2
def rCountD (K : PySem.W.Frag) : V → List V → Hp → VK → Prop := fun x vs H Q => ∃ (p : Addr) (y : V) (d : PyData) (ps : List PyData), x = .ref p ∧ vs = [y] ∧ Dp K H (.ref p) (.list ps) ∧ Dp K H y d ∧
  SeqAt.shaped (.list ps) = true ∧ SeqAt.shaped d = true ∧ Q (.int ((ps.countP fun z => PyData.eqv z d : Nat) : Int)) H
theorem mt_countD {X : Cx} (room : X.A.units + 65 < cLine) : MtR X "list.count" (rCountD X.K) := by
  intro pins s σ H x vs v us Q I rx rvs h
  obtain ⟨p, y, d, ps, rfl, rfl, hp, hy, sp, sd, q⟩ := h
  cases rx
  cases rvs with
  | cons r1 r2 =>
    rename_i u1 u2
    cases r2
    obtain ⟨bs, rd⟩ := Dp.reads I d y u1 hy r1
    have cl : PyData.canLayAll0 ps = true := SeqAt.canLay_of_shaped sp
    have cd : PyData.canLay0 d = true := SeqAt.canLay_of_shaped sd
    have ru : X.A.units + 1 + min (PyData.depthAll ps) d.depth < cLine := room_in_shaped sd room
    cases hp with
    | lst hs ha =>
      obtain ⟨items, ri, ⟨⟨c0, d0, t0, s0⟩, m, g1, g2, g3, g4⟩, g5⟩ := I.list hs
      simp only at g2 g4
      subst g2 g4
      obtain ⟨as, rs⟩ := Dp.readsAll I ps _ items ha ri
      have hm : items.map (SeqAt.readOf s.heap) = ps := SeqAt.readsAll_map ps items as cl rs
      refine call_meets PySem.F.slot_list_count ⟨_, g1, rfl⟩ PySem.F.entry_list_count (PySem.F.args_list_count_2 _ _)
        (SeqAt.list_countAt p items.toArray m d0 s0 u1 fun z => PyData.eqv (SeqAt.readOf s.heap z) d) ⟨g1, ?_, ?_⟩
      · exact SeqAt.items_eqAt (vs := items.toArray) (show ReadsAll s.heap items.toArray.toList ps as from rs) rd cl cd ru
      · refine ⟨.int ((ps.countP fun z => PyData.eqv z d : Nat) : Int), H, I.tok _, ⟨s.toks, ?_⟩, q⟩
        have e : items.countP (fun z => PyData.eqv (SeqAt.readOf s.heap z) d) = ps.countP fun z => PyData.eqv z d := by
          rw [← hm, List.countP_map]
          rfl
        rw [← e]
def mCount (x : D) (as : List D) (h : Hd) : Option (D × Hd) := match as with
  | [y] => match toPy h 20 x, toPy h 20 y with
    | some (.list ds), some d => some (.int ((ds.countP fun z => PyData.eqv z d : Nat) : Int), h)
    | _, _ => none
  | _ => none
theorem om_count {K : PySem.W.Frag} {mg : Str → Option Value} : OpM K mg mCount (rCountD K) := by
  intro x ds h d h' e ρ H v vs S T Q hr r rs nd na q
  unfold mCount at e
  split at e
  · rename_i y
    cases rs with
    | cons ry t =>
      rename_i vy vt S1 S2
      cases t
      split at e
      · rename_i ys dy e1 e2
        cases e
        have d1 := toPy_dp hr _ _ _ _ _ e1 r
        have d2 := toPy_dp hr _ _ _ _ _ e2 ry
        cases d1 with
        | lst hs ha =>
          rename_i a xs
          exact ⟨a, vy, dy, ys, rfl, rfl, .lst hs ha, d2, toPy_shaped (by decide) e1, toPy_shaped (by decide) e2, q _ ρ H [] ⟨hr, Step.refl, .int _, List.nodup_nil, fun _ z => nomatch z⟩⟩
      · cases e
  · cases e
section
variable {X : Cx} {Wx : WX} {a b o e : Expr} {ma mb mo : ME} {mas : MA} {p pos apos cpos : Pos} {k : Nat}
theorem je_count (hr : Room k X.A) (ho : JE X Wx o mo) (ha : JA X Wx [e] mas) (hbase : attributeBase o (Str.ofString "count") X.env (eval o X.env) = eval o X.env := by rfl)
    (hfew : ((backTo cpos (starEach [e] X.env)).all (fun x => !x.1) && (backToKw cpos (keywordEach [] X.env)).all (fun x => x.1.isSome) && decide ([e].length + ([] : List Keyword).length + (if ([] : List Keyword).isEmpty then 0 else 1) < 30)) = true := by rfl)
    (hline : (apos.endLine == cpos.line) = true := by rfl) (hs : starEach [e] X.env = (false, eval e X.env) :: starEach [] X.env := by rfl) (hplain : (backTo cpos (starEach [] X.env)).any (·.1) = false := by rfl) : JE X Wx (.Call (.Attribute o "count" apos) [e] [] cpos) (eBM "list" mCount mo mas) :=
  je_bm PySem.F.plainAttrs_list PySem.F.slot_list_count PySem.F.type_list_count (mt_countD (units65 hr)) om_count ho ha hbase hfew hline hs hplain
end
section
variable {X : Cx} {pins : List (Addr × Obj)} {σ : L2.St} {H : Hp} {s : Shared} {a : Addr} {L : List Ent} {k : NestedKey} {y : V} {u : Value} {A : Around} {E : Value → Shared → Prop}
end
section
variable {X : Cx} {Wx : WX} {a b : Expr} {ma mb : ME} {pos : Pos} {k : Nat}
end
end Tw

namespace Tw
open PySem PySem.Spec PyProof.Rows L2
section
variable {K : PySem.W.Frag} {mg : Str → Option Value} {ρ : List Addr} {H : Hp} {h : Hd}
end
section
variable {X : Cx} {Wx : WX} {e f g : Expr} {ml mk md : ME} {p pos apos cpos : Pos} {n : Nat}
end
end Tw

namespace Tw
open PySem PySem.Spec PyProof.Rows L2
section
variable {X : Cx}
end
section
variable {X : Cx} {Wx : WX} {a b : Expr} {ma mb : ME} {pos : Pos} {k : Nat}
end
end Tw

namespace Tw
open PySem PySem.Spec PyProof.Rows L2
structure XBase (B newId initId : String) (bm : List Value) : Prop where
  F : ExcBaseFacts B newId initId bm
  S : PySem.StoreFacts B bm "object.__setattr__" "object"
  ty : typeOf (.type B) = pure (.type "type")
  stub : Manifest.isStub B = false
  hand : PySem.W.handedIn (.builtin initId) = true
  boot : bootBuiltins (Str.ofString B) = some (.type B)
  get : ∀ K, PySem.W.findCls K (.type B) (.type "type") "__init__" = some (.val (.builtin initId))
theorem xb_value : XBase "ValueError" "ValueError.__new__" "ValueError.__init__" [.type "ValueError", .type "Exception", .type "BaseException", .type "object"] := ⟨PySem.F.excBase_ValueError, PySem.F.store_ValueError, by kernel_rfl, by decide +kernel, by decide +kernel, by decide +kernel, fun K => by kernel_rfl⟩
theorem xb_lookup : XBase "LookupError" "LookupError.__new__" "LookupError.__init__" [.type "LookupError", .type "Exception", .type "BaseException", .type "object"] := ⟨PySem.F.excBase_LookupError, PySem.F.store_LookupError, by kernel_rfl, by decide +kernel, by decide +kernel, by decide +kernel, fun K => by kernel_rfl⟩
theorem xb_runtime : XBase "RuntimeError" "RuntimeError.__new__" "RuntimeError.__init__" [.type "RuntimeError", .type "Exception", .type "BaseException", .type "object"] := ⟨PySem.F.excBase_RuntimeError, PySem.F.store_RuntimeError, by kernel_rfl, by decide +kernel, by decide +kernel, by decide +kernel, fun K => by kernel_rfl⟩
theorem xb_overflow : XBase "OverflowError" "OverflowError.__new__" "OverflowError.__init__" [.type "OverflowError", .type "ArithmeticError", .type "Exception", .type "BaseException", .type "object"] := ⟨PySem.F.excBase_OverflowError, PySem.F.store_OverflowError, by kernel_rfl, by decide +kernel, by decide +kernel, by decide +kernel, fun K => by kernel_rfl⟩
structure XC (K : PySem.W.Frag) (newId : String) (bm : List Value) (C : Addr) : Prop where
  obj : PySem.W.excInitIn K C bm newId = true
  hd : PySem.W.hasDictIn K C = true
  sa : PySem.W.findIn K (.ref C) "__setattr__" = some (some (.builtin "object.__setattr__"))
  ga : PySem.W.findIn K (.ref C) "__getattribute__" = some (some (.builtin "BaseException.__getattribute__"))
  gg : PySem.W.findIn K (.ref C) "__getattr__" = some none
  cl : PySem.W.findIn K (.ref C) "__class__" = some (some (.builtin "object.__class__"))
  gt : PySem.W.specialIn K (.builtin "object.__class__") "__get__" = some (some (.builtin "getset_descriptor.__get__"))
  tk : PySem.W.takesIn K (.builtin "object.__class__") = some true
  kC : PySem.W.keepIn K (.ref C) = true
  mro : (PySem.W.clsIn K C).map (·.mro) = some (.ref C :: bm)
def xcB (K : PySem.W.Frag) (newId : String) (bm : List Value) (C : Addr) : Bool :=
  PySem.W.excInitIn K C bm newId && (PySem.W.hasDictIn K C && (decide (PySem.W.findIn K (.ref C) "__setattr__" = some (some (.builtin "object.__setattr__"))) && (decide (PySem.W.findIn K (.ref C) "__getattribute__" = some (some (.builtin "BaseException.__getattribute__"))) &&
    (decide (PySem.W.findIn K (.ref C) "__getattr__" = some none) && (decide (PySem.W.findIn K (.ref C) "__class__" = some (some (.builtin "object.__class__"))) && (decide (PySem.W.specialIn K (.builtin "object.__class__") "__get__" = some (some (.builtin "getset_descriptor.__get__"))) &&
    (decide (PySem.W.takesIn K (.builtin "object.__class__") = some true) && (PySem.W.keepIn K (.ref C) && decide ((PySem.W.clsIn K C).map (·.mro) = some (.ref C :: bm))))))))))
theorem xc_of {K : PySem.W.Frag} {newId : String} {bm : List Value} {C : Addr} (h : xcB K newId bm C = true) : XC K newId bm C := by
  unfold xcB at h
  simp only [Bool.and_eq_true, decide_eq_true_eq] at h
  obtain ⟨h1, h2, h3, h4, h5, h6, h7, h8, h9, h10⟩ := h
  exact ⟨h1, h2, h3, h4, h5, h6, h7, h8, h9, h10⟩
section
variable {K : PySem.W.Frag} {B newId initId : String} {bm : List Value} {C : Addr}
theorem XC.data (T : XC K newId bm C) : ∃ cd bm', PySem.W.clsIn K C = some cd ∧ cd.mro = .ref C :: bm' ∧ PySem.W.excTail bm bm' = true ∧ cd.hasDict = true ∧ ∃ dd sl, K.lookup C = some ⟨.type "type", dd, .cls cd, sl⟩ := by
  have q := T.obj
  unfold PySem.W.excInitIn at q
  split at q
  · rename_i dd cd sl ho
    split at q
    · rename_i C' bm' k0 k1 k2 k3 n k5 hm hs
      simp only [Bool.and_eq_true, beq_iff_eq, Bool.not_eq_true'] at q
      obtain ⟨⟨⟨rfl, _⟩, _⟩, ht⟩ := q
      have hc : PySem.W.clsIn K C' = some cd := by unfold PySem.W.clsIn; rw [ho]
      refine ⟨cd, bm', hc, hm, ht, ?_, dd, sl, ho⟩
      have := T.hd
      unfold PySem.W.hasDictIn at this
      rw [hc] at this
      simpa using this
    · cases q
  · cases q
theorem XC.over (T : XC K newId bm C) : PySem.W.excOver K C bm = true := by
  obtain ⟨cd, bm', hc, hm, ht, _⟩ := T.data
  unfold PySem.W.excOver
  rw [hc]
  simp [hm, ht]
theorem XC.sub (T : XC K newId bm C) (c : Value) : ∃ bm', PySem.W.excTail bm bm' = true ∧ PySem.W.subIn K (.ref C) c = some ((Value.ref C :: bm').contains c) := by
  obtain ⟨cd, bm', hc, hm, ht, _⟩ := T.data
  refine ⟨bm', ht, ?_⟩
  show PySem.W.mroIn K C c = _
  unfold PySem.W.mroIn
  rw [hc, Option.bind_some, hm]
  simp
theorem XC.subTy (T : XC K newId bm C) (X : String) : PySem.W.subIn K (.ref C) (.type X) = some (bm.contains (.type X)) := by
  obtain ⟨bm', ht, e⟩ := T.sub (.type X)
  rw [e, List.contains_cons, PySem.W.excTail_contains X _ ht]
  rfl
theorem XC.exC (T : XC K newId bm C) (F : ExcBaseFacts B newId initId bm) : PySem.W.subIn K (.ref C) (.type "BaseException") = some true := by rw [T.subTy, F.hasBase]
theorem XC.tyC (T : XC K newId bm C) : PySem.W.typeIn K (.ref C) = some (.type "type") := by
  obtain ⟨cd, bm', hc, hm, ht, _, dd, sl, ho⟩ := T.data
  show (K.lookup C).map (·.cls) = _
  rw [ho]
  rfl
end
section
variable {X : Cx} {pins : List (Addr × Obj)} {σ : L2.St} {H : Hp} {s : Shared} {a C : Addr} {f : Str} {y : V} {u : Value} {Q : Unit → Shared → Prop} {E : Value → Shared → Prop} {A : Around} {B newId initId : String} {bm : List Value}
theorem xc_store (SB : XBase B newId initId bm) (T : XC X.K newId bm C) (I : Inv X pins σ H s) (e : H a = some (exo a C none)) (hno : PySem.W.findIn X.K (.ref C) f = some none) (ry : RelV y u)
    (h : ∀ dx s', H dx = none → dx ≠ a → Inv X pins σ (upd (upd H dx (exd dx [(f, y)])) a (exo a C (some dx))) s' → Q () s') : wpAny (model X.prog X.w) A (setAttr (.ref a) f u) Q E s := by
  obtain ⟨cd, bm', hc, _, _, hdct, _⟩ := T.data
  obtain ⟨t1, ho⟩ := exo_at I.hok e
  obtain ⟨hp, g, d, t, os⟩ := s
  have at_ : PySem.W.InstAt hp a { cls := .ref C, dict := none, data := .fields #[.ref t1, .none, .none, .none, .bool false, .none] } C none := ⟨ho, rfl, rfl, trivial⟩
  have tk : PySem.W.takerIn X.K C f = some none := by unfold PySem.W.takerIn; rw [hno]; rfl
  refine PySem.W.set_plain I.kIn at_ T.sa (PySem.W.osa_openX (s := ⟨hp, g, d, t + 1, os⟩) SB.S I.kIn at_ T.over tk fun b => ?_)
  refine wpAny_bind (wpAny_pure (wpAny_bind (PySem.W.instanceDict_exc (C := C) (t := t1) (c2 := .none) ho (PySem.W.looks_clsIn I.kIn hc) hdct ?_)))
  have as : a ≠ hp.objs.size := Nat.ne_of_lt (Heap.lt_size ho)
  have h1 : (hp.push (PySem.W.dictOf [] 0)).get? a = some { cls := .ref C, dict := none, data := .fields #[.ref t1, .none, .none, .none, .bool false, .none] } := Heap.get?_push_of_some _ ho
  have nw : ((hp.push (PySem.W.dictOf [] 0)).update a fun o => { o with dict := some hp.objs.size }).Ns1 hp.objs.size (fun _ => none) :=
    ⟨_, #[], _, (Heap.get?_update_ne _ _ _ _ (Ne.symm as)).trans (Heap.get?_push_at rfl rfl), rfl, fun e he => absurd he (by simp), (by simp [UniqKeys]), fun _ => rfl⟩
  show wpAny _ _ (Builtin.ObjectAttr.storeInDict hp.objs.size (.str f t) f u) _ _ _
  refine PySem.OEX.store_in_old nw (ns := []) (fun x hx => absurd rfl hx) (Nat.zero_le _) fun h' tk' hn' hs => ?_
  have kp : ∀ b o, b ≠ a → hp.get? b = some o → h'.get? b = some o := fun b o nb eo => (hs.2 b (Nat.ne_of_lt (Heap.lt_size eo))).trans ((Heap.get?_update_ne _ _ _ _ nb).trans (Heap.get?_push_of_some _ eo))
  have hx : h'.get? a = some { cls := .ref C, dict := some hp.objs.size, data := .fields #[.ref t1, .none, .none, .none, .bool false, .none] } := (hs.2 a as).trans (Heap.get?_update_self _ h1 rfl)
  have hnd : H hp.objs.size = none := I.hok.fresh (Nat.le_refl _)
  have nd : ∀ {b : Addr} {o : Obj}, hp.get? b = some o → b ≠ hp.objs.size := fun q => Nat.ne_of_lt (Heap.lt_size q)
  have na : ∀ {b : Addr}, H b = none → b ≠ a := fun {b} n z => by rw [z, e] at n; cases n
  have new := I.un (t' := tk') (H' := upd (upd H hp.objs.size (exd hp.objs.size [(f, y)])) a (exo a C (some hp.objs.size))) (h' := h') {
    keep := fun b o q n _ _ => kp b o (na n) q
    slot := fun b o q n _ _ => ⟨o.slots, kp b o (na n) q⟩
    free := fun b o q n _ => by rw [upd_ne (na n), upd_ne (nd q)]; exact n
    there := fun b o q _ => by
      by_cases z : b = a
      · rw [z]; exact ⟨_, hx⟩
      · exact ⟨o, kp b o z q⟩
    tups := fun b xs q => by rw [upd_ne (at_ne e q exo_tup), upd_ne (ne_of_none q hnd)]; exact q
    frzs := fun b o v q => by rw [upd_ne (at_ne e q exo_frz), upd_ne (ne_of_none q hnd)]; exact q
    tbls := fun b ps q => ⟨#[], by rw [upd_ne (at_ne e q exo_tbl), upd_ne (ne_of_none q hnd), q]; simp⟩ } fun b o q => by
      by_cases z : b = a
      · subst z
        rw [upd_same] at q
        cases q
        exact exo_ok hx
      · rw [upd_ne z] at q
        by_cases z2 : b = hp.objs.size
        · subst z2
          rw [upd_same] at q
          cases q
          exact exd_ok hn' (relO_put (fs := []) ry fun _ => True.intro)
        · rw [upd_ne z2] at q
          refine (I.hok b o q).stay (fun c v k1 k2 => kp c v ?_ k2) (fun c k1 => ?_) fun c xs k1 => ?_
          · rcases k1 with rfl | k1
            · exact z
            · exact at_ne e k1 exo_own
          · rw [upd_ne (at_ne e k1 exo_own), upd_ne (ne_of_none k1 hnd)]; exact k1
          · rw [upd_ne (at_ne e k1 exo_tup), upd_ne (ne_of_none k1 hnd)]; exact k1
  exact h hp.objs.size _ hnd (Ne.symm as) new
theorem xc_init {us : List Value} {Q : Value → Shared → Prop} (SB : XBase B newId initId bm) (T : XC X.K newId bm C) (I : Inv X pins σ H s) (e : H a = some (exo a C none)) (hl : us.length ≤ sizeLine) (h : ∀ s', Inv X pins σ H s' → Q .none s') :
    wpAny (model X.prog X.w) A (call (.builtin initId) (.ref a :: us)) Q E s := by
  obtain ⟨nm, N, q, bs, bm', hdct, sn, sub, ab, col, dd, k0, k1, k2, k3, k5, hC, hbm⟩ := PySem.W.excInit_of I.kIn T.obj
  obtain ⟨t1, ho⟩ := exo_at I.hok e
  obtain ⟨hp, g, d, t, os⟩ := s
  refine wpAny_call (PySem.HandSPX.init_base SB.F hbm hC ho hl fun h' t2 k hx => ?_)
  have J := I.write (t' := t) (x := a) (e := a) (o := exo a C none) (by rw [e]; exact True.intro) (.inl rfl) k ⟨_, hx⟩ (exo_ok hx)
  have same : upd H a (exo a C none) = H := by
    funext b
    by_cases z : b = a
    · rw [z, upd_same, e]
    · rw [upd_ne z]
  rw [same] at J
  exact h _ J
end
end Tw

namespace Tw
open PySem PySem.Spec PyProof.Rows L2
def SomeR (prog : Program) (w : World) (h0 : Heap) (d : Nat) (x : Value) (k : Nat) : Prop :=
  ∀ (b : Nat), b + k ≤ sizeLine → ∀ (A : Around) (E : Value → Shared → Prop) (s : Shared) (Q : Str → Shared → Prop), A.units + d < cLine → (∀ a o, h0.get? a = some o → s.heap.get? a = some o) → (∀ (t : Str) tk, t.length ≤ k → Q t { s with toks := tk }) → wpAny (model prog w) A (pyReprUnder b x) Q E s
section
variable {prog : Program} {w : World} {A : Around} {E : Value → Shared → Prop} {h0 : Heap} {d : Nat}
theorem SomeR.int {a : Int} (t : Tok) (ha : a.natAbs.log2 < 1920) : SomeR prog w h0 d (.int a t) 1921 := fun b hb A E s Q _ _ h => by
  have e := int_text_length_le (k := 1920) (by decide) ha
  have e2 : ((toString a : String) : Str).length ≤ 1921 := by
    show (Str.ofString (toString a)).length ≤ 1921
    rw [PySem.ofString_length]
    omega
  exact ReprIs.int t ha b (by omega) A E s Q fun tk => h _ tk e2
theorem some_fold {k : Nat} (hu : A.units + d < cLine) : ∀ (l : List Value) (acc : Array Str) (n : Nat) (s : Shared) (Q : (Array Str × Nat) → Shared → Prop), (∀ x ∈ l, SomeR prog w h0 d x k) → n + l.length * (k + 2) + 2 ≤ sizeLine → (∀ a o, h0.get? a = some o → s.heap.get? a = some o) →
    (∀ (ts : List Str) tk, ts.length = l.length → (∀ t ∈ ts, t.length ≤ k) → Q ⟨acc ++ ts.toArray, n + piled ts⟩ { s with toks := tk }) → wpAny (model prog w) A (forIn l (⟨acc, n⟩ : (Array Str × Nat)) tupBody) Q E s
  | [], acc, n, s, Q, _, _, _, h => by
    have h0 := h [] s.toks rfl (fun _ z => nomatch z)
    simp only [List.forIn_nil]
    exact wpAny_pure (by simpa [piled] using h0)
  | x :: l, acc, n, s, Q, hs, hn, hk, h => by
    rw [List.length_cons, Nat.add_mul, Nat.one_mul] at hn
    rw [List.forIn_cons]
    refine wpAny_bind (wpAny_bind (hs x (by simp) (n + 1) (by omega) A _ s _ hu hk fun t tk ht => wpAny_pure ?_))
    refine some_fold hu l (acc.push t) (n + (t.length + 2)) _ Q (fun y hy => hs y (by simp [hy])) (by omega) hk fun ts tk' hl hts => ?_
    have h1 := h (t :: ts) tk' (by simp [hl]) fun y hy => by
      rcases List.mem_cons.mp hy with rfl | hy
      · exact ht
      · exact hts y hy
    have e : n + piled (t :: ts) = n + (t.length + 2) + piled ts := by rw [piled_cons]; omega
    rw [e] at h1
    simpa using h1
theorem piled_le {k : Nat} : ∀ ts : List Str, (∀ t ∈ ts, t.length ≤ k) → piled ts ≤ ts.length * (k + 2)
  | [], _ => by simp [piled]
  | t :: ts, h => by
    rw [piled_cons, List.length_cons, Nat.add_mul, Nat.one_mul]
    have := piled_le ts fun x hx => h x (by simp [hx])
    have := h t (by simp)
    omega
theorem some_rest {s : Shared} {a : Addr} {o : Obj} {items : Array Value} {n b k : Nat} {Q : PySem.Fin → Shared → Prop} (hu : A.units + d < cLine) (hk : ∀ a o, h0.get? a = some o → s.heap.get? a = some o) (ha : s.heap.get? a = some o) (hd : o.data = .seq items n)
    (hT : ∀ x ∈ items.toList, SomeR prog w h0 d x k) (h : ∀ (m : Str) u tk, m.length ≤ items.size * (k + 2) + 2 → Q (.done (.ret (.str m u))) { s with toks := tk }) (hsz : b + (items.size * (k + 2) + 2) ≤ sizeLine) :
    wpAny (model prog w) A (tupleReprRest b (.ref a)) Q E s := by
  unfold tupleReprRest Builtin.Tuple.tupleItemsOf
  refine wpAny_bind (wpAny_bind (wpAny_seqItems ha hd (wpAny_pure ?_)))
  rw [← Array.forIn_toList]
  refine wpAny_bind (some_fold hu _ _ _ _ _ hT (by simp only [Array.length_toList]; omega) hk fun ts tk hl hts => ?_)
  have hl2 : ts.length = items.size := by simpa using hl
  have tl := PySem.fmt_text ts
  have pl := piled_le ts hts
  rw [hl2] at pl
  refine wpAny_bind (wpAny_mkStr (wpAny_pure ?_) (by
    have : (tupleText ts).length ≤ sizeLine := by omega
    simpa [tupleText, hl2] using this))
  have h1 := h (tupleText ts) tk (tk + 1) (by omega)
  simpa [tupleText, hl2] using h1
theorem way5 : ("(...)" : Str).length ≤ 5 := by decide +kernel
theorem some_at {s : Shared} {a : Addr} {o : Obj} {items : Array Value} {n b k K : Nat} {Q : PySem.Fin → Shared → Prop} (hu : A.units + d < cLine) (hk : ∀ a o, h0.get? a = some o → s.heap.get? a = some o) (ha : s.heap.get? a = some o) (hd : o.data = .seq items n)
    (hT : ∀ x ∈ items.toList, SomeR prog w h0 d x k) (hK : items.size * (k + 2) + 7 ≤ K) (h : ∀ (m : Str) u tk, m.length ≤ K → Q (.done (.ret (.str m u))) { s with toks := tk }) (hsz : b + K ≤ sizeLine) : wpAny (model prog w) A (Builtin.tupleReprAt b ⟨[.ref a], []⟩) Q E s := by
  rw [tuple_repr_tree]
  refine wpAny_bind (fmt_underWay fun c => ?_)
  cases c with
  | true =>
    refine PySem.W.KFB.if_so rfl ?_
    refine wpAny_bind (wpAny_rule ?_)
    refine wpAny_bind (wpAny_mkStr (wpAny_pure ?_) (by decide +kernel))
    exact h "(...)" _ _ (Nat.le_trans way5 (by omega))
  | false =>
    refine PySem.W.KFB.if_not rfl ?_
    exact some_rest hu hk ha hd hT (fun m u tk hm => h m u tk (by omega)) (by omega)
theorem SomeR.tuple {a : Addr} {o : Obj} {items : Array Value} {n k K : Nat} (ha : h0.get? a = some o) (hc : o.cls = .type "tuple") (hd : o.data = .seq items n) (hT : ∀ x ∈ items.toList, SomeR prog w h0 d x k) (hK : items.size * (k + 2) + 7 ≤ K) : SomeR prog w h0 (d + 2) (.ref a) K := fun b hb A E s Q hu hk h => by
  refine wpAny_pyReprUnder_ref (by omega) (wpAny_pyReprObjUnder_twin (twin := "tuple.__repr__.under") ⟨o, hk _ _ ha, hc⟩ F.slot_tuple_repr rfl (by omega) ?_)
  refine call_twin_own (F.quiet_tuple_repr_under _) F.entry_tuple_repr_under F.check_tuple_repr_under ⟨o, hk _ _ ha, hc⟩ F.slot_tuple_repr (F.args_tuple_repr_1 _) (wpOwn_of_wpAny ?_)
  refine some_at (h0 := h0) (d := d) (K := K) (by rw [units_under_tuple_repr_under]; omega) hk (hk _ _ ha) hd hT hK (fun m u tk hm => ?_) hb
  exact ⟨⟨m, u, rfl⟩, m, u, rfl, h m tk hm⟩
end
section
variable {prog : Program} {w : World} {A : Around} {E : Value → Shared → Prop} {h0 : Heap} {d : Nat}
theorem some_fmt {s : Shared} {a : Addr} {o : Obj} {items : Array Value} {n k K : Nat} {Q : Value → Shared → Prop} (hu : A.units + d + 4 < cLine) (hk : ∀ a o, h0.get? a = some o → s.heap.get? a = some o) (ha : s.heap.get? a = some o) (hc : o.cls = .type "tuple") (hd : o.data = .seq items n)
    (hT : ∀ x ∈ items.toList, SomeR prog w h0 d x k) (hK : items.size * (k + 2) + 7 ≤ K) (hsz : K ≤ sizeLine) (h : ∀ (m : Str) (u tk : Tok), m.length ≤ K → Q (.str m u) { s with toks := tk }) : wpAny (model prog w) A (formatField (.ref a) Str.empty) Q E s := by
  refine wpAny_formatField_slot (fun _ _ => nofun) (by omega) ⟨o, ha, hc⟩ F.slot_tuple_format F.slot_tuple_str F.slot_tuple_repr ?_
  refine wpAny_call (codeAny_call_builtin_own (Code.quiet_builtin _ (by decide +kernel)) F.entry_tuple_repr (F.slot_tuple_repr.check _ _ _ _ _ _ _ _ ⟨o, ha, hc⟩ (F.args_tuple_repr_1 _) (wpOwn_of_wpAny ?_)))
  refine some_at (h0 := h0) (d := d) (K := K) (b := 0) (by rw [units_under_tuple_repr]; show A.units + 1 + 1 + 1 + d < cLine; omega) hk ha hd hT hK (fun m u tk hm => ?_) (by omega)
  exact ⟨m, u, rfl, h m u tk hm⟩
end
def PairI (K : PySem.W.Frag) (H : Hp) (v : V) : Prop := ∃ (a b c : Addr) (xs ys : List Int), v = .ref a ∧ SqT K H a [.ref b, .ref c] ∧ SqT K H b (xs.map .int) ∧ SqT K H c (ys.map .int) ∧ xs.length ≤ 100 ∧ ys.length ≤ 100 ∧ (∀ i ∈ xs, i.natAbs.log2 < 1920) ∧ ∀ i ∈ ys, i.natAbs.log2 < 1920
theorem ints_some {X : Cx} {h0 : Heap} {d : Nat} : ∀ {xs : List Int} {its : List Value}, Vals (xs.map V.int) its → (∀ i ∈ xs, i.natAbs.log2 < 1920) → ∀ x ∈ its, SomeR X.prog X.w h0 d x 1921
  | [], _, r, _ => by
    cases r
    exact fun _ z => nomatch z
  | i :: xs, _, r, h => by
    cases r with
    | cons r1 r2 =>
      obtain ⟨t, rfl⟩ := r1
      intro x hx
      rcases List.mem_cons.mp hx with rfl | hx
      · exact SomeR.int t (h i (by simp))
      · exact ints_some r2 (fun j hj => h j (by simp [hj])) x hx
theorem fmtP_run {X : Cx} {pins : List (Addr × Obj)} {σ : L2.St} {H1 : Hp} {s1 : Shared} {x : V} {v : Value} {Q : VK} {k : Nat} (hr : Room k X.A) (I1 : Inv X pins σ H1 s1) (r1 : RelV x v) (hp : PairI X.K H1 x) (q : ∀ m : Str, m.length ≤ 400000 → Q (.str m) H1) : wpAny (model X.prog X.w) X.A (formatField v Str.empty) (EP X pins σ Q) X.xe s1 := by
  obtain ⟨a, b, c, xs, ys, rfl, ha, hb, hc, lx, ly, sx, sy⟩ := hp
  cases r1
  obtain ⟨its, rv, ⟨o, ho, hcl, n, hd⟩, _⟩ := I1.tuple ha
  obtain ⟨itb, rb, ⟨ob, hob, hclb, nb, hdb⟩, _⟩ := I1.tuple hb
  obtain ⟨itc, rc, ⟨oc, hoc, hclc, nc, hdc⟩, _⟩ := I1.tuple hc
  have lb : itb.length = xs.length := by rw [← Paired.length rb, List.length_map]
  have lc : itc.length = ys.length := by rw [← Paired.length rc, List.length_map]
  have hu := hr.units
  obtain ⟨u1, u2, rfl, w1, w2⟩ := vals2 rv
  cases w1
  cases w2
  have sb := SomeR.tuple (prog := X.prog) (w := X.w) (h0 := s1.heap) (d := 0) (K := 192400) hob hclb hdb (by simpa using ints_some rb sx) (by
    have : itb.toArray.size = xs.length := by simpa using lb
    rw [this]; omega)
  have sc := SomeR.tuple (prog := X.prog) (w := X.w) (h0 := s1.heap) (d := 0) (K := 192400) hoc hclc hdc (by simpa using ints_some rc sy) (by
    have : itc.toArray.size = ys.length := by simpa using lc
    rw [this]; omega)
  refine some_fmt (h0 := s1.heap) (d := 2) (K := 400000) (by omega) (fun _ _ e => e) ho hcl hd (k := 192400) (fun x hx => ?_) (by simp) (by rw [sizeLine_eq]; decide) fun m u tk hm => ⟨.str m, H1, I1.tok _, ⟨u, rfl⟩, q m hm⟩
  simp only [List.mem_cons, List.not_mem_nil, or_false] at hx
  rcases hx with rfl | rfl
  · exact sb
  · exact sc
end Tw

namespace Tw
open PySem PySem.Spec PyProof.Rows L2
section
variable {X : Cx} {o e : Expr} {es : List Expr} {to te : TE} {ta : TA} {f : Str} {p p' p1 p2 pos : Pos} {B newId initId : String} {bm : List Value}
def tXInit (K : PySem.W.Frag) (newId : String) (bm : List Value) (ta : TA) : TE := fun σ H Q => ta σ H fun vs H1 => ∃ (a C : Addr) (ws : List V), vs = .ref a :: ws ∧ ws.length ≤ 1000 ∧ XC K newId bm C ∧ H1 a = some (exo a C none) ∧ Q .non H1
def tXSet (K : PySem.W.Frag) (newId : String) (bm : List Value) (f : Str) (to te : TE) : TS := fun D σ H => te σ H fun y H1 => to σ H1 fun x H2 => ∃ a C : Addr, x = .ref a ∧ XC K newId bm C ∧ PySem.W.findIn K (.ref C) f = some none ∧ H2 a = some (exo a C none) ∧
  ∀ dx, H2 dx = none → dx ≠ a → D.nx σ (upd (upd H2 dx (exd dx [(f, y)])) a (exo a C (some dx)))
theorem pe_xinit {pl : Sem Bool} (SB : XBase B newId initId bm) (hg : Gl X (Str.ofString B)) (hm : X.mg (Str.ofString B) = none) (ha : PA X (e :: es) ta) (nb : Str.ofString B ≠ "__name__" := by decide) (db : (Str.ofString B == ("__debug__" : Str)) = false := by decide)
    (hc : eval (.Call (.Attribute (.Name (Str.ofString B) p1) "__init__" p2) (e :: es) [] pos) X.env = (do
      let ov ← eval (.Name (Str.ofString B) p1) X.env
      standAt p2.atName
      let (f, first) ← holding [ov] (getMethod ov "__init__" pl)
      callWith pos f first (backTo pos (starEach (e :: es) X.env)) (backToKw pos (keywordEach [] X.env))) := by rfl)
    (he : starEach (e :: es) X.env = (false, eval e X.env) :: starEach es X.env := by rfl) (hpl : (backTo pos (starEach es X.env)).any (·.1) = false := by rfl) :
    PE X (.Call (.Attribute (.Name (Str.ofString B) p1) "__init__" p2) (e :: es) [] pos) (tXInit X.K newId bm ta) := by
  refine ⟨fun pins s σ H Q I h => PySem.W.methodCall_KW (ld_blt I hg hm SB.boot ?_ nb db) hc⟩
  obtain ⟨m, fr⟩ := I.fr
  refine PySem.W.method_type fr I.ok.mod.kin SB.ty SB.stub (SB.get _) SB.hand ?_
  show wpAny _ _ (callWith pos (Value.builtin initId) [] (backTo pos (starEach (e :: es) X.env)) []) _ _ _
  refine PyProof.Rows.callWith_method1 (thn (ha.run pos pins _ σ H _ (I.tok _) h) fun us s1 ⟨vs, H1, I1, r1, a, C, ws, ev, hl, T, ea, q⟩ => ?_) he hpl
  subst ev
  cases r1 with
  | @cons _ u _ ur ra rw' =>
    cases (show u = Value.ref a from ra)
    exact xc_init SB T I1 ea (by rw [← Paired.length rw', sizeLine_eq]; omega) fun s' J => ⟨.non, H1, J, rfl, q⟩
theorem ps_xset (SB : XBase B newId initId bm) (ho : PE X o to) (he : PE X e te) (hs : swapsWith e (some (.Attribute o f p')) pos.line X.env = pure false := by rfl) : PS X (.Assign [.Attribute o f p'] e pos) (tXSet X.K newId bm f to te) := by
  refine ⟨fun pins s σ H D I h => plainObj_wpAny_Assign_Attribute (thn (he.run pins s σ H _ I h) fun v s1 ⟨y, H1, I1, r1, q1⟩ => thn (ho.run pins s1 σ H1 _ I1 q1) fun u s2 ⟨x, H2, I2, r2, a, C, ex, T, hno, ea, q⟩ => ?_) hs⟩
  subst ex
  cases (show u = Value.ref a from r2)
  exact xc_store SB T I2 ea hno r1 fun dx s' n ne J => ⟨σ, _, J, q dx n ne⟩
end
def spXI (C : Addr) (ns : List Str) (good : List V → Hp → Prop) : Sp := fun vs H Q _ => ∃ a ws, vs = .ref a :: ws ∧ ws.length = ns.length ∧ H a = some (exo a C none) ∧ good ws H ∧ (ns = [] → Q .non H) ∧
  ∀ f v, ns = [f] → ws = [v] → ∀ dx, H dx = none → dx ≠ a → Q .non (upd (upd H dx (exd dx [(f, v)])) a (exo a C (some dx)))
structure Mkr (P : Program) (w : World) (K : PySem.W.Frag) (mg : Str → Option Value) (base : Heap) (x : Str) (k : Nat) (B newId initId : String) (bm : List Value) (C : Addr) (ns : List Str) (good : List V → Hp → Prop) : Prop where
  xb : XBase B newId initId bm
  xc : XC K newId bm C
  gl : mg x = some (.ref C)
  ini : ∃ fI fd ps, PySem.W.findIn K (.ref C) "__init__" = some (some (.ref fI)) ∧ PySem.W.typeIn K (.ref fI) = some (.type "function") ∧ Binds K fd ps [] ∧ FnOk P w K mg base (L2.CX P w) k fI fd ps (spXI C ns good)
  lay : ∀ ws H a o, H a = none → good ws H → good ws (upd H a o)
theorem Mkr.mono {P : Program} {w : World} {K : PySem.W.Frag} {mg : Str → Option Value} {base : Heap} {x : Str} {j k : Nat} {B newId initId : String} {bm : List Value} {C : Addr} {ns : List Str} {good : List V → Hp → Prop} (m : Mkr P w K mg base x j B newId initId bm C ns good) (h : j ≤ k) : Mkr P w K mg base x k B newId initId bm C ns good := by
  obtain ⟨xb, xc, gl, ⟨fI, fd, ps, a, b, c, F⟩, l⟩ := m
  exact ⟨xb, xc, gl, ⟨fI, fd, ps, a, b, c, F.mono h⟩, l⟩
def tMkX (C : Addr) (ns : List Str) (good : List V → Hp → Prop) (ta : TA) : L2.St → Hp → XK → Prop := fun σ H Q => ta σ H fun vs H1 => vs.length = ns.length ∧ good vs H1 ∧ (ns = [] → Q (.ref C) none H1) ∧
  ∀ f v, ns = [f] → vs = [v] → ∀ d, H1 d = none → Q (.ref C) (some d) (upd H1 d (.xd [(f, v)]))
section
variable {X : Cx} {pins : List (Addr × Obj)} {σ : L2.St} {H1 H2 : Hp} {Q : XK} {hp hp2 h2 : Heap} {g1 g2 : Array GenState} {d1 d2 : Drawn} {t1 t2 : Nat} {os1 os2 : OsState} {a C : Addr}
theorem mk_bare (T : Raises X (.ref C)) (I1 : Inv X pins σ H1 ⟨hp, g1, d1, t1, os1⟩) (ha : hp.objs.size ≤ a) (k : ∀ b o, hp.get? b = some o → hp2.get? b = some o) (un : Un (frs X.stack) [] (upd H1 a (exo a C none)) (upd H1 a (exo a C none)) hp2 h2)
    (hok : HOk X.prog X.w (upd H1 a (exo a C none)) h2) (ho : os2 = os1) (hb : AllBare g2) (q : Q (.ref C) none H1) : MkP X pins σ Q (.ref a) ⟨h2, g2, d2, t2, os2⟩ := by
  obtain ⟨t0, hoe⟩ := exo_at hok upd_same
  have hn : H1 a = none := I1.hok.fresh ha
  obtain ⟨G, r1, r2⟩ := restrict h2 fun b => decide (b ≠ a)
  have gk : ∀ b, b ≠ a → G.get? b = h2.get? b := fun b z => r1 b (decide_eq_true z)
  have ge : G.get? a = none := r2 a (by simp)
  have nha : ∀ {b : Addr} {o : Obj}, hp.get? b = some o → b ≠ a := fun z => Nat.ne_of_lt (Nat.lt_of_lt_of_le (Heap.lt_size z) ha)
  have back : ∀ {b : Addr} {u : Option HO}, b ≠ a → H1 b = u → upd H1 a (exo a C none) b = u := fun z e => by rw [upd_ne z]; exact e
  have U : Un (frs X.stack) [] H1 H1 hp G := {
    keep := fun b o z n x y => by rw [gk b (nha z)]; exact un.keep b o (k b o z) (back (nha z) n) x y
    slot := fun b o z n x y => by rw [gk b (nha z)]; exact un.slot b o (k b o z) (back (nha z) n) x y
    free := fun b o z n x => n
    there := fun b o z x => by rw [gk b (nha z)]; exact un.there b o (k b o z) x
    tups := fun b xs z => z
    frzs := fun b o v z => z
    tbls := fun b ps z => ⟨#[], by rw [z]; simp⟩ }
  have hok3 : HOk X.prog X.w H1 G := fun b o z => by
    have nb : b ≠ a := fun e => by rw [e, hn] at z; cases z
    refine (hok b o (by rw [upd_ne nb]; exact z)).stay (fun c v hc y => ?_) (fun c hc => ?_) fun c xs hc => ?_
    · have nc : c ≠ a := by
        rcases hc with rfl | hc
        · exact nb
        · exact fun e => by rw [e, upd_same] at hc; exact exo_own (Option.some.inj hc)
      rw [gk c nc]
      exact y
    · have nc : c ≠ a := fun e => by rw [e, upd_same] at hc; exact exo_own (Option.some.inj hc)
      rw [upd_ne nc] at hc
      exact hc
    · have nc : c ≠ a := fun e => by rw [e, upd_same] at hc; exact exo_tup (Option.some.inj hc)
      rw [upd_ne nc] at hc
      exact hc
  have J : Inv X pins σ H1 ⟨G, g2, d2, t2, os2⟩ := I1.call' (ch := []) ho U hok3 hb (fun b z => absurd z (by simp))
  refine ⟨a, _, _, ⟨G, g2, d2, t2, os2⟩, _, .ref C, none, rfl, J, fun b o z => ?_, ge, hoe, ⟨rfl, rfl⟩, rfl, rfl, hn, rfl, hb, T, q⟩
  by_cases z2 : b = a
  · rw [z2, ge] at z; cases z
  · exact (gk b z2).symm.trans z
end
theorem del_back {H1 : Hp} {a d C : Addr} {o o2 u w : HO} (n : H1 a = none) (nd : d ≠ a) : upd (del (upd (upd (upd H1 a o2) d o) a u) a) d w = upd H1 d w := by
  funext b
  by_cases z : b = d
  · rw [z, upd_same, upd_same]
  · rw [upd_ne z, upd_ne z]
    by_cases y : b = a
    · rw [y, del_same, n]
    · rw [del_ne y, upd_ne y, upd_ne z, upd_ne y]
section
variable {X : Cx} {pins : List (Addr × Obj)} {σ : L2.St} {H1 : Hp} {Q : XK} {s1 : Shared} {us : List Value} {vs : List V} {x : Str} {k : Nat} {B newId initId : String} {bm : List Value} {C : Addr} {ns : List Str} {good : List V → Hp → Prop}
theorem mkx_run (M : Mkr X.prog X.w X.K X.mg X.base x k B newId initId bm C ns good) (hr : Room (k + 1) X.A) (I1 : Inv X pins σ H1 s1) (r1 : Vals vs us) (hl0 : vs.length = ns.length) (hn1 : ns.length ≤ 1) (gd : good vs H1) (q0 : ns = [] → Q (.ref C) none H1)
    (q1 : ∀ f v, ns = [f] → vs = [v] → ∀ d, H1 d = none → Q (.ref C) (some d) (upd H1 d (.xd [(f, v)]))) : wpAny (model X.prog X.w) X.A (call (.ref C) us) (MkP X pins σ Q) X.xe s1 := by
  obtain ⟨SB, T, hm, ⟨fI, fd, ps, iC, tI, hb, F1⟩, lay⟩ := M
  obtain ⟨nm, N, qn, bs, bm', hdct, sn, sub, ab, col, dd, k0, k1, k2, k3, k5, hC, hbm⟩ := PySem.W.excInit_of I1.kIn T.obj
  obtain ⟨hp, g, dr, tk, os⟩ := s1
  have hsz : hp.objs.size ≤ hp.objs.size + 1 := Nat.le_succ _
  have hn : H1 (hp.objs.size + 1) = none := I1.hok.fresh hsz
  have raises : Raises X (.ref C) := raises_own (T.exC SB.F) T.tyC
  have keeps : ∀ b o, hp.get? b = some o → ((hp.push (PySem.W.kdv_tup us)).push (PySem.HandSPX.excO C hp.objs.size)).get? b = some o := fun b o e => Heap.get?_push_of_some _ (Heap.get?_push_of_some _ e)
  have at2 : ((hp.push (PySem.W.kdv_tup us)).push (PySem.HandSPX.excO C hp.objs.size)).get? (hp.objs.size + 1) = some (PySem.HandSPX.excO C hp.objs.size) := by heap_get
  have J : Inv X pins σ (upd H1 (hp.objs.size + 1) (exo (hp.objs.size + 1) C none)) ⟨(hp.push (PySem.W.kdv_tup us)).push (PySem.HandSPX.excO C hp.objs.size), g, dr, tk, os⟩ :=
    I1.laid (t' := tk) (a := hp.objs.size + 1) (o := exo (hp.objs.size + 1) C none) (h' := (hp.push (PySem.W.kdv_tup us)).push (PySem.HandSPX.excO C hp.objs.size)) keeps hsz (exo_ok at2)
  have r2 : Vals (V.ref (hp.objs.size + 1) :: vs) (Value.ref (hp.objs.size + 1) :: us) := .cons rfl r1
  -- the answer of __init__
  let Q' : VK := fun v H' => v = .non ∧ ((ns = [] ∧ H' = upd H1 (hp.objs.size + 1) (exo (hp.objs.size + 1) C none)) ∨
    ∃ f u dx, ns = [f] ∧ vs = [u] ∧ upd H1 (hp.objs.size + 1) (exo (hp.objs.size + 1) C none) dx = none ∧ dx ≠ hp.objs.size + 1 ∧ H' = upd (upd (upd H1 (hp.objs.size + 1) (exo (hp.objs.size + 1) C none)) dx (exd dx [(f, u)])) (hp.objs.size + 1) (exo (hp.objs.size + 1) C (some dx)))
  have sp : spXI C ns good (V.ref (hp.objs.size + 1) :: vs) (upd H1 (hp.objs.size + 1) (exo (hp.objs.size + 1) C none)) Q' (fun _ _ _ => False) :=
    ⟨_, vs, rfl, hl0, upd_same, lay _ _ _ _ hn gd, fun e => ⟨rfl, .inl ⟨e, rfl⟩⟩, fun f v e1 e2 dx n1 n2 => ⟨rfl, .inr ⟨f, v, dx, e1, e2, n1, n2, rfl⟩⟩⟩
  have hl : (Value.ref (hp.objs.size + 1) :: us).length = ps.length := by rw [← r2.length]; exact F1.len _ _ _ _ sp
  have hus : us.length ≤ sizeLine := by
    rw [← Paired.length r1, hl0, sizeLine_eq]
    omega
  refine wpAny_call (PySem.HandSPX.call_own SB.F hbm hC (PySem.W.looks_findIn I1.kIn iC) (fun self => PySem.W.bind_fn I1.kIn self tI) hus
    (codeAny_mono (F1.run _ X.stack _ _ ⟨Value.ref (hp.objs.size + 1) :: us, []⟩ (Value.ref (hp.objs.size + 1) :: us) _ Q' (fun _ _ _ => False) (hr.make C us []) (J.env0.make C us []) (by simpa using hb _ (Value.ref (hp.objs.size + 1) :: us) J.kIn (by rw [List.append_nil]; exact hl)) r2 sp) fun r s' z => ?_))
  cases r with
  | error er => obtain ⟨_, _, _, _, _, _, _, _, _, _, _, _, w⟩ := z; exact w.elim
  | ok fl =>
    cases fl with
    | ret u =>
      obtain ⟨v, H2, o2, b2, un2, hok2, rv, ev, q⟩ := z
      subst ev
      refine ⟨rv, ?_⟩
      obtain ⟨h2, g2, d2, t2, os'⟩ := s'
      rcases q with ⟨e1, rfl⟩ | ⟨f, y, dx, e1, e2, n1, n2, rfl⟩
      · exact mk_bare raises I1 hsz keeps un2 hok2 o2 b2 (q0 e1)
      · rw [upd_ne n2] at n1
        refine mk_end (fs := [(f, y)]) raises I1 hsz keeps un2 hok2 o2 b2 upd_same (by rw [upd_ne n2, upd_same]) n1 ?_
        have e := del_back (H1 := H1) (a := hp.objs.size + 1) (d := dx) (C := C) (o := exd dx [(f, y)]) (o2 := exo (hp.objs.size + 1) C none) (u := exo (hp.objs.size + 1) C (some dx)) (w := .xd [(f, y)]) hn n2
        rw [e]
        exact q1 f y e1 e2 dx n1
    | next => exact False.elim z
    | brk => exact False.elim z
    | cont => exact False.elim z
end
section
variable {X : Cx} {x : Str} {k : Nat} {B newId initId : String} {bm : List Value} {C : Addr} {ns : List Str} {good : List V → Hp → Prop} {e : Expr} {es : List Expr} {ta : TA} {p pos : Pos}
theorem pmk_x (M : Mkr X.prog X.w X.K X.mg X.base x k B newId initId bm C ns good) (hn1 : ns.length ≤ 1) (hr : Room (k + 1) X.A) (hg : Gl X x) (ha : PA X (e :: es) ta) (hdb : (x == ("__debug__" : Str)) = false := by decide) (he : starEach (e :: es) X.env = (false, eval e X.env) :: starEach es X.env := by rfl) (hpl : (backTo pos (starEach es X.env)).any (·.1) = false := by rfl) :
    PMk X (.Call (.Name x p) (e :: es) [] pos) (tMkX C ns good ta) := by
  intro pins s σ H Q I h
  refine wpAny_Call_Name_kw (ld_glob I hg M.gl ?_ hdb)
  refine PySem.W.callWith_K (h₀ := X.base) I.ok.mod.kin M.xc.kC (thn (ha.run pos pins s σ H _ I h) fun us s1 ⟨vs, H1, I1, r1, l, gd, q0, q1⟩ => ⟨I1.kIn, ?_⟩) he hpl
  exact mkx_run M hr I1 r1 l hn1 gd q0 q1
theorem pmk_x0 (M : Mkr X.prog X.w X.K X.mg X.base x k B newId initId bm C [] good) (hr : Room (k + 1) X.A) (hg : Gl X x) (hdb : (x == ("__debug__" : Str)) = false := by decide) : PMk X (.Call (.Name x p) [] [] pos) (fun σ H Q => good [] H ∧ Q (.ref C) none H) := by
  intro pins s σ H Q I ⟨gd, q⟩
  refine wpAny_Call_Name_kw (ld_glob I hg M.gl ?_ hdb)
  exact PySem.W.callWith_K0 I.kIn M.xc.kC (mkx_run M hr I .nil rfl (Nat.zero_le _) gd (fun _ => q) fun f v e => nomatch e)
end
def smI : D → Bool
  | .int i => decide (i.natAbs.log2 < 1920)
  | _ => false
def okI (xs : List D) : Bool := decide (xs.length ≤ 100) && xs.all smI
def okX (xs : List D) : Bool := match xs with
  | [] => true
  | [.int i] => decide (i.natAbs.log2 < 1920)
  | [.str s] => decide (s.length ≤ 1000000)
  | [.tup [.tup xs, .tup ys]] => okI xs && okI ys
  | _ => false
def goodI (K : PySem.W.Frag) (vs : List V) (H : Hp) : Prop := vs = [] ∨ (∃ i : Int, vs = [.int i] ∧ i.natAbs.log2 < 1920) ∨ (∃ y : Str, vs = [.str y] ∧ y.length ≤ 1000000) ∨ ∃ v, vs = [v] ∧ PairI K H v
theorem okI_rep {K : PySem.W.Frag} {mg : Str → Option Value} {ρ : List Addr} {H : Hp} {xs : List D} {vs : List V} {S : List Addr} (o : okI xs = true) (r : RepL K mg ρ H xs vs S) : S = [] ∧ ∃ ns : List Int, vs = ns.map .int ∧ ns.length ≤ 100 ∧ ∀ i ∈ ns, i.natAbs.log2 < 1920 := by
  unfold okI at o
  simp only [Bool.and_eq_true, decide_eq_true_eq] at o
  obtain ⟨hl, ha⟩ := o
  have key : ∀ {xs : List D} {vs : List V} {S : List Addr}, xs.all smI = true → RepL K mg ρ H xs vs S → S = [] ∧ ∃ ns : List Int, vs = ns.map .int ∧ ns.length = xs.length ∧ ∀ i ∈ ns, i.natAbs.log2 < 1920 := by
    intro xs
    induction xs with
    | nil => intro vs S _ r; cases r; exact ⟨rfl, [], rfl, rfl, fun _ z => nomatch z⟩
    | cons x xs ih =>
      intro vs S e r
      rw [List.all_cons, Bool.and_eq_true] at e
      cases r with
      | cons r1 r2 =>
        obtain ⟨e2, ns, rfl, hl, hs⟩ := ih e.2 r2
        cases x with
        | int i =>
          cases r1
          subst e2
          exact ⟨rfl, i :: ns, rfl, by simp [hl], fun j hj => by
            rcases List.mem_cons.mp hj with rfl | hj
            · simpa [smI] using e.1
            · exact hs j hj⟩
        | _ => simp [smI] at e
  obtain ⟨e, ns, h1, h2, h3⟩ := key ha r
  exact ⟨e, ns, h1, by omega, h3⟩
theorem SqT.laid {K : PySem.W.Frag} {H : Hp} {a b : Addr} {o : HO} {xs : List V} (h : SqT K H a xs) (n : H b = none) : SqT K (upd H b o) a xs := by
  rcases h with (h | ⟨oe, h⟩) | h
  · exact .inl (.inl (by rw [upd_ne (fun z => by rw [z, n] at h; cases h)]; exact h))
  · exact .inl (.inr ⟨oe, by rw [upd_ne (fun z => by rw [z, n] at h; cases h)]; exact h⟩)
  · exact .inr h
theorem good_lay {K : PySem.W.Frag} (ws : List V) (H : Hp) (a : Addr) (o : HO) (n : H a = none) (g : goodI K ws H) : goodI K ws (upd H a o) := by
  rcases g with g | g | g | ⟨v, e, a', b, c, xs, ys, e2, h1, h2, h3, r⟩
  · exact .inl g
  · exact .inr (.inl g)
  · exact .inr (.inr (.inl g))
  · exact .inr (.inr (.inr ⟨v, e, a', b, c, xs, ys, e2, SqT.laid h1 n, SqT.laid h2 n, SqT.laid h3 n, r⟩))
section
variable {X : Cx} {Wx : WX} {x : Str} {k : Nat} {B newId initId : String} {bm : List Value} {C : Addr} {ns : List Str} {e : Expr} {es : List Expr} {mas : MA} {p pos rpos : Pos}
theorem okX_rep {K : PySem.W.Frag} {mg : Str → Option Value} {ρ : List Addr} {H : Hp} {ds : List D} {vs : List V} {S : List Addr} (r : RepL K mg ρ H ds vs S) (o : okX ds = true) : S = [] ∧ goodI K vs H := by
  unfold okX at o
  split at o
  · cases r; exact ⟨rfl, .inl rfl⟩
  · rename_i i
    cases r with
    | cons r1 r2 =>
      cases r1
      cases r2
      exact ⟨rfl, .inr (.inl ⟨i, rfl, of_decide_eq_true o⟩)⟩
  · rename_i y
    cases r with
    | cons r1 r2 =>
      cases r1
      cases r2
      exact ⟨rfl, .inr (.inr (.inl ⟨y, rfl, of_decide_eq_true o⟩))⟩
  · rename_i xs ys
    rw [Bool.and_eq_true] at o
    cases r with
    | cons r1 r2 =>
      cases r2
      cases r1 with
      | tup ha t =>
        cases t with
        | cons t1 t2 =>
          cases t2 with
          | cons t2 t3 =>
            cases t3
            cases t1 with
            | tup hb u1 =>
              cases t2 with
              | tup hc u2 =>
                obtain ⟨rfl, ns, rfl, l1, s1⟩ := okI_rep o.1 u1
                obtain ⟨rfl, ms, rfl, l2, s2⟩ := okI_rep o.2 u2
                exact ⟨rfl, .inr (.inr (.inr ⟨_, rfl, _, _, _, ns, ms, rfl, ha.sq, hb.sq, hc.sq, l1, l2, s1, s2⟩))⟩
  · cases o
end
end Tw

namespace Tw
open PySem PySem.Spec PyProof.Rows L2
section
variable {M : Model} {K : PySem.W.Frag} {A : Around} {E : Value → Shared → Prop} {s : Shared}
end
section
variable {M : Model} {K : PySem.W.Frag}
end
inductive NamesL (X : Cx) : List Expr → List Value → Prop
  | nil : NamesL X [] []
  | cons {x : Str} {c : Value} {np : Pos} {es : List Expr} {cs : List Value} (h : Names X x c) (r : NamesL X es cs) : NamesL X (.Name x np :: es) (c :: cs)
theorem NamesL.len {X : Cx} {es : List Expr} {cs : List Value} (n : NamesL X es cs) : es.length = cs.length := by
  induction n with
  | nil => rfl
  | cons _ _ ih => simp [ih]
def xHO (a : Addr) (oe : Obj) : HO := .frz oe (.ext fun h => ∃ o, h.get? a = some o)
section
variable {X : Cx} {n m : Str} {i j : Nat} {cs : List Value} {body : List Stmt} {es : List Expr} {kk : Nat} {tpos pos pos' pos2 p1 p2 : Pos} {tb : WX → TS} {Wout : WX}
end
end Tw

namespace Tw
open PySem PySem.Spec PyProof.Rows L2
def baseMro : String → List Value
  | "ValueError" => [.type "ValueError", .type "Exception", .type "BaseException", .type "object"]
  | "LookupError" => [.type "LookupError", .type "Exception", .type "BaseException", .type "object"]
  | "RuntimeError" => [.type "RuntimeError", .type "Exception", .type "BaseException", .type "object"]
  | "OverflowError" => [.type "OverflowError", .type "ArithmeticError", .type "Exception", .type "BaseException", .type "object"]
  | _ => []
structure XIs (K : PySem.W.Frag) (mg : Str → Option Value) (x : Str) (B : String) (fs : List Str) (c : Addr) : Prop where
  gl : mg x = some (.ref c)
  xb : ∃ newId initId, XBase B newId initId (baseMro B) ∧ XC K newId (baseMro B) c
  fl : ∀ f ∈ fs, PySem.W.findIn K (.ref c) f = some none
abbrev XTb := List (Str × String × List Str)
structure XTab (K : PySem.W.Frag) (mg : Str → Option Value) (T : XTb) : Prop where
  ex : ∃ as : List Addr, as.Nodup ∧ Paired (fun t c => XIs K mg t.1 t.2.1 t.2.2 c) T as
section
variable {K : PySem.W.Frag} {mg : Str → Option Value}
theorem XTab.get {T : XTb} (h : XTab K mg T) {t : Str × String × List Str} (m : t ∈ T) : ∃ c, XIs K mg t.1 t.2.1 t.2.2 c := by
  obtain ⟨as, nd, p⟩ := h.ex
  clear h nd
  induction p with
  | nil => cases m
  | cons r _ ih =>
    rcases List.mem_cons.mp m with rfl | m
    · exact ⟨_, r⟩
    · exact ih m
theorem paired_mem {T : XTb} {as : List Addr} (p : Paired (fun t c => XIs K mg t.1 t.2.1 t.2.2 c) T as) {t : Str × String × List Str} (m : t ∈ T) : ∃ c ∈ as, XIs K mg t.1 t.2.1 t.2.2 c := by
  induction p with
  | nil => cases m
  | cons r _ ih =>
    rcases List.mem_cons.mp m with rfl | m
    · exact ⟨_, List.mem_cons_self .., r⟩
    · obtain ⟨c, h1, h2⟩ := ih m
      exact ⟨c, List.mem_cons_of_mem _ h1, h2⟩
theorem XTab.inj {T : XTb} (h : XTab K mg T) {t u : Str × String × List Str} (mt : t ∈ T) (mu : u ∈ T) {c : Addr} (e1 : mg t.1 = some (.ref c)) (e2 : mg u.1 = some (.ref c)) : t = u := by
  obtain ⟨as, nd, p⟩ := h.ex
  clear h
  induction p with
  | nil => cases mt
  | @cons t0 c0 T' as' r p' ih =>
    rw [List.nodup_cons] at nd
    rcases List.mem_cons.mp mt with z1 | mt2
    · rcases List.mem_cons.mp mu with z2 | mu2
      · rw [z1, z2]
      · exfalso
        obtain ⟨d, md, xd⟩ := paired_mem p' mu2
        have a := r.gl.symm.trans (z1 ▸ e1)
        have b := xd.gl.symm.trans e2
        simp only [Option.some.injEq, Value.ref.injEq] at a b
        rw [a, ← b] at nd
        exact nd.1 md
    · rcases List.mem_cons.mp mu with z2 | mu2
      · exfalso
        obtain ⟨d, md, xd⟩ := paired_mem p' mt2
        have a := r.gl.symm.trans (z2 ▸ e2)
        have b := xd.gl.symm.trans e1
        simp only [Option.some.injEq, Value.ref.injEq] at a b
        rw [a, ← b] at nd
        exact nd.1 md
      · exact ih mt2 mu2 nd.2
theorem sub_ref {newId : String} {bm : List Value} {c d : Addr} (X : XC K newId bm c) (h : ∀ v ∈ bm, ∃ T, v = .type T) : PySem.W.subIn K (.ref c) (.ref d) = some (decide (d = c)) := by
  obtain ⟨bm', ht, e⟩ := X.sub (.ref d)
  obtain ⟨cd, bm2, hc, hm, _⟩ := X.data
  have m := X.mro
  rw [hc] at m
  simp only [Option.map_some, Option.some.injEq] at m
  show PySem.W.mroIn K c (.ref d) = _
  unfold PySem.W.mroIn
  rw [hc, Option.bind_some, m]
  have n : bm.contains (.ref d) = false := by
    rw [Bool.eq_false_iff]
    intro z
    obtain ⟨T, e⟩ := h _ (List.contains_iff_mem.mp z)
    cases e
  simp only [List.isEmpty_cons, Bool.false_eq_true, if_false, List.contains_cons, n, Bool.or_false, Option.some.injEq]
  by_cases z : d = c
  · subst z; simp
  · simp [z]
theorem base_types (B : String) : ∀ v ∈ baseMro B, ∃ T, v = .type T := by
  intro v hv
  unfold baseMro at hv
  split at hv <;> simp at hv <;> (try rcases hv with rfl | rfl | rfl | rfl | rfl) <;> (try rcases hv with rfl | rfl | rfl | rfl) <;> exact ⟨_, rfl⟩
theorem XIs.kit {x y : Str} {B B' : String} {fs fs' : List Str} {c d : Addr} (a : XIs K mg x B fs c) (b : XIs K mg y B' fs' d) : PySem.W.kitOne K (.ref c) (.ref d) = some (decide (d = c)) := by
  obtain ⟨n1, i1, xb1, xc1⟩ := a.xb
  obtain ⟨n2, i2, xb2, xc2⟩ := b.xb
  unfold PySem.W.kitOne
  by_cases z : d = c
  · subst z
    rw [if_pos (by simp)]
    simp
  · rw [if_neg (by simpa using fun e => z e.symm)]
    obtain ⟨cd, _, hc, _⟩ := xc2.data
    show (if ((PySem.W.clsIn K d).isSome && PySem.W.typeIn K (.ref d) == some (.type "type")) = true then PySem.W.subIn K (.ref c) (.ref d) else none) = _
    rw [if_pos (by rw [hc, xc2.tyC]; rfl)]
    exact sub_ref xc1 (base_types B)
theorem XIs.kitT {x : Str} {B : String} {fs : List Str} {c : Addr} (a : XIs K mg x B fs c) {T : String} (m : PySem.W.kitMeta T = true) : PySem.W.kitOne K (.ref c) (.type T) = some ((baseMro B).contains (.type T)) := by
  obtain ⟨n1, i1, xb1, xc1⟩ := a.xb
  unfold PySem.W.kitOne
  rw [if_neg (by simp)]
  show (if PySem.W.kitMeta T = true then PySem.W.subIn K (.ref c) (.type T) else none) = _
  rw [if_pos m]
  exact xc1.subTy T
end
end Tw

namespace Tw
open PySem PySem.Spec PyProof.Rows L2
section
variable {X : Cx} {Wx : WX}
theorem je_glbX {x : Str} {p : Pos} {c : Addr} (hm : X.mg x = some (.ref c)) (hg : Gl X x := by rfl) (hdb : (x == ("__debug__" : Str)) = false := by decide) : JE X Wx (.Name x p) (eC (.glb x)) :=
  PE.mono (pe_glob (v := .ref c) hg hm rfl hdb) fun σ H Q ⟨ρ, env, h, hr, er, q⟩ => q (.ref c) ρ H [] ⟨hr, Step.refl, .glb hm, List.nodup_nil, fun _ z => nomatch z⟩
end
def inT (T : XTb) (x : Str) : Option (String × List Str) := (T.find? fun t => t.1 == x).map (·.2)
def kitX1 (T : XTb) (C : Str) : D → Option Bool
  | .glb y => match inT T C, inT T y with
    | some _, some _ => some (decide (y = C))
    | _, _ => none
  | .ty n => match inT T C with
    | some t => if PySem.W.kitMeta n = true then some ((baseMro t.1).contains (.type n)) else none
    | none => none
  | _ => none
def kitXA (T : XTb) (C : Str) : List D → Option Bool
  | [] => some false
  | c :: cs => match kitX1 T C c, kitXA T C cs with
    | some b, some r => some (b || r)
    | _, _ => none
def dIsiX (T : XTb) (xs : List D) (_ : Hd) : Option D := match xs with
  | [.exc C _ _, .tup cs] => match inT T C, kitXA T C cs with
    | some _, some b => some (.bl b)
    | _, _ => none
  | [.exc C _ _, c] => match kitX1 T C c with
    | some b => some (.bl b)
    | none => none
  | _ => none
section
variable {K : PySem.W.Frag} {mg : Str → Option Value} {T : XTb}
theorem inT_mem {x : Str} {t : String × List Str} (e : inT T x = some t) : (x, t.1, t.2) ∈ T := by
  unfold inT at e
  obtain ⟨u, h1, rfl⟩ := Option.map_eq_some_iff.mp e
  have h2 := List.find?_some h1
  have h3 := List.mem_of_find?_eq_some h1
  have e1 : u.1 = x := by simpa using h2
  rw [← e1]
  exact h3
theorem kitX1_v (hT : XTab K mg T) {C : Str} {D : Addr} (hC : mg C = some (.ref D)) {ρ : List Addr} {H : Hp} {c : Tw.D} {v : V} {S : List Addr} {b : Bool} (r : Rep K mg ρ H c v S) (e : kitX1 T C c = some b) : ∃ cv, ClsV v cv ∧ PySem.W.kitOne K (.ref D) cv = some b := by
  unfold kitX1 at e
  split at e
  · rename_i y
    split at e
    · rename_i t u e1 e2
      cases e
      obtain ⟨c1, x1⟩ := hT.get (inT_mem e1)
      obtain ⟨c2, x2⟩ := hT.get (inT_mem e2)
      cases r with
      | glb hy =>
        rename_i a
        have g1 := x1.gl.symm.trans hC
        have g2 := x2.gl.symm.trans hy
        simp only [Option.some.injEq, Value.ref.injEq] at g1 g2
        subst g1 g2
        refine ⟨.ref c2, .own c2, ?_⟩
        rw [XIs.kit x1 x2]
        congr 1
        refine decide_eq_decide.mpr ⟨fun z => ?_, fun z => ?_⟩
        · subst z
          exact (congrArg (fun p : Str × String × List Str => p.1) (hT.inj (inT_mem e1) (inT_mem e2) x1.gl x2.gl)).symm
        · subst z
          have := x1.gl.symm.trans x2.gl
          simp only [Option.some.injEq, Value.ref.injEq] at this
          exact this.symm
    · cases e
  · rename_i n
    split at e
    · rename_i t e1
      split at e
      · rename_i km
        cases e
        obtain ⟨c1, x1⟩ := hT.get (inT_mem e1)
        have g1 := x1.gl.symm.trans hC
        simp only [Option.some.injEq, Value.ref.injEq] at g1
        subst g1
        cases r
        exact ⟨.type n, .ty n, XIs.kitT x1 km⟩
      · cases e
    · cases e
  · cases e
theorem kitXA_v (hT : XTab K mg T) {C : Str} {D : Addr} (hC : mg C = some (.ref D)) {ρ : List Addr} {H : Hp} : ∀ {cs : List Tw.D} {vs : List V} {S : List Addr} {b : Bool}, RepL K mg ρ H cs vs S → kitXA T C cs = some b → ∃ us, Paired ClsV vs us ∧ PySem.W.kitAny K (.ref D) us = some b
  | [], vs, S, b, r, e => by
    cases r
    cases e
    exact ⟨[], .nil, kitAny_nil⟩
  | c :: cs, vs, S, b, r, e => by
    unfold kitXA at e
    split at e
    · rename_i b1 b2 e1 e2
      cases e
      cases r with
      | cons r1 r2 =>
        obtain ⟨u, p1, k1⟩ := kitX1_v hT hC r1 e1
        obtain ⟨us, p2, k2⟩ := kitXA_v hT hC r2 e2
        refine ⟨u :: us, .cons p1 p2, kitAny_cons k1 (fun z => ?_) fun z => ?_⟩
        · rw [z, Bool.false_or]; exact k2
        · rw [z, Bool.true_or]
    · cases e
end
def HeldX (K : PySem.W.Frag) (H : Hp) (a D : Addr) (dd : Option Addr) : Prop := ∃ oe u, H a = some (.frz oe u) ∧ Zc (.ref D) dd oe ∧ (∃ fs, oe.data = .fields fs) ∧ (∀ da, dd = some da → ∃ fs, H da = some (.xd fs)) ∧ ∃ newId bm, XC K newId bm D ∧ (Value.type "object") ∈ bm ∧ PySem.W.subIn K (.ref D) (.type "BaseException") = some true
theorem HeldX.inst {X : Cx} {pins : List (Addr × Obj)} {σ : L2.St} {H : Hp} {s : Shared} {a D : Addr} {dd : Option Addr} (I : Inv X pins σ H s) (h : HeldX X.K H a D dd) : ∃ oe od, PySem.W.InstAt s.heap a oe D od ∧ ∀ da fs, dd = some da → H da = some (.xd fs) → ∃ o, od = some o ∧ ∀ f v, fs.lookup f = some v → ∃ u, PySem.W.lookIn f o = some (some u) ∧ RelV v u := by
  obtain ⟨oe, u, e, z, ⟨fs, hf⟩, hd, _⟩ := h
  have ha : s.heap.get? a = some oe := (show ObjOk X.prog X.w H s.heap a (.frz oe u) from I.hok a _ e).1
  cases dd with
  | none => exact ⟨oe, none, ⟨ha, z.1, by unfold PySem.W.notCls; rw [hf] <;> rfl, by rw [z.2]; trivial⟩, fun _ _ q => by cases q⟩
  | some da =>
    obtain ⟨fs1, hx⟩ := hd da rfl
    have hx' : ObjOk X.prog X.w H s.heap da (.xd fs1) := I.hok da _ hx
    obtain ⟨mA, hns, hr⟩ := hx'
    obtain ⟨od, ho, hl⟩ := lookIn_ns hns
    refine ⟨oe, some od, ⟨ha, z.1, by unfold PySem.W.notCls; rw [hf] <;> rfl, by rw [z.2]; exact ho⟩, fun da' fs' q1 q2 => ⟨od, rfl, fun f v l => ?_⟩⟩
    cases q1
    rw [hx] at q2
    cases q2
    obtain ⟨u, hu, ru⟩ := RelO.some_of (v := v) (o := mA f) (by rw [← l]; exact hr f)
    exact ⟨u, by rw [hl, hu], ru⟩
theorem HeldX.kit {X : Cx} {H : Hp} {a D : Addr} {dd : Option Addr} (h : HeldX X.K H a D dd) {oe : Obj} {od : Option Obj} : PySem.W.KitX X.K (.ref a) (.ref D) (fun hh => PySem.W.InstAt hh a oe D od) := by
  obtain ⟨_, _, _, _, _, _, newId, bm, xc, ob, sb⟩ := h
  obtain ⟨cd, bm', hc, hm, ht, _⟩ := xc.data
  obtain ⟨cd2, _, hc2, _⟩ := xc.data
  refine PySem.W.kitx_exc (by rw [hc]; rfl) xc.ga xc.gg sb xc.cl xc.gt xc.tk ?_
  have m := xc.mro
  rw [hc] at m
  simp only [Option.map_some, Option.some.injEq] at m
  unfold PySem.W.mroIn
  rw [hc, Option.bind_some, m]
  simp [ob]
def rIsX (K : PySem.W.Frag) : List V → Hp → VK → Prop := fun xs H Q => ∃ (a D : Addr) (dd : Option Addr) (b : Bool) (c : V), xs = [.ref a, c] ∧ HeldX K H a D dd ∧ Q (.bl b) H ∧
  ((∃ cv, ClsV c cv ∧ PySem.W.kitOne K (.ref D) cv = some b) ∨ (∃ tp ws us, c = .ref tp ∧ H tp = some (.tup ws) ∧ Paired ClsV ws us ∧ PySem.W.kitAny K (.ref D) us = some b) ∨
    ∃ tp d2 us n sl, c = .ref tp ∧ K.lookup tp = some ⟨.type "tuple", d2, .seq (List.toArray us) n, sl⟩ ∧ PySem.W.kitAny K (.ref D) us = some b)
theorem call_isX {X : Cx} : CallR X (.builtin "isinstance") (rIsX X.K) := by
  intro pins s σ H xs us Q I r h
  obtain ⟨a, D, dd, b, c, rfl, hx, q, hc⟩ := h
  cases r with
  | cons rx rr =>
    cases rr with
    | cons rt rr =>
      cases rr
      cases rx
      obtain ⟨oe, od, J, _⟩ := hx.inst I
      rcases hc with ⟨cv, k, e⟩ | ⟨tp, ws, cs, rfl, ht, p, e⟩ | ⟨tp, d2, us, n, sl, rfl, hk, e⟩
      · have ec := k.eq rt
        subst ec
        exact PySem.W.kia_one hx.kit I.kIn J e (fun z => nomatch z) fun tk => ⟨.bl b, H, I.kept (t' := tk) fun _ _ z => z, rfl, q⟩
      · cases rt
        obtain ⟨_, its, rv, o, h1, h2, n, h3⟩ := (show ObjOk X.prog X.w H s.heap tp (.tup ws) from I.hok tp _ ht)
        have e3 := ClsV.all p rv
        subst e3
        obtain ⟨oc, odd, dt, sl⟩ := o
        simp only at h2 h3
        subst h2 h3
        exact PySem.W.kia_tup hx.kit I.kIn J h1 e (fun z => nomatch z) fun tk => ⟨.bl b, H, I.kept (t' := tk) fun _ _ z => z, rfl, q⟩
      · cases rt
        exact PySem.W.kia_tup hx.kit I.kIn J (I.kIn _ _ hk) e (fun z => nomatch z) fun tk => ⟨.bl b, H, I.kept (t' := tk) fun _ _ z => z, rfl, q⟩
section
variable {K : PySem.W.Frag} {mg : Str → Option Value} {T : XTb}
theorem XIs.held {x : Str} {B : String} {fs : List Str} {c : Addr} (h : XIs K mg x B fs c) : ∃ newId, XC K newId (baseMro B) c ∧ (Value.type "object") ∈ baseMro B ∧ PySem.W.subIn K (.ref c) (.type "BaseException") = some true := by
  obtain ⟨newId, initId, xb, xc⟩ := h.xb
  refine ⟨newId, xc, ?_, xc.exC xb.F⟩
  have hb := xb.F.hasBase
  unfold baseMro at hb ⊢
  split <;> first | decide | simp_all
theorem held_of (hT : XTab K mg T) {ρ : List Addr} {H : Hp} {C : Str} {ns : List Str} {xs : List Tw.D} {v : V} {S : List Addr} (r : Rep K mg ρ H (.exc C ns xs) v S) {t : String × List Str} (e : inT T C = some t) :
    ∃ a D dd vs, v = .ref a ∧ mg C = some (.ref D) ∧ HeldX K H a D dd ∧ RepL K mg ρ H xs vs [] ∧ xs.length = ns.length ∧ (∀ f ∈ t.2, PySem.W.findIn K (.ref D) f = some none) ∧ ((ns = [] ∧ dd = none) ∨ ∃ da, dd = some da ∧ H da = some (.xd (ns.zip vs))) := by
  cases r with
  | exc ha rx hl =>
    obtain ⟨c, oe, u, dd, e1, e2, _, z, hf, k⟩ := ha
    obtain ⟨c1, x1⟩ := hT.get (inT_mem e)
    have g1 := x1.gl.symm.trans e1
    simp only [Option.some.injEq, Value.ref.injEq] at g1
    subst g1
    obtain ⟨newId, xc, ob, sb⟩ := x1.held
    refine ⟨_, c1, dd, _, rfl, e1, ⟨oe, u, e2, z, hf, fun da hd => ?_, newId, _, xc, ob, sb⟩, rx, hl, x1.fl, ?_⟩
    · rcases k with ⟨_, k⟩ | ⟨da', k1, k2, _⟩
      · rw [k] at hd; cases hd
      · rw [k1] at hd; cases hd; exact ⟨_, k2⟩
    · rcases k with ⟨k1, k2⟩ | ⟨da', k1, k2, _⟩
      · exact .inl ⟨k1, k2⟩
      · exact .inr ⟨da', k1, k2⟩
theorem opN_isX (hT : XTab K mg T) : OpN K mg (dIsiX T) (rIsX K) := by
  intro xs h d e ρ H vs S Q hr r nd na q
  unfold dIsiX at e
  split at e
  · rename_i C ns ys cs
    split at e
    · rename_i t b et eb
      cases e
      cases r with
      | cons r1 r2 =>
        cases r2 with
        | cons r2 r3 =>
          cases r3
          obtain ⟨a, D, dd, ws, rfl, hC, hx, _⟩ := held_of hT r1 et
          cases r2 with
          | tup ht u =>
            obtain ⟨us, p, k⟩ := kitXA_v hT hC u eb
            rcases ht with ⟨z, _⟩ | ⟨o, its, n, z, c, dt, _, w2⟩
            · exact ⟨a, D, dd, b, _, rfl, hx, q0 q (.bl _), .inr (.inl ⟨_, _, us, rfl, z, p, k⟩)⟩
            · have e3 := ClsV.all p w2
              obtain ⟨oc, od, odt, sl⟩ := o
              simp only at c dt
              subst c dt
              have e4 : its = us.toArray := by rw [← e3]
              subst e4
              exact ⟨a, D, dd, b, _, rfl, hx, q0 q (.bl _), .inr (.inr ⟨_, od, us, n, sl, rfl, z, k⟩)⟩
    · cases e
  · rename_i C ns ys c hnt
    split at e
    · rename_i b eb
      cases e
      cases r with
      | cons r1 r2 =>
        cases r2 with
        | cons r2 r3 =>
          cases r3
          have et : ∃ t, inT T C = some t := by
            unfold kitX1 at eb
            split at eb
            · split at eb
              · rename_i h1 _; exact ⟨_, h1⟩
              · cases eb
            · split at eb
              · rename_i h1; exact ⟨_, h1⟩
              · cases eb
            · cases eb
          obtain ⟨t, et⟩ := et
          obtain ⟨a, D, dd, ws, rfl, hC, hx, _⟩ := held_of hT r1 et
          obtain ⟨cv, p, k⟩ := kitX1_v hT hC r2 eb
          exact ⟨a, D, dd, b, _, rfl, hx, q0 q (.bl _), .inl ⟨cv, p, k⟩⟩
    · cases e
  · cases e
end
section
variable {X : Cx} {Wx : WX} {a b : Expr} {mas : MA} {p pos : Pos} {T : XTb}
theorem je_isX (hT : XTab X.K X.mg T) (hm : X.mg "isinstance" = none) (ha : JA X Wx [a, b] mas) (hg : Gl X "isinstance" := by rfl) (he : starEach [a, b] X.env = (false, eval a X.env) :: starEach [b] X.env := by rfl) (hpl : (backTo pos (starEach [b] X.env)).any (·.1) = false := by rfl) :
    JE X Wx (.Call (.Name "isinstance" p) [a, b] [] pos) (eN (dIsiX T) mas) := je_callB call_isX (opN_isX hT) hm ha (by decide +kernel) hg (by decide) (by decide) he hpl
end
def dXF (T : XTb) (f : Str) (x : D) (_ : Hd) : Option D := match x with
  | .exc C ns xs => match inT T C with
    | some t => if f ∈ t.2 then (ns.zip xs).lookup f else none
    | none => none
  | _ => none
def rXF (K : PySem.W.Frag) (f : Str) : V → Hp → VK → Prop := fun x H Q => ∃ a D da fs v, x = .ref a ∧ HeldX K H a D (some da) ∧ H da = some (.xd fs) ∧ fs.lookup f = some v ∧ PySem.W.findIn K (.ref D) f = some none ∧ Q v H
theorem pe_xfG {X : Cx} {e : Expr} {te : TE} {pos : Pos} {n : Str} (he : PE X e te) (hb : attributeBase e n X.env (eval e X.env) = eval e X.env) : PE X (.Attribute e n pos) (fun σ H Q => te σ H fun x H1 => rXF X.K n x H1 Q) := by
  refine ⟨fun pins s σ H Q I h => ?_⟩
  refine attr_of hb (thn (he.run pins s σ H _ I h) fun u s1 hh => ?_)
  obtain ⟨x, H1, I1, rx, a, D, da, fs, v, ex, hx, ea, l, hno, q⟩ := hh
  subst ex
  obtain rfl : u = Value.ref a := rx
  obtain ⟨oe, od, J, k⟩ := hx.inst I1
  obtain ⟨o, rfl, lk⟩ := k da fs rfl ea
  obtain ⟨u, hu, ru⟩ := lk n v l
  obtain ⟨_, _, _, _, _, _, newId, bm, xc, ob, sb⟩ := hx
  exact HandSPX.exc_get I1.kIn J xc.ga xc.gg sb (PySem.W.findObj_own xc.hd hno rfl hu) (handed_of ru) ⟨v, H1, I1.tok _, ru, q⟩
theorem zip_look {K : PySem.W.Frag} {mg : Str → Option Value} {ρ : List Addr} {H : Hp} {f : Str} {d : D} : ∀ {ns : List Str} {xs : List D} {vs : List V}, RepL K mg ρ H xs vs [] → (ns.zip xs).lookup f = some d → ∃ v, (ns.zip vs).lookup f = some v ∧ Rep K mg ρ H d v []
  | [], _, _, _, e => by simp at e
  | n :: ns, [], _, _, e => by simp at e
  | n :: ns, x :: xs, vs, r, e => by
    obtain ⟨v, ws, rfl, r1, r2⟩ := r.split
    simp only [List.zip_cons_cons, List.lookup_cons] at e ⊢
    by_cases h : (f == n) = true
    · rw [h] at e ⊢
      cases e
      exact ⟨v, rfl, r1⟩
    · rw [Bool.not_eq_true] at h
      rw [h] at e ⊢
      exact zip_look r2 e
theorem op1_xf {K : PySem.W.Frag} {mg : Str → Option Value} {T : XTb} (hT : XTab K mg T) (f : Str) : Op1 K mg (dXF T f) (rXF K f) := by
  intro x h d e ρ H vx S Q hr r nd na q
  unfold dXF at e
  split at e
  · rename_i C ns xs
    split at e
    · rename_i t et
      split at e
      · rename_i hf
        obtain ⟨a, D, dd, ws, rfl, hC, hx, rx, hl, fl, k⟩ := held_of hT r et
        rcases k with ⟨k1, k2⟩ | ⟨da, k1, k2⟩
        · subst k1
          simp at e
        · subst k1
          obtain ⟨v, lv, rv⟩ := zip_look rx e
          exact ⟨a, D, da, _, v, rfl, hx, k2, lv, fl f hf, q v H [] same_refl rv List.nodup_nil fun _ z => nomatch z⟩
      · cases e
    · cases e
  · cases e
section
variable {X : Cx} {Wx : WX} {e : Expr} {me : ME} {pos : Pos} {T : XTb} {n : Str}
theorem tE_1 {K : PySem.W.Frag} {mg : Str → Option Value} {f : D → Hd → Option D} {r : V → Hp → VK → Prop} (ho : Op1 K mg f r) {σ : L2.St} {H : Hp} {Q : VK} (q : tE K mg Wx (eUn f me) σ H Q) : tE K mg Wx me σ H fun x H1 => r x H1 Q := tE_un ho q
theorem je_xf (hT : XTab X.K X.mg T) (he : JE X Wx e me) (hb : attributeBase e n X.env (eval e X.env) = eval e X.env := by rfl) : JE X Wx (.Attribute e n pos) (eUn (dXF T n) me) := PE.mono (pe_xfG he hb) fun σ H Q q => tE_1 (op1_xf hT n) q
end
inductive NmX (X : Cx) (T : XTb) : List Expr → List Str → Prop
  | nil : NmX X T [] []
  | cons {x : Str} {np : Pos} {es : List Expr} {xs : List Str} {t : String × List Str} (ht : inT T x = some t) (hg : Gl X x) (hdb : (x == ("__debug__" : Str)) = false) (r : NmX X T es xs) : NmX X T (.Name x np :: es) (x :: xs)
theorem NmX.all {X : Cx} {T : XTb} (hT : XTab X.K X.mg T) {es : List Expr} {xs : List Str} (h : NmX X T es xs) : ∃ cs : List Addr, NamesL X es (cs.map Value.ref) ∧ Paired (fun x c => ∃ t, inT T x = some t ∧ X.mg x = some (.ref c)) xs cs := by
  induction h with
  | nil => exact ⟨[], .nil, .nil⟩
  | cons ht hg hdb r ih =>
    obtain ⟨cs, n, p⟩ := ih
    obtain ⟨c, x1⟩ := hT.get (inT_mem ht)
    exact ⟨c :: cs, .cons ⟨hg, hdb, .inl x1.gl⟩ n, .cons ⟨_, ht, x1.gl⟩ p⟩
section
variable {X : Cx} {Wx : WX} {T : XTb} {n m : Str} {i j : Nat} {nms : List Str} {body : List Stmt} {es : List Expr} {kk : Nat} {tpos pos pos' pos2 p1 p2 : Pos} {mb : MS}
end
end Tw

namespace Tw
open PySem PySem.Spec PyProof.Rows L2
def tFmtG (K : PySem.W.Frag) (te : TE) : TE := fun σ H Q => te σ H fun x H1 => (∃ y : Str, x = .str y ∧ y.length ≤ sizeLine ∧ Q (.str y) H1) ∨ (∃ i : Int, x = .int i ∧ i.natAbs.log2 < 1920 ∧ Q (.str (toString i)) H1) ∨ (PairI K H1 x ∧ ∀ m : Str, m.length ≤ 400000 → Q (.str m) H1)
theorem pe_fmtG {X : Cx} {e : Expr} {te : TE} {pos : Pos} {k : Nat} (hr : Room k X.A) (he : PE X e te) : PE X (.FormattedValue e (-1) none pos) (tFmtG X.K te) := by
  refine ⟨fun pins s σ H Q I h => ?_⟩
  refine wpAny_FormattedValue_plain (thn (he.run pins s σ H _ I h) fun v s1 hv => ?_)
  obtain ⟨x, H1, I1, r1, q⟩ := hv
  rcases q with ⟨y, rfl, hz, q⟩ | ⟨i, rfl, hz, q⟩ | ⟨hp, q⟩
  · obtain ⟨t, rfl⟩ := r1
    exact wpAny_formatField_str ⟨.str y, H1, I1, ⟨t, rfl⟩, q⟩ ⟨.str y, H1, I1.tok _, ⟨_, rfl⟩, q⟩ hz
  · obtain ⟨t, rfl⟩ := r1
    exact wpAny_formatField_int hz ⟨.str (toString i), H1, I1.tok _, ⟨_, rfl⟩, q⟩
  · exact fmtP_run hr I1 r1 hp q
theorem goodI_fmt {K : PySem.W.Frag} {i : Nat} {σ : L2.St} {H : Hp} {v : V} {Q : VK} (g : goodI K [v] H) (ht : σ[i]? = some (some v)) (hq : ∀ y : Str, y.length ≤ 1000000 → Q (.str y) H) : tFmtG K (tVar i) σ H Q := by
  refine ⟨v, ht, ?_⟩
  rcases g with g | ⟨i, g, hi⟩ | ⟨y, g, hy⟩ | ⟨u, g, hp⟩
  · cases g
  · cases g
    refine .inr (.inl ⟨i, rfl, hi, hq _ ?_⟩)
    have e := int_text_length_le (k := 1920) (by decide) hi
    show (Str.ofString (toString i)).length ≤ 1000000
    rw [PySem.ofString_length]
    omega
  · cases g
    exact .inl ⟨y, rfl, by rw [sizeLine_eq]; omega, hq _ hy⟩
  · cases g
    exact .inr (.inr ⟨hp, fun m hm => hq m (by omega)⟩)
theorem txt2 {K : PySem.W.Frag} {c : Str} {σ : L2.St} {H : Hp} {v : V} (g : goodI K [v] H) (ht : σ[1]? = some (some v)) (hc : c.length ≤ 1000 := by decide) {Q : Str → Hp → Prop} (hq : ∀ out, Q out H) : tJs [tC (.str c), tFmtG K (tVar 1)] Str.empty σ H Q := by
  have e0 : (Str.empty ++ c).length ≤ 1000 := by
    rw [PySem.Str.length_append]
    have : Str.empty.length = 0 := by decide
    omega
  refine ⟨c, rfl, by rw [sizeLine_eq]; omega, ?_⟩
  refine goodI_fmt g ht fun y hy => ⟨y, rfl, ?_, hq _⟩
  rw [PySem.Str.length_append, sizeLine_eq]
  omega
theorem txt3 {K : PySem.W.Frag} {c c2 : Str} {σ : L2.St} {H : Hp} {v : V} (g : goodI K [v] H) (ht : σ[1]? = some (some v)) (hc : c.length ≤ 1000 := by decide) (hc2 : c2.length ≤ 1000 := by decide) {Q : Str → Hp → Prop} (hq : ∀ out, Q out H) : tJs [tC (.str c), tFmtG K (tVar 1), tC (.str c2)] Str.empty σ H Q := by
  have e0 : (Str.empty ++ c).length ≤ 1000 := by
    rw [PySem.Str.length_append]
    have : Str.empty.length = 0 := by decide
    omega
  refine ⟨c, rfl, by rw [sizeLine_eq]; omega, ?_⟩
  refine goodI_fmt g ht fun y hy => ?_
  have e1 : (Str.empty ++ c ++ y).length ≤ 1001000 := by
    rw [PySem.Str.length_append]
    omega
  refine ⟨y, rfl, by rw [sizeLine_eq]; omega, c2, rfl, ?_, hq _⟩
  rw [PySem.Str.length_append, sizeLine_eq]
  omega
def TxtOk (K : PySem.W.Frag) (ts : List TE) : Prop := ∀ (σ : L2.St) (H : Hp) (v : V), goodI K [v] H → σ[1]? = some (some v) → ∀ Q : Str → Hp → Prop, (∀ out, Q out H) → tJs ts Str.empty σ H Q
theorem txtOk2 {K : PySem.W.Frag} {c : Str} (hc : c.length ≤ 1000 := by decide) : TxtOk K [tC (.str c), tFmtG K (tVar 1)] := fun _ _ _ g ht _ hq => txt2 g ht hc hq
theorem txtOk3 {K : PySem.W.Frag} {c c2 : Str} (hc : c.length ≤ 1000 := by decide) (hc2 : c2.length ≤ 1000 := by decide) : TxtOk K [tC (.str c), tFmtG K (tVar 1), tC (.str c2)] := fun _ _ _ g ht _ hq => txt3 g ht hc hc2 hq
section
variable {P : Program} {w : World} {K : PySem.W.Frag} {mg : Str → Option Value} {base : Heap}
theorem ini_1 {qual : Str} {st : Stmt} {fI : Addr} {fd : FuncData} {f x : Str} {k : Nat} {C : Addr} {newId : String} {bm : List Value} {ts : List TE} (F : Fun K "__init__" qual st fI fd) (S : FnScope ["self", x] ["self", x] (defScope st)) (xc : XC K newId bm C) (hno : PySem.W.findIn K (.ref C) f = some none) (ho : TxtOk K ts)
    (hb : ∀ (cdv : Value) (A : Around) (outer : List Env) (s : Shared) (H : Hp) (E : XK), Room k (A.deeper (envOfC qual (defScope st) s.heap.objs.size fI cdv)) → PSs (cxOf (L2.CX P w) P w K mg base ["self", x] qual (defScope st) fI cdv A outer s H E) (defBody st)
      (tSeq (tDrop (tXInit K newId bm (tCons (tVar 0) (tCons (fun σ H Q => tJs ts Str.empty σ H fun out H1 => Q (.str out) H1) tNil)))) (tSeq (tXSet K newId bm f (tVar 0) (tVar 1)) tNext))) :
    FnOk P w K mg base (L2.CX P w) (k + 1) fI fd ["self", x] (spXI C [f] (goodI K)) :=
  F.okX S (fun vs H Q E h => by
    obtain ⟨a, ws, rfl, hl, _⟩ := h
    simpa using hl) fun cdv A outer s H vs Q E hr h => ⟨_, hb cdv A outer s H E hr, by
    obtain ⟨a, ws, rfl, hl, ha, g, _, q⟩ := h
    obtain ⟨v, rfl⟩ : ∃ v, ws = [v] := by
      cases ws with
      | nil => simp at hl
      | cons v t => cases t with
        | nil => exact ⟨v, rfl⟩
        | cons _ _ => simp at hl
    have s0 : (start ["self", x] [V.ref a, v]) = [some (V.ref a), some v] := rfl
    rw [s0]
    refine ⟨V.ref a, rfl, ?_⟩
    refine ho _ _ v g rfl _ fun out => ?_
    refine ⟨a, C, [.str out], rfl, by simp, xc, ha, ?_⟩
    refine ⟨v, rfl, V.ref a, rfl, a, C, rfl, xc, hno, ha, fun dx n1 n2 => q f v rfl rfl dx n1 n2⟩⟩
theorem ini_0 {qual : Str} {st : Stmt} {fI : Addr} {fd : FuncData} {k : Nat} {C : Addr} {newId : String} {bm : List Value} {c : Str} (F : Fun K "__init__" qual st fI fd) (S : FnScope ["self"] ["self"] (defScope st)) (xc : XC K newId bm C)
    (hb : ∀ (cdv : Value) (A : Around) (outer : List Env) (s : Shared) (H : Hp) (E : XK), PSs (cxOf (L2.CX P w) P w K mg base ["self"] qual (defScope st) fI cdv A outer s H E) (defBody st)
      (tSeq (tDrop (tXInit K newId bm (tCons (tVar 0) (tCons (tC (.str c)) tNil)))) tNext)) :
    FnOk P w K mg base (L2.CX P w) (k + 1) fI fd ["self"] (spXI C [] (goodI K)) :=
  F.okX S (fun vs H Q E h => by
    obtain ⟨a, ws, rfl, hl, _⟩ := h
    simpa using hl) fun cdv A outer s H vs Q E hr h => ⟨_, hb cdv A outer s H E, by
    obtain ⟨a, ws, rfl, hl, ha, g, q, _⟩ := h
    obtain rfl : ws = [] := List.length_eq_zero_iff.mp hl
    have s0 : (start ["self"] [V.ref a]) = [some (V.ref a)] := rfl
    rw [s0]
    exact ⟨V.ref a, rfl, a, C, [.str c], rfl, by simp, xc, ha, q rfl⟩⟩
end
def MkX (P : Program) (w : World) (K : PySem.W.Frag) (mg : Str → Option Value) (base : Heap) (x : Str) (k : Nat) (ns : List Str) : Prop := ∃ B newId initId bm C, Mkr P w K mg base x k B newId initId bm C ns (goodI K)
theorem MkX.mono {P : Program} {w : World} {K : PySem.W.Frag} {mg : Str → Option Value} {base : Heap} {x : Str} {j k : Nat} {ns : List Str} (m : MkX P w K mg base x j ns) (h : j ≤ k) : MkX P w K mg base x k ns :=
  let ⟨B, a, b, c, C, m⟩ := m; ⟨B, a, b, c, C, m.mono h⟩
section
variable {X : Cx} {Wx : WX} {x : Str} {k : Nat} {ns : List Str} {e : Expr} {es : List Expr} {mas : MA} {p pos rpos : Pos}
end
section
variable {X : Cx} {Wx : WX} {T : XTb} {x : Str} {p : Pos} {t : String × List Str}
theorem je_glbT (hT : XTab X.K X.mg T) (ht : inT T x = some t) (hg : Gl X x := by rfl) (hdb : (x == ("__debug__" : Str)) = false := by decide) : JE X Wx (.Name x p) (eC (.glb x)) := by
  obtain ⟨c, x1⟩ := hT.get (inT_mem ht)
  exact je_glbX x1.gl hg hdb
end
theorem xis_of {K : PySem.W.Frag} {mg : Str → Option Value} {x : Str} {B newId initId : String} {fs : List Str} {c : Addr} (gl : mg x = some (.ref c)) (xb : XBase B newId initId (baseMro B)) (xc : XC K newId (baseMro B) c) (fl : ∀ f ∈ fs, PySem.W.findIn K (.ref c) f = some none) : XIs K mg x B fs c := ⟨gl, ⟨newId, initId, xb, xc⟩, fl⟩
end Tw

namespace Tw
open PySem PySem.Spec PyProof.Rows L2
section
variable {X : Cx} {Wx : WX} {a b : Expr} {ma mb : ME} {pos : Pos} {rest : List Expr}
end
end Tw

namespace Cm
open PySem PySem.Spec PyProof.Rows L2 Tw
def b_law_cell_at : MS :=
  (sSeq (sIf (tVal (eBin dLt (eVar 1) (eN dLen (aCons (eVar 0) aNil))))
    (sRet (eBin dIx (eVar 0) (eVar 1)))
    sNil)
  (sRet (eC (.int 0))))
def m_law_cell_at : MF := runDef 2 2 b_law_cell_at
def b_law_box : MS :=
  (sSeq (sAsg (gNm 2) (eCall m_law_cell_at (aCons (eVar 0) (aCons (eVar 1) aNil))))
  (sRet (eN dLst (aCons (eBin dTimes (eN dAbs (aCons (eVar 2) aNil)) (eN dInt (aCons (eBin dGe (eN dAbs (aCons (eVar 2) aNil)) (eBin dPow (eC (.int 10)) (eC (.int 18)))) aNil))) (aCons (eBin dAdd (eBin dAdd (eBin dMod (eVar 2) (eC (.int 2305843009213693951))) (eBin dTimes (eC (.int 39373)) (eVar 1))) (eC (.int 29))) (aCons (eC (.int 0)) aNil))))))
def m_law_box : MF := runDef 2 3 b_law_box
def b_law_take (rec_ : MF) : MS :=
  (sSeq (sIf (tVal (eBin dGt (eBin dIx (eVar 0) (eC (.int 0))) (eC (.int 0))))
    (sSeq (sAsg (gNm 2) (eBin dMod (eBin dIx (eVar 0) (eC (.int 0))) (eVar 1)))
  (sSeq (sSetIx (eBin dFdiv (eBin dIx (eVar 0) (eC (.int 0))) (eVar 1)) (eVar 0) (eC (.int 0)))
  (sRet (eVar 2))))
    sNil)
  (sSeq (sIf (tVal (eBin dGt (eVar 1) (eBin dPow (eC (.int 10)) (eC (.int 7)))))
    (sRet (eBin dMod (eBin dAdd (eCall rec_ (aCons (eVar 0) (aCons (eBin dPow (eC (.int 10)) (eC (.int 7))) aNil))) (eBin dTimes (eBin dPow (eC (.int 10)) (eC (.int 7))) (eCall rec_ (aCons (eVar 0) (aCons (eBin dAdd (eBin dFdiv (eVar 1) (eBin dPow (eC (.int 10)) (eC (.int 7)))) (eC (.int 1))) aNil))))) (eVar 1)))
    sNil)
  (sSeq (sSetIx (eBin dAdd (eBin dIx (eVar 0) (eC (.int 2))) (eC (.int 1))) (eVar 0) (eC (.int 2)))
  (sSeq (sAsg (gNm 3) (eBin dMod (eBin dTimes (eBin dAdd (eBin dIx (eVar 0) (eC (.int 1))) (eBin dTimes (eC (.int 48271)) (eBin dIx (eVar 0) (eC (.int 2))))) (eBin dAdd (eC (.int 39373)) (eBin dIx (eVar 0) (eC (.int 2))))) (eC (.int 2147483647))))
  (sSeq (sAsg (gNm 4) (eBin dMod (eBin dTimes (eBin dAdd (eBin dAdd (eVar 3) (eBin dIx (eVar 0) (eC (.int 2)))) (eBin dFdiv (eBin dIx (eVar 0) (eC (.int 1))) (eC (.int 1000003)))) (eBin dAdd (eBin dMod (eVar 3) (eC (.int 40009))) (eC (.int 7)))) (eC (.int 2147483629))))
  (sRet (eBin dMod (eBin dFdiv (eBin dMod (eBin dAdd (eBin dTimes (eVar 4) (eC (.int 48271))) (eVar 3)) (eC (.int 2147483587))) (eC (.int 64))) (eVar 1))))))))
def m_law_take : Nat → MF
  | 0 => runDef 2 5 sNo
  | n + 1 => runDef 2 5 (b_law_take (m_law_take n))
def b_law_same (rec_ : MF) : MS :=
  (sSeq (sIf (tVal (eN dIsi (aCons (eVar 1) (aCons (eN dTup (aCons (eC (.ty "list")) (aCons (eC (.ty "tuple")) aNil))) aNil))))
    (sSeq (sIf (tOr (tVal (eBin dNe (eN dIsi (aCons (eVar 0) (aCons (eC (.ty "list")) aNil))) (eN dIsi (aCons (eVar 1) (aCons (eC (.ty "list")) aNil))))) (tVal (eBin dNe (eN dIsi (aCons (eVar 0) (aCons (eC (.ty "tuple")) aNil))) (eN dIsi (aCons (eVar 1) (aCons (eC (.ty "tuple")) aNil))))))
    (sRet (eC (.bl false)))
    sNil)
  (sRet (eAnd (eBin dEq (eN dLen (aCons (eVar 0) aNil)) (eN dLen (aCons (eVar 1) aNil))) (eN dAll (aCons (eComp [2, 3] (iS zip2M (aCons (eVar 0) (aCons (eVar 1) aNil))) (gTp [(gNm 2), (gNm 3)]) tTrue (eCall rec_ (aCons (eVar 2) (aCons (eVar 3) aNil)))) aNil)))))
    sNil)
  (sSeq (sIf (tOr (tVal (eBin dIs (eVar 1) (eC .non))) (tVal (eN dIsi (aCons (eVar 1) (aCons (eN dTup (aCons (eC (.ty "bool")) (aCons (eC (.ty "str")) aNil))) aNil)))))
    (sRet (eAnd (eBin dEq (eVar 0) (eVar 1)) (eAnd (eBin dEq (eN dIsi (aCons (eVar 0) (aCons (eC (.ty "bool")) aNil))) (eN dIsi (aCons (eVar 1) (aCons (eC (.ty "bool")) aNil)))) (eBin dEq (eBin dIs (eVar 0) (eC .non)) (eBin dIs (eVar 1) (eC .non))))))
    sNil)
  (sRet (eAnd (eN dIsi (aCons (eVar 0) (aCons (eC (.ty "int")) aNil))) (eAnd (eNot (eN dIsi (aCons (eVar 0) (aCons (eC (.ty "bool")) aNil)))) (eBin dEq (eVar 0) (eVar 1)))))))
def b_law_same_2 (rec_ : MF) : MS :=
  (sSeq (sIf (tVal (eN dIsi (aCons (eVar 1) (aCons (eN dTup (aCons (eC (.ty "list")) (aCons (eC (.ty "tuple")) aNil))) aNil))))
    (sSeq (sIf (tOr (tVal (eBin dNe (eN dIsi (aCons (eVar 0) (aCons (eC (.ty "list")) aNil))) (eN dIsi (aCons (eVar 1) (aCons (eC (.ty "list")) aNil))))) (tVal (eBin dNe (eN dIsi (aCons (eVar 0) (aCons (eC (.ty "tuple")) aNil))) (eN dIsi (aCons (eVar 1) (aCons (eC (.ty "tuple")) aNil))))))
    (sRet (eC (.bl false)))
    sNil)
  (sRet (eAnd (eBin dEq (eN dLen (aCons (eVar 0) aNil)) (eN dLen (aCons (eVar 1) aNil))) (eN dAll (aCons (eComp [2, 3] (iSB zip2M (aCons (eVar 0) (aCons (eVar 1) aNil))) (gTp [(gNm 2), (gNm 3)]) tTrue (eCall rec_ (aCons (eVar 2) (aCons (eVar 3) aNil)))) aNil)))))
    sNil)
  (sSeq (sIf (tOr (tVal (eBin dIs (eVar 1) (eC .non))) (tVal (eN dIsi (aCons (eVar 1) (aCons (eN dTup (aCons (eC (.ty "bool")) (aCons (eC (.ty "str")) aNil))) aNil)))))
    (sRet (eAnd (eBin dEq (eVar 0) (eVar 1)) (eAnd (eBin dEq (eN dIsi (aCons (eVar 0) (aCons (eC (.ty "bool")) aNil))) (eN dIsi (aCons (eVar 1) (aCons (eC (.ty "bool")) aNil)))) (eBin dEq (eBin dIs (eVar 0) (eC .non)) (eBin dIs (eVar 1) (eC .non))))))
    sNil)
  (sRet (eAnd (eN dIsi (aCons (eVar 0) (aCons (eC (.ty "int")) aNil))) (eAnd (eNot (eN dIsi (aCons (eVar 0) (aCons (eC (.ty "bool")) aNil)))) (eBin dEq (eVar 0) (eVar 1)))))))
def m_law_same_2 : Nat → MF
  | 0 => runDef 2 4 sNo
  | n + 1 => runDef 2 4 (b_law_same_2 (m_law_same_2 n))
end Cm

namespace Pq
open PySem Tw

inductive Rt (α : Type) where
  | ok (a : α)
  | ex (e : D)
  | no
def Rt.bind {α β : Type} (r : Rt α) (f : α → Rt β) : Rt β := match r with
  | .ok a => f a
  | .ex e => .ex e
  | .no => .no
section
variable {α β γ : Type}
@[simp] theorem bind_ok (a : α) (f : α → Rt β) : (Rt.ok a).bind f = f a := id rfl
@[simp] theorem bind_ex (e : D) (f : α → Rt β) : (Rt.ex e : Rt α).bind f = .ex e := id rfl
@[simp] theorem bind_no (f : α → Rt β) : (Rt.no : Rt α).bind f = .no := id rfl
end
abbrev PE := List (Option D)
def Keep (h h' : Hd) : Prop := ∀ (n : Nat) (c : Cell), h[n]? = some c → h'[n]? = some c
theorem Keep.refl (h : Hd) : Keep h h := fun _ _ e => e
theorem Keep.trans {a b c : Hd} (x : Keep a b) (y : Keep b c) : Keep a c := fun n d e => y n d (x n d e)
theorem Keep.len {h h' : Hd} (k : Keep h h') : h.length ≤ h'.length := by
  apply Nat.le_of_not_lt
  intro l
  have := k h'.length h[h'.length] (List.getElem?_eq_getElem l)
  rw [List.getElem?_eq_none (Nat.le_refl _)] at this
  cases this
theorem Keep.push (h j : Hd) : Keep h (h ++ j) := fun n c e => by rw [List.getElem?_append_left (List.getElem?_eq_some_iff.mp e).1]; exact e
theorem lt_get {h : Hd} {n : Nat} {c : Cell} (e : h[n]? = some c) : n < h.length := (List.getElem?_eq_some_iff.mp e).1

section
variable (h : Hd) (M : Nat → Prop)
mutual
inductive Den : D → D → Prop
  | non : Den .non .non
  | bl (b : Bool) : Den (.bl b) (.bl b)
  | int (i : Int) : Den (.int i) (.int i)
  | str (s : Str) : Den (.str s) (.str s)
  | glb (s : Str) : Den (.glb s) (.glb s)
  | ty (s : String) : Den (.ty s) (.ty s)
  | tup {xs ys : List D} : DenL xs ys → Den (.tup xs) (.tup ys)
  | rol (ns : List Int) : Den (.rol (ns.map .int)) (.rol (ns.map .int))
  | lst {xs ys : List D} : DenL xs ys → Den (.lst xs) (.lst ys)
  | dct {ks vs us ws : List D} : DenL ks us → DenL vs ws → Den (.dct ks vs) (.dct us ws)
  | exc {C : Str} {ns : List Str} {xs ys : List D} : DenL xs ys → Den (.exc C ns xs) (.exc C ns ys)
  | ref {n : Nat} {xs ys : List D} : ¬ M n → h[n]? = some (.lst xs) → DenL xs ys → Den (.ref n) (.lst ys)
  | refd {n : Nat} {ks vs us ws : List D} : ¬ M n → h[n]? = some (.dct ks vs) → DenL ks us → DenL vs ws → Den (.ref n) (.dct us ws)
inductive DenL : List D → List D → Prop
  | nil : DenL [] []
  | cons {x y : D} {xs ys : List D} : Den x y → DenL xs ys → DenL (x :: xs) (y :: ys)
end
def DenC : Cell → D → Prop
  | .lst xs, .lst ys => DenL h M xs ys
  | .dct ks vs, .dct us ws => DenL h M ks us ∧ DenL h M vs ws
  | _, _ => False
def DenS (d v : D) : Prop := Den h M d v ∨ ∃ n c, d = .ref n ∧ h[n]? = some c ∧ DenC h M c v
end
section
variable {h h' : Hd} {M M' : Nat → Prop}
mutual
theorem Den.to (k : ∀ n c, h[n]? = some c → ¬ M n → h'[n]? = some c ∧ ¬ M' n) : ∀ {d v : D}, Den h M d v → Den h' M' d v
  | _, _, .non => .non
  | _, _, .bl b => .bl b
  | _, _, .int i => .int i
  | _, _, .str s => .str s
  | _, _, .glb s => .glb s
  | _, _, .ty s => .ty s
  | _, _, .tup l => .tup (DenL.to k l)
  | _, _, .rol l => .rol l
  | _, _, .lst l => .lst (DenL.to k l)
  | _, _, .dct l m => .dct (DenL.to k l) (DenL.to k m)
  | _, _, .exc l => .exc (DenL.to k l)
  | _, _, .ref a e l => .ref (k _ _ e a).2 (k _ _ e a).1 (DenL.to k l)
  | _, _, .refd a e l m => .refd (k _ _ e a).2 (k _ _ e a).1 (DenL.to k l) (DenL.to k m)
theorem DenL.to (k : ∀ n c, h[n]? = some c → ¬ M n → h'[n]? = some c ∧ ¬ M' n) : ∀ {d v : List D}, DenL h M d v → DenL h' M' d v
  | _, _, .nil => .nil
  | _, _, .cons a b => .cons (Den.to k a) (DenL.to k b)
end
theorem DenC.to (k : ∀ n c, h[n]? = some c → ¬ M n → h'[n]? = some c ∧ ¬ M' n) {c : Cell} {v : D} (d : DenC h M c v) : DenC h' M' c v := by
  cases c with
  | lst xs => cases v <;> first | exact d.elim | exact DenL.to k d
  | dct ks vs => cases v <;> first | exact d.elim | exact ⟨DenL.to k d.1, DenL.to k d.2⟩
  | ins _ _ _ => cases v <;> exact d.elim
theorem Den.keep (k : Keep h h') {d v : D} (x : Den h M d v) : Den h' M d v := x.to fun n c e m => ⟨k n c e, m⟩
theorem DenL.keep (k : Keep h h') {d v : List D} (x : DenL h M d v) : DenL h' M d v := x.to fun n c e m => ⟨k n c e, m⟩
theorem DenC.keep (k : Keep h h') {d : Cell} {v : D} (x : DenC h M d v) : DenC h' M d v := x.to fun n c e m => ⟨k n c e, m⟩
theorem DenS.keep (k : Keep h h') {d v : D} (x : DenS h M d v) : DenS h' M d v := x.imp (·.keep k) fun ⟨n, c, e, g, d⟩ => ⟨n, c, e, k n c g, d.keep k⟩
theorem DenL.length : ∀ {d v : List D}, DenL h M d v → d.length = v.length
  | _, _, .nil => rfl
  | _, _, .cons _ b => by simp [DenL.length b]
theorem DenL.append : ∀ {a b c d : List D}, DenL h M a b → DenL h M c d → DenL h M (a ++ c) (b ++ d)
  | _, _, _, _, .nil, y => y
  | _, _, _, _, .cons a b, y => .cons a (DenL.append b y)
theorem DenL.get : ∀ {xs ys : List D} {i : Nat} {y : D}, DenL h M xs ys → ys[i]? = some y → ∃ x, xs[i]? = some x ∧ Den h M x y
  | _, _, i, y, .nil, e => by simp at e
  | _, _, 0, y, .cons a b, e => by simp at e; subst e; exact ⟨_, rfl, a⟩
  | _, _, i + 1, y, .cons a b, e => by
    obtain ⟨x, e1, d⟩ := DenL.get b (i := i) (by simpa using e)
    exact ⟨x, by simpa using e1, d⟩
theorem DenL.take : ∀ {xs ys : List D} (n : Nat), DenL h M xs ys → DenL h M (xs.take n) (ys.take n)
  | _, _, 0, _ => by simpa using .nil
  | _, _, n + 1, .nil => by simpa using .nil
  | _, _, n + 1, .cons a b => by simpa using .cons a (DenL.take n b)
theorem DenL.drop : ∀ {xs ys : List D} (n : Nat), DenL h M xs ys → DenL h M (xs.drop n) (ys.drop n)
  | _, _, 0, d => by simpa using d
  | _, _, n + 1, .nil => by simpa using .nil
  | _, _, n + 1, .cons a b => by simpa using DenL.drop n b
theorem DenL.put : ∀ {xs ys : List D} {x y : D} (n : Nat), DenL h M xs ys → Den h M x y → DenL h M (xs.set n x) (ys.set n y)
  | _, _, _, _, n, .nil, _ => .nil
  | _, _, _, _, 0, .cons a b, d => .cons d b
  | _, _, _, _, n + 1, .cons a b, d => .cons a (DenL.put n b d)
theorem DenL.snoc {xs ys : List D} {x y : D} (a : DenL h M xs ys) (b : Den h M x y) : DenL h M (xs ++ [x]) (ys ++ [y]) := a.append (.cons b .nil)
theorem DenL.rep {xs ys : List D} (a : DenL h M xs ys) : ∀ k : Nat, DenL h M (List.replicate k xs).flatten (List.replicate k ys).flatten
  | 0 => .nil
  | k + 1 => by
    rw [List.replicate_succ, List.replicate_succ, List.flatten_cons, List.flatten_cons]
    exact a.append (DenL.rep a k)
theorem DenL.zip : ∀ {a b c d : List D}, DenL h M a b → DenL h M c d → DenL h M (zipD a c) (zipD b d)
  | _, _, _, _, .nil, _ => .nil
  | _, _, _, _, .cons a b, .nil => .nil
  | _, _, _, _, .cons a b, .cons c d => .cons (.tup (.cons a (.cons c .nil))) (DenL.zip b d)
mutual
theorem Den.flat : ∀ {d v : D}, Den h M d v → v.set = true → d = v
  | _, _, .non, _ => rfl
  | _, _, .bl b, _ => rfl
  | _, _, .int i, _ => rfl
  | _, _, .str s, _ => rfl
  | _, _, .glb s, _ => rfl
  | _, _, .ty s, _ => rfl
  | _, _, .tup l, e => by rw [DenL.flat l (by simpa [D.set] using e)]
  | _, _, .rol _, _ => rfl
  | _, _, .lst l, e => by simp [D.set] at e
  | _, _, .dct l m, e => by simp [D.set] at e
  | _, _, .exc l, e => by rw [DenL.flat l (by simpa [D.set] using e)]
  | _, _, .ref _ _ _, e => by simp [D.set] at e
  | _, _, .refd _ _ _ _, e => by simp [D.set] at e
theorem DenL.flat : ∀ {d v : List D}, DenL h M d v → setL v = true → d = v
  | _, _, .nil, _ => rfl
  | _, _, .cons (y := y) (ys := ys) a b, e => by
    have e' : y.set = true ∧ setL ys = true := by simpa [setL] using e
    rw [Den.flat a e'.1, DenL.flat b e'.2]
end
theorem DenL.ints : ∀ ns : List Int, DenL h M (ns.map .int) (ns.map .int)
  | [] => .nil
  | n :: ns => .cons (.int n) (DenL.ints ns)
theorem Den.toS {d v : D} (x : Den h M d v) : DenS h M d v := .inl x
theorem DenS.sub {M' : Nat → Prop} (k : ∀ n, M' n → M n) {d v : D} (x : DenS h M d v) : DenS h M' d v :=
  x.imp (·.to fun n c e m => ⟨e, fun z => m (k n z)⟩) fun ⟨n, c, e, g, d⟩ => ⟨n, c, e, g, d.to fun n c e m => ⟨e, fun z => m (k n z)⟩⟩
theorem Den.sub {M' : Nat → Prop} (k : ∀ n, M' n → M n) {d v : D} (x : Den h M d v) : Den h M' d v := x.to fun n c e m => ⟨e, fun z => m (k n z)⟩
theorem DenL.sub {M' : Nat → Prop} (k : ∀ n, M' n → M n) {d v : List D} (x : DenL h M d v) : DenL h M' d v := x.to fun n c e m => ⟨e, fun z => m (k n z)⟩
theorem DenC.sub {M' : Nat → Prop} (k : ∀ n, M' n → M n) {d : Cell} {v : D} (x : DenC h M d v) : DenC h M' d v := x.to fun n c e m => ⟨e, fun z => m (k n z)⟩
theorem DenC.kind {c : Cell} {v : D} (x : DenC h M c v) : (∃ xs ys, c = .lst xs ∧ v = .lst ys ∧ DenL h M xs ys) ∨ ∃ ks vs us ws, c = .dct ks vs ∧ v = .dct us ws ∧ DenL h M ks us ∧ DenL h M vs ws := by
  cases c with
  | lst xs => cases v <;> first | exact x.elim | exact .inl ⟨_, _, rfl, rfl, x⟩
  | dct ks vs => cases v <;> first | exact x.elim | exact .inr ⟨_, _, _, _, rfl, rfl, x.1, x.2⟩
  | ins _ _ _ => cases v <;> exact x.elim
theorem DenC.ref {n : Nat} {c : Cell} {v : D} (m : ¬ M n) (e : h[n]? = some c) (x : DenC h M c v) : Den h M (.ref n) v := by
  rcases x.kind with ⟨xs, ys, rfl, rfl, d⟩ | ⟨ks, vs, us, ws, rfl, rfl, d, f⟩
  · exact .ref m e d
  · exact .refd m e d f
theorem DenS.int {x : D} {i : Int} (d : DenS h M x (.int i)) : x = .int i := by
  rcases d with d | ⟨n, c, rfl, e, d⟩
  · cases d; rfl
  · rcases d.kind with ⟨_, _, _, z, _⟩ | ⟨_, _, _, _, _, z, _⟩ <;> cases z
theorem DenS.bl {x : D} {i : Bool} (d : DenS h M x (.bl i)) : x = .bl i := by
  rcases d with d | ⟨n, c, rfl, e, d⟩
  · cases d; rfl
  · rcases d.kind with ⟨_, _, _, z, _⟩ | ⟨_, _, _, _, _, z, _⟩ <;> cases z
theorem DenS.non {x : D} (d : DenS h M x .non) : x = .non := by
  rcases d with d | ⟨n, c, rfl, e, d⟩
  · cases d; rfl
  · rcases d.kind with ⟨_, _, _, z, _⟩ | ⟨_, _, _, _, _, z, _⟩ <;> cases z
theorem DenS.str {x : D} {i : Str} (d : DenS h M x (.str i)) : x = .str i := by
  rcases d with d | ⟨n, c, rfl, e, d⟩
  · cases d; rfl
  · rcases d.kind with ⟨_, _, _, z, _⟩ | ⟨_, _, _, _, _, z, _⟩ <;> cases z
theorem DenS.ty {x : D} {i : String} (d : DenS h M x (.ty i)) : x = .ty i := by
  rcases d with d | ⟨n, c, rfl, e, d⟩
  · cases d; rfl
  · rcases d.kind with ⟨_, _, _, z, _⟩ | ⟨_, _, _, _, _, z, _⟩ <;> cases z
theorem DenS.glb {x : D} {i : Str} (d : DenS h M x (.glb i)) : x = .glb i := by
  rcases d with d | ⟨n, c, rfl, e, d⟩
  · cases d; rfl
  · rcases d.kind with ⟨_, _, _, z, _⟩ | ⟨_, _, _, _, _, z, _⟩ <;> cases z
theorem DenS.tup {x : D} {ys : List D} (d : DenS h M x (.tup ys)) : ∃ xs, x = .tup xs ∧ DenL h M xs ys := by
  rcases d with d | ⟨n, c, rfl, e, d⟩
  · cases d with
    | tup l => exact ⟨_, rfl, l⟩
  · rcases d.kind with ⟨_, _, _, z, _⟩ | ⟨_, _, _, _, _, z, _⟩ <;> cases z
theorem DenS.rol {x : D} {ys : List D} (d : DenS h M x (.rol ys)) : ∃ ns : List Int, ys = ns.map .int ∧ x = .rol ys ∧ DenL h M ys ys := by
  rcases d with d | ⟨n, c, rfl, e, d⟩
  · cases d with
    | rol ns => exact ⟨ns, rfl, rfl, DenL.ints ns⟩
  · rcases d.kind with ⟨_, _, _, z, _⟩ | ⟨_, _, _, _, _, z, _⟩ <;> cases z
theorem DenS.exc {x : D} {C : Str} {ns : List Str} {ys : List D} (d : DenS h M x (.exc C ns ys)) : ∃ xs, x = .exc C ns xs ∧ DenL h M xs ys := by
  rcases d with d | ⟨n, c, rfl, e, d⟩
  · cases d with
    | exc l => exact ⟨_, rfl, l⟩
  · rcases d.kind with ⟨_, _, _, z, _⟩ | ⟨_, _, _, _, _, z, _⟩ <;> cases z
theorem DenS.lst {x : D} {ys : List D} (d : DenS h M x (.lst ys)) : ∃ xs, DenL h M xs ys ∧ (x = .lst xs ∨ ∃ n, x = .ref n ∧ h[n]? = some (.lst xs)) := by
  rcases d with d | ⟨n, c, rfl, e, d⟩
  · cases d with
    | lst l => exact ⟨_, l, .inl rfl⟩
    | ref a e l => exact ⟨_, l, .inr ⟨_, rfl, e⟩⟩
  · rcases d.kind with ⟨xs, ys, rfl, z, d⟩ | ⟨_, _, _, _, _, z, _⟩
    · cases z; exact ⟨xs, d, .inr ⟨n, rfl, e⟩⟩
    · cases z
theorem DenS.dct {x : D} {us ws : List D} (d : DenS h M x (.dct us ws)) : ∃ ks vs, DenL h M ks us ∧ DenL h M vs ws ∧ (x = .dct ks vs ∨ ∃ n, x = .ref n ∧ h[n]? = some (.dct ks vs)) := by
  rcases d with d | ⟨n, c, rfl, e, d⟩
  · cases d with
    | dct l m => exact ⟨_, _, l, m, .inl rfl⟩
    | refd a e l m => exact ⟨_, _, l, m, .inr ⟨_, rfl, e⟩⟩
  · rcases d.kind with ⟨_, _, _, z, _⟩ | ⟨ks, vs, us, ws, rfl, z, d, f⟩
    · cases z
    · cases z; exact ⟨ks, vs, d, f, .inr ⟨n, rfl, e⟩⟩
theorem DenS.noref {x : D} {n : Nat} (d : DenS h M x (.ref n)) : False := by
  rcases d with d | ⟨n, c, rfl, e, d⟩
  · cases d
  · rcases d.kind with ⟨_, _, _, z, _⟩ | ⟨_, _, _, _, _, z, _⟩ <;> cases z

def Lt (M : Nat → Prop) (h : Hd) : Prop := ∀ n, M n → n < h.length
theorem Lt.keep {k : Keep h h'} (l : Lt M h) : Lt M h' := fun n m => Nat.lt_of_lt_of_le (l n m) k.len
mutual
theorem box_den : ∀ {d v : D} {h : Hd}, Lt M h → Den h M d v → Keep h (box d h).2 ∧ Den (box d h).2 M (box d h).1 v
  | _, _, h, _, .non => ⟨.refl h, .non⟩
  | _, _, h, _, .bl b => ⟨.refl h, .bl b⟩
  | _, _, h, _, .int b => ⟨.refl h, .int b⟩
  | _, _, h, _, .str b => ⟨.refl h, .str b⟩
  | _, _, h, _, .glb b => ⟨.refl h, .glb b⟩
  | _, _, h, _, .ty b => ⟨.refl h, .ty b⟩
  | _, _, h, _, .rol b => ⟨.refl h, .rol b⟩
  | _, _, h, _, .exc b => ⟨.refl h, .exc b⟩
  | _, _, h, _, .ref a b c => ⟨.refl h, .ref a b c⟩
  | _, _, h, _, .refd a b c d => ⟨.refl h, .refd a b c d⟩
  | _, _, h, l, .tup xs => by
    obtain ⟨k, d⟩ := boxL_den l xs
    exact ⟨by simpa only [box] using k, by simpa only [box] using .tup d⟩
  | _, _, h, l, .lst (xs := as) xs => by
    obtain ⟨k, d⟩ := boxL_den l xs
    simp only [box]
    have k2 := k.trans (Keep.push _ [.lst (boxL as h).1])
    refine ⟨k2, .ref (fun m => ?_) (by simp) (d.keep (Keep.push _ _))⟩
    have := l _ m
    have := k.len
    omega
  | _, _, h, l, .dct (ks := ks) (us := us) (vs := bs) xs ys => by
    obtain ⟨k, d⟩ := boxL_den l ys
    simp only [box]
    have k2 := k.trans (Keep.push _ [.dct ks (boxL bs h).1])
    refine ⟨k2, .refd (fun m => ?_) (by simp) (xs.keep k2) (d.keep (Keep.push _ _))⟩
    have := l _ m
    have := k.len
    omega
theorem boxL_den : ∀ {d v : List D} {h : Hd}, Lt M h → DenL h M d v → Keep h (boxL d h).2 ∧ DenL (boxL d h).2 M (boxL d h).1 v
  | _, _, h, _, .nil => ⟨.refl h, .nil⟩
  | _, _, h, l, .cons a b => by
    obtain ⟨k, d⟩ := box_den l a
    obtain ⟨k2, d2⟩ := boxL_den (l.keep (k := k)) (b.keep k)
    simp only [boxL]
    exact ⟨k.trans k2, .cons (d.keep k2) d2⟩
end
mutual
theorem Den.cut {n0 : Nat} (hc : (h.take n0).all (Cell.refsLt n0) = true) : ∀ {d v : D}, Den h M d v → refsLt n0 d = true → Den (h.take n0) M d v
  | _, _, .non, _ => .non
  | _, _, .bl b, _ => .bl b
  | _, _, .int b, _ => .int b
  | _, _, .str b, _ => .str b
  | _, _, .glb b, _ => .glb b
  | _, _, .ty b, _ => .ty b
  | _, _, .rol b, _ => .rol b
  | _, _, .tup l, e => .tup (DenL.cut hc l (by simpa only [refsLt] using e))
  | _, _, .lst l, e => .lst (DenL.cut hc l (by simpa only [refsLt] using e))
  | _, _, .exc l, e => .exc (DenL.cut hc l (by simpa only [refsLt] using e))
  | _, _, .dct (ks := ks) (vs := vs) l m, e => by
    have e' : refsLtL n0 ks = true ∧ refsLtL n0 vs = true := by simpa only [refsLt, Bool.and_eq_true] using e
    exact .dct (DenL.cut hc l e'.1) (DenL.cut hc m e'.2)
  | _, _, .ref (n := n) (xs := as) a b l, e => by
    have e' : n < n0 := of_decide_eq_true (by simpa only [refsLt] using e)
    have g : (h.take n0)[n]? = some (.lst as) := by rw [List.getElem?_take, if_pos e']; exact b
    exact .ref a g (DenL.cut hc l (List.all_eq_true.mp hc _ (List.mem_of_getElem? g)))
  | _, _, .refd (n := n) (ks := ks) (vs := vs) a b l m, e => by
    have e' : n < n0 := of_decide_eq_true (by simpa only [refsLt] using e)
    have g : (h.take n0)[n]? = some (.dct ks vs) := by rw [List.getElem?_take, if_pos e']; exact b
    have q := List.all_eq_true.mp hc _ (List.mem_of_getElem? g)
    have q' : refsLtL n0 ks = true ∧ refsLtL n0 vs = true := by simpa only [Cell.refsLt, Bool.and_eq_true] using q
    exact .refd a g (DenL.cut hc l q'.1) (DenL.cut hc m q'.2)
theorem DenL.cut {n0 : Nat} (hc : (h.take n0).all (Cell.refsLt n0) = true) : ∀ {d v : List D}, DenL h M d v → refsLtL n0 d = true → DenL (h.take n0) M d v
  | _, _, .nil, _ => .nil
  | _, _, .cons (x := x) (xs := xs) a b, e => by
    have e' : refsLt n0 x = true ∧ refsLtL n0 xs = true := by simpa only [refsLtL, Bool.and_eq_true] using e
    exact .cons (Den.cut hc a e'.1) (DenL.cut hc b e'.2)
end
theorem DenC.cut {n0 : Nat} (hc : (h.take n0).all (Cell.refsLt n0) = true) {c : Cell} {v : D} (d : DenC h M c v) (e : c.refsLt n0 = true) : DenC (h.take n0) M c v := by
  rcases d.kind with ⟨xs, ys, rfl, rfl, l⟩ | ⟨ks, vs, us, ws, rfl, rfl, l, m⟩
  · exact DenL.cut hc l e
  · have q' : refsLtL n0 ks = true ∧ refsLtL n0 vs = true := by simpa only [Cell.refsLt, Bool.and_eq_true] using e
    exact ⟨DenL.cut hc l q'.1, DenL.cut hc m q'.2⟩
theorem unboxL_den {f : D → Option (D × List Nat)} {n0 : Nat} (hf : ∀ d v d' us, Den h M d v → f d = some (d', us) → Den (h.take n0) M d' v) :
    ∀ {xs ys : List D}, DenL h M xs ys → ∀ {zs us}, unboxL f xs = some (zs, us) → DenL (h.take n0) M zs ys
  | _, _, .nil, zs, us, e => by
    simp [unboxL] at e
    rw [e.1]
    exact .nil
  | _, _, .cons a b, zs, us, e => by
    simp only [unboxL] at e
    split at e
    · rename_i y u ys' us' e1 e2
      simp at e
      rw [← e.1]
      exact .cons (hf _ _ _ _ a e1) (unboxL_den hf b e2)
    · cases e
theorem unbox_den {n0 : Nat} (hc : (h.take n0).all (Cell.refsLt n0) = true) : ∀ (k : Nat) (d v d' : D) (us : List Nat), Den h M d v → unbox h n0 k d = some (d', us) → Den (h.take n0) M d' v ∧ (∀ n, d' = .ref n → n < n0)
  | 0, d, v, d', us, _, e => by simp [unbox] at e
  | k + 1, d, v, d', us, x, e => by
    have leaf : ∀ d : D, Den h M d v → (∀ n, d ≠ .ref n) → (if refsLt n0 d = true then some (d, ([] : List Nat)) else none) = some (d', us) → Den (h.take n0) M d' v ∧ (∀ n, d' = .ref n → n < n0) := fun d x nr e => by
      split at e
      · rename_i q
        simp at e
        rw [← e.1]
        exact ⟨Den.cut hc x q, fun n z => absurd z (nr n)⟩
      · cases e
    have ih := fun d v d' us x e => (unbox_den hc k d v d' us x e).1
    cases x with
    | ref a b l =>
      simp only [unbox] at e
      split at e
      · rename_i q
        simp at e
        rw [← e.1]
        exact ⟨Den.cut hc (.ref a b l) (by simpa only [refsLt] using decide_eq_true q), fun n z => by cases z; exact q⟩
      · rw [b] at e
        simp only at e
        split at e
        · rename_i e1
          simp at e
          rw [← e.1]
          exact ⟨.lst (unboxL_den ih l e1), fun n z => nomatch z⟩
        · cases e
    | refd a b l m =>
      simp only [unbox] at e
      split at e
      · rename_i q
        simp at e
        rw [← e.1]
        exact ⟨Den.cut hc (.refd a b l m) (by simpa only [refsLt] using decide_eq_true q), fun n z => by cases z; exact q⟩
      · rw [b] at e
        simp only at e
        split at e
        · rename_i pk
          split at e
          · rename_i e1
            simp at e
            rw [← e.1]
            exact ⟨.dct (DenL.cut hc l pk) (unboxL_den ih m e1), fun n z => nomatch z⟩
          · cases e
        · cases e
    | tup l =>
      simp only [unbox] at e
      split at e
      · rename_i e1
        simp at e
        rw [← e.1]
        exact ⟨.tup (unboxL_den ih l e1), fun n z => nomatch z⟩
      · cases e
    | lst l =>
      simp only [unbox] at e
      split at e
      · rename_i e1
        simp at e
        rw [← e.1]
        exact ⟨.lst (unboxL_den ih l e1), fun n z => nomatch z⟩
      · cases e
    | dct l m =>
      simp only [unbox] at e
      split at e
      · rename_i pk
        split at e
        · rename_i e1
          simp at e
          rw [← e.1]
          exact ⟨.dct (DenL.cut hc l pk) (unboxL_den ih m e1), fun n z => nomatch z⟩
        · cases e
      · cases e
    | non => exact leaf _ .non (fun _ z => nomatch z) (by simpa only [unbox] using e)
    | bl b => exact leaf _ (.bl b) (fun _ z => nomatch z) (by simpa only [unbox] using e)
    | int b => exact leaf _ (.int b) (fun _ z => nomatch z) (by simpa only [unbox] using e)
    | str b => exact leaf _ (.str b) (fun _ z => nomatch z) (by simpa only [unbox] using e)
    | glb b => exact leaf _ (.glb b) (fun _ z => nomatch z) (by simpa only [unbox] using e)
    | ty b => exact leaf _ (.ty b) (fun _ z => nomatch z) (by simpa only [unbox] using e)
    | rol b => exact leaf _ (.rol b) (fun _ z => nomatch z) (by simpa only [unbox] using e)
    | exc l => exact leaf _ (.exc l) (fun _ z => nomatch z) (by simpa only [unbox] using e)
def Frs (n0 : Nat) (h : Hd) (M : Nat → Prop) (d v : D) : Prop :=
  (∃ xs ys, d = .lst xs ∧ v = .lst ys ∧ DenL h M xs ys) ∨ (∃ ks vs us ws, d = .dct ks vs ∧ v = .dct us ws ∧ DenL h M ks us ∧ DenL h M vs ws) ∨ ∃ n c, d = .ref n ∧ n0 ≤ n ∧ h[n]? = some c ∧ DenC h (fun m => M m ∨ m = n) c v
theorem Frs.den {n0 : Nat} {d v : D} (f : Frs n0 h M d v) (l : ∀ n, M n → n < n0) : Den h M d v := by
  rcases f with ⟨xs, ys, rfl, rfl, d⟩ | ⟨ks, vs, us, ws, rfl, rfl, d, e⟩ | ⟨n, c, rfl, hn, e, d⟩
  · exact .lst d
  · exact .dct d e
  · exact (d.sub fun m => .inl).ref (fun z => by have := l n z; omega) e
theorem Frs.keep {n0 : Nat} {d v : D} (k : Keep h h') (f : Frs n0 h M d v) : Frs n0 h' M d v := by
  rcases f with ⟨xs, ys, rfl, rfl, d⟩ | ⟨ks, vs, us, ws, rfl, rfl, d, e⟩ | ⟨n, c, rfl, hn, e, d⟩
  · exact .inl ⟨_, _, rfl, rfl, d.keep k⟩
  · exact .inr (.inl ⟨_, _, _, _, rfl, rfl, d.keep k, e.keep k⟩)
  · exact .inr (.inr ⟨n, c, rfl, hn, k n c e, d.keep k⟩)
theorem gc_den {n0 : Nat} {d v : D} {h2 : Hd} (hn : n0 ≤ h2.length) (x : Den h2 M d v) : ∃ d' h', gc n0 d h2 = .ok d' h' ∧ (∀ n, n < n0 → h'[n]? = h2[n]?) ∧ Den h' M d' v ∧ n0 ≤ h'.length ∧
    (∀ c w, Cell.refsLt n0 c = true → DenC h2 M c w → DenC h' M c w) ∧ ((h2.take n0).all (Cell.refsLt n0) = true ∨ h' = h2) ∧ (Frs n0 h2 M d v → Frs n0 h' M d' v) := by
  have same : ∃ d' h', (R.ok d h2 : R D) = .ok d' h' ∧ (∀ n, n < n0 → h'[n]? = h2[n]?) ∧ Den h' M d' v ∧ n0 ≤ h'.length ∧ (∀ c w, Cell.refsLt n0 c = true → DenC h2 M c w → DenC h' M c w) ∧ ((h2.take n0).all (Cell.refsLt n0) = true ∨ h' = h2) ∧ (Frs n0 h2 M d v → Frs n0 h' M d' v) :=
    ⟨d, h2, rfl, fun _ _ => rfl, x, hn, fun c w _ d => d, .inr rfl, id⟩
  unfold gc
  split
  · rename_i hc
    split
    · rename_i d' us e
      split
      · have u := unbox_den hc 20 d v d' us x e
        refine ⟨d', h2.take n0, rfl, fun n z => by rw [List.getElem?_take, if_pos z], u.1, by rw [List.length_take]; omega, fun c w q d => d.cut hc q, .inl hc, fun f => ?_⟩
        rcases f with ⟨xs, ys, rfl, rfl, d⟩ | ⟨ks, vs, us, ws, rfl, rfl, d, _⟩ | ⟨n, c, rfl, hn', e', d⟩
        · simp only [unbox] at e
          split at e
          · simp at e
            rw [← e.1] at u ⊢
            cases u.1 with
            | lst l => exact .inl ⟨_, _, rfl, rfl, l⟩
          · cases e
        · simp only [unbox] at e
          split at e
          · split at e
            · simp at e
              rw [← e.1] at u ⊢
              cases u.1 with
              | dct l m => exact .inr (.inl ⟨_, _, _, _, rfl, rfl, l, m⟩)
            · cases e
          · cases e
        · simp only [unbox] at e
          rw [if_neg (by omega), e'] at e
          cases c with
          | lst xs =>
            simp only at e
            split at e
            · simp at e
              rw [← e.1] at u ⊢
              cases u.1 with
              | lst l => exact .inl ⟨_, _, rfl, rfl, l⟩
            · cases e
          | dct ks xs =>
            simp only at e
            split at e
            · split at e
              · simp at e
                rw [← e.1] at u ⊢
                cases u.1 with
                | dct l m => exact .inr (.inl ⟨_, _, _, _, rfl, rfl, l, m⟩)
              · cases e
            · cases e
          | ins _ _ _ => cases e
      · exact same
    · exact same
  · exact same
end
end Pq

namespace Pq
open PySem Tw
open L2 (atI ixN)

section
variable (h : Hd) (M : Nat → Prop)
inductive DenSL : List D → List D → Prop
  | nil : DenSL [] []
  | cons {x y : D} {xs ys : List D} : DenS h M x y → DenSL xs ys → DenSL (x :: xs) (y :: ys)
end
section
variable {h h' : Hd} {M : Nat → Prop}
theorem DenL.toS : ∀ {xs ys : List D}, DenL h M xs ys → DenSL h M xs ys
  | _, _, .nil => .nil
  | _, _, .cons a b => .cons (.inl a) (DenL.toS b)
theorem DenSL.keep (k : Keep h h') : ∀ {xs ys : List D}, DenSL h M xs ys → DenSL h' M xs ys
  | _, _, .nil => .nil
  | _, _, .cons a b => .cons (a.keep k) (b.keep k)
theorem DenSL.one {xs : List D} {y : D} (d : DenSL h M xs [y]) : ∃ x, xs = [x] ∧ DenS h M x y := by
  cases d with
  | cons a b => cases b; exact ⟨_, rfl, a⟩
theorem DenSL.two {xs : List D} {y z : D} (d : DenSL h M xs [y, z]) : ∃ x w, xs = [x, w] ∧ DenS h M x y ∧ DenS h M w z := by
  cases d with
  | cons a b => cases b with
    | cons b c => cases c; exact ⟨_, _, rfl, a, b⟩
def OC2 (op : D → D → Hd → Option D) : Prop := ∀ {h : Hd} {M : Nat → Prop} {x y x' y' r : D}, DenS h M x x' → DenS h M y y' → op x' y' [] = some r → ∃ d, op x y h = some d ∧ Den h M d r
def OCN (op : List D → Hd → Option D) : Prop := ∀ {h : Hd} {M : Nat → Prop} {xs xs' : List D} {r : D}, DenSL h M xs xs' → op xs' [] = some r → ∃ d, op xs h = some d ∧ Den h M d r
def NR2 (op : D → D → Hd → Option D) : Prop := ∀ {h : Hd} {x y d : D}, op x y h = some d → ∀ n, d ≠ .ref n
theorem isLst_den {x x' : D} {ys : List D} (d : DenS h M x x') (e : isLst [] x' = some ys) : ∃ xs, isLst h x = some xs ∧ DenL h M xs ys ∧ (x = .lst xs ∨ ∃ n, x = .ref n ∧ h[n]? = some (.lst xs)) := by
  cases x' with
  | lst zs =>
    simp [isLst] at e
    subst e
    obtain ⟨xs, l, z⟩ := d.lst
    rcases z with rfl | ⟨n, rfl, g⟩
    · exact ⟨xs, rfl, l, .inl rfl⟩
    · exact ⟨xs, by simp only [isLst, g], l, .inr ⟨n, rfl, g⟩⟩
  | ref n => exact d.noref.elim
  | _ => simp [isLst] at e
theorem seqOf_den {x x' : D} {ys : List D} (d : DenS h M x x') (e : seqOf [] x' = some ys) : ∃ xs, seqOf h x = some xs ∧ DenL h M xs ys ∧ (∀ s, x ≠ .str s) := by
  cases x' with
  | lst zs =>
    simp [seqOf] at e
    subst e
    obtain ⟨xs, l, z⟩ := d.lst
    rcases z with rfl | ⟨n, rfl, g⟩
    · exact ⟨xs, rfl, l, fun _ z => nomatch z⟩
    · exact ⟨xs, by simp only [seqOf, g], l, fun _ z => nomatch z⟩
  | tup zs =>
    simp [seqOf] at e
    subst e
    obtain ⟨xs, rfl, l⟩ := d.tup
    exact ⟨xs, rfl, l, fun _ z => nomatch z⟩
  | rol zs =>
    simp [seqOf] at e
    subst e
    obtain ⟨ns, e1, rfl, l⟩ := d.rol
    exact ⟨_, rfl, l, fun _ z => nomatch z⟩
  | ref n => exact d.noref.elim
  | _ => simp [seqOf] at e
theorem optL_den {f g : D → Option α} (hf : ∀ x y p, Den h M x y → g y = some p → f x = some p) : ∀ {xs ys : List D} {ps : List α}, DenL h M xs ys → optL g ys = some ps → optL f xs = some ps
  | _, _, ps, .nil, e => e
  | _, _, ps, .cons a b, e => by
    simp only [optL] at e ⊢
    split at e
    · rename_i y ys e1 e2
      rw [hf _ _ _ a e1, optL_den hf b e2]
      exact e
    · cases e
theorem toPy_denL {k : Nat} (ih : ∀ x x' p, Den h M x x' → toPy [] k x' = some p → toPy h k x = some p) {c : List PyData → PyData} {xs ys : List D} {p : PyData} (l : DenL h M xs ys)
    (e : (match optL (toPy [] k) ys with | some zs => some (c zs) | none => none) = some p) : (match optL (toPy h k) xs with | some zs => some (c zs) | none => none) = some p := by
  cases q : optL (toPy [] k) ys with
  | none => rw [q] at e; cases e
  | some ps => rw [q] at e; rw [optL_den ih l q]; exact e
theorem toPy_den0 : ∀ (k : Nat) (x x' : D) (p : PyData), DenS h M x x' → toPy [] k x' = some p → toPy h k x = some p
  | 0, _, _, _, _, e => by simp [toPy] at e
  | k + 1, x, x', p, d, e => by
    have ih : ∀ x x' p, Den h M x x' → toPy [] k x' = some p → toPy h k x = some p := fun x x' p d e => toPy_den0 k x x' p (.inl d) e
    cases x' with
    | non => rw [d.non]; exact e
    | bl b => rw [d.bl]; exact e
    | int b => rw [d.int]; exact e
    | str b => rw [d.str]; exact e
    | glb b => simp [toPy] at e
    | ty b => simp [toPy] at e
    | dct _ _ => simp [toPy] at e
    | exc _ _ _ => simp [toPy] at e
    | ref n => exact d.noref.elim
    | tup ys =>
      obtain ⟨xs, rfl, l⟩ := d.tup
      simp only [toPy] at e ⊢
      exact toPy_denL ih l e
    | rol ys =>
      obtain ⟨ns, e1, rfl, l⟩ := d.rol
      simp only [toPy] at e ⊢
      exact toPy_denL ih l e
    | lst ys =>
      obtain ⟨xs, l, z⟩ := d.lst
      rcases z with rfl | ⟨n, rfl, g⟩
      · simp only [toPy] at e ⊢
        exact toPy_denL ih l e
      · simp only [toPy, g] at e ⊢
        exact toPy_denL ih l e
theorem toPy_den {k : Nat} {x x' : D} {p : PyData} (d : DenS h M x x') (e : toPy [] k x' = some p) : toPy h k x = some p := toPy_den0 k x x' p d e
theorem atI_den {xs ys : List D} {i : Int} {r : D} (l : DenL h M xs ys) (e : atI ys i = some r) : ∃ x, atI xs i = some x ∧ Den h M x r := by
  unfold atI at e ⊢
  rw [l.length]
  cases q : ixN ys.length i with
  | none => rw [q] at e; cases e
  | some j => rw [q] at e; exact l.get e
theorem unB_den (x y : D) (p : Bool) (d : Den h M x y) (e : unB y = some p) : unB x = some p := by
  cases y <;> simp [unB] at e
  subst e
  rw [d.toS.bl]; rfl
end

section
theorem oc_of {op : D → D → Hd → Option D} (hk : ∀ x y h r, op x y h = some r → (∃ i j, x = .int i ∧ y = .int j) ∧ (∃ i b, r = .int i ∨ r = .bl b) ∧ ∀ h', op x y h' = some r) : OC2 op := by
  intro h M x y x' y' r dx dy e
  obtain ⟨⟨i, j, rfl, rfl⟩, ⟨k, b, q⟩, w⟩ := hk _ _ _ _ e
  rw [dx.int, dy.int]
  rcases q with rfl | rfl
  · exact ⟨_, w h, .int _⟩
  · exact ⟨_, w h, .bl _⟩
theorem oc_sub : OC2 dSub := oc_of fun x y h r e => by
  unfold dSub at e
  split at e
  · exact ⟨⟨_, _, rfl, rfl⟩, ⟨_, true, .inl (Option.some.inj e).symm⟩, fun _ => by rw [← e]; rfl⟩
  · cases e
theorem oc_mul : OC2 dMul := oc_of fun x y h r e => by
  unfold dMul at e
  split at e
  · split at e
    · rename_i q
      exact ⟨⟨_, _, rfl, rfl⟩, ⟨_, true, .inl (Option.some.inj e).symm⟩, fun _ => by rw [← e]; simp only [dMul, q, if_true]⟩
    · cases e
  · cases e
theorem oc_fdiv : OC2 dFdiv := oc_of fun x y h r e => by
  unfold dFdiv at e
  split at e
  · split at e
    · rename_i q
      exact ⟨⟨_, _, rfl, rfl⟩, ⟨_, true, .inl (Option.some.inj e).symm⟩, fun _ => by rw [← e]; simp only [dFdiv, q, if_true]⟩
    · cases e
  · cases e
theorem oc_mod : OC2 dMod := oc_of fun x y h r e => by
  unfold dMod at e
  split at e
  · split at e
    · rename_i q
      exact ⟨⟨_, _, rfl, rfl⟩, ⟨_, true, .inl (Option.some.inj e).symm⟩, fun _ => by rw [← e]; simp only [dMod, q, if_true]⟩
    · cases e
  · cases e
theorem oc_pow : OC2 dPow := oc_of fun x y h r e => by
  unfold dPow at e
  split at e
  · split at e
    · rename_i q
      exact ⟨⟨_, _, rfl, rfl⟩, ⟨_, true, .inl (Option.some.inj e).symm⟩, fun _ => by rw [← e]; simp only [dPow, q, if_true]⟩
    · cases e
  · cases e
theorem oc_cmp (p : Int → Int → Bool) : OC2 (dCmp p) := oc_of fun x y h r e => by
  unfold dCmp at e
  split at e
  · exact ⟨⟨_, _, rfl, rfl⟩, ⟨0, _, .inr (Option.some.inj e).symm⟩, fun _ => by rw [← e]; rfl⟩
  · cases e
theorem oc_lt : OC2 dLt := oc_cmp _
theorem oc_gt : OC2 dGt := oc_cmp _
theorem oc_ge : OC2 dGe := oc_cmp _
theorem isNon_den {h : Hd} {M : Nat → Prop} {x x' : D} (dx : DenS h M x x') : isNon x = isNon x' := by
  rcases dx with d | ⟨n, c, rfl, e, d⟩
  · cases d <;> rfl
  · rcases d.kind with ⟨_, _, _, rfl, _⟩ | ⟨_, _, _, _, _, rfl, _⟩ <;> rfl
theorem oc_is : OC2 dIs := by
  intro h M x y x' y' r dx dy e
  unfold dIs at e
  split at e
  · cases e
    rw [dy.non]
    exact ⟨_, rfl, by rw [isNon_den dx]; exact .bl _⟩
  · cases e
    rw [dx.bl, dy.bl]
    exact ⟨_, rfl, .bl _⟩
  · cases e
theorem oc_add : OC2 dAdd := by
  intro h M x y x' y' r dx dy e
  unfold dAdd at e
  split at e
  · cases e
    rw [dx.int, dy.int]; exact ⟨_, rfl, .int _⟩
  · split at e
    · rename_i q
      cases e
      rw [dx.str, dy.str]; exact ⟨_, by simp only [dAdd, q, if_true], .str _⟩
    · cases e
  · split at e
    · rename_i q
      cases e
      obtain ⟨xs, rfl, l⟩ := dx.tup
      obtain ⟨ys, rfl, m⟩ := dy.tup
      rw [← l.length, ← m.length] at q
      exact ⟨_, by simp only [dAdd, q, if_true], .tup (l.append m)⟩
    · cases e
  · split at e
    · rename_i xs ys e1 e2
      split at e
      · rename_i q
        cases e
        obtain ⟨as, f1, l, z1⟩ := isLst_den dx e1
        obtain ⟨bs, f2, m, z2⟩ := isLst_den dy e2
        rw [← l.length, ← m.length] at q
        refine ⟨.lst (as ++ bs), ?_, .lst (l.append m)⟩
        rcases z1 with rfl | ⟨n, rfl, g⟩ <;> rcases z2 with rfl | ⟨k, rfl, g'⟩ <;> simp only [dAdd, f1, f2, q, if_true]
      · cases e
    · cases e
theorem nr_add : NR2 dAdd := by
  intro h x y d e n z
  subst z
  unfold dAdd at e
  split at e
  · cases e
  · split at e <;> cases e
  · split at e <;> cases e
  · split at e
    · split at e <;> cases e
    · cases e
theorem oc_len : OCN dLen := by
  intro h M xs xs' r d e
  unfold dLen at e
  split at e
  · split at e
    · rename_i q
      cases e
      obtain ⟨x, rfl, dx⟩ := d.one
      rw [dx.str]
      exact ⟨_, by simp only [dLen, q, if_true], .int _⟩
    · cases e
  · split at e
    · rename_i e1
      cases e
      obtain ⟨x, rfl, dx⟩ := d.one
      obtain ⟨as, f1, l, ns⟩ := seqOf_den dx e1
      refine ⟨.int as.length, ?_, by rw [l.length]; exact .int _⟩
      cases x <;> first | exact absurd rfl (ns _) | simp only [dLen, f1]
    · cases e
  · cases e
theorem oc_ix : OC2 dIx := by
  intro h M x y x' y' r dx dy e
  unfold dIx at e
  split at e
  · split at e
    · rename_i q
      split at e
      · rename_i e1
        cases e
        rw [dx.str, dy.int]
        exact ⟨_, by simp only [dIx, q, if_true, e1], .str _⟩
      · cases e
    · cases e
  · split at e
    · rename_i e1
      obtain ⟨as, f1, l, ns⟩ := seqOf_den dx e1
      obtain ⟨a, f2, da⟩ := atI_den l e
      rw [dy.int]
      refine ⟨a, ?_, da⟩
      cases x <;> first | exact absurd rfl (ns _) | simp only [dIx, f1, f2]
    · cases e
  · cases e
theorem oc_eq : OC2 dEq := by
  intro h M x y x' y' r dx dy e
  unfold dEq at e
  split at e
  · rename_i e1 e2
    cases e
    exact ⟨_, by simp only [dEq, toPy_den dx e1, toPy_den dy e2], .bl _⟩
  · cases e
theorem oc_ne : OC2 dNe := by
  intro h M x y x' y' r dx dy e
  unfold dNe at e
  split at e
  · rename_i e1 e2
    cases e
    exact ⟨_, by simp only [dNe, toPy_den dx e1, toPy_den dy e2], .bl _⟩
  · cases e
theorem oc_times : OC2 dTimes := by
  intro h M x y x' y' r dx dy e
  unfold dTimes at e
  split at e
  · split at e
    · rename_i ys k q
      cases e
      obtain ⟨xs, l, z⟩ := dx.lst
      have := l.flat q.1
      subst this
      rw [dy.int]
      rcases z with rfl | ⟨n, rfl, g⟩
      · exact ⟨_, by simp only [dTimes, q, if_true]; simp, .lst (l.rep _)⟩
      · exact ⟨_, by simp only [dTimes, g, q, if_true]; simp, .lst (l.rep _)⟩
    · cases e
  · exact dx.noref.elim
  · split at e
    · rename_i ys k q
      cases e
      obtain ⟨xs, rfl, l⟩ := dx.tup
      have := l.flat q.1
      subst this
      rw [dy.int]
      exact ⟨_, by simp only [dTimes, if_pos q], .tup (l.rep _)⟩
    · cases e
  · rename_i n1 n2 n3
    obtain ⟨d, e1, e2⟩ := oc_mul dx dy e
    refine ⟨d, ?_, e2⟩
    unfold dMul at e
    split at e
    · rw [dx.int, dy.int] at e1 ⊢
      exact e1
    · cases e
theorem nr_times : NR2 dTimes := by
  intro h x y d e n z
  subst z
  unfold dTimes at e
  split at e
  · split at e <;> cases e
  · split at e
    · split at e <;> cases e
    · cases e
  · split at e <;> cases e
  · unfold dMul at e
    split at e
    · split at e <;> cases e
    · cases e
theorem oc_tup {h : Hd} {M : Nat → Prop} {xs xs' : List D} {r : D} (d : DenL h M xs xs') (e : dTup xs' [] = some r) : ∃ d, dTup xs h = some d ∧ Den h M d r := by
  unfold dTup at e
  split at e
  · rename_i q
    cases e
    rw [← d.length] at q
    exact ⟨_, by simp only [dTup, q, if_true], .tup d⟩
  · cases e
theorem oc_lst {h : Hd} {M : Nat → Prop} {xs xs' : List D} {r : D} (d : DenL h M xs xs') (e : dLst xs' [] = some r) : ∃ d, dLst xs h = some d ∧ Den h M d r ∧ ∀ n, d ≠ .ref n := by
  unfold dLst at e
  split at e
  · rename_i q
    cases e
    rw [← d.length] at q
    exact ⟨_, by simp only [dLst, q, if_true], .lst d, fun _ z => nomatch z⟩
  · cases e
theorem ocn_of {op : List D → Hd → Option D} (hk : ∀ xs h r, op xs h = some r → ∃ x, xs = [x] ∧ ((∃ i, x = .int i) ∨ (∃ b, x = .bl b)) ∧ ((∃ i, r = .int i) ∨ (∃ i, r = .bl i) ∨ (∃ i, r = .str i)) ∧ ∀ h', op xs h' = some r) : OCN op := by
  intro h M xs xs' r d e
  obtain ⟨x, rfl, k, q, w⟩ := hk _ _ _ e
  obtain ⟨z, rfl, dz⟩ := d.one
  have : z = x := by
    rcases k with ⟨i, rfl⟩ | ⟨b, rfl⟩
    · exact dz.int
    · exact dz.bl
  subst this
  refine ⟨r, w h, ?_⟩
  rcases q with ⟨i, rfl⟩ | ⟨i, rfl⟩ | ⟨i, rfl⟩
  · exact .int _
  · exact .bl _
  · exact .str _
theorem oc_abs : OCN dAbs := ocn_of fun xs h r e => by
  unfold dAbs at e
  split at e
  · exact ⟨_, rfl, .inl ⟨_, rfl⟩, .inl ⟨_, (Option.some.inj e).symm⟩, fun _ => by rw [← e]; rfl⟩
  · cases e
theorem oc_toInt : OCN dInt := ocn_of fun xs h r e => by
  unfold dInt at e
  split at e
  · exact ⟨_, rfl, .inl ⟨_, rfl⟩, .inl ⟨_, (Option.some.inj e).symm⟩, fun _ => by rw [← e]; rfl⟩
  · exact ⟨_, rfl, .inr ⟨_, rfl⟩, .inl ⟨_, (Option.some.inj e).symm⟩, fun _ => by rw [← e]; rfl⟩
  · cases e
theorem oc_min2 : OCN dMin2 := by
  intro h M xs xs' r d e
  unfold dMin2 at e
  split at e
  · cases e
    obtain ⟨x, w, rfl, d1, d2⟩ := d.two
    rw [d1.int, d2.int]
    exact ⟨_, rfl, .int _⟩
  · cases e
theorem oc_all : OCN dAll := by
  intro h M xs xs' r d e
  unfold dAll at e
  split at e
  · split at e
    · rename_i e1
      split at e
      · rename_i e2
        cases e
        obtain ⟨x, rfl, dx⟩ := d.one
        obtain ⟨as, f1, l, _⟩ := isLst_den dx e1
        exact ⟨_, by simp only [dAll, f1, optL_den unB_den l e2], .bl _⟩
      · cases e
    · cases e
  · cases e
theorem tyN_den {h : Hd} {M : Nat → Prop} {x x' : D} {t : String} (d : DenS h M x x') (e : tyN [] x' = some t) : tyN h x = some t := by
  cases x' with
  | non => rw [d.non]; exact e
  | bl b => rw [d.bl]; exact e
  | int b => rw [d.int]; exact e
  | str b => rw [d.str]; exact e
  | tup ys => obtain ⟨xs, rfl, l⟩ := d.tup; exact e
  | rol ys => obtain ⟨ns, _, rfl, l⟩ := d.rol; exact e
  | lst ys =>
    obtain ⟨as, l, z⟩ := d.lst
    rcases z with rfl | ⟨n, rfl, g⟩
    · exact e
    · simp only [tyN, g]; exact e
  | ref n => exact d.noref.elim
  | _ => simp [tyN] at e
theorem kitAll_den {h : Hd} {M : Nat → Prop} {t : String} : ∀ {xs ys : List D} {b : Bool}, DenL h M xs ys → kitAll t ys = some b → kitAll t xs = some b
  | _, _, _, .nil, e => e
  | _, _, b, .cons (y := y) a l, e => by
    cases y with
    | ty n =>
      rw [a.toS.ty]
      simp only [kitAll] at e ⊢
      split at e
      · rename_i e1 e2
        rw [e1, kitAll_den l e2]; exact e
      · cases e
    | _ => simp [kitAll] at e
theorem oc_isi : OCN dIsi := by
  intro h M xs xs' r d e
  unfold dIsi at e
  split at e
  · obtain ⟨x, w, rfl, d1, d2⟩ := d.two
    rw [d2.ty]
    split at e
    · rename_i e1
      split at e
      · rename_i e2
        cases e
        exact ⟨_, by simp only [dIsi, tyN_den d1 e1, e2], .bl _⟩
      · cases e
    · cases e
  · obtain ⟨x, w, rfl, d1, d2⟩ := d.two
    obtain ⟨cs, rfl, l⟩ := d2.tup
    split at e
    · rename_i e1
      split at e
      · rename_i e2
        cases e
        exact ⟨_, by simp only [dIsi, tyN_den d1 e1, kitAll_den l e2], .bl _⟩
      · cases e
    · cases e
  · cases e
end
end Pq

namespace Pq
open PySem Tw
open L2 (atI ixN)

structure Fr where
  h0 : Hd
  M0 : Nat → Prop
  B : Nat → Prop
  bx : Option Nat
  n0 : Nat
def Own (mu : List Nat) (env : En) (pe : PE) (n : Nat) : Prop := ∃ i, i ∈ mu ∧ (∃ v, pe[i]? = some (some v)) ∧ env[i]? = some (some (.ref n))
def Mx (F : Fr) (mu : List Nat) (env : En) (pe : PE) (n : Nat) : Prop := F.M0 n ∨ Own mu env pe n
def MR (F : Fr) (n : Nat) : Prop := F.M0 n ∨ F.bx = some n
structure Rel (st : Bool) (mu : List Nat) (F : Fr) (env : En) (h : Hd) (pe : PE) : Prop where
  len : env.length = pe.length
  h0 : F.h0.length ≤ h.length
  fr : ∀ n c, F.h0[n]? = some c → ¬ F.B n → h[n]? = some c
  m0 : ∀ n, F.M0 n → n < F.h0.length ∧ ¬ F.B n
  n0 : F.n0 ≤ F.h0.length
  cell : ∀ i v, i ∈ mu → pe[i]? = some (some v) → ∃ n c, env[i]? = some (some (.ref n)) ∧ h[n]? = some c ∧ DenC h (Mx F mu env pe) c v ∧ (F.B n ∨ F.h0.length ≤ n) ∧ (F.bx = some n ∨ F.n0 ≤ n)
  inj : ∀ i j n v w, i ∈ mu → j ∈ mu → pe[i]? = some (some v) → pe[j]? = some (some w) → env[i]? = some (some (.ref n)) → env[j]? = some (some (.ref n)) → i = j
  val : ∀ i v, i ∉ mu → pe[i]? = some (some v) → ∃ d, env[i]? = some (some d) ∧ Den h (Mx F mu env pe) d v
  box : ∀ n, F.bx = some n → st = true ∧ env[0]? = some (some (.ref n)) ∧ 0 ∈ mu ∧ ∃ v, pe[0]? = some (some v)
def FrOk (F : Fr) (h : Hd) : Prop := F.h0.length ≤ h.length ∧ ∀ n c, F.h0[n]? = some c → ¬ F.B n → h[n]? = some c
section
variable {st : Bool} {mu : List Nat} {F : Fr} {env : En} {h h' : Hd} {pe : PE}
theorem Rel.own_lt (r : Rel st mu F env h pe) {n : Nat} (o : Own mu env pe n) : n < h.length ∧ (F.B n ∨ F.h0.length ≤ n) ∧ ¬ F.M0 n ∧ (F.bx = some n ∨ F.n0 ≤ n) := by
  obtain ⟨i, hi, ⟨v, ev⟩, e⟩ := o
  obtain ⟨m, c, e1, e2, _, b, b2⟩ := r.cell i v hi ev
  rw [e] at e1
  cases e1
  refine ⟨lt_get e2, b, fun z => ?_, b2⟩
  have := r.m0 n z
  rcases b with b | b
  · exact this.2 b
  · omega
theorem Rel.lt (r : Rel st mu F env h pe) : Lt (Mx F mu env pe) h := fun n m => by
  rcases m with m | m
  · exact Nat.lt_of_lt_of_le (r.m0 n m).1 r.h0
  · exact (r.own_lt m).1
theorem Rel.frok (r : Rel st mu F env h pe) : FrOk F h := ⟨r.h0, r.fr⟩
theorem FrOk.keep (r : FrOk F h) (k : Keep h h') : FrOk F h' := ⟨Nat.le_trans r.1 k.len, fun n c e b => k n c (r.2 n c e b)⟩
theorem Rel.mr (r : Rel st mu F env h pe) : ∀ n, MR F n → Mx F mu env pe n := fun n m => by
  rcases m with m | m
  · exact .inl m
  · obtain ⟨_, e, hm, v, ev⟩ := r.box n m
    exact .inr ⟨0, hm, ⟨v, ev⟩, e⟩
theorem Rel.keep (r : Rel st mu F env h pe) (k : Keep h h') : Rel st mu F env h' pe where
  len := r.len
  h0 := Nat.le_trans r.h0 k.len
  fr := fun n c e b => k n c (r.fr n c e b)
  m0 := r.m0
  n0 := r.n0
  cell := fun i v hi ev => by
    obtain ⟨n, c, e1, e2, d, b⟩ := r.cell i v hi ev
    exact ⟨n, c, e1, k n c e2, d.keep k, b⟩
  inj := r.inj
  val := fun i v hi ev => by
    obtain ⟨d, e, x⟩ := r.val i v hi ev
    exact ⟨d, e, x.keep k⟩
  box := r.box
theorem set_get {α : Type} {l : List α} {i j : Nat} {a : α} (ne : i ≠ j) : (l.set i a)[j]? = l[j]? := List.getElem?_set_ne ne
theorem set_self {α : Type} {l : List α} {i : Nat} {a : α} (hi : i < l.length) : (l.set i a)[i]? = some a := List.getElem?_set_self hi
theorem Rel.set (r : Rel st mu F env h pe) {i : Nat} {d v : D} (hi : i ∉ mu) (hl : i < pe.length) (x : Den h (Mx F mu env pe) d v) : Rel st mu F (env.set i (some d)) h (pe.set i (some v)) := by
  have own : ∀ n, Own mu (env.set i (some d)) (pe.set i (some v)) n ↔ Own mu env pe n := fun n => by
    constructor
    · rintro ⟨j, hj, ⟨w, ew⟩, e⟩
      have ne : i ≠ j := fun z => hi (z ▸ hj)
      rw [set_get ne] at ew e
      exact ⟨j, hj, ⟨w, ew⟩, e⟩
    · rintro ⟨j, hj, ⟨w, ew⟩, e⟩
      have ne : i ≠ j := fun z => hi (z ▸ hj)
      exact ⟨j, hj, ⟨w, by rw [set_get ne]; exact ew⟩, by rw [set_get ne]; exact e⟩
  have mx : ∀ n, Mx F mu (env.set i (some d)) (pe.set i (some v)) n → Mx F mu env pe n := fun n m => m.imp id (own n).mp
  refine ⟨by simp [r.len], r.h0, r.fr, r.m0, r.n0, fun j w hj ew => ?_, fun j k n w z hj hk ew ez e1 e2 => ?_, fun j w hj ew => ?_, fun n e => ?_⟩
  · have ne : i ≠ j := fun z => hi (z ▸ hj)
    rw [set_get ne] at ew
    obtain ⟨n, c, e1, e2, x, b⟩ := r.cell j w hj ew
    exact ⟨n, c, by rw [set_get ne]; exact e1, e2, x.sub mx, b⟩
  · have ne : i ≠ j := fun z => hi (z ▸ hj)
    have ne' : i ≠ k := fun z => hi (z ▸ hk)
    rw [set_get ne] at ew e1
    rw [set_get ne'] at ez e2
    exact r.inj j k n w z hj hk ew ez e1 e2
  · by_cases ne : i = j
    · subst ne
      rw [set_self hl] at ew
      cases ew
      exact ⟨d, set_self (by rw [r.len]; exact hl), x.sub mx⟩
    · rw [set_get ne] at ew ⊢
      obtain ⟨d', e, y⟩ := r.val j w hj ew
      exact ⟨d', e, y.sub mx⟩
  · obtain ⟨a, b, c, w, e⟩ := r.box n e
    have ne : i ≠ 0 := fun z => hi (z ▸ c)
    exact ⟨a, by rw [set_get ne]; exact b, c, w, by rw [set_get ne]; exact e⟩
theorem Rel.drop (r : Rel st mu F env h pe) (i : Nat) (h0 : st = true → i ≠ 0) : Rel st mu F env h (pe.set i none) := by
  have get : ∀ {j : Nat} {v : D}, (pe.set i none)[j]? = some (some v) → i ≠ j ∧ pe[j]? = some (some v) := fun {j v} e => by
    by_cases ne : i = j
    · subst ne
      by_cases hl : i < pe.length
      · rw [set_self hl] at e; cases e
      · rw [List.getElem?_eq_none (by simp; omega)] at e; cases e
    · rw [set_get ne] at e; exact ⟨ne, e⟩
  have mx : ∀ n, Mx F mu env (pe.set i none) n → Mx F mu env pe n := fun n m => m.imp id fun ⟨j, hj, ⟨v, ev⟩, e⟩ => ⟨j, hj, ⟨v, (get ev).2⟩, e⟩
  refine ⟨by simp [r.len], r.h0, r.fr, r.m0, r.n0, fun j w hj ew => ?_, fun j k n w z hj hk ew ez e1 e2 => r.inj j k n w z hj hk (get ew).2 (get ez).2 e1 e2, fun j w hj ew => ?_, fun n e => ?_⟩
  · obtain ⟨n, c, e1, e2, x, b⟩ := r.cell j w hj (get ew).2
    exact ⟨n, c, e1, e2, x.sub mx, b⟩
  · obtain ⟨d', e, y⟩ := r.val j w hj (get ew).2
    exact ⟨d', e, y.sub mx⟩
  · obtain ⟨a, b, c, w, e⟩ := r.box n e
    exact ⟨a, b, c, w, by rw [set_get (h0 a)]; exact e⟩
theorem Own.drop {i n : Nat} (o : Own mu env (pe.set i none) n) : Own mu env pe n := by
  obtain ⟨j, hj, ⟨v, ev⟩, e⟩ := o
  refine ⟨j, hj, ⟨v, ?_⟩, e⟩
  by_cases ne : i = j
  · subst ne
    by_cases hl : i < pe.length
    · rw [set_self hl] at ev; cases ev
    · rw [List.getElem?_eq_none (by simp; omega)] at ev; cases ev
  · rw [set_get ne] at ev; exact ev
theorem Own.sub {mu' : List Nat} {n : Nat} (k : ∀ i, i ∈ mu' → i ∈ mu) (o : Own mu' env pe n) : Own mu env pe n := by
  obtain ⟨j, hj, ev, e⟩ := o
  exact ⟨j, k j hj, ev, e⟩
theorem Own.wide {i n : Nat} (hn : ∀ v, pe[i]? ≠ some (some v)) (o : Own (i :: mu) env pe n) : Own mu env pe n := by
  obtain ⟨j, hj, ⟨v, ev⟩, e⟩ := o
  rcases List.mem_cons.mp hj with rfl | hj
  · exact absurd ev (hn v)
  · exact ⟨j, hj, ⟨v, ev⟩, e⟩
theorem Rel.wide (r : Rel st mu F env h pe) {i : Nat} (hn : ∀ v, pe[i]? ≠ some (some v)) : Rel st (i :: mu) F env h pe := by
  have mx : ∀ n, Mx F (i :: mu) env pe n → Mx F mu env pe n := fun n m => m.imp id fun ⟨j, hj, ⟨v, ev⟩, e⟩ => by
    rcases List.mem_cons.mp hj with rfl | hj
    · exact absurd ev (hn v)
    · exact ⟨j, hj, ⟨v, ev⟩, e⟩
  have un : ∀ {j : Nat} {v : D}, j ∈ i :: mu → pe[j]? = some (some v) → j ∈ mu := fun hj ev => by
    rcases List.mem_cons.mp hj with rfl | hj
    · exact absurd ev (hn _)
    · exact hj
  refine ⟨r.len, r.h0, r.fr, r.m0, r.n0, fun j w hj ew => ?_, fun j k n w z hj hk ew ez e1 e2 => r.inj j k n w z (un hj ew) (un hk ez) ew ez e1 e2, fun j w hj ew => ?_, fun n e => ?_⟩
  · obtain ⟨n, c, e1, e2, x, b⟩ := r.cell j w (un hj ew) ew
    exact ⟨n, c, e1, e2, x.sub mx, b⟩
  · obtain ⟨d', e, y⟩ := r.val j w (fun z => hj (List.mem_cons_of_mem _ z)) ew
    exact ⟨d', e, y.sub mx⟩
  · obtain ⟨a, b, c, w, e⟩ := r.box n e
    exact ⟨a, b, List.mem_cons_of_mem _ c, w, e⟩
theorem Rel.new {h1 : Hd} (r : Rel st mu F env h1 pe) (k : Keep h1 h) {i n : Nat} {c : Cell} {v : D} (hi : i ∈ mu) (h0 : st = true → i ≠ 0) (hl : i < pe.length) (hn : h1.length ≤ n) (e : h[n]? = some c) (x : DenC h (fun m => Mx F mu env pe m ∨ m = n) c v) :
    Rel st mu F (env.set i (some (.ref n))) h (pe.set i (some v)) := by
  have le : i < env.length := by rw [r.len]; exact hl
  have mx : ∀ m, Mx F mu (env.set i (some (.ref n))) (pe.set i (some v)) m → Mx F mu env pe m ∨ m = n := fun m q => by
    rcases q with q | ⟨j, hj, ⟨w, ew⟩, ej⟩
    · exact .inl (.inl q)
    · by_cases ne : i = j
      · subst ne
        rw [set_self le] at ej
        cases ej
        exact .inr rfl
      · rw [set_get ne] at ew ej
        exact .inl (.inr ⟨j, hj, ⟨w, ew⟩, ej⟩)
  have cv : ∀ m c, h1[m]? = some c → ¬ Mx F mu env pe m → h[m]? = some c ∧ ¬ Mx F mu (env.set i (some (.ref n))) (pe.set i (some v)) m := fun m c q z => ⟨k m c q, fun y => by
    rcases mx m y with y | y
    · exact z y
    · have := lt_get q
      omega⟩
  have b0 : F.h0.length ≤ n := Nat.le_trans r.h0 hn
  refine ⟨by simp [r.len], Nat.le_trans r.h0 k.len, fun m c e b => k m c (r.fr m c e b), r.m0, r.n0, fun j w hj ew => ?_, fun j l m w z hj hl' ew ez e1 e2 => ?_, fun j w hj ew => ?_, fun m em => ?_⟩
  · by_cases ne : i = j
    · subst ne
      rw [set_self hl] at ew
      cases ew
      exact ⟨n, c, set_self le, e, x.sub mx, .inr b0, .inr (Nat.le_trans r.n0 b0)⟩
    · rw [set_get ne] at ew ⊢
      obtain ⟨m, c', e1, e2, y, b⟩ := r.cell j w hj ew
      exact ⟨m, c', e1, k m c' e2, y.to cv, b⟩
  · have ll := fun {j : Nat} (hj : j ∈ mu) (ne : i ≠ j) {w} (ew : pe[j]? = some (some w)) {m} (ej : env[j]? = some (some (.ref m))) => (r.own_lt ⟨j, hj, ⟨w, ew⟩, ej⟩).1
    by_cases ne : i = j
    · subst ne
      by_cases ne' : i = l
      · exact ne'
      · rw [set_self le] at e1
        rw [set_get ne'] at ez e2
        cases e1
        have := ll hl' ne' ez e2
        omega
    · by_cases ne' : i = l
      · subst ne'
        rw [set_self le] at e2
        rw [set_get ne] at ew e1
        cases e2
        have := ll hj ne ew e1
        omega
      · rw [set_get ne] at ew e1
        rw [set_get ne'] at ez e2
        exact r.inj j l m w z hj hl' ew ez e1 e2
  · have ne : i ≠ j := fun z => hj (z ▸ hi)
    rw [set_get ne] at ew ⊢
    obtain ⟨d, e1, y⟩ := r.val j w hj ew
    exact ⟨d, e1, y.to cv⟩
  · obtain ⟨a, b, c, w, q⟩ := r.box m em
    exact ⟨a, by rw [set_get (h0 a)]; exact b, c, w, by rw [set_get (h0 a)]; exact q⟩
theorem Rel.put (r : Rel st mu F env h pe) {i n : Nat} {c : Cell} {v w : D} (hi : i ∈ mu) (ev : pe[i]? = some (some w)) (en : env[i]? = some (some (.ref n))) (x : DenC h (Mx F mu env pe) c v) :
    Rel st mu F env (h.set n c) (pe.set i (some v)) ∧ ∀ m d, h[m]? = some d → ¬ Mx F mu env pe m → (h.set n c)[m]? = some d := by
  have hl : i < pe.length := (List.getElem?_eq_some_iff.mp ev).1
  have on : Own mu env pe n := ⟨i, hi, ⟨w, ev⟩, en⟩
  obtain ⟨nl, nb, nm, nx⟩ := r.own_lt on
  have live : ∀ {j : Nat} {u : D}, (pe.set i (some v))[j]? = some (some u) → ∃ u', pe[j]? = some (some u') := fun {j u} e => by
    by_cases ne : i = j
    · subst ne; exact ⟨w, ev⟩
    · rw [set_get ne] at e; exact ⟨u, e⟩
  have mx : ∀ m, Mx F mu env (pe.set i (some v)) m → Mx F mu env pe m := fun m q => q.imp id fun ⟨j, hj, ⟨u, eu⟩, ej⟩ => ⟨j, hj, live eu, ej⟩
  have kx : ∀ m d, h[m]? = some d → ¬ Mx F mu env pe m → (h.set n c)[m]? = some d := fun m d e z => by
    rw [set_get (fun (q : n = m) => z (.inr (by rw [← q]; exact on)))]
    exact e
  have cv : ∀ m d, h[m]? = some d → ¬ Mx F mu env pe m → (h.set n c)[m]? = some d ∧ ¬ Mx F mu env (pe.set i (some v)) m := fun m d e z => ⟨kx m d e z, fun y => z (mx m y)⟩
  refine ⟨⟨by simp [r.len], by simp [r.h0], fun m d e b => ?_, r.m0, r.n0, fun j u hj eu => ?_, fun j l m u z hj hl' eu ez e1 e2 => ?_, fun j u hj eu => ?_, fun m em => ?_⟩, kx⟩
  · have : n ≠ m := fun q => by
      subst q
      rcases nb with nb | nb
      · exact b nb
      · have := lt_get e
        omega
    rw [set_get this]
    exact r.fr m d e b
  · by_cases ne : i = j
    · subst ne
      rw [set_self hl] at eu
      cases eu
      exact ⟨n, c, en, set_self nl, x.to cv, nb, nx⟩
    · rw [set_get ne] at eu
      obtain ⟨m, c', e1, e2, y, b⟩ := r.cell j u hj eu
      have : n ≠ m := fun q => by
        subst q
        exact ne (r.inj i j n w u hi hj ev eu en e1)
      exact ⟨m, c', e1, by rw [set_get this]; exact e2, y.to cv, b⟩
  · obtain ⟨u', eu'⟩ := live eu
    obtain ⟨z', ez'⟩ := live ez
    exact r.inj j l m u' z' hj hl' eu' ez' e1 e2
  · have ne : i ≠ j := fun z => hj (z ▸ hi)
    rw [set_get ne] at eu
    obtain ⟨d, e1, y⟩ := r.val j u hj eu
    exact ⟨d, e1, y.to cv⟩
  · obtain ⟨a, b, c', u, q⟩ := r.box m em
    by_cases ne : i = 0
    · subst ne
      exact ⟨a, b, c', v, set_self hl⟩
    · exact ⟨a, b, c', u, by rw [set_get ne]; exact q⟩
def Fr.later (F : Fr) (mu : List Nat) (env : En) (pe : PE) (h : Hd) : Fr := ⟨h, F.M0, fun n => Own mu env pe n, F.bx, F.n0⟩
theorem Rel.later (r : Rel st mu F env h pe) : Rel st mu (F.later mu env pe h) env h pe where
  len := r.len
  h0 := Nat.le_refl _
  fr := fun _ _ e _ => e
  m0 := fun n m => ⟨Nat.lt_of_lt_of_le (r.m0 n m).1 r.h0, fun o => (r.own_lt o).2.2.1 m⟩
  n0 := Nat.le_trans r.n0 r.h0
  cell := fun i v hi ev => by
    obtain ⟨n, c, e1, e2, d, b, b2⟩ := r.cell i v hi ev
    exact ⟨n, c, e1, e2, d, .inl ⟨i, hi, ⟨v, ev⟩, e1⟩, b2⟩
  inj := r.inj
  val := r.val
  box := r.box
theorem FrOk.back (r : Rel st mu F env h pe) {h2 : Hd} (f : FrOk (F.later mu env pe h) h2) : FrOk F h2 := by
  refine ⟨Nat.le_trans r.h0 f.1, fun n c e b => f.2 n c (r.fr n c e b) fun z => ?_⟩
  rcases (r.own_lt z).2.1 with q | q
  · exact b q
  · have := lt_get e
    omega
theorem Rel.back (r : Rel st mu F env h pe) {mu2 : List Nat} {env2 : En} {h2 : Hd} {pe2 : PE} (r2 : Rel st mu2 (F.later mu env pe h) env2 h2 pe2) : Rel st mu2 F env2 h2 pe2 where
  len := r2.len
  h0 := (FrOk.back r r2.frok).1
  fr := (FrOk.back r r2.frok).2
  m0 := r.m0
  n0 := r.n0
  cell := fun i v hi ev => by
    obtain ⟨n, c, e1, e2, d, b, b2⟩ := r2.cell i v hi ev
    refine ⟨n, c, e1, e2, d, ?_, b2⟩
    rcases b with b | b
    · exact (r.own_lt b).2.1
    · exact .inr (Nat.le_trans r.h0 b)
  inj := r2.inj
  val := r2.val
  box := r2.box
end
end Pq

namespace Pq
open PySem Tw
open L2 (atI ixN)

def qOp (o : Option D) : Rt D := match o with
  | some d => .ok d
  | none => .no
@[simp] theorem qOp_some (d : D) : qOp (some d) = .ok d := id rfl
@[simp] theorem qOp_none : qOp none = .no := id rfl
def qUn (op : D → Hd → Option D) (a : Rt D) : Rt D := a.bind fun x => qOp (op x [])
def qBin (op : D → D → Hd → Option D) (a b : Rt D) : Rt D := a.bind fun x => b.bind fun y => qOp (op x y [])
def qNil : Rt (List D) := .ok []
def qCons (a : Rt D) (as : Rt (List D)) : Rt (List D) := a.bind fun x => as.bind fun xs => .ok (x :: xs)
def qN (op : List D → Hd → Option D) (as : Rt (List D)) : Rt D := as.bind fun xs => qOp (op xs [])
def qAsB : D → Rt Bool
  | .bl b => .ok b
  | _ => .no
def qVal (a : Rt D) : Rt Bool := a.bind qAsB
def qNot (a : Rt Bool) : Rt Bool := a.bind fun b => .ok (!b)
def qAnd (a b : Rt Bool) : Rt Bool := a.bind fun c => if c = true then b else .ok false
def qOr (a b : Rt Bool) : Rt Bool := a.bind fun c => if c = true then .ok true else b
def qIf (t : Rt Bool) (a b : Rt D) : Rt D := t.bind fun c => if c = true then a else b
def qAsBD (x : D) (f : Bool → Rt D) : Rt D := match x with
  | .bl b => f b
  | _ => .no
def qEAnd (a b : Rt D) : Rt D := a.bind fun x => qAsBD x fun c => if c = true then b else .ok (.bl false)
def qEOr (a b : Rt D) : Rt D := a.bind fun x => qAsBD x fun c => if c = true then .ok (.bl true) else b
def qENot (a : Rt D) : Rt D := a.bind fun x => qAsBD x fun c => .ok (.bl (!c))
def qCall (f : List D → Rt D) (as : Rt (List D)) : Rt D := as.bind f
def qChain (f g : D → D → Hd → Option D) (a b c : Rt D) : Rt D := a.bind fun x => b.bind fun y => match f x y [] with
  | some (.bl true) => if y.set = true then c.bind fun z => qOp (g y z []) else .no
  | some (.bl false) => .ok (.bl false)
  | _ => .no
def qoNone : Rt (Option Int) := .ok none
def qAsI : D → Rt (Option Int)
  | .int i => .ok (some i)
  | _ => .no
def qoSome (a : Rt D) : Rt (Option Int) := a.bind qAsI
def qSl (a : Rt D) (lo hi : Rt (Option Int)) : Rt D := a.bind fun x => lo.bind fun l => hi.bind fun u => qOp (dSl x l u [])
def itemsOf : D → Rt (List D)
  | .tup xs => .ok xs
  | .rol xs => .ok xs
  | .lst xs => .ok xs
  | .str s => .ok (s.cps.toList.map (fun c => .str ⟨#[c]⟩))
  | _ => .no
def qSeq (a : Rt D) : Rt (List D) := a.bind itemsOf
def qL (o : Option (List D)) : Rt (List D) := match o with
  | some d => .ok d
  | none => .no
@[simp] theorem qL_some (d : List D) : qL (some d) = .ok d := id rfl
@[simp] theorem qL_none : qL none = .no := id rfl
def qiN (f : List D → Option (List D)) (as : Rt (List D)) : Rt (List D) := as.bind fun ds => qL (f ds)
def qiS (f : Hd → List D → Option (List D × Src)) (as : Rt (List D)) : Rt (List D) := as.bind fun ds => qL ((f [] ds).map (·.1))
def compL (t : D → Rt Bool) (e : D → Rt D) : List D → Rt (List D)
  | [] => .ok []
  | x :: xs => (t x).bind fun b => if b = true then (e x).bind fun d => (compL t e xs).bind fun ds => .ok (d :: ds) else compL t e xs
def tame {α : Type} (r : Rt α) : Rt α := match r with
  | .ok a => .ok a
  | _ => .no
@[simp] theorem tame_ok {α : Type} (a : α) : tame (Rt.ok a) = .ok a := id rfl
@[simp] theorem tame_no {α : Type} : tame (Rt.no : Rt α) = .no := id rfl
def qComp (its : Rt (List D)) (t : D → Rt Bool) (e : D → Rt D) : Rt D := its.bind fun xs => (tame (compL t e xs)).bind fun ds => if ds.length ≤ sizeLine then .ok (.lst ds) else .no
def un2 : D → Rt (D × D)
  | .tup [a, b] => .ok (a, b)
  | _ => .no
def Sim (M : Nat → Prop) (h : Hd) {α β : Type} (Q : Hd → α → β → Prop) (r : R α) : Rt β → Prop
  | .ok b => ∃ a h', r = .ok a h' ∧ Keep h h' ∧ Q h' a b
  | .ex e => ∃ e' h', r = .exc e' h' ∧ Keep h h' ∧ Den h' M e' e
  | .no => True
section
variable {M : Nat → Prop} {h : Hd} {α β γ δ : Type}
theorem Sim.bind {Q : Hd → α → β → Prop} {Q' : Hd → γ → δ → Prop} {r : R α} {p : Rt β} {f : α → Hd → R γ} {g : β → Rt δ} (s : Sim M h Q r p) (k : ∀ a h' b, Keep h h' → Q h' a b → Sim M h' Q' (f a h') (g b)) : Sim M h Q' (r.bind f) (p.bind g) := by
  cases p with
  | ok b =>
    obtain ⟨a, h', rfl, kp, q⟩ := s
    have w := k a h' b kp q
    simp only [R.bind_ok, bind_ok]
    cases e : g b with
    | ok d =>
      rw [e] at w
      obtain ⟨c, h2, e2, kp2, q2⟩ := w
      exact ⟨c, h2, e2, kp.trans kp2, q2⟩
    | ex d =>
      rw [e] at w
      obtain ⟨c, h2, e2, kp2, q2⟩ := w
      exact ⟨c, h2, e2, kp.trans kp2, q2⟩
    | no => trivial
  | ex e =>
    obtain ⟨e', h', rfl, kp, q⟩ := s
    exact ⟨e', h', rfl, kp, q⟩
  | no => trivial
theorem Sim.mono {Q Q' : Hd → α → β → Prop} {r : R α} {p : Rt β} (s : Sim M h Q r p) (k : ∀ h' a b, Keep h h' → Q h' a b → Q' h' a b) : Sim M h Q' r p := by
  cases p with
  | ok b =>
    obtain ⟨a, h', e, kp, q⟩ := s
    exact ⟨a, h', e, kp, k _ _ _ kp q⟩
  | ex e => exact s
  | no => trivial
theorem Sim.ok {Q : Hd → α → β → Prop} {a : α} {b : β} (q : Q h a b) : Sim M h Q (.ok a h) (.ok b) := ⟨a, h, rfl, .refl h, q⟩
theorem Sim.op {Q : Hd → D → D → Prop} {o : Option D} {p : Option D} (k : ∀ r, p = some r → ∃ d, o = some d ∧ Q h d r) : Sim M h Q (R.lift h o) (qOp p) := by
  cases p with
  | none => trivial
  | some r =>
    obtain ⟨d, rfl, q⟩ := k r rfl
    exact .ok q
end
section
variable (st : Bool) (mu : List Nat) (pe : PE)
def TE (e : ME) (p : Rt D) : Prop := ∀ F env h, Rel st mu F env h pe → Sim (Mx F mu env pe) h (fun h' d v => Den h' (Mx F mu env pe) d v) (e env h) p
def TV (e : ME) (p : Rt D) : Prop := ∀ F env h, Rel st mu F env h pe → Sim (Mx F mu env pe) h (fun h' d v => DenS h' (Mx F mu env pe) d v) (e env h) p
def TF (e : ME) (p : Rt D) : Prop := ∀ F env h, Rel st mu F env h pe → Sim (Mx F mu env pe) h (fun h' d v => Frs h.length h' (Mx F mu env pe) d v) (e env h) p
def Lit (h : Hd) (M : Nat → Prop) (d v : D) : Prop := (∃ xs ys, d = .lst xs ∧ v = .lst ys ∧ DenL h M xs ys) ∨ ∃ ks vs us ws, d = .dct ks vs ∧ v = .dct us ws ∧ DenL h M ks us ∧ DenL h M vs ws
def TL (e : ME) (p : Rt D) : Prop := ∀ F env h, Rel st mu F env h pe → Sim (Mx F mu env pe) h (fun h' d v => Lit h' (Mx F mu env pe) d v) (e env h) p
def TA (e : MA) (p : Rt (List D)) : Prop := ∀ F env h, Rel st mu F env h pe → Sim (Mx F mu env pe) h (fun h' d v => DenL h' (Mx F mu env pe) d v) (e env h) p
def TVA (e : MA) (p : Rt (List D)) : Prop := ∀ F env h, Rel st mu F env h pe → Sim (Mx F mu env pe) h (fun h' d v => DenSL h' (Mx F mu env pe) d v) (e env h) p
def TT (e : MT) (p : Rt Bool) : Prop := ∀ F env h, Rel st mu F env h pe → Sim (Mx F mu env pe) h (fun h' d v => d = v) (e env h) p
def TO (e : MO) (p : Rt (Option Int)) : Prop := ∀ F env h, Rel st mu F env h pe → Sim (Mx F mu env pe) h (fun h' d v => d = v) (e env h) p
def TI (strict : Bool) (e : MI) (p : Rt (List D)) : Prop := ∀ F env h, Rel st mu F env h pe →
  Sim (Mx F mu env pe) h (fun h' d v => DenL h' (Mx F mu env pe) d.1 v ∧ ∀ q ∈ d.2, h'[q.1]? = some q.2 ∧ (strict = true → ¬ Mx F mu env pe q.1)) (e env h) p
end
section
variable {st : Bool} {mu : List Nat} {pe : PE} {a b c : ME} {p q r : Rt D} {as : MA} {ps : Rt (List D)} {s t : MT} {t1 t2 : Rt Bool}
theorem TE.v (x : TE st mu pe a p) : TV st mu pe a p := fun F env h rl => (x F env h rl).mono fun _ _ _ _ d => .inl d
theorem TF.e (x : TF st mu pe a p) : TE st mu pe a p := fun F env h rl => (x F env h rl).mono fun _ _ _ k d => d.den rl.lt
theorem TL.f (x : TL st mu pe a p) : TF st mu pe a p := fun F env h rl => (x F env h rl).mono fun _ _ _ k d => d.imp id .inl
theorem TL.e (x : TL st mu pe a p) : TE st mu pe a p := x.f.e
theorem TA.v (x : TA st mu pe as ps) : TVA st mu pe as ps := fun F env h rl => (x F env h rl).mono fun _ _ _ _ d => d.toS
theorem te_var {i : Nat} {x : D} (hv : pe[i]? = some (some x) := by rfl) (hm : i ∉ mu := by decide) : TE st mu pe (eVar i) (.ok x) := fun F env h rl => by
  obtain ⟨d, e1, dn⟩ := rl.val i x hm hv
  simp only [eVar, e1]
  exact .ok dn
theorem tv_var {i : Nat} {x : D} (hv : pe[i]? = some (some x) := by rfl) (hm : i ∈ mu := by decide) : TV st mu pe (eVar i) (.ok x) := fun F env h rl => by
  obtain ⟨n, c, e1, e2, dn, _⟩ := rl.cell i x hm hv
  simp only [eVar, e1]
  exact .ok (.inr ⟨n, c, rfl, e2, dn⟩)
theorem te_c {x : D} (hx : ∀ h M, Den h M x x) : TE st mu pe (eC x) (.ok x) := fun F env h rl => .ok (hx _ _)
theorem te_int {i : Int} : TE st mu pe (eC (.int i)) (.ok (.int i)) := te_c fun _ _ => .int i
theorem te_bl {i : Bool} : TE st mu pe (eC (.bl i)) (.ok (.bl i)) := te_c fun _ _ => .bl i
theorem te_non : TE st mu pe (eC .non) (.ok .non) := te_c fun _ _ => .non
theorem te_str {i : Str} : TE st mu pe (eC (.str i)) (.ok (.str i)) := te_c fun _ _ => .str i
theorem te_ty {i : String} : TE st mu pe (eC (.ty i)) (.ok (.ty i)) := te_c fun _ _ => .ty i
theorem te_glb {i : Str} : TE st mu pe (eC (.glb i)) (.ok (.glb i)) := te_c fun _ _ => .glb i
theorem te_bin {op : D → D → Hd → Option D} (oc : OC2 op) (x : TV st mu pe a p) (y : TV st mu pe b q) : TE st mu pe (eBin op a b) (qBin op p q) := fun F env h rl =>
  (x F env h rl).bind fun d h1 v k dn => (y F env h1 (rl.keep k)).bind fun d' h2 w k' dn' => .op fun r e => oc (dn.keep k') dn' e
theorem ta_nil : TA st mu pe aNil qNil := fun F env h rl => .ok .nil
theorem ta_cons (x : TE st mu pe a p) (y : TA st mu pe as ps) : TA st mu pe (aCons a as) (qCons p ps) := fun F env h rl =>
  (x F env h rl).bind fun d h1 v k dn => (y F env h1 (rl.keep k)).bind fun d' h2 w k' dn' => .ok (.cons (dn.keep k') dn')
theorem tva_nil : TVA st mu pe aNil qNil := fun F env h rl => .ok .nil
theorem tva_cons (x : TV st mu pe a p) (y : TVA st mu pe as ps) : TVA st mu pe (aCons a as) (qCons p ps) := fun F env h rl =>
  (x F env h rl).bind fun d h1 v k dn => (y F env h1 (rl.keep k)).bind fun d' h2 w k' dn' => .ok (.cons (dn.keep k') dn')
theorem te_n {op : List D → Hd → Option D} (oc : OCN op) (x : TVA st mu pe as ps) : TE st mu pe (eN op as) (qN op ps) := fun F env h rl =>
  (x F env h rl).bind fun d h1 v k dn => .op fun r e => oc dn e
theorem te_tup (x : TA st mu pe as ps) : TE st mu pe (eN dTup as) (qN dTup ps) := fun F env h rl =>
  (x F env h rl).bind fun d h1 v k dn => .op fun r e => oc_tup dn e
theorem te_lst (x : TA st mu pe as ps) : TE st mu pe (eN dLst as) (qN dLst ps) := fun F env h rl =>
  (x F env h rl).bind fun d h1 v k dn => .op fun r e => by
    obtain ⟨d, e1, dd, _⟩ := oc_lst dn e
    exact ⟨d, e1, dd⟩
def isL : D → Bool
  | .lst _ => true
  | .dct _ _ => true
  | _ => false
theorem frs_of {h : Hd} {M : Nat → Prop} {d v : D} (dn : Den h M d v) (nr : ∀ n, d ≠ .ref n) (hl : isL v = true) : Lit h M d v := by
  cases dn with
  | lst l => exact .inl ⟨_, _, rfl, rfl, l⟩
  | dct l m => exact .inr ⟨_, _, _, _, rfl, rfl, l, m⟩
  | ref _ _ _ => exact absurd rfl (nr _)
  | refd _ _ _ _ => exact absurd rfl (nr _)
  | _ => cases hl
def qNew (p : Rt D) : Rt D := p.bind fun d => if isL d = true then .ok d else .no
@[simp] theorem qNew_lst (xs : List D) : qNew (.ok (.lst xs)) = .ok (.lst xs) := id rfl
@[simp] theorem qNew_dct (xs ys : List D) : qNew (.ok (.dct xs ys)) = .ok (.dct xs ys) := id rfl
theorem Sim.new {M : Nat → Prop} {h : Hd} {o : Option D} {p : Option D} (k : ∀ r, p = some r → ∃ d, o = some d ∧ Den h M d r ∧ ∀ n, d ≠ .ref n) : Sim M h (fun h' d v => Lit h' M d v) (R.lift h o) (qNew (qOp p)) := by
  cases p with
  | none => trivial
  | some r =>
    obtain ⟨d, rfl, q, nr⟩ := k r rfl
    simp only [qNew, qOp_some, bind_ok]
    split
    · rename_i hl
      exact .ok (frs_of q nr hl)
    · trivial
theorem new_bind {α : Type} (p : Rt α) (f : α → Rt D) : qNew (p.bind f) = p.bind fun a => qNew (f a) := by
  cases p <;> rfl
theorem Sim.new_later {M : Nat → Prop} {h h1 : Hd} (k : Keep h h1) {r : R D} {p : Rt D} (s : Sim M h1 (fun h' d v => Frs h1.length h' M d v) r p) : Sim M h1 (fun h' d v => Frs h.length h' M d v) r p :=
  s.mono fun h' d v _ f => by
    rcases f with f | f | ⟨n, c, e, hn, q⟩
    · exact .inl f
    · exact .inr (.inl f)
    · exact .inr (.inr ⟨n, c, e, Nat.le_trans k.len hn, q⟩)
theorem tl_bin {op : D → D → Hd → Option D} (oc : OC2 op) (nr : NR2 op) (x : TV st mu pe a p) (y : TV st mu pe b q) : TL st mu pe (eBin op a b) (qNew (qBin op p q)) := fun F env h rl => by
  unfold qBin
  rw [new_bind]
  refine (x F env h rl).bind fun d h1 v k dn => ?_
  rw [new_bind]
  exact (y F env h1 (rl.keep k)).bind fun d' h2 w k' dn' => .new fun r e => by
    obtain ⟨d, e1, dd⟩ := oc (dn.keep k') dn' e
    exact ⟨d, e1, dd, nr e1⟩
theorem tl_lst (x : TA st mu pe as ps) : TL st mu pe (eN dLst as) (qNew (qN dLst ps)) := fun F env h rl => by
  unfold qN
  rw [new_bind]
  exact (x F env h rl).bind fun d h1 v k dn => .new fun r e => oc_lst dn e
theorem asB_sim {M : Nat → Prop} {h : Hd} {d v : D} (dn : DenS h M d v) : Sim M h (fun _ d v => d = v) (asB h d) (qAsB v) := by
  cases v with
  | bl b => rw [dn.bl]; exact .ok rfl
  | _ => trivial
theorem tt_val (x : TV st mu pe a p) : TT st mu pe (tVal a) (qVal p) := fun F env h rl => (x F env h rl).bind fun d h1 v k dn => asB_sim dn
theorem tt_true : TT st mu pe tTrue (.ok true) := fun F env h rl => .ok rfl
theorem tt_not (x : TT st mu pe s t1) : TT st mu pe (tNot s) (qNot t1) := fun F env h rl => (x F env h rl).bind fun d h1 v k e => by subst e; exact .ok rfl
theorem tt_or (x : TT st mu pe s t1) (y : TT st mu pe t t2) : TT st mu pe (tOr s t) (qOr t1 t2) := fun F env h rl => (x F env h rl).bind fun d h1 v k e => by
  subst e
  split
  · exact .ok rfl
  · exact y F env h1 (rl.keep k)
theorem asBD_sim {M : Nat → Prop} {h : Hd} {Q : Hd → D → D → Prop} {d v : D} {f : Bool → R D} {g : Bool → Rt D} (dn : DenS h M d v) (k : ∀ b, Sim M h Q (f b) (g b)) : Sim M h Q (asBD h d f) (qAsBD v g) := by
  cases v with
  | bl b => rw [dn.bl]; exact k b
  | _ => trivial
theorem te_and (x : TV st mu pe a p) (y : TE st mu pe b q) : TE st mu pe (eAnd a b) (qEAnd p q) := fun F env h rl => (x F env h rl).bind fun d h1 v k dn => asBD_sim dn fun c => by
  split
  · exact y F env h1 (rl.keep k)
  · exact .ok (.bl _)
theorem te_not (x : TV st mu pe a p) : TE st mu pe (eNot a) (qENot p) := fun F env h rl => (x F env h rl).bind fun d h1 v k dn => asBD_sim dn fun c => .ok (.bl _)
def DfP (fr : Bool) (mf : MF) (pf : List D → Rt D) : Prop := ∀ (h : Hd) (M : Nat → Prop) (ds vs : List D), Lt M h → DenL h M ds vs → Sim M h (fun h' d v => Den h' M d v ∧ (fr = true → Frs h.length h' M d v)) (mf ds h) (pf vs)
theorem te_call {fr : Bool} {mf : MF} {pf : List D → Rt D} (hf : DfP fr mf pf) (x : TA st mu pe as ps) : TE st mu pe (eCall mf as) (qCall pf ps) := fun F env h rl =>
  (x F env h rl).bind fun d h1 v k dn => (hf h1 _ d v (rl.keep k).lt dn).mono fun _ _ _ _ q => q.1
theorem tf_call {mf : MF} {pf : List D → Rt D} (hf : DfP true mf pf) (x : TA st mu pe as ps) : TF st mu pe (eCall mf as) (qCall pf ps) := fun F env h rl =>
  (x F env h rl).bind fun d h1 v k dn => .new_later k ((hf h1 _ d v (rl.keep k).lt dn).mono fun _ _ _ _ q => q.2 rfl)

variable {mi : MI} {its : Rt (List D)}
theorem strs_den {h : Hd} {M : Nat → Prop} : ∀ l : List Nat, DenL h M (l.map fun c => .str ⟨#[c]⟩) (l.map fun c => .str ⟨#[c]⟩)
  | [] => .nil
  | c :: l => .cons (.str _) (strs_den l)
theorem ti_seq (x : TE st mu pe a p) : TI st mu pe true (iSeq a) (qSeq p) := fun F env h rl => by
  have y := x F env h rl
  unfold iSeq qSeq
  cases p with
  | ok v =>
    obtain ⟨d, h1, e1, k, dn⟩ := y
    rw [e1]
    show Sim _ _ _ (seqI h1 d) (itemsOf v)
    have lt := (rl.keep k).lt
    have fin : ∀ {items : List D} {src : Src} {h2 : Hd} {vs : List D}, Keep h1 h2 → seqI h1 d = .ok (items, src) h2 → itemsOf v = .ok vs → (DenL h2 (Mx F mu env pe) items vs ∧ ∀ q ∈ src, h2[q.1]? = some q.2 ∧ (true = true → ¬ Mx F mu env pe q.1)) →
        Sim (Mx F mu env pe) h (fun h' d v => DenL h' (Mx F mu env pe) d.1 v ∧ ∀ q ∈ d.2, h'[q.1]? = some q.2 ∧ (true = true → ¬ Mx F mu env pe q.1)) (seqI h1 d) (itemsOf v) := fun k2 e1 e2 q => by
      rw [e1, e2]
      exact ⟨_, _, rfl, k.trans k2, q⟩
    have boxed : ∀ {xs ys : List D}, d = .lst xs → v = .lst ys → DenL h1 (Mx F mu env pe) xs ys → Sim (Mx F mu env pe) h (fun h' d v => DenL h' (Mx F mu env pe) d.1 v ∧ ∀ q ∈ d.2, h'[q.1]? = some q.2 ∧ (true = true → ¬ Mx F mu env pe q.1)) (seqI h1 d) (itemsOf v) := fun {xs ys} ed ev l => by
      subst ed ev
      by_cases hs : setL xs = true
      · exact fin (items := xs) (src := []) (.refl _) (by simp only [seqI, if_pos hs]) rfl ⟨l, fun q z => by simp at z⟩
      · obtain ⟨kb, lb⟩ := boxL_den lt l
        refine fin (items := (boxL xs h1).1) (src := [((boxL xs h1).2.length, .lst (boxL xs h1).1)]) (kb.trans (Keep.push _ [.lst (boxL xs h1).1])) (by simp only [seqI, if_neg hs]) rfl ⟨lb.keep (Keep.push _ _), fun q z => ?_⟩
        simp at z
        subst z
        refine ⟨by simp, fun _ m => ?_⟩
        have q1 : (boxL xs h1).2.length < h1.length := lt _ m
        have q2 := kb.len
        omega
    cases dn with
    | tup l =>
      rename_i xs ys
      by_cases hs : setL xs = true
      · exact fin (items := xs) (src := []) (.refl _) (by simp only [seqI, if_pos hs]) rfl ⟨l, fun q z => by simp at z⟩
      · obtain ⟨kb, lb⟩ := boxL_den lt l
        exact fin (items := (boxL xs h1).1) (src := []) kb (by simp only [seqI, if_neg hs]) rfl ⟨lb, fun q z => by simp at z⟩
    | rol ns => exact fin (.refl _) rfl rfl ⟨DenL.ints ns, fun q z => by simp at z⟩
    | lst l => exact boxed rfl rfl l
    | ref m g l => exact fin (items := _) (src := [(_, _)]) (.refl _) (by simp only [seqI, g]; rfl) rfl ⟨l, fun q z => by simp at z; subst z; exact ⟨g, fun _ => m⟩⟩
    | str s => exact fin (.refl _) rfl rfl ⟨strs_den _, fun q z => by simp at z⟩
    | _ => trivial
  | ex _ =>
    obtain ⟨e', h1, e1, k, dn⟩ := y
    rw [e1]
    exact ⟨_, _, rfl, k, dn⟩
  | no => trivial
theorem ti_weak (x : TI st mu pe true mi its) : TI st mu pe false mi its := fun F env h rl => (x F env h rl).mono fun _ _ _ _ ⟨l, f⟩ => ⟨l, fun q hq => ⟨(f q hq).1, fun z => nomatch z⟩⟩
theorem rng_den {h : Hd} {M : Nat → Prop} (f : Nat → Int) : ∀ l : List Nat, DenL h M (l.map fun i => .int (f i)) (l.map fun i => .int (f i))
  | [] => .nil
  | _ :: l => .cons (.int _) (rng_den f l)
theorem DenSL.ints {h : Hd} {M : Nat → Prop} {xs ys : List D} (d : DenSL h M xs ys) (hf : ∀ y ∈ ys, ∃ i, y = .int i) : xs = ys := by
  induction d with
  | nil => rfl
  | cons a b ih =>
    obtain ⟨i, rfl⟩ := hf _ List.mem_cons_self
    rw [a.int, ih fun y hy => hf y (by simp [hy])]
def Rg (f : List D → Option (List D)) : Prop := ∀ ds items, f ds = some items → (∀ d ∈ ds, ∃ i, d = .int i) ∧ ∀ (h : Hd) (M : Nat → Prop), DenL h M items items
theorem rg1 : Rg rng1 := by
  intro ds items e
  unfold rng1 at e
  split at e
  · split at e
    · cases e
      exact ⟨fun d hd => ⟨_, List.mem_singleton.mp hd⟩, fun h M => rng_den _ _⟩
    · cases e
  · cases e
theorem ti_n {f : List D → Option (List D)} (hf : Rg f) (x : TVA st mu pe as ps) : TI st mu pe true (iN f as) (qiN f ps) := fun F env h rl => by
  have y := x F env h rl
  unfold iN qiN
  cases ps with
  | ok v =>
    obtain ⟨d, h1, e1, k, dn⟩ := y
    rw [e1]
    show Sim _ _ _ (liftI h1 (f d)) (qL (f v))
    cases ef : f v with
    | none => trivial
    | some items =>
      obtain ⟨hi, hd⟩ := hf v items ef
      have := dn.ints hi
      subst this
      rw [ef]
      exact ⟨_, _, rfl, k, hd _ _, fun q hq => by simp at hq⟩
  | ex _ =>
    obtain ⟨e', h1, e1, k, dn⟩ := y
    rw [e1]
    exact ⟨_, _, rfl, k, dn⟩
  | no => trivial
def TG {α : Type} (g : MG) (un : D → Rt α) (up : α → List (Nat × D)) : Prop := ∀ (h : Hd) (M : Nat → Prop) (d v : D), Den h M d v → match un v with
  | .ok a => ∃ ps, g d h = some ps ∧ ps.map (·.1) = (up a).map (·.1) ∧ DenL h M (ps.map (·.2)) ((up a).map (·.2))
  | .ex _ => False
  | .no => True
theorem tg_nm (i : Nat) : TG (gNm i) (fun v => .ok v) (fun v => [(i, v)]) := fun h M d v dn => ⟨[(i, d)], rfl, rfl, .cons dn .nil⟩
theorem DenL.inv1 {h : Hd} {M : Nat → Prop} {xs : List D} {y : D} (d : DenL h M xs [y]) : ∃ x, xs = [x] ∧ Den h M x y := by
  cases d with
  | cons a b => cases b; exact ⟨_, rfl, a⟩
theorem DenL.inv2 {h : Hd} {M : Nat → Prop} {xs : List D} {y z : D} (d : DenL h M xs [y, z]) : ∃ x w, xs = [x, w] ∧ Den h M x y ∧ Den h M w z := by
  cases d with
  | cons a b =>
    obtain ⟨w, rfl, c⟩ := b.inv1
    exact ⟨_, _, rfl, a, c⟩
theorem tg_2 (i j : Nat) : TG (gTp [gNm i, gNm j]) un2 (fun v => [(i, v.1), (j, v.2)]) := fun h M d v dn => by
  cases e : un2 v with
  | no => trivial
  | ex _ => unfold un2 at e; split at e <;> cases e
  | ok p =>
    unfold un2 at e
    split at e
    · cases e
      obtain ⟨xs, rfl, l⟩ := dn.toS.tup
      obtain ⟨x, w, rfl, d1, d2⟩ := l.inv2
      exact ⟨[(i, x), (j, w)], rfl, rfl, .cons d1 (.cons d2 .nil)⟩
    · cases e
def setP (pe : PE) (ps : List (Nat × D)) : PE := ps.foldl (fun e p => e.set p.1 (some p.2)) pe
theorem Rel.setAll {F : Fr} {h : Hd} : ∀ {ps us : List (Nat × D)} {env : En} {pe : PE}, Rel st mu F env h pe → ps.map (·.1) = us.map (·.1) → DenL h (Mx F mu env pe) (ps.map (·.2)) (us.map (·.2)) → (∀ u ∈ us, u.1 ∉ mu ∧ u.1 < pe.length) →
    Rel st mu F (setAll env ps) h (setP pe us) ∧ ∀ n, Mx F mu (setAll env ps) (setP pe us) n ↔ Mx F mu env pe n
  | [], [], env, pe, r, _, _, _ => ⟨r, fun _ => .rfl⟩
  | (i, d) :: ps, (j, v) :: us, env, pe, r, e, dl, hu => by
    simp only [List.map_cons, List.cons.injEq] at e
    obtain ⟨rfl, e⟩ := e
    have hi := hu (i, v) List.mem_cons_self
    cases dl with
    | cons d1 d2 =>
      have r2 := r.set (i := i) (d := d) (v := v) hi.1 hi.2 d1
      have mx : ∀ n, Mx F mu (env.set i (some d)) (pe.set i (some v)) n ↔ Mx F mu env pe n := fun n => by
        have key : ∀ j, j ∈ mu → i ≠ j := fun j hj z => hi.1 (z ▸ hj)
        constructor
        · exact fun q => q.imp id fun ⟨j, hj, ⟨w, ew⟩, e⟩ => ⟨j, hj, ⟨w, by rw [set_get (key j hj)] at ew; exact ew⟩, by rw [set_get (key j hj)] at e; exact e⟩
        · exact fun q => q.imp id fun ⟨j, hj, ⟨w, ew⟩, e⟩ => ⟨j, hj, ⟨w, by rw [set_get (key j hj)]; exact ew⟩, by rw [set_get (key j hj)]; exact e⟩
      obtain ⟨r3, m3⟩ := Rel.setAll (ps := ps) (us := us) r2 e (d2.sub fun n => (mx n).mp) fun u hu' => ⟨(hu u (List.mem_cons_of_mem _ hu')).1, by
        rw [List.length_set]
        exact (hu u (List.mem_cons_of_mem _ hu')).2⟩
      exact ⟨r3, fun n => (m3 n).trans (mx n)⟩
  | [], _ :: _, _, _, _, e, _, _ => nomatch e
  | _ :: _, [], _, _, _, e, _, _ => nomatch e
def wipeP (pe : PE) : List Nat → PE
  | [] => pe
  | v :: vs => (wipeP pe vs).set v none
theorem Rel.wipe {F : Fr} {h : Hd} {env : En} (r : Rel st mu F env h pe) : ∀ vs : List Nat, (∀ v ∈ vs, v ∉ mu) → Rel st mu F (wipeE env vs) h (wipeP pe vs) ∧ ∀ n, Mx F mu (wipeE env vs) (wipeP pe vs) n ↔ Mx F mu env pe n
  | [], _ => ⟨r, fun _ => .rfl⟩
  | v :: vs, hv => by
    obtain ⟨r2, m2⟩ := r.wipe vs fun x hx => hv x (List.mem_cons_of_mem _ hx)
    have nv : v ∉ mu := hv v List.mem_cons_self
    have key : ∀ j, j ∈ mu → v ≠ j := fun j hj z => nv (z ▸ hj)
    have mx : ∀ n, Mx F mu ((wipeE env vs).set v none) ((wipeP pe vs).set v none) n ↔ Mx F mu (wipeE env vs) (wipeP pe vs) n := fun n => by
      constructor
      · exact fun q => q.imp id fun ⟨j, hj, ⟨w, ew⟩, e⟩ => ⟨j, hj, ⟨w, by rw [set_get (key j hj)] at ew; exact ew⟩, by rw [set_get (key j hj)] at e; exact e⟩
      · exact fun q => q.imp id fun ⟨j, hj, ⟨w, ew⟩, e⟩ => ⟨j, hj, ⟨w, by rw [set_get (key j hj)]; exact ew⟩, by rw [set_get (key j hj)]; exact e⟩
    refine ⟨⟨by simp [wipeE, wipeP, r2.len], r2.h0, r2.fr, r2.m0, r2.n0, fun j w hj ew => ?_, fun j k n w z hj hk ew ez e1 e2 => ?_, fun j w hj ew => ?_, fun n e => ?_⟩, fun n => (mx n).trans (m2 n)⟩
    · simp only [wipeE, wipeP] at ew ⊢
      rw [set_get (key j hj)] at ew
      obtain ⟨n, c, e1, e2, x, b⟩ := r2.cell j w hj ew
      exact ⟨n, c, by rw [set_get (key j hj)]; exact e1, e2, x.sub fun n => (mx n).mp, b⟩
    · simp only [wipeE, wipeP] at ew ez e1 e2
      rw [set_get (key j hj)] at ew e1
      rw [set_get (key k hk)] at ez e2
      exact r2.inj j k n w z hj hk ew ez e1 e2
    · simp only [wipeE, wipeP] at ew ⊢
      by_cases ne : v = j
      · subst ne
        by_cases hl : v < (wipeP pe vs).length
        · rw [set_self hl] at ew; cases ew
        · rw [List.getElem?_eq_none (by simp; omega)] at ew; cases ew
      · rw [set_get ne] at ew ⊢
        obtain ⟨d', e, y⟩ := r2.val j w hj ew
        exact ⟨d', e, y.sub fun n => (mx n).mp⟩
    · simp only [wipeE, wipeP]
      obtain ⟨a, b, c, w, e⟩ := r2.box n e
      have ne : v ≠ 0 := key 0 c
      exact ⟨a, by rw [set_get ne]; exact b, c, w, by rw [set_get ne]; exact e⟩
theorem srcOk_of : ∀ {src : Src} {h : Hd}, (∀ q ∈ src, h[q.1]? = some q.2) → srcOk src h = true
  | [], _, _ => rfl
  | (n, xs) :: r, h, f => by
    simp only [srcOk]
    rw [f (n, xs) List.mem_cons_self]
    simp only [Cell.beq_refl, Bool.true_and]
    exact srcOk_of fun q hq => f q (List.mem_cons_of_mem _ hq)
theorem comp_sim {α : Type} {g : MG} {un : D → Rt α} {up : α → List (Nat × D)} {tt : MT} {te : ME} {tq : α → Rt Bool} {eq : α → Rt D} (hg : TG g un up) (hu : ∀ a, ∀ u ∈ up a, u.1 ∉ mu ∧ u.1 < pe.length)
    (ht : ∀ a, TT st mu (setP pe (up a)) tt (tq a)) (he : ∀ a, TE st mu (setP pe (up a)) te (eq a)) {F : Fr} {env : En} {src : Src} : ∀ {items vs : List D} {h : Hd}, Rel st mu F env h pe → DenL h (Mx F mu env pe) items vs → (∀ q ∈ src, h[q.1]? = some q.2) →
      Sim (Mx F mu env pe) h (fun h' ds ws => DenL h' (Mx F mu env pe) ds ws) (compGo env g tt te src items h) (tame (compL (fun v => (un v).bind tq) (fun v => (un v).bind eq) vs))
  | _, _, h, r, .nil, hs => by
    unfold compGo
    rw [if_pos (srcOk_of hs)]
    exact .ok .nil
  | _, _, h, r, .cons (x := x) (y := y) (xs := xs) (ys := ys) d l, hs => by
    unfold compGo
    rw [if_pos (srcOk_of hs)]
    have gx := hg h _ x y d
    simp only [compL]
    cases eu : un y with
    | no => exact trivial
    | ex _ => exact trivial
    | ok a =>
      rw [eu] at gx
      obtain ⟨ps, e1, e2, e3⟩ := gx
      rw [e1]
      simp only [bind_ok]
      obtain ⟨r2, m2⟩ := r.setAll e2 e3 (hu a)
      have t1 := ht a F (Tw.setAll env ps) h r2
      cases et : tq a with
      | no => exact trivial
      | ex _ => exact trivial
      | ok b =>
        rw [et] at t1
        obtain ⟨b', h1, f1, k1, rfl⟩ := t1
        rw [f1]
        simp only [bind_ok]
        cases b' with
        | false =>
          simp only [Bool.false_eq_true, if_false]
          have ih := comp_sim hg hu ht he (r.keep k1) (l.keep k1) (fun q hq => k1 _ _ (hs q hq))
          cases ec : compL (fun v => (un v).bind tq) (fun v => (un v).bind eq) ys with
          | ok ws =>
            rw [ec] at ih
            obtain ⟨ds, h2, f2, k2, l2⟩ := ih
            exact ⟨ds, h2, f2, k1.trans k2, l2⟩
          | ex _ => exact trivial
          | no => exact trivial
        | true =>
          simp only [if_true]
          have t2 := he a F (Tw.setAll env ps) h1 (r2.keep k1)
          cases ee : eq a with
          | no => exact trivial
          | ex _ => exact trivial
          | ok v =>
            rw [ee] at t2
            obtain ⟨d1, h2, f2, k2, dn⟩ := t2
            rw [f2]
            simp only [bind_ok]
            have ih := comp_sim hg hu ht he ((r.keep k1).keep k2) ((l.keep k1).keep k2) (fun q hq => k2 _ _ (k1 _ _ (hs q hq)))
            cases ec : compL (fun v => (un v).bind tq) (fun v => (un v).bind eq) ys with
            | ok ws =>
              rw [ec] at ih
              obtain ⟨ds, h3, f3, k3, l3⟩ := ih
              rw [f3]
              exact ⟨d1 :: ds, h3, rfl, (k1.trans k2).trans k3, .cons ((dn.keep k3).sub fun n => (m2 n).mpr) l3⟩
            | ex _ => exact trivial
            | no => exact trivial
theorem te_comp0 {α : Type} {vs : List Nat} {g : MG} {un : D → Rt α} {up : α → List (Nat × D)} {tt : MT} {te : ME} {tq : α → Rt Bool} {eq : α → Rt D} (hi : TI st mu pe false mi its) (hg : TG g un up) (hv : ∀ v ∈ vs, v ∉ mu) (hu : ∀ a, ∀ u ∈ up a, u.1 ∉ mu ∧ u.1 < (wipeP pe vs).length)
    (ht : ∀ a, TT st mu (setP (wipeP pe vs) (up a)) tt (tq a)) (he : ∀ a, TE st mu (setP (wipeP pe vs) (up a)) te (eq a)) : ∀ F env h, Rel st mu F env h pe →
      Sim (Mx F mu env pe) h (fun h' d v => ∃ xs ys, d = .lst xs ∧ v = .lst ys ∧ DenL h' (Mx F mu env pe) xs ys) (eComp vs mi g tt te env h) (qComp its (fun v => (un v).bind tq) (fun v => (un v).bind eq)) := fun F env h rl => by
  have y := hi F env h rl
  unfold eComp qComp
  cases its with
  | no => trivial
  | ex _ =>
    obtain ⟨e', h1, e1, k, dn⟩ := y
    rw [e1]
    exact ⟨_, _, rfl, k, dn⟩
  | ok items =>
    obtain ⟨d, h1, e1, k, l, hs⟩ := y
    rw [e1]
    obtain ⟨r2, m2⟩ := (rl.keep k).wipe vs hv
    have c := comp_sim hg hu ht he r2 (l.sub fun n => (m2 n).mp) (fun q hq => (hs q hq).1)
    simp only [bind_ok]
    cases ec : compL (fun v => (un v).bind tq) (fun v => (un v).bind eq) items with
    | ok ws =>
      rw [ec] at c
      obtain ⟨ds, h2, f2, k2, l2⟩ := c
      rw [f2]
      simp only [tame_ok, bind_ok, R.bind_ok]
      rw [← l2.length]
      split
      · exact ⟨_, _, rfl, k.trans k2, _, _, rfl, rfl, l2.sub fun n => (m2 n).mpr⟩
      · trivial
    | ex _ => exact trivial
    | no => exact trivial
def okSl (mu : List Nat) (n : Nat) (sl : List Nat) : Bool := sl.all fun i => !mu.contains i && decide (i < n)
theorem okSl_at {α : Type} {mu : List Nat} {n : Nat} {sl : List Nat} {up : α → List (Nat × D)} (hs : ∀ a, (up a).map (·.1) = sl) (hu : okSl mu n sl = true) : ∀ a, ∀ u ∈ up a, u.1 ∉ mu ∧ u.1 < n := fun a u h => by
  have : u.1 ∈ sl := by rw [← hs a]; exact List.mem_map_of_mem h
  have q := List.all_eq_true.mp hu _ this
  simp at q
  exact q
theorem te_comp {α : Type} {vs sl : List Nat} {g : MG} {un : D → Rt α} {up : α → List (Nat × D)} {tt : MT} {te : ME} {tq : α → Rt Bool} {eq : α → Rt D} (hi : TI st mu pe false mi its) (hg : TG g un up)
    (ht : ∀ a, TT st mu (setP (wipeP pe vs) (up a)) tt (tq a)) (he : ∀ a, TE st mu (setP (wipeP pe vs) (up a)) te (eq a)) (hv : ∀ v ∈ vs, v ∉ mu := by decide) (hs : ∀ a, (up a).map (·.1) = sl := by intro _; rfl) (hu : okSl mu (wipeP pe vs).length sl = true := by rfl) :
    TE st mu pe (eComp vs mi g tt te) (qComp its (fun v => (un v).bind tq) (fun v => (un v).bind eq)) := fun F env h rl =>
  (te_comp0 hi hg hv (okSl_at hs hu) ht he F env h rl).mono fun _ _ _ _ ⟨xs, ys, e1, e2, l⟩ => by
    subst e1 e2
    exact .lst l
end
end Pq

namespace Pq
open PySem Tw
open L2 (atI ixN)

def Post (F : Fr) {ρ : Type} (C : RS → ρ → Prop) (rs : RS) : Rt ρ → Prop
  | .ok r => C rs r
  | .ex e => ∃ e' env' h', rs = .exc e' env' h' ∧ FrOk F h' ∧ Den h' (MR F) e' e
  | .no => True
abbrev Ctx (ρ : Type) := Fr → RS → ρ → Prop
def BS (st : Bool) (mu : List Nat) (pe : PE) (b : MS) {ρ : Type} (C : Ctx ρ) (p : Rt ρ) : Prop := ∀ F env h, Rel st mu F env h pe → Post F (C F) (b env h) p
structure RK (ρ : Type) where
  val : ρ → D
  bx : ρ → Option D
def kP : RK D := ⟨id, fun _ => none⟩
def kB : RK (D × D) := ⟨Prod.fst, fun r => some r.2⟩
structure RetOk {ρ : Type} (K : RK ρ) (fr : Bool) (F : Fr) (h' : Hd) (d : D) (r : ρ) : Prop where
  ok : FrOk F h'
  dn : Den h' (MR F) d (K.val r)
  fr : fr = true → Frs F.n0 h' (MR F) d (K.val r)
  bx : ∀ n b, F.bx = some n → K.bx r = some b → ∃ c, h'[n]? = some c ∧ DenC h' (MR F) c b
inductive J (σ ρ : Type) where
  | nx (s : σ)
  | up (r : ρ)
inductive Stp (σ ρ : Type) where
  | nx (s : σ)
  | bk (s : σ)
  | up (r : ρ)
def CRet {ρ : Type} (K : RK ρ) (fr : Bool) : Ctx ρ := fun F rs r => (∃ d h', rs = .rt d h' ∧ RetOk K fr F h' d r) ∨ (fr = false ∧ ∃ env' h', rs = .nx env' h' ∧ RetOk K false F h' .non r)
def NJ {ρ : Type} (C : Ctx ρ) : Ctx ρ := fun F rs r => C F rs r ∧ ∀ e h, rs ≠ .nx e h
def CX (st : Bool) (mu : List Nat) {σ : Type} (E : σ → PE) : Ctx σ := fun F rs s => ∃ env' h', rs = .nx env' h' ∧ Rel st mu F env' h' (E s)
def CJ (st : Bool) (mu : List Nat) {σ ρ : Type} (E : σ → PE) (C : Ctx ρ) : Ctx (J σ ρ) := fun F rs r => match r with
  | .nx s => ∃ env' h', rs = .nx env' h' ∧ Rel st mu F env' h' (E s)
  | .up r => C F rs r ∧ ∀ e h, rs ≠ .nx e h
def CL (st : Bool) (mu : List Nat) {σ ρ : Type} (E : σ → PE) (C : Ctx ρ) : Ctx (Stp σ ρ) := fun F rs r => match r with
  | .nx s => ∃ env' h', (rs = .nx env' h' ∨ rs = .ct env' h') ∧ Rel st mu F env' h' (E s)
  | .bk s => ∃ env' h', rs = .bk env' h' ∧ Rel st mu F env' h' (E s)
  | .up r => (∃ d h', rs = .rt d h') ∧ C F rs r

section
variable {st : Bool} {mu mu' : List Nat} {pe pe' : PE} {ρ σ τ : Type} {C : Ctx ρ} {a b : MS} {p : Rt ρ}
def RetIn (C : Ctx τ) (K : RK ρ) (fr : Bool) (inj : ρ → τ) : Prop := ∀ F d h' r, RetOk K fr F h' d r → C F (.rt d h') (inj r)
theorem retIn_ret {K : RK ρ} {fr : Bool} : RetIn (CRet K fr) K fr id := fun F d h' r x => .inl ⟨d, h', rfl, x⟩
theorem retIn_nj {C : Ctx τ} {K : RK ρ} {fr : Bool} {inj : ρ → τ} (x : RetIn C K fr inj) : RetIn (NJ C) K fr inj := fun F d h' r y => ⟨x F d h' r y, fun _ _ z => nomatch z⟩
theorem retIn_cl {E : σ → PE} {C : Ctx τ} {K : RK ρ} {fr : Bool} {inj : ρ → τ} (x : RetIn C K fr inj) : RetIn (CL st mu E C) K fr (fun r => .up (inj r)) := fun F d h' r y => ⟨⟨d, h', rfl⟩, x F d h' r y⟩
def Weak (st : Bool) (mu : List Nat) (pe : PE) (mu' : List Nat) (pe' : PE) : Prop := ∀ F env h, Rel st mu F env h pe → Rel st mu' F env h pe' ∧ ∀ n, Own mu' env pe' n → Own mu env pe n
theorem wk_refl : Weak st mu pe mu pe := fun _ _ _ r => ⟨r, fun _ => id⟩
theorem wk_drop (i : Nat) (x : Weak st mu (pe.set i none) mu' pe') (h0 : (st && i == 0) = false := by rfl) : Weak st mu pe mu' pe' := fun F env h r =>
  have y := x F env h (r.drop i fun z y => by subst z y; cases h0)
  ⟨y.1, fun n o => (y.2 n o).drop⟩
theorem wk_wide (i : Nat) (x : Weak st (i :: mu) (pe.set i none) mu' pe') (h0 : (st && i == 0) = false := by rfl) : Weak st mu pe mu' pe' := fun F env h r =>
  have hn : ∀ v, (pe.set i none)[i]? ≠ some (some v) := fun v e => by
    by_cases hl : i < pe.length
    · rw [set_self hl] at e; cases e
    · rw [List.getElem?_eq_none (by simp; omega)] at e; cases e
  have y := x F env h ((r.drop i fun z y => by subst z y; cases h0).wide hn)
  ⟨y.1, fun n o => ((y.2 n o).wide hn).drop⟩
theorem bs_weak (w : Weak st mu pe mu' pe') (x : BS st mu' pe' a C p) : BS st mu pe a C p := fun F env h r => x F env h (w F env h r).1
def EndIn (C : Ctx τ) (st : Bool) (mu : List Nat) (E : σ → PE) (inj : σ → τ) : Prop := ∀ F env h s, Rel st mu F env h (E s) → C F (.nx env h) (inj s)
variable {E : σ → PE}
theorem end_cl : EndIn (CL st mu E C) st mu E .nx := fun F env h s r => ⟨env, h, .inl rfl, r⟩
theorem bs_end {C : Ctx τ} {inj : σ → τ} {s : σ} (i : EndIn C st mu' E inj) (w : Weak st mu pe mu' (E s)) : BS st mu pe sNil C (.ok (inj s)) := fun F env h r => i F env h s (w F env h r).1
theorem get_last' (h : Hd) (c : Cell) : (h ++ [c])[h.length]? = some c := by simp
theorem Sim.post {M : Nat → Prop} {F : Fr} {env : En} {h : Hd} {Q : Hd → D → D → Prop} {r : R D} {q : Rt D} {C : RS → ρ → Prop} {f : D → Hd → RS} {g : D → Rt ρ} (s : Sim M h Q r q) (hm : ∀ n, MR F n → M n) (fk : FrOk F h) (k : ∀ d h' v, Keep h h' → Q h' d v → Post F C (f d h') (g v)) : Post F C (RS.of env r f) (q.bind g) := by
  cases q with
  | ok v =>
    obtain ⟨d, h', rfl, kp, qq⟩ := s
    exact k d h' v kp qq
  | ex e =>
    obtain ⟨e', h', rfl, kp, dn⟩ := s
    exact ⟨e', env, h', rfl, fk.keep kp, dn.sub hm⟩
  | no => trivial
theorem Sim.postB {M : Nat → Prop} {F : Fr} {env : En} {h : Hd} {r : R Bool} {q : Rt Bool} {C : RS → ρ → Prop} {f : Bool → Hd → RS} {g : Bool → Rt ρ} (s : Sim M h (fun _ d v => d = v) r q) (hm : ∀ n, MR F n → M n) (fk : FrOk F h) (k : ∀ d h', Keep h h' → Post F C (f d h') (g d)) : Post F C (RS.ofB env r f) (q.bind g) := by
  cases q with
  | ok v =>
    obtain ⟨d, h', rfl, kp, rfl⟩ := s
    exact k d h' kp
  | ex e =>
    obtain ⟨e', h', rfl, kp, dn⟩ := s
    exact ⟨e', env, h', rfl, fk.keep kp, dn.sub hm⟩
  | no => trivial
theorem bs_ret {C : Ctx τ} {inj : D → τ} {e : ME} {q : Rt D} (i : RetIn C kP false inj) (x : TE st mu pe e q) : BS st mu pe (sRet e) C (q.bind fun v => .ok (inj v)) := fun F env h r =>
  (x F env h r).post r.mr r.frok fun d h' v k dn => i F d h' v ⟨(r.keep k).frok, dn.sub r.mr, (fun z => nomatch z), fun _ _ _ z => nomatch z⟩
theorem bs_retF {C : Ctx τ} {inj : D → τ} {e : ME} {q : Rt D} (i : RetIn C kP true inj) (x : TF st mu pe e q) : BS st mu pe (sRet e) C (q.bind fun v => .ok (inj v)) := fun F env h r =>
  (x F env h r).post r.mr r.frok fun d h' v k dn => i F d h' v ⟨(r.keep k).frok, (dn.den r.lt).sub r.mr, fun _ => by
    rcases dn with ⟨xs, ys, e1, e2, l⟩ | ⟨ks, vs, us, ws, e1, e2, l, m⟩ | ⟨n, c, e1, hn, e2, l⟩
    · exact .inl ⟨xs, ys, e1, e2, l.sub r.mr⟩
    · exact .inr (.inl ⟨ks, vs, us, ws, e1, e2, l.sub r.mr, m.sub r.mr⟩)
    · exact .inr (.inr ⟨n, c, e1, Nat.le_trans (Nat.le_trans r.n0 r.h0) hn, e2, l.sub fun m z => z.imp (r.mr m) id⟩), fun _ _ _ z => nomatch z⟩
theorem bs_retB {C : Ctx τ} {inj : D × D → τ} {e : ME} {q : Rt D} {b : D} (i : RetIn C kB false inj) (x : TE st mu pe e q) (hb : pe[0]? = some (some b) := by rfl) (hm : 0 ∈ mu := by decide) : BS st mu pe (sRet e) C (q.bind fun v => .ok (inj (v, b))) := fun F env h r =>
  (x F env h r).post r.mr r.frok fun d h' v k dn => i F d h' (v, b) ⟨(r.keep k).frok, dn.sub r.mr, (fun z => nomatch z), fun n b' e1 e2 => by
    cases e2
    obtain ⟨n', c, f1, f2, dc, _⟩ := (r.keep k).cell 0 b hm hb
    have := (r.box n e1).2.1
    rw [this] at f1
    cases f1
    exact ⟨c, f2, dc.sub r.mr⟩⟩

theorem bs_nil {a : MS} (x : BS st mu pe a C p) : BS st mu pe (sSeq sNil a) C p := x
theorem seq_post {F : Fr} {C : RS → ρ → Prop} {X : RS → σ → Prop} {env : En} {h : Hd} {q : Rt σ} {f : σ → Rt ρ} (x : Post F X (a env h) q) (k : ∀ s, X (a env h) s → Post F C (sSeq a b env h) (f s)) : Post F C (sSeq a b env h) (q.bind f) := by
  cases q with
  | ok s => exact k s x
  | ex e =>
    obtain ⟨e', env', h', e1, fk, dn⟩ := x
    exact ⟨e', env', h', by unfold sSeq; rw [e1], fk, dn⟩
  | no => trivial
theorem seq_nx {env env' : En} {h h' : Hd} (e : a env h = .nx env' h') : sSeq a b env h = b env' h' := by unfold sSeq; rw [e]
theorem seq_no {env : En} {h : Hd} (e : ∀ e h', a env h ≠ .nx e h') : sSeq a b env h = a env h := by
  unfold sSeq
  cases q : a env h <;> first | rfl | exact absurd q (e _ _)
theorem bs_set {e : ME} {q : Rt D} {i : Nat} {f : D → Rt ρ} (x : TE st mu pe e q) (y : ∀ v, BS st mu (pe.set i (some v)) b C (f v)) (hm : i ∉ mu := by decide) (hl : decide (i < pe.length) = true := by rfl) : BS st mu pe (sSeq (sAsg (gNm i) e) b) C (q.bind f) := fun F env h r => by
  have z := Sim.post (F := F) (env := env) (C := CX st mu (fun v : D => pe.set i (some v)) F) (f := fun d h1 => match gNm i (box d h1).1 (box d h1).2 with
    | some ps => .nx (setAll env ps) (box d h1).2
    | none => .stuck) (g := fun v => .ok v) (x F env h r) r.mr r.frok fun d h' v k dn => by
      obtain ⟨k2, d2⟩ := box_den (r.keep k).lt dn
      exact ⟨_, _, rfl, ((r.keep k).keep k2).set hm (of_decide_eq_true hl) d2⟩
  have w := seq_post (a := sAsg (gNm i) e) (b := b) (C := C F) (f := f) z fun v ⟨env', h', e1, r2⟩ => by rw [seq_nx e1]; exact y v F env' h' r2
  have eq : ((q.bind fun v => Rt.ok v).bind f) = q.bind f := by cases q <;> rfl
  rw [eq] at w
  exact w
theorem Rel.fresh {F : Fr} {env : En} {h h1 : Hd} {i : Nat} {d v : D} (r : Rel st mu F env h1 pe) (k : Keep h1 h) (f : Frs h1.length h (Mx F mu env pe) d v) (hi : i ∈ mu) (h0 : st = true → i ≠ 0) (hl : i < pe.length) :
    Rel st mu F (env.set i (some (Tw.box d h).1)) (Tw.box d h).2 (pe.set i (some v)) := by
  have lt : Lt (Mx F mu env pe) h := fun n m => Nat.lt_of_lt_of_le (r.lt n m) k.len
  have wide : ∀ {N : Nat} {xs ys : List D} {h2 : Hd}, Lt (Mx F mu env pe) h2 → h2.length ≤ N → DenL h2 (Mx F mu env pe) xs ys → ∀ {h3 : Hd}, Keep h2 h3 → DenL h3 (fun m => Mx F mu env pe m ∨ m = N) xs ys := fun {N xs ys h2} lt hN l {h3} k => l.to fun n c e m => ⟨k n c e, fun z => by
    rcases z with z | z
    · exact m z
    · have := lt_get e
      omega⟩
  rcases f with ⟨xs, ys, rfl, rfl, l⟩ | ⟨ks, vs, us, ws, rfl, rfl, l, m⟩ | ⟨n, c, rfl, hn, e, l⟩
  · obtain ⟨kb, lb⟩ := boxL_den lt l
    simp only [Tw.box]
    refine Rel.new (h1 := (boxL xs h).2) ((r.keep k).keep kb) (Keep.push _ _) hi h0 hl (Nat.le_refl _) (get_last' _ _) ?_
    exact wide (lt.keep (k := kb)) (Nat.le_refl _) lb (Keep.push _ _)
  · obtain ⟨kb, lb⟩ := boxL_den lt m
    simp only [Tw.box]
    refine Rel.new (h1 := (boxL vs h).2) ((r.keep k).keep kb) (Keep.push _ _) hi h0 hl (Nat.le_refl _) (get_last' _ _) ?_
    exact ⟨wide (lt.keep (k := kb)) (Nat.le_refl _) (l.keep kb) (Keep.push _ _), wide (lt.keep (k := kb)) (Nat.le_refl _) lb (Keep.push _ _)⟩
  · exact r.new k hi h0 hl hn e l
theorem bs_setF {e : ME} {q : Rt D} {i : Nat} {f : D → Rt ρ} (x : TF st mu pe e q) (y : ∀ v, BS st mu (pe.set i (some v)) b C (f v)) (hm : i ∈ mu := by decide) (hl : decide (i < pe.length) = true := by rfl) (h0 : (st && i == 0) = false := by rfl) : BS st mu pe (sSeq (sAsg (gNm i) e) b) C (q.bind f) := fun F env h r => by
  have z := Sim.post (F := F) (env := env) (C := CX st mu (fun v : D => pe.set i (some v)) F) (f := fun d h1 => match gNm i (box d h1).1 (box d h1).2 with
    | some ps => .nx (setAll env ps) (box d h1).2
    | none => .stuck) (g := fun v => .ok v) (x F env h r) r.mr r.frok fun d h' v k dn => ⟨_, _, rfl, r.fresh k dn hm (fun z1 z2 => by subst z1 z2; cases h0) (of_decide_eq_true hl)⟩
  have w := seq_post (a := sAsg (gNm i) e) (b := b) (C := C F) (f := f) z fun v ⟨env', h', e1, r2⟩ => by rw [seq_nx e1]; exact y v F env' h' r2
  have eq : ((q.bind fun v => Rt.ok v).bind f) = q.bind f := by cases q <;> rfl
  rw [eq] at w
  exact w
def qIsL (w : D) : Rt Unit := match w with
  | .lst _ => .ok ()
  | _ => .no
@[simp] theorem qIsL_lst (xs : List D) : qIsL (.lst xs) = .ok () := id rfl
def qApp (w v : D) : Rt D := match w with
  | .lst xs => if xs.length < sizeLine then .ok (.lst (xs ++ [v])) else .no
  | _ => .no
def qSetIx (w k v : D) : Rt D := match w, k with
  | .lst xs, .int k => match ixN xs.length k with
    | some j => .ok (.lst (xs.set j v))
    | none => .no
  | _, _ => .no
theorem own_lst {F : Fr} {env : En} {h : Hd} {i : Nat} {ys : List D} (r : Rel st mu F env h pe) (hm : i ∈ mu) (hv : pe[i]? = some (some (.lst ys))) : ∃ n xs, env[i]? = some (some (.ref n)) ∧ h[n]? = some (.lst xs) ∧ DenL h (Mx F mu env pe) xs ys := by
  obtain ⟨n, c, e1, e2, dn, _⟩ := r.cell i _ hm hv
  rcases dn.kind with ⟨xs, zs, rfl, z, l⟩ | ⟨_, _, _, _, _, z, _⟩
  · cases z; exact ⟨n, xs, e1, e2, l⟩
  · cases z
theorem bs_append {e : ME} {q : Rt D} {i : Nat} {w : D} {f : D → Rt ρ} (x : TE st mu pe e q) (y : ∀ v, BS st mu (pe.set i (some v)) b C (f v)) (hv : pe[i]? = some (some w) := by rfl) (hm : i ∈ mu := by decide) :
    BS st mu pe (sSeq (sDrop (eBM "list" mAppend (eVar i) (aCons e aNil))) b) C ((qIsL w).bind fun _ => q.bind fun v => (qApp w v).bind f) := fun F env h r => by
  cases w with
  | lst ys =>
    rw [qIsL_lst, bind_ok]
    obtain ⟨n, xs, e1, e2, l⟩ := own_lst r hm hv
    have ty : tyD "list" h (.ref n) = true := by simp [tyD, e2]
    have sm := x F env h r
    have form : sDrop (eBM "list" mAppend (eVar i) (aCons e aNil)) env h = RS.of env (((e env h).bind fun d h1 => .ok [d] h1).bind fun ds h2 => Tw.liftM (mAppend (.ref n) ds h2)) fun _ h1 => .nx env h1 := by
      simp only [sDrop, eBM, eVar, e1, R.bind_ok, ty, if_true, aCons, aNil]
    cases q with
    | no => trivial
    | ex v =>
      obtain ⟨e', h', f1, k, dn⟩ := sm
      refine ⟨e', env, h', ?_, r.frok.keep k, dn.sub r.mr⟩
      unfold sSeq
      rw [form, f1]
      rfl
    | ok v =>
      obtain ⟨d, h1, f1, k, dn⟩ := sm
      obtain ⟨kb, db⟩ := box_den (r.keep k).lt dn
      have g2 : (box d h1).2[n]? = some (.lst xs) := kb _ _ (k _ _ e2)
      simp only [bind_ok, qApp]
      rw [← l.length]
      split
      · rename_i hl
        have st : sDrop (eBM "list" mAppend (eVar i) (aCons e aNil)) env h = .nx env ((box d h1).2.set n (.lst (xs ++ [(box d h1).1]))) := by
          rw [form, f1]
          simp only [R.bind_ok, mAppend, g2, if_pos hl, Tw.liftM, RS.of_ok]
        rw [seq_nx st]
        exact y _ F _ _ (Rel.put ((r.keep k).keep kb) hm hv e1 (c := .lst (xs ++ [(box d h1).1])) (v := .lst (ys ++ [v])) (((l.keep k).keep kb).snoc db)).1
      · trivial
  | _ => trivial
theorem bs_setIx {e k : ME} {q qk : Rt D} {i : Nat} {w : D} {f : D → Rt ρ} (x : TE st mu pe e q) (z : TV st mu pe k qk) (y : ∀ v, BS st mu (pe.set i (some v)) b C (f v)) (hv : pe[i]? = some (some w) := by rfl) (hm : i ∈ mu := by decide) :
    BS st mu pe (sSeq (sSetIx e (eVar i) k) b) C (q.bind fun v => qk.bind fun n => (qSetIx w n v).bind f) := fun F env h r => by
  have sm := x F env h r
  obtain ⟨n, c, e1, e2, dc, _⟩ := r.cell i w hm hv
  cases q with
  | no => trivial
  | ex v =>
    obtain ⟨e', h', f1, k1, dn⟩ := sm
    refine ⟨e', env, h', ?_, r.frok.keep k1, dn.sub r.mr⟩
    simp only [sSeq, sSetIx, f1, RS.of]
  | ok v =>
    obtain ⟨d, h1, f1, k1, dn⟩ := sm
    obtain ⟨kb, db⟩ := box_den (r.keep k1).lt dn
    have r1 := (r.keep k1).keep kb
    have sk := z F env (Tw.box d h1).2 r1
    rw [bind_ok]
    cases qk with
    | no => trivial
    | ex v =>
      obtain ⟨e', h', f2, k2, dn⟩ := sk
      refine ⟨e', env, h', ?_, r1.frok.keep k2, dn.sub r.mr⟩
      simp only [sSeq, sSetIx, f1, RS.of, eVar, e1, f2]
    | ok m =>
      obtain ⟨d2, h2, f2, k2, dm⟩ := sk
      rw [bind_ok]
      cases w with
      | lst ys => cases m with
        | int m =>
          have := dm.int
          subst this
          rcases dc.kind with ⟨xs, zs, rfl, zz, l⟩ | ⟨_, _, _, _, _, zz, _⟩
          · cases zz
            simp only [qSetIx]
            rw [← l.length]
            cases ej : ixN xs.length m with
            | none => trivial
            | some j =>
              have g2 : h2[n]? = some (.lst xs) := k2 _ _ (kb _ _ (k1 _ _ e2))
              have st : sSetIx e (eVar i) k env h = .nx env (h2.set n (.lst (xs.set j (Tw.box d h1).1))) := by
                simp only [sSetIx, f1, RS.of, eVar, e1, f2, setIx, g2, ej]
              rw [seq_nx st]
              exact y _ F _ _ (Rel.put (r1.keep k2) hm hv e1 (c := .lst (xs.set j (Tw.box d h1).1)) (v := .lst (ys.set j v)) ((((l.keep k1).keep kb).keep k2).put j (db.keep k2))).1
          · cases zz
        | _ => trivial
      | _ => trivial
def qCond {ρ : Type} (w : Rt Bool) (a b : Rt ρ) : Rt ρ := w.bind fun c => if c = true then a else b
def qJ {σ ρ : Type} (f : σ → Rt ρ) : J σ ρ → Rt ρ
  | .nx s => f s
  | .up r => .ok r
@[simp] theorem qJ_nx {σ ρ : Type} (f : σ → Rt ρ) (s : σ) : qJ f (.nx s) = f s := id rfl
@[simp] theorem qJ_up {σ ρ : Type} (f : σ → Rt ρ) (s : ρ) : qJ f (.up s) = .ok s := id rfl
variable {t : MT} {w : Rt Bool} {A B : MS} {E : σ → PE}
theorem bs_if {pA pB : Rt ρ} (x : TT st mu pe t w) (y : BS st mu pe A C pA) (z : BS st mu pe B C pB) : BS st mu pe (sIf t A B) C (qCond w pA pB) := fun F env h r =>
  (x F env h r).postB r.mr r.frok fun d h' k => by
    split
    · exact y F env h' (r.keep k)
    · exact z F env h' (r.keep k)
theorem if_seq (t : MT) (A B b : MS) : sSeq (sIf t A B) b = sIf t (sSeq A b) (sSeq B b) := by
  funext env h
  simp only [sSeq, sIf]
  cases e : t env h with
  | ok d h1 =>
    simp only [RS.ofB_ok]
    cases d <;> rfl
  | exc _ _ => rfl
  | stuck => rfl
theorem nj_seq {A b : MS} {pA : Rt ρ} (x : BS st mu pe A (NJ C) pA) : BS st mu pe (sSeq A b) C pA := fun F env h r => by
  have y := x F env h r
  cases pA with
  | ok v => rw [seq_no y.2]; exact y.1
  | ex e =>
    obtain ⟨e', env', h', e1, fk, dn⟩ := y
    exact ⟨e', env', h', by unfold sSeq; rw [e1], fk, dn⟩
  | no => trivial
theorem bs_ifA {pA pB : Rt ρ} (x : TT st mu pe t w) (y : BS st mu pe A (NJ C) pA) (z : BS st mu pe (sSeq B b) C pB) : BS st mu pe (sSeq (sIf t A B) b) C (qCond w pA pB) := by
  rw [if_seq]
  exact bs_if x (nj_seq y) z
def qFor {σ ρ : Type} : List D → σ → (σ → D → Rt (Stp σ ρ)) → Rt (J σ ρ)
  | [], s, _ => .ok (.nx s)
  | x :: xs, s, f => (f s x).bind fun r => match r with
    | .nx s' => qFor xs s' f
    | .bk s' => .ok (.nx s')
    | .up r => .ok (.up r)
def RF (C : Ctx ρ) : Prop := ∀ (st : Bool) (mu : List Nat) (F : Fr) (env : En) (h : Hd) (pe : PE) (d : D) (h' : Hd) (r : ρ), Rel st mu F env h pe → C (F.later mu env pe h) (.rt d h') r → C F (.rt d h') r
theorem rf_ret {K : RK ρ} {fr : Bool} : RF (CRet K fr) := fun st mu F env h pe d h' r rl x => by
  rcases x with ⟨d2, h2, e, ok⟩ | ⟨_, _, _, e, _⟩
  · cases e
    exact .inl ⟨_, _, rfl, ⟨FrOk.back rl ok.ok, ok.dn, ok.fr, ok.bx⟩⟩
  · cases e
variable {α : Type} {g : MG} {un : D → Rt α} {up : α → List (Nat × D)} {sl : List Nat} {body : MS}
theorem for_post {f : σ → α → Rt (Stp σ ρ)} (hg : TG g un up) (hu : ∀ s a, ∀ u ∈ up a, u.1 ∉ mu ∧ u.1 < (E s).length) (hb : ∀ s a, BS st mu (setP (E s) (up a)) body (CL st mu E C) (f s a)) {F : Fr} {src : Src} (hs : ∀ q ∈ src, F.h0[q.1]? = some q.2 ∧ ¬ F.B q.1) :
    ∀ {items vs : List D} {s : σ} {env : En} {h : Hd}, Rel st mu F env h (E s) → DenL F.h0 (fun n => F.M0 n ∨ F.B n) items vs → Post F (fun rs r => match r with
      | .nx s => ∃ env' h', rs = .nx env' h' ∧ Rel st mu F env' h' (E s)
      | .up r => (∃ d h', rs = .rt d h') ∧ C F rs r) (forGo g body src items env h) (qFor vs s fun s x => (un x).bind (f s))
  | _, _, s, env, h, r, .nil => by
    unfold forGo
    rw [if_pos (srcOk_of fun q hq => r.fr _ _ (hs q hq).1 (hs q hq).2)]
    exact ⟨env, h, rfl, r⟩
  | _, _, s, env, h, r, .cons (x := x) (y := y) (xs := xs) (ys := ys) d l => by
    unfold forGo
    rw [if_pos (srcOk_of fun q hq => r.fr _ _ (hs q hq).1 (hs q hq).2)]
    have dx : Den h (Mx F mu env (E s)) x y := d.to fun n c e z => ⟨r.fr n c e fun b => z (.inr b), fun m => by
      rcases m with m | m
      · exact z (.inl m)
      · rcases (r.own_lt m).2.1 with b | b
        · exact z (.inr b)
        · have := lt_get e
          omega⟩
    have gx := hg h _ x y dx
    simp only [qFor]
    cases eu : un y with
    | no => trivial
    | ex _ => rw [eu] at gx; exact gx.elim
    | ok a =>
      rw [eu] at gx
      obtain ⟨ps, e1, e2, e3⟩ := gx
      rw [e1]
      simp only [bind_ok]
      have b1 := hb s a F (Tw.setAll env ps) h (r.setAll e2 e3 (hu s a)).1
      cases ef : f s a with
      | no => trivial
      | ex e =>
        rw [ef] at b1
        obtain ⟨e', env', h', f1, fk, dn⟩ := b1
        rw [f1]
        exact ⟨e', env', h', rfl, fk, dn⟩
      | ok s' =>
        rw [ef] at b1
        simp only [bind_ok]
        cases s' with
        | nx s' =>
          obtain ⟨env', h', f1, r2⟩ := b1
          rcases f1 with f1 | f1
          · rw [f1]; exact for_post hg hu hb hs r2 l
          · rw [f1]; exact for_post hg hu hb hs r2 l
        | bk s' =>
          obtain ⟨env', h', f1, r2⟩ := b1
          rw [f1]
          exact ⟨env', h', rfl, r2⟩
        | up r =>
          obtain ⟨⟨d, h', f1⟩, c1⟩ := b1
          rw [f1] at c1 ⊢
          exact ⟨⟨d, h', rfl⟩, c1⟩
theorem okSl_at2 {up : α → List (Nat × D)} (hs : ∀ a, (up a).map (·.1) = sl) (hu : ∀ s : σ, okSl mu (E s).length sl = true) : ∀ s a, ∀ u ∈ up a, u.1 ∉ mu ∧ u.1 < (E s).length := fun s a u h => okSl_at hs (hu s) a u h
theorem Post.back {F : Fr} {env : En} {h : Hd} {C C' : RS → ρ → Prop} {rs : RS} {p : Rt ρ} (r : Rel st mu F env h pe) (x : Post (F.later mu env pe h) C rs p) (k : ∀ v, C rs v → C' rs v) : Post F C' rs p := by
  cases p with
  | ok v => exact k v x
  | ex e =>
    obtain ⟨e', env', h', e1, fk, dn⟩ := x
    exact ⟨e', env', h', e1, FrOk.back r fk, dn⟩
  | no => trivial
variable {mi : MI} {its : Rt (List D)}
theorem for_start {Q : RS → ρ → Prop} {F : Fr} {env : En} {h : Hd} {f : List D → Rt ρ} (r : Rel st mu F env h pe) (hi : TI st mu pe true mi its)
    (k : ∀ items vs src h1, Rel st mu F env h1 pe → DenL h1 (Mx F mu env pe) items vs → (∀ q ∈ src, h1[q.1]? = some q.2 ∧ ¬ Mx F mu env pe q.1) → Post F Q (forGo g body src items env h1) (f vs)) : Post F Q (sFor mi g body env h) (its.bind f) := by
  have y := hi F env h r
  unfold sFor
  cases its with
  | no => trivial
  | ex e =>
    obtain ⟨e', h1, e1, kp, dn⟩ := y
    rw [e1]
    exact ⟨e', env, h1, rfl, r.frok.keep kp, dn.sub r.mr⟩
  | ok vs =>
    obtain ⟨d, h1, e1, kp, l, hs⟩ := y
    rw [e1]
    exact k d.1 vs d.2 h1 (r.keep kp) l fun q hq => ⟨(hs q hq).1, (hs q hq).2 rfl⟩
theorem bs_for {s0 : σ} {f : σ → α → Rt (Stp σ ρ)} {k : σ → Rt ρ} (rf : RF C) (hi : TI st mu pe true mi its) (hg : TG g un up) (hw : Weak st mu pe mu' (E s0)) (hb : ∀ s a, BS st mu' (setP (E s) (up a)) body (CL st mu' E C) (f s a)) (hk : ∀ s, BS st mu' (E s) b C (k s))
    (hs : ∀ a, (up a).map (·.1) = sl := by intro _; rfl) (hu : ∀ s : σ, okSl mu' (E s).length sl = true := by intro _; rfl) : BS st mu pe (sSeq (sFor mi g body) b) C (its.bind fun xs => (qFor xs s0 fun s x => (un x).bind (f s)).bind (qJ k)) := fun F env h r => by
  have x : Post F (CJ st mu' E C F) (sFor mi g body env h) (its.bind fun xs => qFor xs s0 fun s x => (un x).bind (f s)) := for_start r hi fun items vs src h1 r1 l hsrc => by
    obtain ⟨rw1, ow⟩ := hw F env h1 r1
    have rl := rw1.later
    refine Post.back rw1 (for_post (F := F.later mu' env (E s0) h1) hg (okSl_at2 hs hu) hb (src := src) ?_ rl ?_) fun v hv => ?_
    · exact fun q hq => ⟨(hsrc q hq).1, fun z => (hsrc q hq).2 (.inr (ow _ z))⟩
    · exact l.to fun n c e z => ⟨e, fun m => z (m.imp id (ow n))⟩
    · cases v with
      | nx s =>
        obtain ⟨env', h', e, q⟩ := hv
        exact ⟨env', h', e, rw1.back q⟩
      | up r =>
        obtain ⟨⟨d, h', e⟩, c⟩ := hv
        rw [e] at c ⊢
        exact ⟨rf _ _ _ _ _ _ _ _ _ rw1 c, fun _ _ z => nomatch z⟩
  have w := seq_post (a := sFor mi g body) (b := b) (C := C F) (f := qJ k) x fun v hv => by
    cases v with
    | nx s =>
      obtain ⟨env', h', e1, r2⟩ := hv
      rw [seq_nx e1]
      exact hk s F env' h' r2
    | up r =>
      rw [seq_no hv.2]
      exact hv.1
  have eq : ((its.bind fun xs => qFor xs s0 fun s x => (un x).bind (f s)).bind (qJ k)) = its.bind fun xs => (qFor xs s0 fun s x => (un x).bind (f s)).bind (qJ k) := by cases its <;> rfl
  rw [eq] at w
  exact w
end
end Pq

namespace Pq
open PySem Tw
open L2 (atI ixN)

def SimS (st : Bool) (mu : List Nat) (F : Fr) (env : En) (pe : PE) (j : Nat) (h : Hd) {α β : Type} (Q : Hd → α → β → Prop) (r : R α) : Rt (β × D) → Prop
  | .ok b => ∃ a h', r = .ok a h' ∧ Rel st mu F env h' (pe.set j (some b.2)) ∧ h.length ≤ h'.length ∧ (∀ n c, h[n]? = some c → ¬ Mx F mu env pe n → h'[n]? = some c) ∧ Q h' a b.1
  | .ex e => ∃ e' h', r = .exc e' h' ∧ FrOk F h' ∧ Den h' (MR F) e' e
  | .no => True
section
variable (st : Bool) (mu : List Nat) (j : Nat) (pe : PE)
def TEs (e : ME) (p : Rt (D × D)) : Prop := ∀ F env h, Rel st mu F env h pe → SimS st mu F env pe j h (fun h' d v => Den h' (Mx F mu env pe) d v) (e env h) p
def TAs (e : MA) (p : Rt (List D × D)) : Prop := ∀ F env h, Rel st mu F env h pe → SimS st mu F env pe j h (fun h' d v => DenL h' (Mx F mu env pe) d v) (e env h) p
def TTs (e : MT) (p : Rt (Bool × D)) : Prop := ∀ F env h, Rel st mu F env h pe → SimS st mu F env pe j h (fun h' d v => d = v) (e env h) p
end
section
variable {st : Bool} {mu : List Nat} {j : Nat} {pe : PE} {F : Fr} {env : En} {α β γ δ : Type}
theorem mx_set {b w : D} (hj : pe[j]? = some (some w)) (n : Nat) : Mx F mu env (pe.set j (some b)) n ↔ Mx F mu env pe n := by
  have hl : j < pe.length := (List.getElem?_eq_some_iff.mp hj).1
  constructor
  · refine fun q => q.imp id fun ⟨i, hi, ⟨v, ev⟩, e⟩ => ?_
    by_cases ne : j = i
    · subst ne; exact ⟨j, hi, ⟨w, hj⟩, e⟩
    · rw [set_get ne] at ev; exact ⟨i, hi, ⟨v, ev⟩, e⟩
  · refine fun q => q.imp id fun ⟨i, hi, ⟨v, ev⟩, e⟩ => ?_
    by_cases ne : j = i
    · subst ne; exact ⟨j, hi, ⟨b, set_self hl⟩, e⟩
    · exact ⟨i, hi, ⟨v, by rw [set_get ne]; exact ev⟩, e⟩
theorem set_set (pe : PE) (j : Nat) (a b : Option D) : (pe.set j a).set j b = pe.set j b := List.set_set ..
theorem SimS.bind {h : Hd} {w : D} (hj : pe[j]? = some (some w)) {Q : Hd → α → β → Prop} {Q' : Hd → γ → δ → Prop} {r : R α} {p : Rt (β × D)} {f : α → Hd → R γ} {g : β × D → Rt (δ × D)} (s : SimS st mu F env pe j h Q r p)
    (k : ∀ a h' b, Rel st mu F env h' (pe.set j (some b.2)) → h.length ≤ h'.length → (∀ n c, h[n]? = some c → ¬ Mx F mu env pe n → h'[n]? = some c) → Q h' a b.1 → SimS st mu F env (pe.set j (some b.2)) j h' Q' (f a h') (g b)) : SimS st mu F env pe j h Q' (r.bind f) (p.bind g) := by
  cases p with
  | no => trivial
  | ex e => obtain ⟨e', h', rfl, q⟩ := s; exact ⟨e', h', rfl, q⟩
  | ok b =>
    obtain ⟨a, h', rfl, rl, ln, kx, q⟩ := s
    have z := k a h' b rl ln kx q
    simp only [R.bind_ok, bind_ok]
    cases e : g b with
    | no => trivial
    | ex x => rw [e] at z; exact z
    | ok c =>
      rw [e] at z
      obtain ⟨a2, h2, e2, rl2, ln2, kx2, q2⟩ := z
      rw [set_set] at rl2
      exact ⟨a2, h2, e2, rl2, Nat.le_trans ln ln2, fun n d g m => kx2 n d (kx n d g m) fun z => m ((mx_set hj n).mp z), q2⟩
theorem set_same {w : D} (hj : pe[j]? = some (some w)) : pe.set j (some w) = pe := by
  apply List.ext_getElem?
  intro i
  by_cases ne : j = i
  · subst ne; rw [set_self (List.getElem?_eq_some_iff.mp hj).1, hj]
  · rw [set_get ne]
theorem SimS.of {h : Hd} {w : D} (hj : pe[j]? = some (some w)) {Q : Hd → α → β → Prop} {r : R α} {p : Rt β} (rl : Rel st mu F env h pe) (s : Sim (Mx F mu env pe) h Q r p) : SimS st mu F env pe j h Q r (p.bind fun v => .ok (v, w)) := by
  cases p with
  | no => trivial
  | ex e =>
    obtain ⟨e', h', e1, k, dn⟩ := s
    exact ⟨e', h', e1, rl.frok.keep k, dn.sub rl.mr⟩
  | ok v =>
    obtain ⟨a, h', e1, k, q⟩ := s
    refine ⟨a, h', e1, ?_, k.len, fun n c e _ => k n c e, q⟩
    rw [show (v, w).2 = w from rfl, set_same hj]
    exact rl.keep k
theorem SimS.mono {h : Hd} {Q Q' : Hd → α → β → Prop} {r : R α} {p : Rt (β × D)} (s : SimS st mu F env pe j h Q r p) (k : ∀ h' a b, Q h' a b → Q' h' a b) : SimS st mu F env pe j h Q' r p := by
  cases p with
  | no => trivial
  | ex e => exact s
  | ok v =>
    obtain ⟨a, h', e1, r1, k1, k2, q⟩ := s
    exact ⟨a, h', e1, r1, k1, k2, k _ _ _ q⟩
variable {a b c : ME} {as : MA} {t : MT}
theorem tes_of {p : Rt D} {w : D} (x : TE st mu pe a p) (hj : pe[j]? = some (some w) := by rfl) : TEs st mu j pe a (p.bind fun v => .ok (v, w)) := fun F env h r => .of hj r (x F env h r)
theorem tas_of {p : Rt (List D)} {w : D} (x : TA st mu pe as p) (hj : pe[j]? = some (some w) := by rfl) : TAs st mu j pe as (p.bind fun v => .ok (v, w)) := fun F env h r => .of hj r (x F env h r)
theorem tts_of {p : Rt Bool} {w : D} (x : TT st mu pe t p) (hj : pe[j]? = some (some w) := by rfl) : TTs st mu j pe t (p.bind fun v => .ok (v, w)) := fun F env h r => .of hj r (x F env h r)
def qsCons (a : Rt (D × D)) (as : D → Rt (List D × D)) : Rt (List D × D) := a.bind fun x => (as x.2).bind fun xs => .ok (x.1 :: xs.1, xs.2)
def qsBin (op : D → D → Hd → Option D) (a : Rt (D × D)) (b : D → Rt (D × D)) : Rt (D × D) := a.bind fun x => (b x.2).bind fun y => (qOp (op x.1 y.1 [])).bind fun z => .ok (z, y.2)
def qsN (op : List D → Hd → Option D) (as : Rt (List D × D)) : Rt (D × D) := as.bind fun xs => (qOp (op xs.1 [])).bind fun z => .ok (z, xs.2)
def qsVal (a : Rt (D × D)) : Rt (Bool × D) := a.bind fun x => (qAsB x.1).bind fun z => .ok (z, x.2)
def qsNot (a : Rt (Bool × D)) : Rt (Bool × D) := a.bind fun x => .ok (!x.1, x.2)
def qsAnd (a : Rt (Bool × D)) (b : D → Rt (Bool × D)) : Rt (Bool × D) := a.bind fun x => if x.1 = true then b x.2 else .ok (false, x.2)
def qsOr (a : Rt (Bool × D)) (b : D → Rt (Bool × D)) : Rt (Bool × D) := a.bind fun x => if x.1 = true then .ok (true, x.2) else b x.2
def qsIf (t : Rt (Bool × D)) (a b : D → Rt (D × D)) : Rt (D × D) := t.bind fun x => if x.1 = true then a x.2 else b x.2
def qsAsBD (x : D) (f : Bool → Rt (D × D)) : Rt (D × D) := match x with
  | .bl b => f b
  | _ => .no
def qsEAnd (a : Rt (D × D)) (b : D → Rt (D × D)) : Rt (D × D) := a.bind fun x => qsAsBD x.1 fun c => if c = true then b x.2 else .ok (.bl false, x.2)
def qsEOr (a : Rt (D × D)) (b : D → Rt (D × D)) : Rt (D × D) := a.bind fun x => qsAsBD x.1 fun c => if c = true then .ok (.bl true, x.2) else b x.2
def qsCall (f : List D → Rt D) (as : Rt (List D × D)) : Rt (D × D) := as.bind fun xs => (f xs.1).bind fun z => .ok (z, xs.2)
def qsCallB (f : D → List D → Rt (D × D)) (as : Rt (List D × D)) : Rt (D × D) := as.bind fun xs => f xs.2 xs.1
theorem Den.late {h h' : Hd} {d v b w : D} (hj : pe[j]? = some (some w)) (kx : ∀ n c, h[n]? = some c → ¬ Mx F mu env (pe.set j (some b)) n → h'[n]? = some c) (x : Den h (Mx F mu env pe) d v) : Den h' (Mx F mu env pe) d v := x.to fun n c e m => ⟨kx n c e fun z => m ((mx_set hj n).mp z), m⟩
theorem DenL.late {h h' : Hd} {d v : List D} {b w : D} (hj : pe[j]? = some (some w)) (kx : ∀ n c, h[n]? = some c → ¬ Mx F mu env (pe.set j (some b)) n → h'[n]? = some c) (x : DenL h (Mx F mu env pe) d v) : DenL h' (Mx F mu env pe) d v := x.to fun n c e m => ⟨kx n c e fun z => m ((mx_set hj n).mp z), m⟩
theorem Den.un {h : Hd} {d v b w : D} (hj : pe[j]? = some (some w)) (x : Den h (Mx F mu env (pe.set j (some b))) d v) : Den h (Mx F mu env pe) d v := x.sub fun n => (mx_set hj n).mpr
theorem DenL.un {h : Hd} {d v : List D} {b w : D} (hj : pe[j]? = some (some w)) (x : DenL h (Mx F mu env (pe.set j (some b))) d v) : DenL h (Mx F mu env pe) d v := x.sub fun n => (mx_set hj n).mpr
theorem SimS.fin {h : Hd} {w b : D} (hj : pe[j]? = some (some w)) {Q : Hd → α → β → Prop} {a : α} {v : β} (rl : Rel st mu F env h (pe.set j (some b))) (q : Q h a v) : SimS st mu F env (pe.set j (some b)) j h Q (.ok a h) (.ok (v, b)) :=
  ⟨a, h, rfl, by rw [set_set]; exact rl, Nat.le_refl _, fun _ _ e _ => e, q⟩
theorem Rel.put2 {h h2 : Hd} {n : Nat} {c0 c2 : Cell} {v w : D} (r : Rel st mu F env h pe) (hm : j ∈ mu) (hj : pe[j]? = some (some w)) (en : env[j]? = some (some (.ref n))) (g0 : h[n]? = some c0) (kp : ∀ m c, h[m]? = some c → m ≠ n → h2[m]? = some c) (g2 : h2[n]? = some c2) (dc : DenC h2 (Mx F mu env pe) c2 v) : Rel st mu F env h2 (pe.set j (some v)) := by
  have on : Own mu env pe n := ⟨j, hm, ⟨w, hj⟩, en⟩
  have ln := lt_get g2
  have k : Keep h (h2.set n c0) := fun m c e => by
    by_cases q : n = m
    · subst q
      rw [set_self ln]
      rw [g0] at e
      exact e
    · rw [set_get q]
      exact kp m c e fun z => q z.symm
  have r2 := r.keep k
  have p := (Rel.put r2 hm hj en (c := c2) (v := v) (dc.to fun m c e z => ⟨by
    rw [set_get (fun q : n = m => z (.inr (q ▸ on)))]
    exact e, z⟩)).1
  have : (h2.set n c0).set n c2 = h2 := by
    rw [List.set_set]
    apply List.ext_getElem?
    intro i
    by_cases q : n = i
    · subst q; rw [set_self ln, g2]
    · rw [set_get q]
  rw [this] at p
  exact p
theorem SimS.op {h : Hd} {w : D} (hj : pe[j]? = some (some w)) {Q : Hd → D → D → Prop} {o p : Option D} (rl : Rel st mu F env h pe) (k : ∀ r, p = some r → ∃ d, o = some d ∧ Q h d r) : SimS st mu F env pe j h Q (R.lift h o) ((qOp p).bind fun z => .ok (z, w)) := .of hj rl (.op k)
theorem set_at {x w : D} (hj : pe[j]? = some (some w)) : (pe.set j (some x))[j]? = some (some x) := set_self (List.getElem?_eq_some_iff.mp hj).1
theorem tas_cons {p : Rt (D × D)} {q : D → Rt (List D × D)} {w : D} (x : TEs st mu j pe a p) (y : ∀ b, TAs st mu j (pe.set j (some b)) as (q b)) (hj : pe[j]? = some (some w) := by rfl) : TAs st mu j pe (aCons a as) (qsCons p q) := fun F env h r =>
  (x F env h r).bind hj fun d h1 v r1 l1 k1 dn => (y v.2 F env h1 r1).bind (set_at hj) fun ds h2 vs r2 l2 k2 dl => by
    rw [set_set] at r2
    rw [set_set]
    exact .fin hj r2 (.cons (dn.late hj k2) (dl.un hj))
theorem tes_bin {op : D → D → Hd → Option D} {p : Rt (D × D)} {q : D → Rt (D × D)} {w : D} (oc : OC2 op) (x : TEs st mu j pe a p) (y : ∀ c, TEs st mu j (pe.set j (some c)) b (q c)) (hj : pe[j]? = some (some w) := by rfl) : TEs st mu j pe (eBin op a b) (qsBin op p q) := fun F env h r =>
  (x F env h r).bind hj fun d h1 v r1 l1 k1 dn => (y v.2 F env h1 r1).bind (set_at hj) fun ds h2 vs r2 l2 k2 dl => by
    rw [set_set] at r2
    rw [set_set]
    exact .op (set_at hj) r2 fun r e => oc (dn.late hj k2).toS (dl.un hj).toS e
theorem tes_n {op : List D → Hd → Option D} {p : Rt (List D × D)} {w : D} (oc : OCN op) (x : TAs st mu j pe as p) (hj : pe[j]? = some (some w) := by rfl) : TEs st mu j pe (eN op as) (qsN op p) := fun F env h r =>
  (x F env h r).bind hj fun d h1 v r1 l1 k1 dn => .op (set_at hj) r1 fun r e => oc dn.toS e
theorem tts_val {p : Rt (D × D)} {w : D} (x : TEs st mu j pe a p) (hj : pe[j]? = some (some w) := by rfl) : TTs st mu j pe (tVal a) (qsVal p) := fun F env h r =>
  (x F env h r).bind hj fun d h1 v r1 l1 k1 dn => .of (set_at hj) r1 (asB_sim (dn.sub fun n => (mx_set hj n).mp).toS)
theorem tts_not {p : Rt (Bool × D)} {w : D} (x : TTs st mu j pe t p) (hj : pe[j]? = some (some w) := by rfl) : TTs st mu j pe (tNot t) (qsNot p) := fun F env h r =>
  (x F env h r).bind hj fun d h1 v r1 l1 k1 e => by
    subst e
    exact .fin hj r1 rfl
structure BEnd (M : Nat → Prop) (n : Nat) (h h' : Hd) (d : D) (v : D × D) : Prop where
  kp : ∀ m c, h[m]? = some c → m ≠ n → h'[m]? = some c
  len : h.length ≤ h'.length
  dn : Den h' (fun m => M m ∨ m = n) d v.1
  bx : ∃ c, h'[n]? = some c ∧ DenC h' (fun m => M m ∨ m = n) c v.2
structure DfB (mf : MF) (pf : D → List D → Rt (D × D)) : Prop where
  cell : ∀ (h : Hd) (M : Nat → Prop) (n : Nat) (c : Cell) (b : D) (ds vs : List D), Lt M h → ¬ M n → h[n]? = some c → DenC h (fun m => M m ∨ m = n) c b → DenL h (fun m => M m ∨ m = n) ds vs →
    match pf b vs with
    | .ok v => ∃ d h', mf (.ref n :: ds) h = .ok d h' ∧ BEnd M n h h' d v
    | .ex e => ∃ e' h', mf (.ref n :: ds) h = .exc e' h' ∧ (∀ m c, h[m]? = some c → m ≠ n → h'[m]? = some c) ∧ h.length ≤ h'.length ∧ Den h' (fun m => M m ∨ m = n) e' e
    | .no => True
  new : ∀ (h : Hd) (M : Nat → Prop) (d b : D) (ds vs : List D), Lt M h → Lit h M d b → DenL h M ds vs →
    match pf b vs with
    | .ok v => ∃ d' h', mf (d :: ds) h = .ok d' h' ∧ Keep h h' ∧ Den h' M d' v.1
    | .ex e => ∃ e' h', mf (d :: ds) h = .exc e' h' ∧ Keep h h' ∧ Den h' M e' e
    | .no => True
theorem tes_callB {mf : MF} {pf : D → List D → Rt (D × D)} {p : Rt (List D × D)} {w : D} (hf : DfB mf pf) (x : TAs st mu j pe as p) (hj : pe[j]? = some (some w) := by rfl) (hm : j ∈ mu := by decide) : TEs st mu j pe (eCall mf (aCons (eVar j) as)) (qsCallB pf p) := fun F env h r => by
  obtain ⟨n, c, e1, e2, dc, nb⟩ := r.cell j w hm hj
  have form : eCall mf (aCons (eVar j) as) env h = (as env h).bind fun xs h2 => mf (.ref n :: xs) h2 := by
    simp only [eCall, aCons, eVar, e1, R.bind_ok]
    cases as env h <;> rfl
  rw [form]
  refine (x F env h r).bind hj fun ds h1 v r1 l1 k1 dl => ?_
  have hj1 := set_at (x := v.2) hj
  obtain ⟨n', c1, f1, f2, dc1, nb1⟩ := r1.cell j v.2 hm hj1
  rw [e1] at f1
  cases f1
  have on : Own mu env (pe.set j (some v.2)) n := ⟨j, hm, ⟨_, hj1⟩, e1⟩
  have sp : ∀ m, (Mx F mu env (pe.set j (some v.2)) m ∧ m ≠ n) ∨ m = n → Mx F mu env (pe.set j (some v.2)) m := fun m z => z.elim (·.1) fun e => e ▸ .inr on
  have sp' : ∀ m, Mx F mu env (pe.set j (some v.2)) m → (Mx F mu env (pe.set j (some v.2)) m ∧ m ≠ n) ∨ m = n := fun m z => by
    by_cases e : m = n
    · exact .inr e
    · exact .inl ⟨z, e⟩
  have call := hf.cell h1 (fun m => Mx F mu env (pe.set j (some v.2)) m ∧ m ≠ n) n c1 v.2 ds v.1 (fun m z => r1.lt m z.1) (fun z => z.2 rfl) f2 (dc1.sub sp) ((dl.sub fun m => (mx_set hj m).mp).sub sp)
  cases ep : pf v.2 v.1 with
  | no => trivial
  | ex e =>
    rw [ep] at call
    obtain ⟨e', h2, g1, kp, ln, dn⟩ := call
    refine ⟨e', h2, g1, ⟨Nat.le_trans r1.h0 ln, fun m d e b => ?_⟩, (dn.sub sp').sub r1.mr⟩
    refine kp m d (r1.fr m d e b) fun z => ?_
    subst z
    rcases (r1.own_lt on).2.1 with q | q
    · exact b q
    · have := lt_get e
      omega
  | ok u =>
    rw [ep] at call
    obtain ⟨d, h2, g1, kp, ln, dn, c2, g2, dc2⟩ := call
    have kx : ∀ m d, h1[m]? = some d → ¬ Mx F mu env (pe.set j (some v.2)) m → h2[m]? = some d := fun m d e z => kp m d e fun q => z (q ▸ .inr on)
    refine ⟨d, h2, g1, ?_, ln, kx, (dn.sub sp').un hj⟩
    exact Rel.put2 r1 hm hj1 e1 f2 kp g2 (dc2.sub sp')
variable {ρ σ : Type} {C : Ctx ρ} {B : MS} {w : D}
theorem SimS.post {h : Hd} {Q : Hd → D → D → Prop} {r : R D} {q : Rt (D × D)} {C : RS → ρ → Prop} {f : D → Hd → RS} {g : D × D → Rt ρ} (s : SimS st mu F env pe j h Q r q)
    (k : ∀ d h' v, Rel st mu F env h' (pe.set j (some v.2)) → Q h' d v.1 → Post F C (f d h') (g v)) : Post F C (RS.of env r f) (q.bind g) := by
  cases q with
  | ok v =>
    obtain ⟨d, h', rfl, rl, _, _, qq⟩ := s
    exact k d h' v rl qq
  | ex e =>
    obtain ⟨e', h', rfl, fk, dn⟩ := s
    exact ⟨e', env, h', rfl, fk, dn⟩
  | no => trivial
theorem SimS.postB {h : Hd} {r : R Bool} {q : Rt (Bool × D)} {C : RS → ρ → Prop} {f : Bool → Hd → RS} {g : Bool × D → Rt ρ} (s : SimS st mu F env pe j h (fun _ d v => d = v) r q)
    (k : ∀ h' v, Rel st mu F env h' (pe.set j (some v.2)) → Post F C (f v.1 h') (g v)) : Post F C (RS.ofB env r f) (q.bind g) := by
  cases q with
  | ok v =>
    obtain ⟨d, h', rfl, rl, _, _, rfl⟩ := s
    exact k h' v rl
  | ex e =>
    obtain ⟨e', h', rfl, fk, dn⟩ := s
    exact ⟨e', env, h', rfl, fk, dn⟩
  | no => trivial
theorem bs_retS {τ : Type} {C : Ctx τ} {inj : D × D → τ} {e : ME} {q : Rt (D × D)} (i : RetIn C kB false inj) (x : TEs st mu 0 pe e q) (hj : pe[0]? = some (some w) := by rfl) (hm : 0 ∈ mu := by decide) : BS st mu pe (sRet e) C (q.bind fun v => .ok (inj v)) := fun F env h r =>
  (x F env h r).post fun d h' v rl dn => i F d h' v ⟨rl.frok, dn.sub r.mr, (fun z => nomatch z), fun n b' e1 e2 => by
    cases e2
    obtain ⟨n', c, f1, f2, dc, _⟩ := rl.cell 0 v.2 hm (set_at hj)
    have := (rl.box n e1).2.1
    rw [this] at f1
    cases f1
    exact ⟨c, f2, dc.sub rl.mr⟩⟩
def qsCond {ρ : Type} (w : Rt (Bool × D)) (a b : D → Rt ρ) : Rt ρ := w.bind fun c => if c.1 = true then a c.2 else b c.2
variable {q : Rt (Bool × D)} {X Y : MS} {mu' : List Nat} {E : σ → PE}
theorem bs_ifS {pA pB : D → Rt ρ} (x : TTs st mu j pe t q) (y : ∀ b, BS st mu (pe.set j (some b)) X C (pA b)) (z : ∀ b, BS st mu (pe.set j (some b)) Y C (pB b)) : BS st mu pe (sIf t X Y) C (qsCond q pA pB) := fun F env h r =>
  (x F env h r).postB fun h' v rl => by
    split
    · exact y v.2 F env h' rl
    · exact z v.2 F env h' rl
theorem Rel.local {h h' : Hd} {b : D} {env2 : En} {pe2 : PE} (r : Rel st mu F env h pe) (we : ∀ i, i ∈ mu → env2[i]? = env[i]? ∧ pe2[i]? = pe[i]?) (wl : pe2.length = pe.length) (hm : j ∈ mu) (hj : pe[j]? = some (some w)) (r2 : Rel st mu F env2 h' (pe2.set j (some b))) (kx : ∀ n c, h[n]? = some c → ¬ Mx F mu env pe n → h'[n]? = some c) :
    Rel st mu F env h' (pe.set j (some b)) ∧ ∀ n, Mx F mu env2 (pe2.set j (some b)) n ↔ Mx F mu env (pe.set j (some b)) n := by
  have pg : ∀ i, i ∈ mu → (pe2.set j (some b))[i]? = (pe.set j (some b))[i]? := fun i hi => by
    by_cases ne : j = i
    · subst ne
      have hl := (List.getElem?_eq_some_iff.mp hj).1
      rw [set_self hl, set_self (by rw [wl]; exact hl)]
    · rw [set_get ne, set_get ne]
      exact (we i hi).2
  have ow : ∀ n, Own mu env2 (pe2.set j (some b)) n ↔ Own mu env (pe.set j (some b)) n := fun n =>
    ⟨fun ⟨i, hi, ⟨v, ev⟩, e⟩ => ⟨i, hi, ⟨v, by rw [← pg i hi]; exact ev⟩, by rw [← (we i hi).1]; exact e⟩, fun ⟨i, hi, ⟨v, ev⟩, e⟩ => ⟨i, hi, ⟨v, by rw [pg i hi]; exact ev⟩, by rw [(we i hi).1]; exact e⟩⟩
  have mx : ∀ n, Mx F mu env (pe.set j (some b)) n → Mx F mu env2 (pe2.set j (some b)) n := fun n z => z.imp id (ow n).mpr
  refine ⟨⟨by simp [r.len], r2.h0, r2.fr, r2.m0, r2.n0, fun i v hi ev => ?_, fun i k n v u hi hk ev eu e1 e2 => ?_, fun i v hi ev => ?_, fun n e => ?_⟩, fun n => ⟨fun z => z.imp id (ow n).mp, mx n⟩⟩
  · obtain ⟨n, c, e1, e2, d, q⟩ := r2.cell i v hi (by rw [pg i hi]; exact ev)
    exact ⟨n, c, by rw [← (we i hi).1]; exact e1, e2, d.sub mx, q⟩
  · exact r2.inj i k n v u hi hk (by rw [pg i hi]; exact ev) (by rw [pg k hk]; exact eu) (by rw [(we i hi).1]; exact e1) (by rw [(we k hk).1]; exact e2)
  · have ne : j ≠ i := fun z => hi (z ▸ hm)
    rw [set_get ne] at ev
    obtain ⟨d, e1, dn⟩ := r.val i v hi ev
    exact ⟨d, e1, dn.to fun n c e z => ⟨kx n c e z, fun y => z ((mx_set hj n).mp y)⟩⟩
  · obtain ⟨a, b1, c, u, q⟩ := r2.box n e
    exact ⟨a, by rw [← (we 0 c).1]; exact b1, c, u, by rw [← pg 0 c]; exact q⟩
theorem wipe_at {vs : List Nat} (hv : ∀ v ∈ vs, v ∉ mu) (env : En) (pe : PE) : (∀ i, i ∈ mu → (wipeE env vs)[i]? = env[i]? ∧ (wipeP pe vs)[i]? = pe[i]?) ∧ (wipeP pe vs).length = pe.length := by
  induction vs with
  | nil => exact ⟨fun _ _ => ⟨rfl, rfl⟩, rfl⟩
  | cons v us ih =>
    obtain ⟨i1, i2⟩ := ih fun x hx => hv x (List.mem_cons_of_mem _ hx)
    refine ⟨fun i hi => ?_, by simp [wipeP, i2]⟩
    have ne : v ≠ i := fun z => hv v List.mem_cons_self (z ▸ hi)
    simp only [wipeE, wipeP]
    rw [set_get ne, set_get ne]
    exact i1 i hi
theorem setAll_at : ∀ {ps us : List (Nat × D)} (env : En) (pe : PE), ps.map (·.1) = us.map (·.1) → (∀ u ∈ us, u.1 ∉ mu) → (∀ i, i ∈ mu → (Tw.setAll env ps)[i]? = env[i]? ∧ (setP pe us)[i]? = pe[i]?) ∧ (setP pe us).length = pe.length
  | [], [], _, _, _, _ => ⟨fun _ _ => ⟨rfl, rfl⟩, rfl⟩
  | (a, d) :: ps, (b, v) :: us, env, pe, e, hu => by
    simp only [List.map_cons, List.cons.injEq] at e
    obtain ⟨rfl, e⟩ := e
    obtain ⟨i1, i2⟩ := setAll_at (ps := ps) (us := us) (env.set a (some d)) (pe.set a (some v)) e fun u hu' => hu u (List.mem_cons_of_mem _ hu')
    refine ⟨fun i hi => ?_, by rw [show setP pe ((a, v) :: us) = setP (pe.set a (some v)) us from rfl, i2, List.length_set]⟩
    have ne : a ≠ i := fun z => hu (a, v) List.mem_cons_self (z ▸ hi)
    have := i1 i hi
    rw [set_get ne, set_get ne] at this
    exact this
  | [], _ :: _, _, _, e, _ => nomatch e
  | _ :: _, [], _, _, e, _ => nomatch e
theorem setP_comm : ∀ {us : List (Nat × D)} (pe : PE) (x : Option D), (∀ u ∈ us, u.1 ≠ j) → (setP pe us).set j x = setP (pe.set j x) us
  | [], _, _, _ => rfl
  | (a, v) :: us, pe, x, hu => by
    show (setP (pe.set a (some v)) us).set j x = setP ((pe.set j x).set a (some v)) us
    rw [setP_comm _ x fun u hu' => hu u (List.mem_cons_of_mem _ hu'), List.set_comm _ _ (hu (a, v) List.mem_cons_self)]
def compSL (t : D → D → Rt (Bool × D)) (e : D → D → Rt (D × D)) : List D → D → Rt (List D × D)
  | [], b => .ok ([], b)
  | x :: xs, b => (t x b).bind fun c => if c.1 = true then (e x c.2).bind fun d => (compSL t e xs d.2).bind fun ds => .ok (d.1 :: ds.1, ds.2) else compSL t e xs c.2
def qsComp (its : Rt (List D)) (t : D → D → Rt (Bool × D)) (e : D → D → Rt (D × D)) (b : D) : Rt (D × D) := its.bind fun xs => (tame (compSL t e xs b)).bind fun ds => if ds.1.length ≤ sizeLine then .ok (.lst ds.1, ds.2) else .no
theorem compS_sim {g : MG} {un : D → Rt α} {up : α → List (Nat × D)} {tt : MT} {te : ME} {tq : α → D → Rt (Bool × D)} {eq : α → D → Rt (D × D)} (hg : TG g un up) (hu : ∀ a, ∀ u ∈ up a, u.1 ∉ mu ∧ u.1 < pe.length) (hm : j ∈ mu) (hj : pe[j]? = some (some w))
    (ht : ∀ a b, TTs st mu j (setP (pe.set j (some b)) (up a)) tt (tq a b)) (he : ∀ a b, TEs st mu j (setP (pe.set j (some b)) (up a)) te (eq a b)) {F : Fr} {env : En} {src : Src} : ∀ {items vs : List D} {h : Hd} {b : D}, Rel st mu F env h (pe.set j (some b)) → DenL h (Mx F mu env pe) items vs → (∀ q ∈ src, h[q.1]? = some q.2 ∧ ¬ Mx F mu env pe q.1) →
      SimS st mu F env (pe.set j (some b)) j h (fun h' ds ws => DenL h' (Mx F mu env pe) ds ws) (compGo env g tt te src items h) (tame (compSL (fun v b => (un v).bind fun a => tq a b) (fun v b => (un v).bind fun a => eq a b) vs b))
  | _, _, h, b, r, .nil, hs => by
    unfold compGo
    rw [if_pos (srcOk_of fun q hq => (hs q hq).1)]
    exact .fin hj r .nil
  | _, _, h, b, r, .cons (x := x) (y := y) (xs := xs) (ys := ys) d l, hs => by
    unfold compGo
    rw [if_pos (srcOk_of fun q hq => (hs q hq).1)]
    have hjb := set_at (x := b) hj
    have jl : ∀ a, ∀ u ∈ up a, u.1 ≠ j := fun a u z e => (hu a u z).1 (e ▸ hm)
    have gx := hg h _ x y d
    simp only [compSL]
    cases eu : un y with
    | no => exact trivial
    | ex _ => exact trivial
    | ok a =>
      rw [eu] at gx
      obtain ⟨ps, e1, e2, e3⟩ := gx
      rw [e1]
      simp only [bind_ok]
      obtain ⟨r2, m2⟩ := r.setAll e2 (e3.sub fun n => (mx_set hj n).mp) (fun u hu' => ⟨(hu a u hu').1, by rw [List.length_set]; exact (hu a u hu').2⟩)
      have la := fun pe => setAll_at (mu := mu) env pe e2 fun u hu' => (hu a u hu').1
      have M1 : ∀ n, Mx F mu (Tw.setAll env ps) (setP (pe.set j (some b)) (up a)) n ↔ Mx F mu env pe n := fun n => (m2 n).trans (mx_set hj n)
      have t1 := ht a b F (Tw.setAll env ps) h r2
      cases et : tq a b with
      | no => exact trivial
      | ex _ => exact trivial
      | ok c =>
        rw [et] at t1
        obtain ⟨b', h1, f1, r3, ln1, kx1, q1⟩ := t1
        rw [f1]
        simp only [bind_ok]
        have kx1' : ∀ n c, h[n]? = some c → ¬ Mx F mu env pe n → h1[n]? = some c := fun n c e z => kx1 n c e fun q => z ((M1 n).mp q)
        rw [setP_comm _ _ (jl a), set_set] at r3
        have r3' : Rel st mu F (Tw.setAll env ps) h1 ((setP pe (up a)).set j (some c.2)) := by rw [setP_comm _ _ (jl a)]; exact r3
        have kb : ∀ n c, h[n]? = some c → ¬ Mx F mu env (pe.set j (some b)) n → h1[n]? = some c := fun n c e z => kx1' n c e fun q => z ((mx_set hj n).mpr q)
        have back1 := Rel.local (b := c.2) (w := b) (pe := pe.set j (some b)) (pe2 := setP (pe.set j (some b)) (up a)) r (la _).1 (la _).2 hm hjb (by rw [setP_comm _ _ (jl a), set_set]; exact r3) kb
        rw [set_set] at back1
        cases b' with
        | false =>
          rw [← q1]
          simp only [Bool.false_eq_true, if_false]
          have ih := compS_sim hg hu hm hj ht he back1.1 (l.to fun n c e z => ⟨kx1' n c e z, z⟩) (fun q hq => ⟨kx1' _ _ (hs q hq).1 (hs q hq).2, (hs q hq).2⟩)
          cases ec : compSL (fun v b => (un v).bind fun a => tq a b) (fun v b => (un v).bind fun a => eq a b) ys c.2 with
          | ok ws =>
            rw [ec] at ih
            obtain ⟨ds, h2, f2, r4, ln2, kx2, l2⟩ := ih
            rw [set_set] at r4
            exact ⟨ds, h2, f2, by rw [set_set]; exact r4, Nat.le_trans ln1 ln2, fun n d e z => kx2 n d (kb n d e z) fun q => z ((mx_set hj n).mpr ((mx_set hj n).mp q)), l2⟩
          | ex _ => exact trivial
          | no => exact trivial
        | true =>
          rw [← q1]
          simp only [if_true]
          have t2 := he a c.2 F (Tw.setAll env ps) h1 r3
          have M2 : ∀ n, Mx F mu (Tw.setAll env ps) (setP (pe.set j (some c.2)) (up a)) n ↔ Mx F mu env pe n := fun n => by
            have := back1.2 n
            rw [setP_comm _ _ (jl a), set_set] at this
            exact this.trans (mx_set hj n)
          cases ee : eq a c.2 with
          | no => exact trivial
          | ex _ => exact trivial
          | ok v =>
            rw [ee] at t2
            obtain ⟨d1, h2, f2, r5, ln2, kx2, dn⟩ := t2
            rw [f2]
            simp only [bind_ok]
            rw [setP_comm _ _ (jl a), set_set] at r5
            have kx2' : ∀ n c, h1[n]? = some c → ¬ Mx F mu env pe n → h2[n]? = some c := fun n d e z => kx2 n d e fun q => z ((M2 n).mp q)
            have hjc := set_at (x := c.2) hj
            have back2 := Rel.local (b := v.2) (w := c.2) (pe := pe.set j (some c.2)) (pe2 := setP (pe.set j (some c.2)) (up a)) back1.1 (la _).1 (la _).2 hm hjc (by rw [setP_comm _ _ (jl a), set_set]; exact r5) (fun n d e z => kx2' n d e fun q => z ((mx_set hj n).mpr q))
            rw [set_set] at back2
            have ih := compS_sim hg hu hm hj ht he back2.1 (l.to fun n d e z => ⟨kx2' _ _ (kx1' n d e z) z, z⟩) (fun q hq => ⟨kx2' _ _ (kx1' _ _ (hs q hq).1 (hs q hq).2) (hs q hq).2, (hs q hq).2⟩)
            cases ec : compSL (fun v b => (un v).bind fun a => tq a b) (fun v b => (un v).bind fun a => eq a b) ys v.2 with
            | ok ws =>
              rw [ec] at ih
              obtain ⟨ds, h3, f3, r6, ln3, kx3, l3⟩ := ih
              rw [set_set] at r6
              rw [f3]
              have kx3' : ∀ n c, h2[n]? = some c → ¬ Mx F mu env pe n → h3[n]? = some c := fun n d e z => kx3 n d e fun q => z ((mx_set hj n).mp q)
              exact ⟨d1 :: ds, h3, rfl, by rw [set_set]; exact r6, Nat.le_trans (Nat.le_trans ln1 ln2) ln3, fun n d e z => have z' := fun q => z ((mx_set hj n).mpr q); kx3' n d (kx2' n d (kx1' n d e z') z') z', .cons ((dn.sub fun n => (M2 n).mpr).to fun n d e z => ⟨kx3' n d e z, z⟩) l3⟩
            | ex _ => exact trivial
            | no => exact trivial
theorem tes_comp {vs sl : List Nat} {mi : MI} {its : Rt (List D)} {g : MG} {un : D → Rt α} {up : α → List (Nat × D)} {tt : MT} {te : ME} {tq : α → D → Rt (Bool × D)} {eq : α → D → Rt (D × D)} (hi : TI st mu pe true mi its) (hg : TG g un up)
    (ht : ∀ a b, TTs st mu j (setP ((wipeP pe vs).set j (some b)) (up a)) tt (tq a b)) (he : ∀ a b, TEs st mu j (setP ((wipeP pe vs).set j (some b)) (up a)) te (eq a b)) (hj : pe[j]? = some (some w) := by rfl) (hm : j ∈ mu := by decide) (hv : ∀ v ∈ vs, v ∉ mu := by decide) (hs : ∀ a, (up a).map (·.1) = sl := by intro _; rfl) (hu : okSl mu (wipeP pe vs).length sl = true := by rfl) :
    TEs st mu j pe (eComp vs mi g tt te) (qsComp its (fun v b => (un v).bind fun a => tq a b) (fun v b => (un v).bind fun a => eq a b) w) := fun F env h rl => by
  have y := hi F env h rl
  unfold eComp qsComp
  cases its with
  | no => trivial
  | ex _ =>
    obtain ⟨e', h1, e1, k, dn⟩ := y
    rw [e1]
    exact ⟨_, _, rfl, rl.frok.keep k, dn.sub rl.mr⟩
  | ok items =>
    obtain ⟨d, h1, e1, k, l, hs'⟩ := y
    rw [e1]
    obtain ⟨r2, m2⟩ := (rl.keep k).wipe vs hv
    obtain ⟨wa, wl⟩ := wipe_at hv env pe
    have hjw : (wipeP pe vs)[j]? = some (some w) := by rw [(wa j hm).2]; exact hj
    have r2' : Rel st mu F (wipeE env vs) h1 ((wipeP pe vs).set j (some w)) := by rw [set_same hjw]; exact r2
    have c := compS_sim hg (okSl_at hs hu) hm hjw ht he r2' (l.sub fun n => (m2 n).mp) (fun q hq => ⟨(hs' q hq).1, fun z => (hs' q hq).2 rfl ((m2 _).mp z)⟩)
    simp only [bind_ok]
    cases ec : compSL (fun v b => (un v).bind fun a => tq a b) (fun v b => (un v).bind fun a => eq a b) items w with
    | ok ws =>
      rw [ec] at c
      obtain ⟨ds, h2, f2, r3, ln, kx, l2⟩ := c
      rw [set_set] at r3
      rw [f2]
      simp only [tame_ok, bind_ok, R.bind_ok]
      rw [← l2.length]
      have kx' : ∀ n c, h1[n]? = some c → ¬ Mx F mu env pe n → h2[n]? = some c := fun n c e z => kx n c e fun q => z ((m2 n).mp ((mx_set hjw n).mp q))
      split
      · refine ⟨_, _, rfl, ?_, Nat.le_trans k.len ln, fun n c e z => kx' n c (k n c e) z, .lst (l2.sub fun n => (m2 n).mpr)⟩
        exact (Rel.local (rl.keep k) wa wl hm hj r3 kx').1
      · trivial
    | ex _ => exact trivial
    | no => exact trivial
end
end Pq

namespace Pq
open PySem Tw
open L2 (atI ixN)

section
variable {np nl : Nat} {b : MS}
theorem args_get {ds : List D} {k i : Nat} {d : D} (e : (ds.map some ++ List.replicate k none)[i]? = some (some d)) : ds[i]? = some d := by
  by_cases hl : i < ds.length
  · rw [List.getElem?_append_left (by simpa using hl), List.getElem?_map] at e
    cases q : ds[i]? with
    | none => rw [q] at e; cases e
    | some x => rw [q] at e; simpa using e
  · rw [List.getElem?_append_right (by simp; omega), List.getElem?_replicate] at e
    split at e <;> cases e
theorem args_at {ds : List D} {k i : Nat} {d : D} (e : ds[i]? = some d) : (ds.map some ++ List.replicate k none)[i]? = some (some d) := by
  have hl := (List.getElem?_eq_some_iff.mp e).1
  rw [List.getElem?_append_left (by simpa using hl), List.getElem?_map, e]
  rfl
theorem boxL_len : ∀ (ds : List D) (h : Hd), (boxL ds h).1.length = ds.length
  | [], _ => rfl
  | d :: ds, h => by simp [boxL, boxL_len ds]
theorem dfP {fr : Bool} {pf : List D → Rt D} (hb : ∀ vs : List D, vs.length = np → BS false [] (vs.map some ++ List.replicate (nl - np) none) b (CRet kP fr) (pf vs)) (hn : ∀ vs : List D, vs.length ≠ np → pf vs = .no) : DfP fr (runDef np nl b) pf := by
  intro h M ds vs lt dl
  by_cases hl : vs.length = np
  · have hd : ds.length = np := by rw [dl.length]; exact hl
    obtain ⟨k1, d1⟩ := boxL_den lt dl
    have rl : Rel false [] ⟨(boxL ds h).2, M, fun _ => False, none, h.length⟩ ((boxL ds h).1.map some ++ List.replicate (nl - np) none) (boxL ds h).2 (vs.map some ++ List.replicate (nl - np) none) := by
      refine ⟨by simp [boxL_len, hd, hl], Nat.le_refl _, fun _ _ e _ => e, fun n m => ⟨Nat.lt_of_lt_of_le (lt n m) k1.len, id⟩, k1.len, fun i v hi => (by simp at hi), fun i _ _ _ _ hi => (by simp at hi), fun i v _ ev => ?_, fun n e => nomatch e⟩
      obtain ⟨d, e1, dn⟩ := d1.get (args_get ev)
      exact ⟨d, args_at e1, dn.to fun n c e z => ⟨e, fun m => m.elim z fun ⟨i, hi, _⟩ => by simp at hi⟩⟩
    have post := hb vs hl _ _ _ rl
    have rd : runDef np nl b ds h = (match b ((boxL ds h).1.map some ++ List.replicate (nl - np) none) (boxL ds h).2 with
      | .nx _ h' => gc h.length .non h'
      | .rt d h' => gc h.length d h'
      | .exc e _ h' => .exc e h'
      | _ => .stuck) := by
      unfold runDef
      rw [if_pos hd]
      try rfl
    rw [rd]
    have keep : ∀ {h2 : Hd}, FrOk ⟨(boxL ds h).2, M, fun _ => False, none, h.length⟩ h2 → Keep h h2 := fun f n c e => f.2 n c (k1 n c e) id
    have fin : ∀ {d v : D} {h2 : Hd}, RetOk kP fr ⟨(boxL ds h).2, M, fun _ => False, none, h.length⟩ h2 d v → Sim M h (fun h' d v => Den h' M d v ∧ (fr = true → Frs h.length h' M d v)) (gc h.length d h2) (.ok v) := fun {d v h2} ok => by
      have kp := keep ok.ok
      have mr : ∀ n, M n → MR ⟨(boxL ds h).2, M, fun _ => False, none, h.length⟩ n := fun n m => .inl m
      have dn : Den h2 M d v := ok.dn.sub mr
      obtain ⟨d', h3, e1, e2, e3, e4, _, _, e7⟩ := gc_den kp.len dn
      refine ⟨d', h3, e1, fun n c e => ?_, e3, fun hf => e7 ?_⟩
      · rw [e2 n (lt_get e)]; exact kp n c e
      · rcases ok.fr hf with ⟨xs, ys, q1, q2, l⟩ | ⟨ks, us, ws, zs, q1, q2, l, m⟩ | ⟨n, c, q1, q2, q3, q4⟩
        · exact .inl ⟨xs, ys, q1, q2, l.sub mr⟩
        · exact .inr (.inl ⟨ks, us, ws, zs, q1, q2, l.sub mr, m.sub mr⟩)
        · exact .inr (.inr ⟨n, c, q1, q2, q3, q4.sub fun n z => z.imp (mr n) id⟩)
    cases ep : pf vs with
    | no => trivial
    | ex e =>
      rw [ep] at post
      obtain ⟨e', env', h', e1, fk, dn⟩ := post
      rw [e1]
      exact ⟨e', h', rfl, keep fk, dn.sub fun n m => .inl m⟩
    | ok v =>
      rw [ep] at post
      rcases post with ⟨d, h2, e1, ok⟩ | ⟨hf, env', h2, e1, ok⟩
      · rw [e1]; exact fin ok
      · rw [e1]
        subst hf
        exact fin ok
  · rw [hn vs hl]; trivial
theorem dfB {pf : D → List D → Rt (D × D)} (hb : ∀ (x : D) (vs : List D), vs.length + 1 = np → BS true [0] ((x :: vs).map some ++ List.replicate (nl - np) none) b (CRet kB false) (pf x vs)) (hn : ∀ (x : D) (vs : List D), vs.length + 1 ≠ np → pf x vs = .no) : DfB (runDef np nl b) pf := by
  have key : ∀ (h h1 : Hd) (M : Nat → Prop) (n : Nat) (c : Cell) (x : D) (ds ds' vs : List D), h.length ≤ h1.length → Lt M h1 → ¬ M n → h1[n]? = some c → DenC h1 (fun m => M m ∨ m = n) c x → DenL h1 (fun m => M m ∨ m = n) ds' vs → vs.length + 1 = np → 
      (match pf x vs with
      | .ok v => ∃ d h2, (b ((D.ref n :: ds').map some ++ List.replicate (nl - np) none) h1 = .rt d h2 ∨ (d = .non ∧ ∃ env', b ((D.ref n :: ds').map some ++ List.replicate (nl - np) none) h1 = .nx env' h2)) ∧ (∀ m c, h1[m]? = some c → m ≠ n → h2[m]? = some c) ∧ h1.length ≤ h2.length ∧ Den h2 (fun m => M m ∨ m = n) d v.1 ∧ ∃ c, h2[n]? = some c ∧ DenC h2 (fun m => M m ∨ m = n) c v.2
      | .ex e => ∃ e' env' h2, b ((D.ref n :: ds').map some ++ List.replicate (nl - np) none) h1 = .exc e' env' h2 ∧ (∀ m c, h1[m]? = some c → m ≠ n → h2[m]? = some c) ∧ h1.length ≤ h2.length ∧ Den h2 (fun m => M m ∨ m = n) e' e
      | .no => True) := by
    intro h h1 M n c x ds ds' vs hlen lt nm hn1 dc dl hl
    have own : ∀ m, Own [0] ((D.ref n :: ds').map some ++ List.replicate (nl - np) none) ((x :: vs).map some ++ List.replicate (nl - np) none) m ↔ m = n := fun m => by
      constructor
      · rintro ⟨i, hi, _, e⟩
        simp at hi
        subst hi
        simp at e
        exact e.symm
      · rintro rfl
        exact ⟨0, by simp, ⟨x, by simp⟩, by simp⟩
    have mx : ∀ m, Mx ⟨h1, M, fun m => m = n, some n, h.length⟩ [0] ((D.ref n :: ds').map some ++ List.replicate (nl - np) none) ((x :: vs).map some ++ List.replicate (nl - np) none) m ↔ (M m ∨ m = n) := fun m => or_congr .rfl (own m)
    have mr : ∀ m, MR ⟨h1, M, fun m => m = n, some n, h.length⟩ m ↔ (M m ∨ m = n) := fun m => or_congr .rfl ⟨fun e => (Option.some.inj e).symm, fun e => by rw [e]⟩
    have rl : Rel true [0] ⟨h1, M, fun m => m = n, some n, h.length⟩ ((D.ref n :: ds').map some ++ List.replicate (nl - np) none) h1 ((x :: vs).map some ++ List.replicate (nl - np) none) := by
      refine ⟨by simp [dl.length], Nat.le_refl _, fun _ _ e _ => e, fun m q => ⟨lt m q, fun z => nm (z ▸ q)⟩, hlen, fun i v hi ev => ?_, fun i k m v w hi hk _ _ _ _ => ?_, fun i v hi ev => ?_, fun m e => ?_⟩
      · simp at hi
        subst hi
        simp at ev
        subst ev
        exact ⟨n, c, by simp, hn1, dc.sub fun m => (mx m).mp, .inl rfl, .inl rfl⟩
      · simp at hi hk
        rw [hi, hk]
      · have e1 := args_get ev
        cases i with
        | zero => simp at hi
        | succ i =>
          simp only [List.getElem?_cons_succ] at e1
          obtain ⟨d, e2, dn⟩ := dl.get e1
          exact ⟨d, args_at (by simpa using e2), dn.sub fun m => (mx m).mp⟩
      · cases e
        exact ⟨rfl, by simp, by simp, x, by simp⟩
    have post := hb x vs hl _ _ _ rl
    cases ep : pf x vs with
    | no => trivial
    | ex e =>
      rw [ep] at post
      obtain ⟨e', env', h', e1, fk, dn⟩ := post
      exact ⟨e', env', h', e1, fun m c e z => fk.2 m c e z, fk.1, dn.sub fun m => (mr m).mpr⟩
    | ok v =>
      rw [ep] at post
      have fin : ∀ {d : D} {h2 : Hd} {v' : D × D}, v' = v → Pq.RetOk kB false ⟨h1, M, fun m => m = n, some n, h.length⟩ h2 d v' → (∀ m c, h1[m]? = some c → m ≠ n → h2[m]? = some c) ∧ h1.length ≤ h2.length ∧ Den h2 (fun m => M m ∨ m = n) d v.1 ∧ ∃ c, h2[n]? = some c ∧ DenC h2 (fun m => M m ∨ m = n) c v.2 := fun {d h2 v'} e ok => by
        subst e
        obtain ⟨c2, g1, g2⟩ := ok.bx n v'.2 rfl rfl
        exact ⟨fun m c e z => ok.ok.2 m c e z, ok.ok.1, ok.dn.sub fun m => (mr m).mpr, c2, g1, g2.sub fun m => (mr m).mpr⟩
      rcases post with ⟨d, h2, e1, ok⟩ | ⟨_, env', h2, e1, ok⟩
      · exact ⟨d, h2, .inl e1, fin rfl ok⟩
      · exact ⟨.non, h2, .inr ⟨rfl, env', e1⟩, fin rfl ok⟩
  have rd : ∀ (d : D) (ds : List D) (h : Hd), ds.length + 1 = np → runDef np nl b (d :: ds) h = (match b ((boxL (d :: ds) h).1.map some ++ List.replicate (nl - np) none) (boxL (d :: ds) h).2 with
      | .nx _ h' => gc h.length .non h'
      | .rt d h' => gc h.length d h'
      | .exc e _ h' => .exc e h'
      | _ => .stuck) := fun d ds h hl => by
    unfold runDef
    rw [if_pos (by simpa using hl)]
    try rfl
  refine ⟨fun h M n c x ds vs lt nm hn1 dc dl => ?_, fun h M d x ds vs lt lit dl => ?_⟩
  · by_cases hl : vs.length + 1 = np
    · have hd : ds.length + 1 = np := by rw [dl.length]; exact hl
      have nl1 := lt_get hn1
      have lt' : Lt (fun m => M m ∨ m = n) h := fun m z => z.elim (lt m) fun e => e ▸ nl1
      obtain ⟨k1, d1⟩ := boxL_den lt' dl
      have kk := key h (boxL ds h).2 M n c x ds (boxL ds h).1 vs k1.len (lt.keep (k := k1)) nm (k1 n c hn1) (dc.keep k1) d1 hl
      rw [rd _ _ _ hd]
      have bx : boxL (D.ref n :: ds) h = (D.ref n :: (boxL ds h).1, (boxL ds h).2) := rfl
      rw [bx]
      cases ep : pf x vs with
      | no => trivial
      | ex e =>
        rw [ep] at kk
        obtain ⟨e', env', h2, e1, kp, ln, dn⟩ := kk
        simp only
        rw [e1]
        exact ⟨e', h2, rfl, fun m c e z => kp m c (k1 m c e) z, Nat.le_trans k1.len ln, dn⟩
      | ok v =>
        rw [ep] at kk
        obtain ⟨d, h2, e1, kp, ln, dn, c2, g1, g2⟩ := kk
        obtain ⟨d', h3, f1, f2, f3, f4, f5, f6, _⟩ := gc_den (n0 := h.length) (Nat.le_trans k1.len ln) dn
        have e1' : (match b ((D.ref n :: (boxL ds h).1).map some ++ List.replicate (nl - np) none) (boxL ds h).2 with
          | .nx _ h' => gc h.length .non h'
          | .rt d h' => gc h.length d h'
          | .exc e _ h' => .exc e h'
          | _ => .stuck) = .ok d' h3 := by
          rcases e1 with e1 | ⟨rfl, env', e1⟩
          · rw [e1]; exact f1
          · rw [e1]; exact f1
        refine ⟨d', h3, e1', ⟨fun m c e z => by rw [f2 m (lt_get e)]; exact kp m c (k1 m c e) z, f4, f3, c2, by rw [f2 n nl1]; exact g1, ?_⟩⟩
        rcases f6 with f6 | f6
        · refine f5 c2 v.2 (List.all_eq_true.mp f6 c2 (List.mem_of_getElem? (i := n) ?_)) g2
          rw [List.getElem?_take, if_pos nl1]; exact g1
        · rw [f6]; exact g2
    · rw [hn x vs hl]; trivial
  · by_cases hl : vs.length + 1 = np
    · have hd : ds.length + 1 = np := by rw [dl.length]; exact hl
      rw [rd _ _ _ hd]
      -- the new list's cell
      have cellOf : ∃ (h0 : Hd) (c : Cell), Keep h h0 ∧ Tw.box d h = (.ref h0.length, h0 ++ [c]) ∧ DenC h0 M c x := by
        rcases lit with ⟨xs, ys, rfl, rfl, l⟩ | ⟨ks, us, ws, zs, rfl, rfl, l, m⟩
        · obtain ⟨kb, lb⟩ := boxL_den lt l
          exact ⟨(boxL xs h).2, .lst (boxL xs h).1, kb, by simp only [Tw.box], lb⟩
        · obtain ⟨kb, lb⟩ := boxL_den lt m
          exact ⟨(boxL us h).2, .dct ks (boxL us h).1, kb, by simp only [Tw.box], l.keep kb, lb⟩
      obtain ⟨h0, c, k0, eb, dc⟩ := cellOf
      have k01 : Keep h (h0 ++ [c]) := k0.trans (Keep.push _ _)
      have nM : ¬ M h0.length := fun z => by
        have := lt _ z
        have := k0.len
        omega
      have lt' : Lt (fun m => M m ∨ m = h0.length) (h0 ++ [c]) := fun m z => by
        rcases z with z | z
        · exact Nat.lt_of_lt_of_le (lt m z) k01.len
        · simp [z]
      have dl1 : DenL (h0 ++ [c]) (fun m => M m ∨ m = h0.length) ds vs := dl.to fun m c e z => ⟨k01 m c e, fun q => by
        rcases q with q | q
        · exact z q
        · have := lt_get e
          have := k0.len
          omega⟩
      obtain ⟨k1, d1⟩ := boxL_den lt' dl1
      have g0 : (h0 ++ [c])[h0.length]? = some c := by simp
      have dc1 : DenC (h0 ++ [c]) (fun m => M m ∨ m = h0.length) c x := dc.to fun m c e z => ⟨Keep.push h0 _ m c e, fun q => by
        rcases q with q | q
        · exact z q
        · have := lt_get e
          omega⟩
      have hk := k01.trans k1
      have kk := key h (boxL ds (h0 ++ [c])).2 M h0.length c x ds (boxL ds (h0 ++ [c])).1 vs hk.len (lt.keep (k := hk)) nM (k1 _ _ g0) (dc1.keep k1) d1 hl
      have bx : boxL (d :: ds) h = (D.ref h0.length :: (boxL ds (h0 ++ [c])).1, (boxL ds (h0 ++ [c])).2) := by simp only [boxL, eb]
      rw [bx]
      have ne : ∀ m, m < h.length → m ≠ h0.length := fun m z => by
        have := k0.len
        omega
      cases ep : pf x vs with
      | no => trivial
      | ex e =>
        rw [ep] at kk
        obtain ⟨e', env', h2, e1, kp, ln, dn⟩ := kk
        simp only
        rw [e1]
        exact ⟨e', h2, rfl, fun m c e => kp m c (hk m c e) (ne m (lt_get e)), dn.sub fun m => .inl⟩
      | ok v =>
        rw [ep] at kk
        obtain ⟨d, h2, e1, kp, ln, dn, c2, g1, g2⟩ := kk
        obtain ⟨d', h3, f1, f2, f3, f4, f5, f6, _⟩ := gc_den (n0 := h.length) (M := M) (Nat.le_trans hk.len ln) (dn.sub fun m => .inl)
        have e1' : (match b ((D.ref h0.length :: (boxL ds (h0 ++ [c])).1).map some ++ List.replicate (nl - np) none) (boxL ds (h0 ++ [c])).2 with
          | .nx _ h' => gc h.length .non h'
          | .rt d h' => gc h.length d h'
          | .exc e _ h' => .exc e h'
          | _ => .stuck) = .ok d' h3 := by
          rcases e1 with e1 | ⟨rfl, env', e1⟩
          · rw [e1]; exact f1
          · rw [e1]; exact f1
        exact ⟨d', h3, e1', fun m c e => by rw [f2 m (lt_get e)]; exact kp m c (hk m c e) (ne m (lt_get e)), f3⟩
    · rw [hn x vs hl]; trivial
end
section
variable {st : Bool} {mu : List Nat} {pe : PE} {a : ME} {as : MA}
theorem Rel.more {F : Fr} {env : En} {h h1 : Hd} {n : Nat} (r : Rel st mu F env h pe) (k : Keep h h1) (hn : h.length ≤ n) (hl : n < h1.length) : Rel st mu ⟨h1, fun m => F.M0 m ∨ m = n, fun m => Own mu env pe m, F.bx, F.n0⟩ env h1 pe := by
  have cv : ∀ m c, h[m]? = some c → ¬ Mx F mu env pe m → h1[m]? = some c ∧ ¬ Mx ⟨h1, fun m => F.M0 m ∨ m = n, fun m => Own mu env pe m, F.bx, F.n0⟩ mu env pe m := fun m c e z => ⟨k m c e, fun q => by
    rcases q with (q | q) | q
    · exact z (.inl q)
    · have := lt_get e
      omega
    · exact z (.inr q)⟩
  refine ⟨r.len, Nat.le_refl _, fun _ _ e _ => e, fun m q => ?_, Nat.le_trans r.n0 (Nat.le_trans r.h0 k.len), fun i v hi ev => ?_, r.inj, fun i v hi ev => ?_, r.box⟩
  · rcases q with q | rfl
    · exact ⟨Nat.lt_of_lt_of_le (r.m0 m q).1 (Nat.le_trans r.h0 k.len), fun o => (r.own_lt o).2.2.1 q⟩
    · exact ⟨hl, fun o => by
        have := (r.own_lt o).1
        omega⟩
  · obtain ⟨m, c, e1, e2, d, _, b2⟩ := r.cell i v hi ev
    exact ⟨m, c, e1, k m c e2, d.to cv, .inl ⟨i, hi, ⟨v, ev⟩, e1⟩, b2⟩
  · obtain ⟨d, e1, dn⟩ := r.val i v hi ev
    exact ⟨d, e1, dn.to cv⟩
end
end Pq

namespace Pq
theorem szL : PySem.sizeLine = 16777216 := by decide
end Pq
namespace Pq
open PySem Tw
open L2 (atI ixN)

section
variable (h : Hd) (M : Nat → Prop)
inductive FQ : List Bool → List D → List D → Prop
  | nil : FQ [] [] []
  | val {fs : List Bool} {d v : D} {ds vs : List D} : Den h M d v → FQ fs ds vs → FQ (false :: fs) (d :: ds) (v :: vs)
  | new {fs : List Bool} {d v : D} {ds vs : List D} : Lit h M d v → FQ fs ds vs → FQ (true :: fs) (d :: ds) (v :: vs)
end
theorem Lit.to {h h' : Hd} {M M' : Nat → Prop} (k : ∀ n c, h[n]? = some c → ¬ M n → h'[n]? = some c ∧ ¬ M' n) {d v : D} (x : Lit h M d v) : Lit h' M' d v := by
  rcases x with ⟨xs, ys, e1, e2, l⟩ | ⟨ks, us, ws, zs, e1, e2, l, m⟩
  · exact .inl ⟨xs, ys, e1, e2, l.to k⟩
  · exact .inr ⟨ks, us, ws, zs, e1, e2, l.to k, m.to k⟩
theorem FQ.to {h h' : Hd} {M M' : Nat → Prop} (k : ∀ n c, h[n]? = some c → ¬ M n → h'[n]? = some c ∧ ¬ M' n) {fs : List Bool} {ds vs : List D} (x : FQ h M fs ds vs) : FQ h' M' fs ds vs := by
  induction x with
  | nil => exact .nil
  | val d _ ih => exact .val (d.to k) ih
  | new d _ ih => exact .new (d.to k) ih
theorem FQ.length {h : Hd} {M : Nat → Prop} {fs : List Bool} {ds vs : List D} (x : FQ h M fs ds vs) : ds.length = fs.length ∧ vs.length = fs.length := by
  induction x with
  | nil => exact ⟨rfl, rfl⟩
  | val d _ ih => exact ⟨by simp [ih.1], by simp [ih.2]⟩
  | new d _ ih => exact ⟨by simp [ih.1], by simp [ih.2]⟩
def okF (st : Bool) (mu : List Nat) (n : Nat) : List Bool → List Nat → Bool
  | [], [] => true
  | f :: fs, i :: sl => (if f then mu.contains i && !(st && i == 0) else !mu.contains i) && decide (i < n) && !sl.contains i && okF st mu n fs sl
  | _, _ => false
section
variable {st : Bool} {mu : List Nat} {pe : PE} {F : Fr} {env : En}
theorem lit_box {h : Hd} {M : Nat → Prop} {d v : D} (lt : Lt M h) (l : Lit h M d v) : ∃ n, (Tw.box d h).1 = .ref n ∧ h.length ≤ n := by
  rcases l with ⟨xs, ys, rfl, rfl, l⟩ | ⟨ks, us, ws, zs, rfl, rfl, l, m⟩
  · exact ⟨_, rfl, (boxL_den lt l).1.len⟩
  · exact ⟨_, rfl, (boxL_den lt m).1.len⟩
theorem mx_new {i n : Nat} {v : D} {m : Nat} (z : Mx F mu (env.set i (some (.ref n))) (pe.set i (some v)) m) (hl : i < env.length) : Mx F mu env pe m ∨ m = n := by
  rcases z with z | ⟨j, hj, ⟨w, ew⟩, e⟩
  · exact .inl (.inl z)
  · by_cases ne : i = j
    · subst ne
      rw [set_self hl] at e
      cases e
      exact .inr rfl
    · rw [set_get ne] at ew e
      exact .inl (.inr ⟨j, hj, ⟨w, ew⟩, e⟩)
theorem asgF : ∀ {fs : List Bool} {sl : List Nat} {ds vs : List D} {env : En} {pe : PE} {h : Hd}, Rel st mu F env h pe → FQ h (Mx F mu env pe) fs ds vs → okF st mu pe.length fs sl = true →
    Rel st mu F (Tw.setAll env (sl.zip (boxL ds h).1)) (boxL ds h).2 (setP pe (sl.zip vs))
  | [], [], _, _, _, _, _, r, .nil, _ => r
  | f :: fs, i :: sl, _, _, env, pe, h, r, q, ok => by
    simp only [okF, Bool.and_eq_true] at ok
    obtain ⟨⟨⟨ok1, ok2⟩, ok3⟩, ok4⟩ := ok
    have hl : i < pe.length := of_decide_eq_true ok2
    have le : i < env.length := by rw [r.len]; exact hl
    cases q with
    | val dn q =>
      rename_i d v ds vs
      simp at ok1
      obtain ⟨kb, db⟩ := box_den r.lt dn
      have r2 := (r.keep kb).set (i := i) ok1 hl db
      have mx : ∀ n, Mx F mu (env.set i (some (Tw.box d h).1)) (pe.set i (some v)) n → Mx F mu env pe n := fun n z => z.imp id fun ⟨j, hj, ⟨w, ew⟩, e⟩ => by
        have ne : i ≠ j := fun z => ok1 (z ▸ hj)
        rw [set_get ne] at ew e
        exact ⟨j, hj, ⟨w, ew⟩, e⟩
      have := asgF (sl := sl) r2 (q.to fun n c e z => ⟨kb n c e, fun y => z (mx n y)⟩) (by rw [List.length_set]; exact ok4)
      simpa only [boxL, List.zip_cons_cons, Tw.setAll, setP, List.foldl_cons] using this
    | new dn q =>
      rename_i d v ds vs
      simp at ok1
      have kb : Keep h (Tw.box d h).2 := (box_den r.lt (by
        rcases dn with ⟨xs, ys, rfl, rfl, l⟩ | ⟨ks, us, ws, zs, rfl, rfl, l, m⟩
        · exact .lst l
        · exact .dct l m : Den h (Mx F mu env pe) d v)).1
      obtain ⟨n, e1, hn⟩ := lit_box r.lt dn
      have r2 := r.fresh (i := i) (d := d) (v := v) (.refl h) (dn.imp id .inl) ok1.1 (fun z y => by simp [z, y] at ok1) hl
      have := asgF (sl := sl) r2 (q.to fun m c e z => ⟨kb m c e, fun y => by
        rw [e1] at y
        rcases mx_new y le with y | y
        · exact z y
        · have := lt_get e
          omega⟩) (by rw [List.length_set]; exact ok4)
      simpa only [boxL, List.zip_cons_cons, Tw.setAll, setP, List.foldl_cons] using this
  | [], _ :: _, _, _, _, _, _, _, _, ok => by simp [okF] at ok
  | _ :: _, [], _, _, _, _, _, _, _, ok => by simp [okF] at ok
theorem okF_len : ∀ {n : Nat} {fs : List Bool} {sl : List Nat}, okF st mu n fs sl = true → sl.length = fs.length
  | _, [], [], _ => rfl
  | n, f :: fs, i :: sl, ok => by
    simp only [okF, Bool.and_eq_true] at ok
    simp [okF_len ok.2]
  | _, [], _ :: _, ok => by simp [okF] at ok
  | _, _ :: _, [], ok => by simp [okF] at ok
theorem gAll_nm {h : Hd} : ∀ {sl : List Nat} {ds : List D}, sl.length = ds.length → gAll (sl.map gNm) ds h = some (sl.zip ds)
  | [], [], _ => rfl
  | i :: sl, d :: ds, e => by
    simp only [List.map_cons, gAll, gNm, List.zip_cons_cons]
    rw [gAll_nm (by simpa using e)]
    rfl
  | [], _ :: _, e => by simp at e
  | _ :: _, [], e => by simp at e
end
section
variable (st : Bool) (mu : List Nat) (pe : PE)
def TAF (fs : List Bool) (e : MA) (p : Rt (List D)) : Prop := ∀ F env h, Rel st mu F env h pe → Sim (Mx F mu env pe) h (fun h' d v => FQ h' (Mx F mu env pe) fs d v) (e env h) p
def TAFs (j : Nat) (fs : List Bool) (e : MA) (p : Rt (List D × D)) : Prop := ∀ F env h, Rel st mu F env h pe → SimS st mu F env pe j h (fun h' d v => FQ h' (Mx F mu env pe) fs d v) (e env h) p
end
def lu2 : List D → Rt (D × D)
  | [a, b] => .ok (a, b)
  | _ => .no
def lu3 : List D → Rt (D × D × D)
  | [a, b, c] => .ok (a, b, c)
  | _ => .no
def lu4 : List D → Rt (D × D × D × D)
  | [a, b, c, d] => .ok (a, b, c, d)
  | _ => .no
@[simp] theorem lu2_eq (a b : D) : lu2 [a, b] = .ok (a, b) := id rfl
@[simp] theorem lu3_eq (a b c : D) : lu3 [a, b, c] = .ok (a, b, c) := id rfl
@[simp] theorem lu4_eq (a b c d : D) : lu4 [a, b, c, d] = .ok (a, b, c, d) := id rfl
def LU {α : Type} (un : List D → Rt α) (ls : α → List D) : Prop := ∀ vs, match un vs with
  | .ok a => vs = ls a
  | .ex _ => False
  | .no => True
theorem LU2 : LU lu2 (fun a => [a.1, a.2]) := fun vs => by
  unfold lu2
  split
  · rename_i e; split at e <;> first | (cases e; done) | (cases e; rfl)
  · rename_i e; split at e <;> cases e
  · trivial
section
variable {st : Bool} {mu : List Nat} {pe : PE} {a : ME} {as : MA} {fs : List Bool} {p : Rt D} {ps : Rt (List D)} {j : Nat} {ρ σ α : Type} {C : Ctx ρ} {B : MS} {w : D}
theorem taf_nil : TAF st mu pe [] aNil qNil := fun F env h rl => .ok .nil
theorem tafs_of (x : TAF st mu pe fs as ps) (hj : pe[j]? = some (some w) := by rfl) : TAFs st mu pe j fs as (ps.bind fun v => .ok (v, w)) := fun F env h r => .of hj r (x F env h r)
theorem tafs_v {p : Rt (D × D)} {q : D → Rt (List D × D)} (x : TEs st mu j pe a p) (y : ∀ b, TAFs st mu (pe.set j (some b)) j fs as (q b)) (hj : pe[j]? = some (some w) := by rfl) : TAFs st mu pe j (false :: fs) (aCons a as) (qsCons p q) := fun F env h r =>
  (x F env h r).bind hj fun d h1 v r1 l1 k1 dn => (y v.2 F env h1 r1).bind (set_at hj) fun ds h2 vs r2 l2 k2 dl => by
    rw [set_set] at r2
    rw [set_set]
    exact .fin hj r2 (.val (dn.late hj k2) (dl.to (M' := Mx F mu env pe) fun n c e z => ⟨e, fun q => z ((mx_set hj n).mpr q)⟩))
theorem asgF_step {F : Fr} {env : En} {h : Hd} {un : List D → Rt α} {ls : α → List D} {sl : List Nat} {ds vs : List D} (hu : LU un ls) (r : Rel st mu F env h pe) (q : FQ h (Mx F mu env pe) fs ds vs) (ok : okF st mu pe.length fs sl = true) :
    Post F (CX st mu (fun a : α => setP pe (sl.zip (ls a))) F) (match gTp (sl.map gNm) (Tw.box (.tup ds) h).1 (Tw.box (.tup ds) h).2 with
      | some ps => RS.nx (Tw.setAll env ps) (Tw.box (.tup ds) h).2
      | none => .stuck) (un vs) := by
  have z := hu vs
  cases eu : un vs with
  | no => trivial
  | ex _ => rw [eu] at z; exact z.elim
  | ok a =>
    rw [eu] at z
    have r2 := asgF (sl := sl) r q ok
    rw [z] at r2
    have e1 : gTp (sl.map gNm) (Tw.box (.tup ds) h).1 (Tw.box (.tup ds) h).2 = some (sl.zip (boxL ds h).1) := by
      simp only [Tw.box, gTp]
      exact gAll_nm (by rw [okF_len ok, boxL_len, q.length.1])
    rw [e1]
    simp only [Tw.box]
    exact ⟨_, _, rfl, r2⟩
theorem bs_asgFS {q : Rt (List D × D)} {un : List D → Rt α} {ls : α → List D} {f : α → D → Rt ρ} {sl : List Nat} (hu : LU un ls) (x : TAFs st mu pe j fs as q) (y : ∀ a b, BS st mu (setP (pe.set j (some b)) (sl.zip (ls a))) B C (f a b)) (hj : pe[j]? = some (some w) := by rfl) (ok : okF st mu pe.length fs sl = true := by rfl) (hz : decide (fs.length ≤ 1000) = true := by rfl) :
    BS st mu pe (sSeq (sAsg (gTp (sl.map gNm)) (eN dTup as)) B) C (q.bind fun vs => (un vs.1).bind fun a => f a vs.2) := fun F env h r => by
  have sm := x F env h r
  have z : Post F (CX st mu (fun a : α × D => setP (pe.set j (some a.2)) (sl.zip (ls a.1))) F) (sAsg (gTp (sl.map gNm)) (eN dTup as) env h) (q.bind fun vs => (un vs.1).bind fun a => .ok (a, vs.2)) := by
    cases q with
    | no => trivial
    | ex e =>
      obtain ⟨e', h', f1, fk, dn⟩ := sm
      exact ⟨e', env, h', by simp only [sAsg, eN, f1]; rfl, fk, dn⟩
    | ok vs =>
      obtain ⟨ds, h1, f1, rl, _, _, q⟩ := sm
      have hd : dTup ds h1 = some (.tup ds) := by
        unfold dTup
        rw [if_pos (by rw [q.length.1]; have := of_decide_eq_true hz; rw [szL]; omega)]
      have e1 : sAsg (gTp (sl.map gNm)) (eN dTup as) env h = (match gTp (sl.map gNm) (Tw.box (.tup ds) h1).1 (Tw.box (.tup ds) h1).2 with
          | some ps => RS.nx (Tw.setAll env ps) (Tw.box (.tup ds) h1).2
          | none => .stuck) := by
        simp only [sAsg, eN, f1, R.bind_ok, hd, R.lift_some, RS.of_ok]
        try rfl
      rw [e1, bind_ok]
      have st1 := asgF_step (sl := sl) hu rl (q.to fun n c e z => ⟨e, fun y => z ((mx_set hj n).mp y)⟩) (by rw [List.length_set]; exact ok)
      cases eu : un vs.1 with
      | no => trivial
      | ex _ => rw [eu] at st1; exact st1
      | ok a =>
        rw [eu] at st1
        exact st1
  have w := seq_post (a := sAsg (gTp (sl.map gNm)) (eN dTup as)) (b := B) (C := C F) (f := fun a : α × D => f a.1 a.2) z fun v ⟨env', h', e1, r2⟩ => by rw [seq_nx e1]; exact y v.1 v.2 F env' h' r2
  have eq : ((q.bind fun vs => (un vs.1).bind fun a => Rt.ok (a, vs.2)).bind fun a : α × D => f a.1 a.2) = q.bind fun vs => (un vs.1).bind fun a => f a vs.2 := by
    cases q with
    | ok v => simp only [bind_ok]; cases un v.1 <;> rfl
    | ex _ => rfl
    | no => rfl
  rw [eq] at w
  exact w
variable {mi : MI} {its : Rt (List D × D)} {g : MG} {un : D → Rt α} {up : α → List (Nat × D)} {sl : List Nat} {body : MS} {mu' : List Nat} {E : σ → PE}
theorem bs_end_cl {s : σ} {mu' : List Nat} {E : σ → PE} (w : Weak st mu pe mu' (E s)) : BS st mu pe sNil (CL st mu' E C) (.ok (.nx s)) := bs_end (inj := Stp.nx) end_cl w
theorem bs_no {b : MS} : BS st mu pe b C .no := fun _ _ _ _ => trivial
theorem law_of {mf : MF} {pf : List D → Rt D} {fr : Bool} (hf : DfP fr mf pf) {ns : List Int} (hp : pf [.rol (ns.map .int)] = .ok (.bl true)) : ∃ h', mf [.rol (ns.map .int)] [] = .ok (.bl true) h' := by
  have x := hf [] (fun _ => False) [.rol (ns.map .int)] [.rol (ns.map .int)] (fun _ z => z.elim) (.cons (.rol ns) .nil)
  rw [hp] at x
  obtain ⟨d, h', e, _, dn, _⟩ := x
  rw [dn.toS.bl] at e
  exact ⟨h', e⟩
end
end Pq

namespace Pq
open PySem Tw
end Pq

namespace Pq
open PySem Tw
section
variable {st : Bool} {mu : List Nat} {j : Nat} {pe : PE} {w : D} {ρ : Type} {B : MS} {C : Ctx ρ}
end
end Pq

namespace Pq
open PySem Tw
def itD : D → Option (List D)
  | .lst xs => some xs
  | .rol xs => some xs
  | .tup xs => if pureL xs = true then some xs else none
  | _ => none
def zipQ : List D → Option (List D)
  | [a, b] => match itD a, itD b with
    | some xs, some ys => some (zipD xs ys)
    | _, _ => none
  | _ => none
section
variable {M : Nat → Prop}
theorem seqP_keep {h h' : Hd} (k : Keep h h') {x : D} {xs : List D} {src : Src} (e : seqP h x = some (xs, src)) : seqP h' x = some (xs, src) := by
  cases x with
  | ref n =>
    simp only [seqP] at e ⊢
    split at e
    · rename_i ys hy
      rw [k _ _ hy]
      exact e
    · cases e
  | _ => exact e
theorem box_seq {h : Hd} (lt : Lt M h) {x v : D} {ys : List D} (d : Den h M x v) (e : itD v = some ys) :
    ∃ xs src, seqP (Tw.box x h).2 (Tw.box x h).1 = some (xs, src) ∧ DenL (Tw.box x h).2 M xs ys ∧ ∀ q ∈ src, (Tw.box x h).2[q.1]? = some q.2 ∧ ¬ M q.1 := by
  cases v with
  | rol zs =>
    cases e
    cases d with
    | rol ns =>
      exact ⟨ns.map .int, [], rfl, DenL.ints ns, fun _ z => nomatch z⟩
  | tup zs =>
    simp only [itD] at e
    split at e
    · rename_i hp
      cases e
      have pu : (D.tup ys).pure = true := by simpa [D.pure] using hp
      have se := D.set_of_pure pu
      have hx := d.flat se
      rw [hx] at d ⊢
      rw [box_pure _ _ pu]
      refine ⟨ys, [], ?_, ?_, fun _ z => nomatch z⟩
      · simp only [seqP]
        rw [if_pos (by simpa [D.set] using se)]
      · cases d with
        | tup l => exact l
    · cases e
  | lst zs =>
    cases e
    cases d with
    | lst l =>
      rename_i xs
      obtain ⟨k, d2⟩ := boxL_den lt l
      have k2 := k.trans (Keep.push _ [.lst (boxL xs h).1])
      simp only [Tw.box]
      have g : ((boxL xs h).2 ++ [Cell.lst (boxL xs h).1])[(boxL xs h).2.length]? = some (.lst (boxL xs h).1) := by simp
      refine ⟨(boxL xs h).1, [((boxL xs h).2.length, .lst (boxL xs h).1)], by simp only [seqP, g], d2.keep (Keep.push _ _), fun q hq => ?_⟩
      rw [List.mem_singleton.mp hq]
      refine ⟨g, fun m => ?_⟩
      have a := lt _ m
      have b := k.len
      simp only at a
      omega
    | ref nm g l =>
      rename_i n xs
      simp only [Tw.box]
      exact ⟨xs, [(n, .lst xs)], by simp only [seqP, g], l, fun q hq => by rw [List.mem_singleton.mp hq]; exact ⟨g, nm⟩⟩
  | _ => simp [itD] at e
end
section
variable {st : Bool} {mu : List Nat} {pe : PE} {as : MA} {ps : Rt (List D)}
theorem ti_zipB (x : TA st mu pe as ps) : TI st mu pe true (iSB zip2M as) (qiN zipQ ps) := fun F env h rl => by
  have y := x F env h rl
  unfold iSB qiN
  cases ps with
  | ok v =>
    obtain ⟨d, h1, e1, k, dn⟩ := y
    rw [e1]
    show Sim _ _ _ (liftS (boxL d h1).2 (zip2M (boxL d h1).2 (boxL d h1).1)) (qL (zipQ v))
    cases ez : zipQ v with
    | none => trivial
    | some zs =>
      unfold zipQ at ez
      split at ez
      · rename_i a b
        cases ea : itD a with
        | none => rw [ea] at ez; cases ez
        | some xs =>
          cases eb : itD b with
          | none => rw [ea, eb] at ez; cases ez
          | some ys =>
            rw [ea, eb] at ez
            cases ez
            cases dn with
            | cons d1 t =>
              rename_i x1 t1
              cases t with
              | cons d2 t2 =>
                rename_i x2 t3
                cases t2
                have lt1 := (rl.keep k).lt
                obtain ⟨xs1, s1, f1, l1, g1⟩ := box_seq lt1 d1 ea
                obtain ⟨k1, _⟩ := box_den lt1 d1
                have lt2 := (rl.keep (k.trans k1)).lt
                obtain ⟨xs2, s2, f2, l2, g2⟩ := box_seq lt2 (d2.keep k1) eb
                obtain ⟨k2, _⟩ := box_den lt2 (d2.keep k1)
                have form : zip2M (boxL [x1, x2] h1).2 (boxL [x1, x2] h1).1 = some (zipD xs1 xs2, s1 ++ s2) := by
                  simp only [boxL, zip2M, twoM, seqP_keep k2 f1, f2, Option.bind_some, Option.map_some]
                rw [form]
                refine ⟨_, _, rfl, ?_, (l1.keep k2).zip l2, fun q hq => ?_⟩
                · simp only [boxL]
                  exact k.trans (k1.trans k2)
                · simp only [boxL]
                  rcases List.mem_append.mp hq with z | z
                  · exact ⟨k2 _ _ (g1 q z).1, fun _ => (g1 q z).2⟩
                  · exact ⟨(g2 q z).1, fun _ => (g2 q z).2⟩
      · cases ez
  | ex _ =>
    obtain ⟨e', h1, e1, k, dn⟩ := y
    rw [e1]
    exact ⟨_, _, rfl, k, dn⟩
  | no => trivial
end
end Pq

namespace Pq
open PySem Tw
end Pq

namespace Pq
open PySem Tw
end Pq

namespace Pq
open PySem Tw
section
variable {ρ σ : Type} {C : Ctx ρ} {st : Bool} {mu mu' : List Nat} {pe : PE} {E : σ → PE} {t : MT} {body b : MS}
end
end Pq

namespace Pq
open PySem Tw
section
variable {h : Hd} {M : Nat → Prop}
end
def qIsD : D → Rt Unit
  | .dct _ _ => .ok ()
  | _ => .no
@[simp] theorem qIsD_dct (a b : List D) : qIsD (.dct a b) = .ok () := id rfl
section
variable {st : Bool} {mu : List Nat} {pe : PE} {a b : ME} {p q : Rt D} {as : MA} {ps : Rt (List D)}
end
section
variable {st : Bool} {mu : List Nat} {pe : PE} {ρ : Type} {C : Ctx ρ} {b : MS}
end
end Pq

namespace Pq
open PySem Tw
section
variable {h : Hd} {M : Nat → Prop}
end
end Pq

namespace Pq
open PySem Tw
def qPure : Rt D → Rt D
  | .ok (.int i) => .ok (.int i)
  | .ok (.bl b) => .ok (.bl b)
  | _ => .no
@[simp] theorem qPure_int (i : Int) : qPure (.ok (.int i)) = .ok (.int i) := id rfl
@[simp] theorem qPure_bl (i : Bool) : qPure (.ok (.bl i)) = .ok (.bl i) := id rfl
section
variable {st : Bool} {mu : List Nat} {pe : PE} {a b : ME} {p q : Rt D} {as : MA} {ps : Rt (List D)}
end
end Pq

namespace Pq
open PySem Tw
section
variable {st : Bool} {mu : List Nat} {pe : PE} {a b c d : ME} {p q r s : Rt D}
end
end Pq

namespace Pq
open PySem Tw
section
variable {st : Bool} {mu : List Nat} {pe : PE} {a : ME} {p : Rt D}
end
end Pq

namespace Pq
open PySem Tw
section
variable {st : Bool} {mu : List Nat} {pe : PE} {a b : ME} {p q : Rt D}
def qCount (p q : Rt D) : Rt D := p.bind fun x => (qIsL x).bind fun _ => q.bind fun y => qOp ((mCount x [y] []).map (·.1))
theorem te_count (x : TV st mu pe a p) (y : TV st mu pe b q) : TE st mu pe (eBM "list" mCount a (aCons b aNil)) (qCount p q) := fun F env h r =>
  (x F env h r).bind fun d h1 v k1 dn => by
    cases v with
    | lst ys =>
      rw [qIsL_lst, bind_ok]
      have ty : tyD "list" h1 d = true := by
        obtain ⟨xs, l, z⟩ := dn.lst
        rcases z with rfl | ⟨n, rfl, g⟩
        · rfl
        · simp [tyD, g]
      rw [if_pos ty]
      have s := y F env h1 (r.keep k1)
      have e0 : (aCons b aNil env h1).bind (fun ds h2 => Tw.liftM (mCount d ds h2)) = (b env h1).bind fun d2 h2 => Tw.liftM (mCount d [d2] h2) := by
        simp only [aCons, aNil]
        cases b env h1 <;> rfl
      rw [e0]
      refine s.bind fun d2 h2 v2 k2 dn2 => ?_
      have z : ∀ r, (mCount (.lst ys) [v2] []).map (·.1) = some r → mCount d [d2] h2 = some (r, h2) ∧ ∃ i : Int, r = .int i := fun r e => by
        unfold mCount at e
        simp only at e
        split at e
        · rename_i ds p e1 e2
          have f1 := toPy_den (dn.keep k2) e1
          have f2 := toPy_den dn2 e2
          cases e
          exact ⟨by simp only [mCount, f1, f2], _, rfl⟩
        · cases e
      cases e : (mCount (.lst ys) [v2] []).map (·.1) with
      | none => trivial
      | some r =>
        obtain ⟨e1, i, rfl⟩ := z r e
        rw [e1]
        exact .ok (.int i)
    | _ => trivial
end
end Pq

namespace Pq
open PySem Tw
section
variable {st : Bool} {mu : List Nat} {j : Nat} {pe : PE} {a : ME}
end
end Pq

namespace Pq
open PySem Tw
end Pq

namespace Pq
open PySem Tw
end Pq

namespace Pq
open PySem Tw
end Pq

namespace Pq
open PySem Tw
end Pq

namespace Pq
open PySem Tw
end Pq

namespace Pq
open PySem Tw
section
variable {st : Bool} {mu : List Nat} {pe : PE} {a b c : ME} {p q r : Rt D}
end
end Pq

namespace Pq
open PySem Tw
end Pq

namespace Pq
open PySem Tw
section
variable {h : Hd} {M : Nat → Prop}
theorem okI_self : ∀ {xs : List D}, xs.all smI = true → (∀ h' M', DenL h' M' xs xs) ∧ setL xs = true
  | [], _ => ⟨fun _ _ => .nil, rfl⟩
  | x :: xs, e => by
    rw [List.all_cons, Bool.and_eq_true] at e
    obtain ⟨a, b⟩ := okI_self e.2
    cases x with
    | int i => exact ⟨fun h' M' => .cons (.int i) (a h' M'), by simp [setL, D.set, b]⟩
    | _ => simp [smI] at e
theorem okI_all {xs : List D} (o : okI xs = true) : xs.all smI = true := by
  unfold okI at o
  rw [Bool.and_eq_true] at o
  exact o.2
theorem okX_den {xs ys : List D} (d : DenL h M xs ys) (o : okX ys = true) : xs = ys ∧ ∀ h' M', DenL h' M' ys ys := by
  unfold okX at o
  split at o
  · cases d
    exact ⟨rfl, fun _ _ => .nil⟩
  · cases d with
    | cons a b => cases b; cases a; exact ⟨rfl, fun _ _ => .cons (.int _) .nil⟩
  · cases d with
    | cons a b => cases b; cases a; exact ⟨rfl, fun _ _ => .cons (.str _) .nil⟩
  · rename_i us ws
    rw [Bool.and_eq_true] at o
    obtain ⟨a1, a2⟩ := okI_self (okI_all o.1)
    obtain ⟨b1, b2⟩ := okI_self (okI_all o.2)
    exact ⟨d.flat (by simp [setL, D.set, a2, b2]), fun h' M' => .cons (.tup (.cons (.tup (a1 h' M')) (.cons (.tup (b1 h' M')) .nil))) .nil⟩
  · cases o
theorem kitXA_den (T : XTb) (C : Str) : ∀ {xs ys : List D} {b : Bool}, DenL h M xs ys → kitXA T C ys = some b → kitXA T C xs = some b
  | _, _, b, .nil, e => e
  | _, _, b, .cons (x := x) (y := y) a l, e => by
    unfold kitXA at e ⊢
    cases e1 : kitX1 T C y with
    | none => rw [e1] at e; cases e
    | some b1 =>
      rw [e1] at e
      have e2 : kitX1 T C x = some b1 := by
        cases y <;> first | (simp [kitX1] at e1; done) | (cases a; exact e1)
      cases e3 : kitXA T C ‹List D› with
      | none => rw [e3] at e; cases e
      | some b2 =>
        rw [e3] at e
        rw [e2, kitXA_den T C l e3]
        exact e
end
theorem oc_isX (T : XTb) : OCN (dIsiX T) := by
  intro h M xs xs' r d e
  unfold dIsiX at e
  split at e
  · rename_i C ns ys cs
    obtain ⟨x, w, rfl, d1, d2⟩ := d.two
    obtain ⟨zs, rfl, _⟩ := d1.exc
    obtain ⟨us, rfl, l⟩ := d2.tup
    split at e
    · rename_i t b e1 e2
      cases e
      exact ⟨_, by simp only [dIsiX, e1, kitXA_den T C l e2], .bl _⟩
    · cases e
  · rename_i C ns ys c hn
    obtain ⟨x, w, rfl, d1, d2⟩ := d.two
    obtain ⟨zs, rfl, _⟩ := d1.exc
    split at e
    · rename_i b e1
      cases e
      have ew : w = c := by
        unfold kitX1 at e1
        split at e1
        · exact d2.glb
        · exact d2.ty
        · cases e1
      subst ew
      refine ⟨.bl b, ?_, .bl _⟩
      unfold dIsiX
      cases w with
      | tup cs => exact absurd rfl (hn cs)
      | _ => simp only [e1]
    · cases e
  · cases e
theorem oc_xf (T : XTb) (f : Str) {h : Hd} {M : Nat → Prop} {x x' r : D} (d : DenS h M x x') (e : dXF T f x' [] = some r) : ∃ d, dXF T f x h = some d ∧ Den h M d r := by
  unfold dXF at e
  split at e
  · rename_i C ns ys
    obtain ⟨xs, rfl, l⟩ := d.exc
    split at e
    · rename_i t et
      split at e
      · rename_i hf
        have key : ∀ (ns : List Str) (xs ys : List D), DenL h M xs ys → (ns.zip ys).lookup f = some r → ∃ d, (ns.zip xs).lookup f = some d ∧ Den h M d r := by
          intro ns
          induction ns with
          | nil => intro xs ys _ e; simp at e
          | cons n ns ih =>
            intro xs ys l e
            cases l with
            | nil => simp at e
            | cons a l =>
              simp only [List.zip_cons_cons, List.lookup_cons] at e ⊢
              by_cases z : (f == n) = true
              · rw [z] at e ⊢
                cases e
                exact ⟨_, rfl, a⟩
              · rw [Bool.not_eq_true] at z
                rw [z] at e ⊢
                exact ih _ _ l e
        obtain ⟨d, e1, dd⟩ := key ns xs ys l e
        exact ⟨d, by simp only [dXF, et, hf, if_true, e1], dd⟩
      · cases e
    · cases e
  · cases e
section
variable {st : Bool} {mu : List Nat} {pe : PE} {ρ : Type} {C : Ctx ρ}
theorem te_xf {T : XTb} {f : Str} {a : ME} {p : Rt D} (x : TV st mu pe a p) : TE st mu pe (eUn (dXF T f) a) (qUn (dXF T f) p) := fun F env h rl => (x F env h rl).bind fun d h' v k dn => .op fun r e => oc_xf T f dn e
def putF (f : Option Nat) (env : En) (d : D) : En := match f with
  | some i => env.set i (some d)
  | none => env
def TP (M : Nat → Prop) (f : Option Nat) (env : En) (h : Hd) (rs : RS) : Rt D → Prop
  | .ok v => ∃ d h', rs = .nx (putF f env d) h' ∧ Keep h h' ∧ (∀ i, f = some i → Den h' M d v)
  | .ex e => ∃ e' h', rs = .exc e' env h' ∧ Keep h h' ∧ Den h' M e' e
  | .no => True
theorem TP.keep {M : Nat → Prop} {f : Option Nat} {env : En} {h h' : Hd} {rs : RS} {w : Rt D} (k : Keep h h') (x : TP M f env h' rs w) : TP M f env h rs w := by
  cases w with
  | ok v => obtain ⟨d, h2, q1, q2, q3⟩ := x; exact ⟨d, h2, q1, k.trans q2, q3⟩
  | ex e => obtain ⟨d, h2, q1, q2, q3⟩ := x; exact ⟨d, h2, q1, k.trans q2, q3⟩
  | no => trivial
end
end Pq
namespace Pq
open PySem Tw
def un2x : D → Rt (D × D)
  | .tup [a, b] => .ok (a, b)
  | .lst [a, b] => .ok (a, b)
  | _ => .no
section
variable {st : Bool} {mu : List Nat} {pe : PE} {ρ : Type} {C : Ctx ρ} {b : MS}
end
end Pq

namespace Tw
open PySem PySem.Spec PyProof.Rows L2
theorem pe_mk {X : Cx} {e : Expr} {t : L2.St → Hp → XK → Prop} (he : PMk X e t) : PE X e (fun σ H Q => t σ H fun cls d H' => ∀ a oe, H' a = none → Zc cls d oe → (∃ fs, oe.data = .fields fs) → Q (.ref a) (upd H' a (xHO a oe))) := by
  refine ⟨fun pins s σ H Q I h => ?_⟩
  refine wpAny_mono (he pins s σ H _ I h) (fun u s1 hu => ?_) fun _ _ x => x
  obtain ⟨a, oe, vs, sI, H', cls, d, rfl, J, k, hne, ha, hz, hd, h1, na, os, ag, r, q⟩ := hu
  have new : ObjOk X.prog X.w (upd H' a (xHO a oe)) s1.heap a (xHO a oe) := ⟨ha, ⟨_, ha⟩, ⟨_, ha⟩, fun h1 h2 ⟨o, e1⟩ k => ⟨o, k o e1⟩⟩
  refine ⟨.ref a, upd H' a (xHO a oe), J.call' (ch := []) os (Un.laidN k hne na) (J.hok.laidN k na new) ag (fun b z => absurd z (by simp)), rfl, q a oe na hz ⟨_, hd⟩⟩
def dMk (C : Str) (ns : List Str) (ok : List D → Bool) (ds : List D) (_ : Hd) : Option D := if ok ds = true ∧ ds.length = ns.length then some (.exc C ns ds) else none
def rMk (C : Addr) (ns : List Str) (good : List V → Hp → Prop) : List V → Hp → VK → Prop := fun vs H1 Q => vs.length = ns.length ∧ good vs H1 ∧ (ns = [] → ∀ a oe, H1 a = none → Zc (.ref C) none oe → (∃ fs, oe.data = .fields fs) → Q (.ref a) (upd H1 a (xHO a oe))) ∧
  ∀ f v, ns = [f] → vs = [v] → ∀ d, H1 d = none → ∀ a oe, upd H1 d (.xd [(f, v)]) a = none → Zc (.ref C) (some d) oe → (∃ fs, oe.data = .fields fs) → Q (.ref a) (upd (upd H1 d (.xd [(f, v)])) a (xHO a oe))
def OkGood (K : PySem.W.Frag) (mg : Str → Option Value) (ok : List D → Bool) (good : List V → Hp → Prop) : Prop := ∀ {ρ : List Addr} {H : Hp} {ds : List D} {vs : List V} {S : List Addr}, RepL K mg ρ H ds vs S → ok ds = true → S = [] ∧ good vs H
theorem okGood_X {K : PySem.W.Frag} {mg : Str → Option Value} : OkGood K mg okX (goodI K) := fun r o => okX_rep r o
theorem opN_mk {K : PySem.W.Frag} {mg : Str → Option Value} {x : Str} {C : Addr} {ns : List Str} {ok : List D → Bool} {good : List V → Hp → Prop} (gl : mg x = some (.ref C)) (hn1 : ns.length ≤ 1) (og : OkGood K mg ok good) : OpN K mg (dMk x ns ok) (rMk C ns good) := by
  intro ds h d e ρ H vs S Q hr r nd na q
  unfold dMk at e
  split at e
  · rename_i o
    cases e
    obtain ⟨rfl, gd⟩ := og r o.1
    have ll := r.length
    refine ⟨by omega, gd, fun z a oe n hz hf => ?_, fun f v z1 z2 d nd a oe n hz hf => ?_⟩
    · have sm : Same H (upd H a (xHO a oe)) := same_upd n
      refine q _ _ [] sm (.exc ⟨C, oe, _, none, gl, upd_same, hr.notin n, hz, hf, .inl ⟨z, rfl⟩⟩ (r.same sm fun _ z => nomatch z) o.2) List.nodup_nil fun _ z => nomatch z
    · have nda : a ≠ d := fun z => by rw [z, upd_same] at n; cases n
      have n' : H a = none := by rw [upd_ne nda] at n; exact n
      have sm1 : Same H (upd H d (.xd [(f, v)])) := same_upd nd
      have sm2 : Same (upd H d (.xd [(f, v)])) (upd (upd H d (.xd [(f, v)])) a (xHO a oe)) := same_upd n
      have sm : Same H (upd (upd H d (.xd [(f, v)])) a (xHO a oe)) := fun b o e => sm2 b o (sm1 b o e)
      refine q _ _ [] sm (.exc ⟨C, oe, _, some d, gl, upd_same, hr.notin n', hz, hf, .inr ⟨d, rfl, ?_, hr.notin nd⟩⟩ (r.same sm fun _ z => nomatch z) o.2) List.nodup_nil fun _ z => nomatch z
      rw [upd_ne (Ne.symm nda), upd_same, z1, z2]
      rfl
  · cases e
section
variable {X : Cx} {Wx : WX} {x : Str} {k : Nat} {B newId initId : String} {bm : List Value} {C : Addr} {ns : List Str} {e : Expr} {es : List Expr} {mas : MA} {p pos : Pos} {ok : List D → Bool} {good : List V → Hp → Prop}
theorem je_mkG (M : Mkr X.prog X.w X.K X.mg X.base x k B newId initId bm C ns good) (og : OkGood X.K X.mg ok good) (hn1 : ns.length ≤ 1) (hr : Room (k + 1) X.A) (ha : JA X Wx (e :: es) mas) (hg : Gl X x := by rfl) (hdb : (x == ("__debug__" : Str)) = false := by decide) (he : starEach (e :: es) X.env = (false, eval e X.env) :: starEach es X.env := by rfl) (hpl : (backTo pos (starEach es X.env)).any (·.1) = false := by rfl) :
    JE X Wx (.Call (.Name x p) (e :: es) [] pos) (eN (dMk x ns ok) mas) :=
  PE.mono (pe_mk (pmk_x M hn1 hr hg ha hdb he hpl)) fun _ _ _ q => tE_N (opN_mk M.gl hn1 og) q
end
end Tw

namespace PySem.HandSPX
open PySem PySem.Spec PyProof.Rows
section
variable {M : Model} {A : Around} {E : Value → Shared → Prop} {h : Heap} {g : Array GenState} {d : Drawn} {t : Nat} {os : OsState}
variable {nm q : Str} {C N : Addr} {bs bm bmB : List Value} {hdct : Bool} {sn : List Str} {sub : List Value} {ab : Bool} {col : Option Bool} {dd : Option Addr} {k0 k1 k2 k3 k5 : Option Value} {B newId initId : String}
theorem check_new_ownK (F : ExcBaseFacts B newId initId bmB) (hT : ∀ X : String, bm.contains (.type X) = bmB.contains (.type X)) {kw : List (Str × Value)} {Q : Unit → Shared → Prop}
    (hC : h.get? C = some (excClassObj nm q C N bs bm hdct sn sub ab col dd k0 k1 k2 k3 k5 newId)) (hq : Q () ⟨h, g, d, t, os⟩) : wpAny M A (checkBuiltinCall newId ⟨[.ref C], kw⟩) Q E ⟨h, g, d, t, os⟩ := by
  have hcont : (Value.ref C :: bm).contains (.type B) = true := by rw [List.contains_cons, hT, F.hasB, Bool.or_true]
  have hstar := F.noStar
  simp only [checkBuiltinCall, F.newKind, F.newSplit, F.newRow]
  repeat (first | refine wpAny_loadPart_at hC ?_ | (refine wpAny_isSubtype_exc hC ?_; rw [hcont]) | refine wpAny_staticBase_exc hC ?_ | refine wpAny_madeBy_exc hC ?_ | simp only [bne_self_eq_false, Bool.false_eq_true, if_false] | wp_step)
  all_goals first | exact hq | skip
end
section
variable {prog : Program} {w : World} {A : Around} {E : Value → Shared → Prop} {R : Result → Shared → Prop} {h : Heap} {g : Array GenState} {d : Drawn} {t : Nat} {os : OsState}
variable {nm q : Str} {C N : Addr} {bs bm bmB : List Value} {hdct : Bool} {sn : List Str} {sub : List Value} {ab : Bool} {col : Option Bool} {dd : Option Addr} {k0 k1 k2 k3 k5 : Option Value} {B newId initId : String}
theorem check_type_callK {M : Model} {kw : List (Str × Value)} {Q : Unit → Shared → Prop} (hC : h.get? C = some (excClassObj nm q C N bs bm hdct sn sub ab col dd k0 k1 k2 k3 k5 newId))
    (hq : Q () ⟨h, g, d, t, os⟩) : wpAny M A (checkBuiltinCall "type.__call__" ⟨[.ref C], kw⟩) Q E ⟨h, g, d, t, os⟩ := by
  have f3 := tc_sub
  have hT : (⟨h, g, d, t, os⟩ : Shared).TypeIs (.ref C) "type" := ⟨_, hC, rfl⟩
  simp only [checkBuiltinCall, tc_kind, tc_split]
  repeat (any_goals (first | assumption | with_reducible refine wpAny_loadPart_at hC ?_ | with_reducible refine wpAny_onRaise ?_ | with_reducible refine wpAny_map ?_ | wp_step))
theorem new_ownK (F : ExcBaseFacts B newId initId bmB) (hT : ∀ X : String, bm.contains (.type X) = bmB.contains (.type X)) {kw : List (Str × Value)}
    (hC : h.get? C = some (excClassObj nm q C N bs bm hdct sn sub ab col dd k0 k1 k2 k3 k5 newId))
    (hq : R (.ok (.ret (.ref (h.objs.size + 1)))) ⟨(h.push { cls := .type "tuple", data := .seq #[] }).push
      { cls := .ref C, data := .fields #[.ref h.objs.size, .none, .none, .none, .bool false, .none] }, g, d, t, os⟩) :
    codeAny (model prog w) A (.builtin newId ⟨[.ref C], kw⟩) R ⟨h, g, d, t, os⟩ := by
  have hends := F.ends
  have hcB : (Value.ref C :: bm).contains (.type B) = true := by rw [List.contains_cons, hT, F.hasB, Bool.or_true]
  have hcA : (Value.ref C :: bm).contains (.type "AttributeError") = false := by rw [List.contains_cons, hT, F.noAttr]; rfl
  have hcN : (Value.ref C :: bm).contains (.type "NameError") = false := by rw [List.contains_cons, hT, F.noName]; rfl
  refine codeAny_builtinAt F.entry ?_
  unfold Builtin.«BaseException.__new__»
  refine wpAt_bind ?_
  show wpAt _ _ _ (stack >>= _) _ _ _
  refine wpAt_bind (wpAt_stack fun p below => wpAt_of_wpAny ?_)
  wp_walk
  refine wpAt_of_wpAny ?_
  rw [F.owner]
  repeat (first | with_reducible refine wpAny_madeHere_exc F.canon hC ?_ | with_reducible refine wpAny_loadPart_at hC ?_ | (with_reducible refine wpAny_isSubtype_exc hC ?_; first | rw [hcB] | rw [hcA] | rw [hcN]) | wp_step)
  all_goals (try (show R _ _))
  all_goals (try rw [Heap.size_push])
  all_goals (try exact hq)
theorem type_call_ownK (F : ExcBaseFacts B newId initId bmB) (hT : ∀ X : String, bm.contains (.type X) = bmB.contains (.type X)) {kw : List (Str × Value)} {fI : Addr} {Q : Fin → Shared → Prop}
    (hC : h.get? C = some (excClassObj nm q C N bs bm hdct sn sub ab col dd k0 k1 k2 k3 k5 newId))
    (hi : W.Looks (model prog w) h (typeLookup (.ref C) "__init__") (some (.ref fI))) (hb : ∀ self, W.Looks (model prog w) h (bindSpecial (.ref fI) self) (.ref fI, [self]))
    (hq : codeAny (model prog w) A (.call (.ref fI) ⟨[.ref (h.objs.size + 1)], kw⟩)
      (fun r s' => match r with | .ok (.ret v) => v = .none ∧ Q (.done (.ret (.ref (h.objs.size + 1)))) s' | .ok _ => False | .error e => E e s')
      ⟨(h.push (W.kdv_tup [])).push (excO C h.objs.size), g, d, t, os⟩) :
    wpAny (model prog w) A (Builtin.«type.__call__» ⟨[.ref C], kw⟩) Q E ⟨h, g, d, t, os⟩ := by
  repeat (first | with_reducible refine wpAny_loadPart_at hC ?_ | with_reducible refine wpAny_madeBy_exc hC ?_ | wp_step)
  refine codeAny_call_builtin_code (Code.quiet_builtin _ F.quiet) (check_new_ownK F hT hC ?_)
  refine new_ownK F hT hC ?_
  show wpAny _ _ _ _ _ _
  have k : ∀ b o, h.get? b = some o → ((h.push (W.kdv_tup [])).push (excO C h.objs.size)).get? b = some o := fun b o e => Heap.get?_push_of_some _ (Heap.get?_push_of_some _ e)
  have hC₁ := k _ _ hC
  have hget : ((h.push (W.kdv_tup [])).push (excO C h.objs.size)).get? (h.objs.size + 1) = some (excO C h.objs.size) := by heap_get
  have hcC : (Value.ref C :: bm).contains (.ref C) = true := by simp
  have i1 := hi.keeps k
  have b1 := (hb (.ref (h.objs.size + 1))).keeps k
  unfold isInstance
  repeat (first | with_reducible refine wpAny_loadPart_at hget ?_ | (with_reducible refine wpAny_isSubtype_exc hC₁ ?_; rw [hcC]) | wp_step)
  show wpAny _ _ (typeLookup (.ref C) _) _ _ _
  refine i1.at ?_
  refine wpAny_holding (wpAny_bind (b1.at ?_))
  refine wpAny_bind (wpAny_call (codeAny_mono hq fun r s' z => ?_))
  rcases r with e | (v | _ | _ | _) <;> first | exact z | exact z.elim | skip
  obtain ⟨rfl, z⟩ := z
  first
    | exact wpAny_pure (wpAny_pure z)
    | (wp_walk; exact z)
theorem call_ownK (F : ExcBaseFacts B newId initId bmB) (hT : ∀ X : String, bm.contains (.type X) = bmB.contains (.type X)) {kw : List (Str × Value)} {fI : Addr}
    (hC : h.get? C = some (excClassObj nm q C N bs bm hdct sn sub ab col dd k0 k1 k2 k3 k5 newId))
    (hi : W.Looks (model prog w) h (typeLookup (.ref C) "__init__") (some (.ref fI))) (hb : ∀ self, W.Looks (model prog w) h (bindSpecial (.ref fI) self) (.ref fI, [self]))
    (hq : codeAny (model prog w) (A.under (.builtin "type.__call__" ⟨[.ref C], kw⟩)) (.call (.ref fI) ⟨[.ref (h.objs.size + 1)], kw⟩) (W.InitBack (h.objs.size + 1) R)
      ⟨(h.push (W.kdv_tup [])).push (excO C h.objs.size), g, d, t, os⟩) :
    codeAny (model prog w) A (.call (.ref C) ⟨[], kw⟩) R ⟨h, g, d, t, os⟩ := by
  have f1 := tc_lookup
  have f2 := tc_bind (.ref C)
  have hTy : (⟨h, g, d, t, os⟩ : Shared).TypeIs (.ref C) "type" := ⟨_, hC, rfl⟩
  refine codeAny_of_tree ?_
  show wpAny _ _ (callAny (.ref C) _) _ _ _
  repeat (any_goals (first | assumption | with_reducible refine wpAny_loadPart_at hC ?_ | wp_step))
  refine ⟨rfl, ?_⟩
  refine codeAny_call_builtin_at (Code.quiet_builtin _ (by decide +kernel)) entry_typeCall (check_type_callK hC (type_call_ownK F hT hC hi hb ?_))
  refine codeAny_mono hq fun r s' z => ?_
  rcases r with e | (v | _ | _ | _) <;> exact z
end
end PySem.HandSPX
namespace Tw
open PySem PySem.Spec PyProof.Rows L2
structure MkrK (P : Program) (w : World) (K : PySem.W.Frag) (mg : Str → Option Value) (base : Heap) (x : Str) (k : Nat) (B newId initId : String) (bm : List Value) (C : Addr) (ns : List Str) (good : List V → Hp → Prop) : Prop where
  xb : XBase B newId initId bm
  xc : XC K newId bm C
  gl : mg x = some (.ref C)
  ini : ∃ fI fd ps, PySem.W.findIn K (.ref C) "__init__" = some (some (.ref fI)) ∧ PySem.W.typeIn K (.ref fI) = some (.type "function") ∧ KBn K fd ps 1 ns (fun us ws => us ++ ws) (fun vs zs => vs ++ zs) ∧ FnOk P w K mg base (L2.CX P w) k fI fd ps (spXI C ns good)
  lay : ∀ ws H a o, H a = none → good ws H → good ws (upd H a o)
theorem MkrK.mono {P : Program} {w : World} {K : PySem.W.Frag} {mg : Str → Option Value} {base : Heap} {x : Str} {j k : Nat} {B newId initId : String} {bm : List Value} {C : Addr} {ns : List Str} {good : List V → Hp → Prop} (m : MkrK P w K mg base x j B newId initId bm C ns good) (h : j ≤ k) : MkrK P w K mg base x k B newId initId bm C ns good := by
  obtain ⟨xb, xc, gl, ⟨fI, fd, ps, a, b, c, F⟩, l⟩ := m
  exact ⟨xb, xc, gl, ⟨fI, fd, ps, a, b, c, F.mono h⟩, l⟩
section
variable {X : Cx} {pins : List (Addr × Obj)} {σ : L2.St} {H1 : Hp} {Q : XK} {s1 : Shared} {us : List Value} {vs : List V} {x : Str} {k : Nat} {B newId initId : String} {bm : List Value} {C : Addr} {ns : List Str} {good : List V → Hp → Prop}
theorem mkx_runK (M : MkrK X.prog X.w X.K X.mg X.base x k B newId initId bm C ns good) (hr : Room (k + 1) X.A) (I1 : Inv X pins σ H1 s1) (r1 : Vals vs us) (hl0 : vs.length = ns.length) (hn1 : ns.length ≤ 1) (gd : good vs H1) (q0 : ns = [] → Q (.ref C) none H1)
    (q1 : ∀ f v, ns = [f] → vs = [v] → ∀ d, H1 d = none → Q (.ref C) (some d) (upd H1 d (.xd [(f, v)]))) : wpAny (model X.prog X.w) X.A (call (.ref C) [] (ns.zip us)) (MkP X pins σ Q) X.xe s1 := by
  obtain ⟨SB, T, hm, ⟨fI, fd, ps, iC, tI, hb, F1⟩, lay⟩ := M
  obtain ⟨nm, N, qn, bs, bm', hdct, sn, sub, ab, col, dd, k0, k1, k2, k3, k5, hC, hbm⟩ := PySem.W.excInit_of I1.kIn T.obj
  obtain ⟨hp, g, dr, tk, os⟩ := s1
  have hsz : hp.objs.size ≤ hp.objs.size + 1 := Nat.le_succ _
  have hn : H1 (hp.objs.size + 1) = none := I1.hok.fresh hsz
  have raises : Raises X (.ref C) := raises_own (T.exC SB.F) T.tyC
  have keeps : ∀ b o, hp.get? b = some o → ((hp.push (PySem.W.kdv_tup [])).push (PySem.HandSPX.excO C hp.objs.size)).get? b = some o := fun b o e => Heap.get?_push_of_some _ (Heap.get?_push_of_some _ e)
  have at2 : ((hp.push (PySem.W.kdv_tup [])).push (PySem.HandSPX.excO C hp.objs.size)).get? (hp.objs.size + 1) = some (PySem.HandSPX.excO C hp.objs.size) := by heap_get
  have J : Inv X pins σ (upd H1 (hp.objs.size + 1) (exo (hp.objs.size + 1) C none)) ⟨(hp.push (PySem.W.kdv_tup [])).push (PySem.HandSPX.excO C hp.objs.size), g, dr, tk, os⟩ :=
    I1.laid (t' := tk) (a := hp.objs.size + 1) (o := exo (hp.objs.size + 1) C none) (h' := (hp.push (PySem.W.kdv_tup [])).push (PySem.HandSPX.excO C hp.objs.size)) keeps hsz (exo_ok at2)
  have r2 : Vals (V.ref (hp.objs.size + 1) :: vs) (Value.ref (hp.objs.size + 1) :: us) := .cons rfl r1
  -- the answer of __init__
  let Q' : VK := fun v H' => v = .non ∧ ((ns = [] ∧ H' = upd H1 (hp.objs.size + 1) (exo (hp.objs.size + 1) C none)) ∨
    ∃ f u dx, ns = [f] ∧ vs = [u] ∧ upd H1 (hp.objs.size + 1) (exo (hp.objs.size + 1) C none) dx = none ∧ dx ≠ hp.objs.size + 1 ∧ H' = upd (upd (upd H1 (hp.objs.size + 1) (exo (hp.objs.size + 1) C none)) dx (exd dx [(f, u)])) (hp.objs.size + 1) (exo (hp.objs.size + 1) C (some dx)))
  have sp : spXI C ns good (V.ref (hp.objs.size + 1) :: vs) (upd H1 (hp.objs.size + 1) (exo (hp.objs.size + 1) C none)) Q' (fun _ _ _ => False) :=
    ⟨_, vs, rfl, hl0, upd_same, lay _ _ _ _ hn gd, fun e => ⟨rfl, .inl ⟨e, rfl⟩⟩, fun f v e1 e2 dx n1 n2 => ⟨rfl, .inr ⟨f, v, dx, e1, e2, n1, n2, rfl⟩⟩⟩
  have hl : (Value.ref (hp.objs.size + 1) :: us).length = ps.length := by rw [← r2.length]; exact F1.len _ _ _ _ sp
  refine wpAny_call (PySem.HandSPX.call_ownK SB.F hbm hC (PySem.W.looks_findIn I1.kIn iC) (fun self => PySem.W.bind_fn I1.kIn self tI)
    (codeAny_mono (F1.run _ X.stack _ _ ⟨[Value.ref (hp.objs.size + 1)], ns.zip us⟩ (Value.ref (hp.objs.size + 1) :: us) _ Q' (fun _ _ _ => False) (hr.make C [] (ns.zip us)) (J.env0.make C [] (ns.zip us)) (hb.to _ [Value.ref (hp.objs.size + 1)] us J.kIn rfl (by rw [← Paired.length r1, hl0])) r2 sp) fun r s' z => ?_))
  cases r with
  | error er => obtain ⟨_, _, _, _, _, _, _, _, _, _, _, _, w⟩ := z; exact w.elim
  | ok fl =>
    cases fl with
    | ret u =>
      obtain ⟨v, H2, o2, b2, un2, hok2, rv, ev, q⟩ := z
      subst ev
      refine ⟨rv, ?_⟩
      obtain ⟨h2, g2, d2, t2, os'⟩ := s'
      rcases q with ⟨e1, rfl⟩ | ⟨f, y, dx, e1, e2, n1, n2, rfl⟩
      · exact mk_bare raises I1 hsz keeps un2 hok2 o2 b2 (q0 e1)
      · rw [upd_ne n2] at n1
        refine mk_end (fs := [(f, y)]) raises I1 hsz keeps un2 hok2 o2 b2 upd_same (by rw [upd_ne n2, upd_same]) n1 ?_
        have e := del_back (H1 := H1) (a := hp.objs.size + 1) (d := dx) (C := C) (o := exd dx [(f, y)]) (o2 := exo (hp.objs.size + 1) C none) (u := exo (hp.objs.size + 1) C (some dx)) (w := .xd [(f, y)]) hn n2
        rw [e]
        exact q1 f y e1 e2 dx n1
    | next => exact False.elim z
    | brk => exact False.elim z
    | cont => exact False.elim z
end
section
variable {X : Cx} {Wx : WX} {x : Str} {k : Nat} {B newId initId : String} {bm : List Value} {C : Addr} {ns : List Str} {kws : List Keyword} {ta : TA} {mas : MA} {p pos : Pos} {ok : List D → Bool} {good : List V → Hp → Prop}
theorem pmk_xK (M : MkrK X.prog X.w X.K X.mg X.base x k B newId initId bm C ns good) (hn1 : ns.length ≤ 1) (hr : Room (k + 1) X.A) (hg : Gl X x) (ha : PK X kws ta) (hall : (backToKw pos (keywordEach kws X.env)).all (·.1.isSome) = true := by rfl) (hks : (backToKw pos (keywordEach kws X.env)).filterMap (·.1) = ns := by rfl) (hdb : (x == ("__debug__" : Str)) = false := by decide)
    (hpl : ((backTo pos (starEach [] X.env)).any (·.1) || (backToKw pos (keywordEach kws X.env)).any (·.1.isNone)) = false := by rfl) :
    PMk X (.Call (.Name x p) [] kws pos) (tMkX C ns good ta) := by
  intro pins s σ H Q I h
  refine wpAny_Call_Name_kw (ld_glob I hg M.gl ?_ hdb)
  refine PySem.W.callWith_KW0 (h₀ := X.base) I.ok.mod.kin M.xc.kC hall (thn (ha.run pos pins s σ H _ I h) fun us s1 ⟨vs, H1, I1, r1, l, gd, q0, q1⟩ => ⟨I1.kIn, ?_⟩) hpl
  rw [hks]
  exact mkx_runK M hr I1 r1 l hn1 gd q0 q1
theorem je_mkKG (M : MkrK X.prog X.w X.K X.mg X.base x k B newId initId bm C ns good) (og : OkGood X.K X.mg ok good) (hn1 : ns.length ≤ 1) (hr : Room (k + 1) X.A) (ha : JK X Wx kws mas) (hg : Gl X x := by rfl) (hall : (backToKw pos (keywordEach kws X.env)).all (·.1.isSome) = true := by rfl) (hks : (backToKw pos (keywordEach kws X.env)).filterMap (·.1) = ns := by rfl) (hdb : (x == ("__debug__" : Str)) = false := by decide)
    (hpl : ((backTo pos (starEach [] X.env)).any (·.1) || (backToKw pos (keywordEach kws X.env)).any (·.1.isNone)) = false := by rfl) :
    JE X Wx (.Call (.Name x p) [] kws pos) (eN (dMk x ns ok) mas) :=
  PE.mono (pe_mk (pmk_xK M hn1 hr hg ha hall hks hdb hpl)) fun _ _ _ q => tE_N (opN_mk M.gl hn1 og) q
end
end Tw

namespace Tw
open PySem PySem.Spec PyProof.Rows L2
theorem je_mk0G {X : Cx} {Wx : WX} {x : Str} {k : Nat} {B newId initId : String} {bm : List Value} {C : Addr} {p pos : Pos} {ok : List D → Bool} {good : List V → Hp → Prop} (M : Mkr X.prog X.w X.K X.mg X.base x k B newId initId bm C [] good) (og : OkGood X.K X.mg ok good) (hr : Room (k + 1) X.A) (hg : Gl X x := by rfl) (hdb : (x == ("__debug__" : Str)) = false := by decide) :
    JE X Wx (.Call (.Name x p) [] [] pos) (eN (dMk x [] ok) aNil) := by
  refine PE.mono (pe_mk (pmk_x0 M hr hg hdb)) fun σ H Q q => ?_
  obtain ⟨ρ, env, h, hh, er, q⟩ := tE_N (opN_mk M.gl (Nat.zero_le _) og) q
  obtain ⟨_, gd, q0, _⟩ := q [] ρ H [] ⟨hh, Step.refl, .nil, List.nodup_nil, fun _ z => nomatch z⟩
  exact ⟨gd, q0 rfl⟩
theorem kbn_init {K : PySem.W.Frag} {qual : Str} {st : Stmt} {fI : Addr} {fd : FuncData} {ps ns : List Str} (F : Fun K "__init__" qual st fI fd)
    (h : ∀ (kV doc pm : Value) (an : Option Addr) (cdv ct : Value) (u : Value) (ws : List Value), ws.length = ns.length → bindArgs (PySem.W.fnOf "__init__" qual (defArgs st) (defBody st) (defScope st) .none kV doc pm an cdv ct) ⟨[u], ns.zip ws⟩ = pure (ps.zip (u :: ws))) :
    KBn K fd ps 1 ns (fun us ws => us ++ ws) (fun vs zs => vs ++ zs) := by
  refine ⟨fun s us ws X l1 l2 => ?_, fun r rz => r.append rz⟩
  obtain ⟨oc, od, kV, doc, pmv, an, cdv, ct, osl, rfl, lk, hcd⟩ := F.ex
  match us, l1 with
  | [u], _ => exact .of_eq (h kV doc pmv an cdv ct u ws l2)
def tFmtR (te : TE) : TE := fun σ H Q => te σ H fun x H1 => ∃ y : Str, x = .str y ∧ PyData.strOk y = true ∧ y.length ≤ 1000 ∧ Q (.str (PySem.reprText y)) H1
theorem repr_len {y : Str} (h : PyData.strOk y = true) : (PySem.reprText y).length ≤ 10 * y.length + 2 := by
  refine StrLaws.reprText_len y fun c hc => ?_
  unfold PyData.strOk at h
  rw [← Array.all_toList, List.all_eq_true] at h
  have := of_decide_eq_true (h c hc)
  exact Nat.lt_trans this (by decide)
theorem pe_fmtR {X : Cx} {e : Expr} {te : TE} {pos : Pos} (he : PE X e te) : PE X (.FormattedValue e 114 none pos) (tFmtR te) := by
  refine ⟨fun pins s σ H Q I h => ?_⟩
  refine wpAny_FormattedValue_repr (thn (he.run pins s σ H _ I h) fun v s1 hv => ?_)
  obtain ⟨x, H1, I1, r1, y, rfl, hy, hz, q⟩ := hv
  obtain ⟨t, rfl⟩ := r1
  have rl := repr_len hy
  refine wpAny_pyReprObj_str ?_ (by rw [sizeLine_eq]; omega)
  have I2 := I1.tok (s1.toks + 1)
  exact wpAny_formatField_str ⟨.str (PySem.reprText y), H1, I2, ⟨_, rfl⟩, q⟩ ⟨.str (PySem.reprText y), H1, I2.tok _, ⟨_, rfl⟩, q⟩ (by rw [sizeLine_eq]; omega)
def okTxt (xs : List D) : Bool := match xs with
  | [.str y] => PyData.strOk y && decide (y.length ≤ 1000)
  | _ => false
def goodT (vs : List V) (_ : Hp) : Prop := ∃ y : Str, vs = [.str y] ∧ PyData.strOk y = true ∧ y.length ≤ 1000
theorem okGood_T {K : PySem.W.Frag} {mg : Str → Option Value} : OkGood K mg okTxt goodT := fun r o => by
  unfold okTxt at o
  split at o
  · rename_i y
    rw [Bool.and_eq_true, decide_eq_true_eq] at o
    cases r with
    | cons r1 r2 =>
      cases r1
      cases r2
      exact ⟨rfl, y, rfl, o.1, o.2⟩
  · cases o
theorem goodT_lay (ws : List V) (H : Hp) (a : Addr) (o : HO) (n : H a = none) (g : goodT ws H) : goodT ws (upd H a o) := g
def TxtG (good : List V → Hp → Prop) (ts : List TE) : Prop := ∀ (σ : L2.St) (H : Hp) (v : V), good [v] H → σ[1]? = some (some v) → ∀ Q : Str → Hp → Prop, (∀ out, Q out H) → tJs ts Str.empty σ H Q
theorem txtT2 {c : Str} (hc : c.length ≤ 1000 := by decide) : TxtG goodT [tC (.str c), tFmtR (tVar 1)] := fun σ H v g ht Q hq => by
  obtain ⟨y, e, hy, hl⟩ := g
  cases e
  have e0 : (Str.empty ++ c).length ≤ 1000 := by
    rw [PySem.Str.length_append]
    have : Str.empty.length = 0 := by decide
    omega
  refine ⟨c, rfl, by rw [sizeLine_eq]; omega, ?_⟩
  refine ⟨.str y, ht, y, rfl, hy, hl, _, rfl, ?_, hq _⟩
  have := repr_len hy
  rw [PySem.Str.length_append, sizeLine_eq]
  omega
section
variable {P : Program} {w : World} {K : PySem.W.Frag} {mg : Str → Option Value} {base : Heap}
theorem ini_1G {qual : Str} {st : Stmt} {fI : Addr} {fd : FuncData} {f x : Str} {k : Nat} {C : Addr} {newId : String} {bm : List Value} {ts : List TE} {good : List V → Hp → Prop} (F : Fun K "__init__" qual st fI fd) (S : FnScope ["self", x] ["self", x] (defScope st)) (xc : XC K newId bm C) (hno : PySem.W.findIn K (.ref C) f = some none) (ho : TxtG good ts)
    (hb : ∀ (cdv : Value) (A : Around) (outer : List Env) (s : Shared) (H : Hp) (E : XK), Room k (A.deeper (envOfC qual (defScope st) s.heap.objs.size fI cdv)) → PSs (cxOf (L2.CX P w) P w K mg base ["self", x] qual (defScope st) fI cdv A outer s H E) (defBody st)
      (tSeq (tDrop (tXInit K newId bm (tCons (tVar 0) (tCons (fun σ H Q => tJs ts Str.empty σ H fun out H1 => Q (.str out) H1) tNil)))) (tSeq (tXSet K newId bm f (tVar 0) (tVar 1)) tNext))) :
    FnOk P w K mg base (L2.CX P w) (k + 1) fI fd ["self", x] (spXI C [f] good) :=
  F.okX S (fun vs H Q E h => by
    obtain ⟨a, ws, rfl, hl, _⟩ := h
    simpa using hl) fun cdv A outer s H vs Q E hr h => ⟨_, hb cdv A outer s H E hr, by
    obtain ⟨a, ws, rfl, hl, ha, g, _, q⟩ := h
    obtain ⟨v, rfl⟩ : ∃ v, ws = [v] := by
      cases ws with
      | nil => simp at hl
      | cons v t => cases t with
        | nil => exact ⟨v, rfl⟩
        | cons _ _ => simp at hl
    have s0 : (start ["self", x] [V.ref a, v]) = [some (V.ref a), some v] := rfl
    rw [s0]
    refine ⟨V.ref a, rfl, ?_⟩
    refine ho _ _ v g rfl _ fun out => ?_
    refine ⟨a, C, [.str out], rfl, by simp, xc, ha, ?_⟩
    refine ⟨v, rfl, V.ref a, rfl, a, C, rfl, xc, hno, ha, fun dx n1 n2 => q f v rfl rfl dx n1 n2⟩⟩
end
def MkG (P : Program) (w : World) (K : PySem.W.Frag) (mg : Str → Option Value) (base : Heap) (x : Str) (k : Nat) (ns : List Str) (ok : List D → Bool) : Prop := ∃ B newId initId bm C good, Mkr P w K mg base x k B newId initId bm C ns good ∧ MkrK P w K mg base x k B newId initId bm C ns good ∧ OkGood K mg ok good
theorem MkG.mono {P : Program} {w : World} {K : PySem.W.Frag} {mg : Str → Option Value} {base : Heap} {x : Str} {j k : Nat} {ns : List Str} {ok : List D → Bool} (m : MkG P w K mg base x j ns ok) (h : j ≤ k) : MkG P w K mg base x k ns ok :=
  let ⟨B, a, b, c, C, g, m, n, o⟩ := m; ⟨B, a, b, c, C, g, m.mono h, n.mono h, o⟩
theorem mkG_of {P : Program} {w : World} {K : PySem.W.Frag} {mg : Str → Option Value} {base : Heap} {x : Str} {k : Nat} {ns : List Str} {B newId initId : String} {bm : List Value} {C fI : Addr} {fd : FuncData} {ps : List Str} {ok : List D → Bool} {good : List V → Hp → Prop} (xb : XBase B newId initId bm) (xc : XC K newId bm C) (gl : mg x = some (.ref C)) (i1 : PySem.W.findIn K (.ref C) "__init__" = some (some (.ref fI))) (i2 : PySem.W.typeIn K (.ref fI) = some (.type "function"))
    (i3 : Binds K fd ps []) (i4 : KBn K fd ps 1 ns (fun us ws => us ++ ws) (fun vs zs => vs ++ zs)) (F : FnOk P w K mg base (L2.CX P w) k fI fd ps (spXI C ns good)) (og : OkGood K mg ok good) (lay : ∀ ws H a o, H a = none → good ws H → good ws (upd H a o)) : MkG P w K mg base x k ns ok :=
  ⟨B, newId, initId, bm, C, good, ⟨xb, xc, gl, ⟨fI, fd, ps, i1, i2, i3, F⟩, lay⟩, ⟨xb, xc, gl, ⟨fI, fd, ps, i1, i2, i4, F⟩, lay⟩, og⟩
section
variable {X : Cx} {Wx : WX} {x : Str} {k : Nat} {ns : List Str} {e : Expr} {es : List Expr} {kws : List Keyword} {mas : MA} {p pos : Pos} {ok : List D → Bool}
theorem je_mk (M : MkG X.prog X.w X.K X.mg X.base x k ns ok) (hr : Room (k + 1) X.A) (ha : JA X Wx (e :: es) mas) (hn1 : ns.length ≤ 1 := by decide) (hg : Gl X x := by rfl) (hdb : (x == ("__debug__" : Str)) = false := by decide) (he : starEach (e :: es) X.env = (false, eval e X.env) :: starEach es X.env := by rfl) (hpl : (backTo pos (starEach es X.env)).any (·.1) = false := by rfl) :
    JE X Wx (.Call (.Name x p) (e :: es) [] pos) (eN (dMk x ns ok) mas) :=
  let ⟨_, _, _, _, _, _, m, _, o⟩ := M; je_mkG m o hn1 hr ha hg hdb he hpl
theorem je_mk0 (M : MkG X.prog X.w X.K X.mg X.base x k [] ok) (hr : Room (k + 1) X.A) (hg : Gl X x := by rfl) (hdb : (x == ("__debug__" : Str)) = false := by decide) :
    JE X Wx (.Call (.Name x p) [] [] pos) (eN (dMk x [] ok) aNil) :=
  let ⟨_, _, _, _, _, _, m, _, o⟩ := M; je_mk0G m o hr hg hdb
theorem je_mkK (M : MkG X.prog X.w X.K X.mg X.base x k ns ok) (hr : Room (k + 1) X.A) (ha : JK X Wx kws mas) (hn1 : ns.length ≤ 1 := by decide) (hg : Gl X x := by rfl) (hall : (backToKw pos (keywordEach kws X.env)).all (·.1.isSome) = true := by rfl) (hks : (backToKw pos (keywordEach kws X.env)).filterMap (·.1) = ns := by rfl) (hdb : (x == ("__debug__" : Str)) = false := by decide)
    (hpl : ((backTo pos (starEach [] X.env)).any (·.1) || (backToKw pos (keywordEach kws X.env)).any (·.1.isNone)) = false := by rfl) :
    JE X Wx (.Call (.Name x p) [] kws pos) (eN (dMk x ns ok) mas) :=
  let ⟨_, _, _, _, _, _, _, n, o⟩ := M; je_mkKG n o hn1 hr ha hg hall hks hdb hpl
end
end Tw

namespace Pq
open PySem Tw
def OkDen (ok : List D → Bool) : Prop := ∀ {h : Hd} {M : Nat → Prop} {xs ys : List D}, DenL h M xs ys → ok ys = true → xs = ys ∧ DenL h M ys ys
theorem okDen_X : OkDen okX := fun d o => let ⟨a, b⟩ := okX_den d o; ⟨a, b _ _⟩
theorem okDen_T : OkDen okTxt := fun d o => by
  unfold okTxt at o
  split at o
  · cases d with
    | cons a b => cases b; cases a; exact ⟨rfl, .cons (.str _) .nil⟩
  · cases o
section
variable {st : Bool} {mu : List Nat} {pe : PE} {mas : MA} {ps : Rt (List D)}
theorem te_mk {C : Str} {ns : List Str} {ok : List D → Bool} (od : OkDen ok) (x : TA st mu pe mas ps) : TE st mu pe (eN (dMk C ns ok) mas) (qN (dMk C ns ok) ps) := fun F env h rl =>
  (x F env h rl).bind fun d h1 v k dn => .op fun r e => by
    unfold dMk at e ⊢
    split at e
    · rename_i o
      cases e
      obtain ⟨rfl, dd⟩ := od dn o.1
      exact ⟨_, if_pos o, .exc dd⟩
    · cases e
end
end Pq

namespace Pq
open PySem Tw
open L2 (atI ixN)
section
variable {h h' : Hd} {M M' : Nat → Prop}
mutual
theorem Den.any : ∀ {d v : D}, Den h M d v → v.set = true → Den h' M' d v
  | _, _, .non, _ => .non
  | _, _, .bl b, _ => .bl b
  | _, _, .int i, _ => .int i
  | _, _, .str s, _ => .str s
  | _, _, .glb s, _ => .glb s
  | _, _, .ty s, _ => .ty s
  | _, _, .tup l, e => .tup (DenL.any l (by simpa [D.set] using e))
  | _, _, .rol ns, _ => .rol ns
  | _, _, .lst l, e => by simp [D.set] at e
  | _, _, .dct l m, e => by simp [D.set] at e
  | _, _, .exc l, e => .exc (DenL.any l (by simpa [D.set] using e))
  | _, _, .ref _ _ _, e => by simp [D.set] at e
  | _, _, .refd _ _ _ _, e => by simp [D.set] at e
theorem DenL.any : ∀ {d v : List D}, DenL h M d v → setL v = true → DenL h' M' d v
  | _, _, .nil, _ => .nil
  | _, _, .cons (y := y) (ys := ys) a b, e => by
    have e' : y.set = true ∧ setL ys = true := by simpa [setL] using e
    exact .cons (Den.any a e'.1) (DenL.any b e'.2)
end
end
section
variable (st : Bool) (mu : List Nat) (pe : PE)
end
section
variable {st : Bool} {mu : List Nat} {pe : PE} {e : ME} {as : MA} {q : Rt D} {qs : Rt (List D)}
end
structure ToldAt (h0 h : Hd) (env : En) (t : Nat) : Prop where
  keep : Keep h0 h
  at_ : ∃ n d1 ds, env[t]? = some (some (.ref n)) ∧ h[n]? = some (.lst (d1 :: ds)) ∧ (∀ xs, d1 ≠ .lst xs) ∧ ∀ a, d1 = .ref a → h0.length ≤ a
theorem ToldAt.later {h0 h h' : Hd} {env : En} {t : Nat} (x : ToldAt h0 h env t) (k : Keep h h') : ToldAt h0 h' env t :=
  ⟨x.keep.trans k, let ⟨n, d1, ds, a, b, c⟩ := x.at_; ⟨n, d1, ds, a, k _ _ b, c⟩⟩
section
variable {st : Bool} {mu mu' : List Nat} {pe : PE} {F : Fr} {env : En} {h h' : Hd} {ρ σ : Type} {C : Ctx ρ} {b : MS} {p : Rt ρ} {t : Nat} {v : D}
end
end Pq

namespace Pq
open PySem Tw
section
variable {st : Bool} {mu : List Nat} {pe : PE} {a b : ME} {p q : Rt D}
end
end Pq

namespace Pq
open PySem Tw
abbrev Inn := List (Int × Int)
abbrev Ls := List (D × Inn)
def innK (e : Inn) : List D := e.map fun p => .int p.1
def innV (e : Inn) : List D := e.map fun p => .int p.2
def innD (e : Inn) : D := .dct (innK e) (innV e)
def latD (L : Ls) : D := .dct (L.map (·.1)) (L.map fun e => innD e.2)
mutual
theorem key_den {h : Hd} {M : Nat → Prop} : ∀ {d : D} {q : NestedKey}, keyN d = some q → Den h M d d
  | .int i, _, _ => .int i
  | .tup xs, q, e => by
    simp only [keyN] at e
    cases k : keyNL xs with
    | none => rw [k] at e; cases e
    | some ks => exact .tup (keyL_den k)
  | .non, _, e => by simp [keyN] at e
  | .bl _, _, e => by simp [keyN] at e
  | .str _, _, e => by simp [keyN] at e
  | .glb _, _, e => by simp [keyN] at e
  | .ty _, _, e => by simp [keyN] at e
  | .rol _, _, e => by simp [keyN] at e
  | .lst _, _, e => by simp [keyN] at e
  | .dct _ _, _, e => by simp [keyN] at e
  | .exc _ _ _, _, e => by simp [keyN] at e
  | .ref _, _, e => by simp [keyN] at e
theorem keyL_den {h : Hd} {M : Nat → Prop} : ∀ {d : List D} {q : List NestedKey}, keyNL d = some q → DenL h M d d
  | [], _, _ => .nil
  | x :: xs, q, e => by
    simp only [keyNL] at e
    cases k : keyN x with
    | none => rw [k] at e; cases e
    | some k1 =>
      cases k2 : keyNL xs with
      | none => rw [k, k2] at e; cases e
      | some k3 => exact .cons (key_den k) (keyL_den k2)
end
structure Lat (h : Hd) (n : Nat) (as : List Nat) (L : Ls) : Prop where
  top : h[n]? = some (Cell.dct (L.map (·.1)) (as.map D.ref))
  len : as.length = L.length
  cell : ∀ (i a : Nat) (e : D × Inn), as[i]? = some a → L[i]? = some e → h[a]? = some (Cell.dct (innK e.2) (innV e.2))
  nd : (n :: as).Nodup
  keys : ∀ e ∈ L, ∃ q, keyN e.1 = some q
section
variable {h h' : Hd} {n : Nat} {as : List Nat} {L : Ls}
theorem Lat.keep (la : Lat h n as L) (k : ∀ m c, h[m]? = some c → m ∈ n :: as → h'[m]? = some c) : Lat h' n as L :=
  ⟨k _ _ la.top List.mem_cons_self, la.len, fun i a e e1 e2 => k _ _ (la.cell i a e e1 e2) (List.mem_cons_of_mem _ (List.mem_of_getElem? e1)), la.nd, la.keys⟩
theorem Lat.lt (la : Lat h n as L) : ∀ m ∈ n :: as, m < h.length := fun m hm => by
  rcases List.mem_cons.mp hm with rfl | hm
  · exact lt_get la.top
  · obtain ⟨i, hi⟩ := List.mem_iff_getElem?.mp hm
    have l := (List.getElem?_eq_some_iff.mp hi).1
    have : i < L.length := by rw [← la.len]; exact l
    exact lt_get (la.cell i m _ hi (List.getElem?_eq_getElem this))
theorem inL_den {h : Hd} {M : Nat → Prop} (e : Inn) : DenL h M (innK e) (innK e) ∧ DenL h M (innV e) (innV e) := by
  refine ⟨?_, ?_⟩
  · have := DenL.ints (h := h) (M := M) (e.map (·.1))
    simpa [innK, List.map_map, Function.comp_def] using this
  · have := DenL.ints (h := h) (M := M) (e.map (·.2))
    simpa [innV, List.map_map, Function.comp_def] using this
theorem Lat.den {M : Nat → Prop} (la : Lat h n as L) (nm : ∀ m ∈ n :: as, ¬ M m) : Den h M (.ref n) (latD L) := by
  refine .refd (nm n List.mem_cons_self) la.top ?_ ?_
  · have k := la.keys
    clear la nm
    induction L with
    | nil => exact .nil
    | cons e L ih =>
      obtain ⟨q, hq⟩ := k e List.mem_cons_self
      exact .cons (key_den hq) (ih fun e he => k e (List.mem_cons_of_mem _ he))
  · have ce := la.cell
    have le := la.len
    have nm' : ∀ m ∈ as, ¬ M m := fun m hm => nm m (List.mem_cons_of_mem _ hm)
    clear la nm
    induction L generalizing as with
    | nil =>
      cases as with
      | nil => exact .nil
      | cons _ _ => simp at le
    | cons e L ih =>
      cases as with
      | nil => simp at le
      | cons a as =>
        refine .cons (.refd (nm' a List.mem_cons_self) (ce 0 a e rfl rfl) (inL_den e.2).1 (inL_den e.2).2) (ih (fun i b x e1 e2 => ce (i + 1) b x (by simpa using e1) (by simpa using e2)) (by simpa using le) fun m hm => nm' m (List.mem_cons_of_mem _ hm))
end

section
variable (pn pa : List D → Rt D)
end
abbrev NN (M : Nat → Prop) (n : Nat) (as : List Nat) : Nat → Prop := fun m => M m ∨ m ∈ n :: as
def Trx (h : Hd) (N : Nat → Prop) (h' : Hd) (N' : Nat → Prop) : Prop := ∀ j c, h[j]? = some c → ¬ N j → h'[j]? = some c ∧ ¬ N' j
theorem Trx.trans {h1 h2 h3 : Hd} {N1 N2 N3 : Nat → Prop} (a : Trx h1 N1 h2 N2) (b : Trx h2 N2 h3 N3) : Trx h1 N1 h3 N3 := fun j c e z => b j c (a j c e z).1 (a j c e z).2
theorem Trx.of {h h' : Hd} {N : Nat → Prop} (k : Keep h h') : Trx h N h' N := fun j c e z => ⟨k j c e, z⟩
abbrev FI (h : Hd) (N : Nat → Prop) : Fr := ⟨h, N, fun _ => False, none, 0⟩
theorem mxI {h : Hd} {N : Nat → Prop} {env : En} {pe : PE} {m : Nat} : Mx (FI h N) [] env pe m ↔ N m := ⟨fun z => z.elim id fun ⟨i, hi, _⟩ => (by simp at hi), .inl⟩
theorem relI {h : Hd} {N : Nat → Prop} {env : En} {pe : PE} (len : env.length = pe.length) (lt : Lt N h) (val : ∀ (i : Nat) (v : D), pe[i]? = some (some v) → ∃ d, env[i]? = some (some d) ∧ Den h N d v) : Rel false [] (FI h N) env h pe :=
  ⟨len, Nat.le_refl _, fun _ _ e _ => e, fun m q => ⟨lt m q, id⟩, Nat.zero_le _, fun i v hi => (by simp at hi), fun i _ _ _ _ hi => (by simp at hi), fun i v _ ev => by
    obtain ⟨d, e, dn⟩ := val i v ev
    exact ⟨d, e, dn.sub fun m => mxI.mp⟩, fun _ z => nomatch z⟩
theorem Rel.valI {h : Hd} {N : Nat → Prop} {env : En} {pe : PE} (r : Rel false [] (FI h N) env h pe) : ∀ (i : Nat) (v : D), pe[i]? = some (some v) → ∃ d, env[i]? = some (some d) ∧ Den h N d v := fun i v ev => by
  obtain ⟨d, e, dn⟩ := r.val i v (by simp) ev
  exact ⟨d, e, dn.sub fun m => mxI.mpr⟩
structure Iv (hin : Hd) (M : Nat → Prop) (n : Nat) (pe : PE) (env : En) (h : Hd) (as : List Nat) (L : Ls) : Prop where
  la : Lat h n as L
  e4 : env[4]? = some (some (.ref n))
  lt : Lt M hin
  rel : Rel false [] (FI h (NN M n as)) env h pe
  new : ∀ m ∈ n :: as, hin.length ≤ m
  keep : Keep hin h
section
variable {hin h h' : Hd} {M : Nat → Prop} {n : Nat} {pe : PE} {env : En} {as as' : List Nat} {L L' : Ls} {c tr he wo : D} {pn pa : List D → Rt D}
theorem Iv.move (iv : Iv hin M n pe env h as L) (la : Lat h' n as' L') (t : Trx h (NN M n as) h' (NN M n as')) (nw : ∀ m ∈ n :: as', hin.length ≤ m) (kp : Keep hin h') : Iv hin M n pe env h' as' L' :=
  ⟨la, iv.e4, iv.lt, relI iv.rel.len (fun m z => z.elim (fun z => Nat.lt_of_lt_of_le (iv.lt m z) kp.len) (la.lt m)) fun i v ev => by
    obtain ⟨d, e, dn⟩ := iv.rel.valI i v ev
    exact ⟨d, e, dn.to t⟩, nw, kp⟩
theorem Iv.later (iv : Iv hin M n pe env h as L) (k : Keep h h') : Iv hin M n pe env h' as L := iv.move (iv.la.keep fun m c e _ => k m c e) (Trx.of k) iv.new (iv.keep.trans k)
theorem Iv.drop (iv : Iv hin M n pe env h as L) (i : Nat) : Iv hin M n (pe.set i none) env h as L := ⟨iv.la, iv.e4, iv.lt, iv.rel.drop i (fun z => nomatch z), iv.new, iv.keep⟩
theorem setAll_ne {i : Nat} : ∀ {ps : List (Nat × D)} {env : En}, i ∉ ps.map (·.1) → (Tw.setAll env ps)[i]? = env[i]?
  | [], _, _ => rfl
  | p :: ps, env, hi => by
    have h1 : p.1 ≠ i := fun z => hi (by simp [z])
    have h2 : i ∉ ps.map (·.1) := fun z => hi (by simp at z ⊢; exact .inr z)
    show (Tw.setAll (env.set p.1 (some p.2)) ps)[i]? = _
    rw [setAll_ne h2, List.getElem?_set_ne h1]
theorem Iv.setAll {α : Type} {g : MG} {un : D → Rt α} {up : α → List (Nat × D)} (iv : Iv hin M n pe env h as L) (hg : TG g un up) {x y : D} (dn : Den h (NN M n as) x y) {a : α} (eu : un y = .ok a) (hs : ∀ u ∈ up a, u.1 ≠ 4 ∧ u.1 < pe.length) :
    ∃ ps, g x h = some ps ∧ Iv hin M n (setP pe (up a)) (Tw.setAll env ps) h as L := by
  have gx := hg h _ x y dn
  rw [eu] at gx
  obtain ⟨ps, e1, e2, e3⟩ := gx
  obtain ⟨r2, m2⟩ := iv.rel.setAll e2 (e3.sub fun n => mxI.mp) fun u hu => ⟨by simp, (hs u hu).2⟩
  refine ⟨ps, e1, iv.la, ?_, iv.lt, r2, iv.new, iv.keep⟩
  rw [setAll_ne, iv.e4]
  rw [e2]
  intro z
  obtain ⟨u, hu, e⟩ := List.mem_map.mp z
  exact (hs u hu).1 e
abbrev pe2 (c tr he wo : D) (a b : D × D × D) : PE := [some c, some tr, some he, some wo, none, some a.1, some a.2.1, some a.2.2, some b.1, some b.2.1, some b.2.2]
end
end Pq

namespace Pq
open PySem Tw
def qGot {ρ : Type} (o : Option D) (f : D → Rt ρ) : Rt ρ := match o with
  | some v => f v
  | none => .no
@[simp] theorem qGot_some {ρ : Type} (v : D) (f : D → Rt ρ) : qGot (some v) f = f v := id rfl
section
variable {st : Bool} {mu : List Nat} {pe : PE} {ρ : Type} {C : Ctx ρ} {b : MS}
end
end Pq

namespace Pq
open PySem Tw
section
variable {st : Bool} {mu : List Nat} {j : Nat} {pe : PE} {F : Fr} {env : En} {α : Type} {a : ME} {w : D}
end
end Pq

set_option maxHeartbeats 4000000
namespace Cm
open PySem Tw Pq
def p_law_cell_at : List D → Rt D
  | [x1, x2] => (qCond (qVal (qBin dLt (Rt.ok x2) (qN dLen (qCons (Rt.ok x1) qNil)))) (((qBin dIx (Rt.ok x1) (Rt.ok x2))).bind fun v3 => Rt.ok v3) (((Rt.ok (D.int 0))).bind fun v4 => Rt.ok v4))
  | _ => .no
theorem dp_law_cell_at : DfP false m_law_cell_at p_law_cell_at := dfP (fun vs h => match vs, h with | [x1, x2], _ => (show BS false [] [some x1, some x2] _ _ _ from (by rw [p_law_cell_at]; exact (bs_ifA (tt_val (TE.v (te_bin oc_lt (TE.v (te_var (i := 1))) (TE.v (te_n oc_len (tva_cons (TE.v (te_var (i := 0))) tva_nil)))))) (bs_ret (inj := fun r => r) (retIn_nj retIn_ret) (te_bin oc_ix (TE.v (te_var (i := 0))) (TE.v (te_var (i := 1))))) (bs_nil (show BS false [] [some x1, some x2] _ _ _ from (bs_ret (inj := fun r => r) retIn_ret te_int))))))) (fun vs h => match vs, h with | [], _ => rfl | [_], _ => rfl | [_, _], h => absurd rfl h | _ :: _ :: _ :: _, _ => rfl)
def p_law_box : List D → Rt D
  | [x1, x2] => ((qCall p_law_cell_at (qCons (Rt.ok x1) (qCons (Rt.ok x2) qNil))).bind fun x3 => (((qNew (qN dLst (qCons (qBin dTimes (qN dAbs (qCons (Rt.ok x3) qNil)) (qN dInt (qCons (qBin dGe (qN dAbs (qCons (Rt.ok x3) qNil)) (qBin dPow (Rt.ok (D.int 10)) (Rt.ok (D.int 18)))) qNil))) (qCons (qBin dAdd (qBin dAdd (qBin dMod (Rt.ok x3) (Rt.ok (D.int 2305843009213693951))) (qBin dTimes (Rt.ok (D.int 39373)) (Rt.ok x2))) (Rt.ok (D.int 29))) (qCons (Rt.ok (D.int 0)) qNil)))))).bind fun v4 => Rt.ok v4))
  | _ => .no
theorem dp_law_box : DfP true m_law_box p_law_box := dfP (fun vs h => match vs, h with | [x1, x2], _ => (show BS false [] [some x1, some x2, none] _ _ _ from (by rw [p_law_box]; exact (bs_set (i := 2) (te_call dp_law_cell_at (ta_cons (te_var (i := 0)) (ta_cons (te_var (i := 1)) ta_nil))) (fun x3 => (show BS false [] [some x1, some x2, some x3] _ _ _ from (bs_retF (inj := fun r => r) retIn_ret (TL.f (tl_lst (ta_cons (te_bin oc_times (TE.v (te_n oc_abs (tva_cons (TE.v (te_var (i := 2))) tva_nil))) (TE.v (te_n oc_toInt (tva_cons (TE.v (te_bin oc_ge (TE.v (te_n oc_abs (tva_cons (TE.v (te_var (i := 2))) tva_nil))) (TE.v (te_bin oc_pow (TE.v te_int) (TE.v te_int))))) tva_nil)))) (ta_cons (te_bin oc_add (TE.v (te_bin oc_add (TE.v (te_bin oc_mod (TE.v (te_var (i := 2))) (TE.v te_int))) (TE.v (te_bin oc_times (TE.v te_int) (TE.v (te_var (i := 1))))))) (TE.v te_int)) (ta_cons te_int ta_nil)))))))))))) (fun vs h => match vs, h with | [], _ => rfl | [_], _ => rfl | [_, _], h => absurd rfl h | _ :: _ :: _ :: _, _ => rfl)
def p_law_take : Nat → D → List D → Rt (D × D)
  | 0, _, _ => .no
  | n + 1, x1, [x2] => (qCond (qVal (qBin dGt (qBin dIx (Rt.ok x1) (Rt.ok (D.int 0))) (Rt.ok (D.int 0)))) ((qBin dMod (qBin dIx (Rt.ok x1) (Rt.ok (D.int 0))) (Rt.ok x2)).bind fun x3 => ((qBin dFdiv (qBin dIx (Rt.ok x1) (Rt.ok (D.int 0))) (Rt.ok x2)).bind fun v4 => (Rt.ok (D.int 0)).bind fun n5 => (qSetIx x1 n5 v4).bind fun x6 => (((Rt.ok x3)).bind fun v7 => Rt.ok (v7, x6)))) (qCond (qVal (qBin dGt (Rt.ok x2) (qBin dPow (Rt.ok (D.int 10)) (Rt.ok (D.int 7))))) (((qsBin dMod (qsBin dAdd (qsCallB (p_law_take n) ((qCons (qBin dPow (Rt.ok (D.int 10)) (Rt.ok (D.int 7))) qNil).bind fun v => Rt.ok (v, x1))) (fun b8 => (qsBin dTimes ((qBin dPow (Rt.ok (D.int 10)) (Rt.ok (D.int 7))).bind fun v => Rt.ok (v, b8)) (fun b9 => (qsCallB (p_law_take n) ((qCons (qBin dAdd (qBin dFdiv (Rt.ok x2) (qBin dPow (Rt.ok (D.int 10)) (Rt.ok (D.int 7)))) (Rt.ok (D.int 1))) qNil).bind fun v => Rt.ok (v, b9))))))) (fun b10 => ((Rt.ok x2).bind fun v => Rt.ok (v, b10))))).bind fun v11 => Rt.ok v11) ((qBin dAdd (qBin dIx (Rt.ok x1) (Rt.ok (D.int 2))) (Rt.ok (D.int 1))).bind fun v12 => (Rt.ok (D.int 2)).bind fun n13 => (qSetIx x1 n13 v12).bind fun x14 => ((qBin dMod (qBin dTimes (qBin dAdd (qBin dIx (Rt.ok x14) (Rt.ok (D.int 1))) (qBin dTimes (Rt.ok (D.int 48271)) (qBin dIx (Rt.ok x14) (Rt.ok (D.int 2))))) (qBin dAdd (Rt.ok (D.int 39373)) (qBin dIx (Rt.ok x14) (Rt.ok (D.int 2))))) (Rt.ok (D.int 2147483647))).bind fun x15 => ((qBin dMod (qBin dTimes (qBin dAdd (qBin dAdd (Rt.ok x15) (qBin dIx (Rt.ok x14) (Rt.ok (D.int 2)))) (qBin dFdiv (qBin dIx (Rt.ok x14) (Rt.ok (D.int 1))) (Rt.ok (D.int 1000003)))) (qBin dAdd (qBin dMod (Rt.ok x15) (Rt.ok (D.int 40009))) (Rt.ok (D.int 7)))) (Rt.ok (D.int 2147483629))).bind fun x16 => (((qBin dMod (qBin dFdiv (qBin dMod (qBin dAdd (qBin dTimes (Rt.ok x16) (Rt.ok (D.int 48271))) (Rt.ok x15)) (Rt.ok (D.int 2147483587))) (Rt.ok (D.int 64))) (Rt.ok x2))).bind fun v17 => Rt.ok (v17, x14)))))))
  | _ + 1, _, _ => .no
theorem dp_law_take : ∀ n : Nat, DfB (m_law_take n) (p_law_take n)
  | 0 => dfB (fun _ _ _ => bs_no) (fun _ _ _ => rfl)
  | n + 1 => have ih := dp_law_take n; dfB (fun x1 vs h => match vs, h with | [x2], _ => (show BS true [0] [some x1, some x2, none, none, none] _ _ _ from (by rw [p_law_take]; exact (bs_ifA (tt_val (TE.v (te_bin oc_gt (TE.v (te_bin oc_ix (tv_var (i := 0)) (TE.v te_int))) (TE.v te_int)))) (bs_set (i := 2) (te_bin oc_mod (TE.v (te_bin oc_ix (tv_var (i := 0)) (TE.v te_int))) (TE.v (te_var (i := 1)))) (fun x3 => (show BS true [0] [some x1, some x2, some x3, none, none] _ _ _ from (bs_setIx (i := 0) (te_bin oc_fdiv (TE.v (te_bin oc_ix (tv_var (i := 0)) (TE.v te_int))) (TE.v (te_var (i := 1)))) (TE.v te_int) (fun x6 => (show BS true [0] [some x6, some x2, some x3, none, none] _ _ _ from (bs_retB (inj := fun r => r) (retIn_nj retIn_ret) (te_var (i := 2))))))))) (bs_nil (show BS true [0] [some x1, some x2, none, none, none] _ _ _ from (bs_ifA (tt_val (TE.v (te_bin oc_gt (TE.v (te_var (i := 1))) (TE.v (te_bin oc_pow (TE.v te_int) (TE.v te_int)))))) (bs_retS (inj := fun r => r) (retIn_nj retIn_ret) (tes_bin oc_mod (tes_bin oc_add (tes_callB ih (tas_of (ta_cons (te_bin oc_pow (TE.v te_int) (TE.v te_int)) ta_nil))) (fun b8 => (tes_bin oc_times (tes_of (te_bin oc_pow (TE.v te_int) (TE.v te_int))) (fun b9 => (tes_callB ih (tas_of (ta_cons (te_bin oc_add (TE.v (te_bin oc_fdiv (TE.v (te_var (i := 1))) (TE.v (te_bin oc_pow (TE.v te_int) (TE.v te_int))))) (TE.v te_int)) ta_nil))))))) (fun b10 => (tes_of (te_var (i := 1)))))) (bs_nil (show BS true [0] [some x1, some x2, none, none, none] _ _ _ from (bs_setIx (i := 0) (te_bin oc_add (TE.v (te_bin oc_ix (tv_var (i := 0)) (TE.v te_int))) (TE.v te_int)) (TE.v te_int) (fun x14 => (show BS true [0] [some x14, some x2, none, none, none] _ _ _ from (bs_set (i := 3) (te_bin oc_mod (TE.v (te_bin oc_times (TE.v (te_bin oc_add (TE.v (te_bin oc_ix (tv_var (i := 0)) (TE.v te_int))) (TE.v (te_bin oc_times (TE.v te_int) (TE.v (te_bin oc_ix (tv_var (i := 0)) (TE.v te_int))))))) (TE.v (te_bin oc_add (TE.v te_int) (TE.v (te_bin oc_ix (tv_var (i := 0)) (TE.v te_int))))))) (TE.v te_int)) (fun x15 => (show BS true [0] [some x14, some x2, none, some x15, none] _ _ _ from (bs_set (i := 4) (te_bin oc_mod (TE.v (te_bin oc_times (TE.v (te_bin oc_add (TE.v (te_bin oc_add (TE.v (te_var (i := 3))) (TE.v (te_bin oc_ix (tv_var (i := 0)) (TE.v te_int))))) (TE.v (te_bin oc_fdiv (TE.v (te_bin oc_ix (tv_var (i := 0)) (TE.v te_int))) (TE.v te_int))))) (TE.v (te_bin oc_add (TE.v (te_bin oc_mod (TE.v (te_var (i := 3))) (TE.v te_int))) (TE.v te_int))))) (TE.v te_int)) (fun x16 => (show BS true [0] [some x14, some x2, none, some x15, some x16] _ _ _ from (bs_retB (inj := fun r => r) retIn_ret (te_bin oc_mod (TE.v (te_bin oc_fdiv (TE.v (te_bin oc_mod (TE.v (te_bin oc_add (TE.v (te_bin oc_times (TE.v (te_var (i := 4))) (TE.v te_int))) (TE.v (te_var (i := 3))))) (TE.v te_int))) (TE.v te_int))) (TE.v (te_var (i := 1))))))))))))))))))))))) (fun x vs h => match vs, h with | [], _ => rfl | [_], h => absurd rfl h | _ :: _ :: _, _ => rfl)
def p_law_same_2 : Nat → List D → Rt D
  | 0, _ => .no
  | n + 1, [x1, x2] => (qCond (qVal (qN dIsi (qCons (Rt.ok x2) (qCons (qN dTup (qCons (Rt.ok (.ty "list")) (qCons (Rt.ok (.ty "tuple")) qNil))) qNil)))) (qCond (qOr (qVal (qBin dNe (qN dIsi (qCons (Rt.ok x1) (qCons (Rt.ok (.ty "list")) qNil))) (qN dIsi (qCons (Rt.ok x2) (qCons (Rt.ok (.ty "list")) qNil))))) (qVal (qBin dNe (qN dIsi (qCons (Rt.ok x1) (qCons (Rt.ok (.ty "tuple")) qNil))) (qN dIsi (qCons (Rt.ok x2) (qCons (Rt.ok (.ty "tuple")) qNil)))))) (((Rt.ok (D.bl false))).bind fun v3 => Rt.ok v3) (((qEAnd (qBin dEq (qN dLen (qCons (Rt.ok x1) qNil)) (qN dLen (qCons (Rt.ok x2) qNil))) (qN dAll (qCons (qComp (qiN zipQ (qCons (Rt.ok x1) (qCons (Rt.ok x2) qNil))) (fun v5 => (un2 v5).bind fun a4 => (Rt.ok true)) (fun v5 => (un2 v5).bind fun a4 => (qCall (p_law_same_2 n) (qCons (Rt.ok a4.1) (qCons (Rt.ok a4.2) qNil))))) qNil)))).bind fun v6 => Rt.ok v6)) (qCond (qOr (qVal (qBin dIs (Rt.ok x2) (Rt.ok D.non))) (qVal (qN dIsi (qCons (Rt.ok x2) (qCons (qN dTup (qCons (Rt.ok (.ty "bool")) (qCons (Rt.ok (.ty "str")) qNil))) qNil))))) (((qEAnd (qBin dEq (Rt.ok x1) (Rt.ok x2)) (qEAnd (qBin dEq (qN dIsi (qCons (Rt.ok x1) (qCons (Rt.ok (.ty "bool")) qNil))) (qN dIsi (qCons (Rt.ok x2) (qCons (Rt.ok (.ty "bool")) qNil)))) (qBin dEq (qBin dIs (Rt.ok x1) (Rt.ok D.non)) (qBin dIs (Rt.ok x2) (Rt.ok D.non)))))).bind fun v7 => Rt.ok v7) (((qEAnd (qN dIsi (qCons (Rt.ok x1) (qCons (Rt.ok (.ty "int")) qNil))) (qEAnd (qENot (qN dIsi (qCons (Rt.ok x1) (qCons (Rt.ok (.ty "bool")) qNil)))) (qBin dEq (Rt.ok x1) (Rt.ok x2))))).bind fun v8 => Rt.ok v8)))
  | _ + 1, _ => .no
theorem dp_law_same_2 : ∀ n : Nat, DfP false (m_law_same_2 n) (p_law_same_2 n)
  | 0 => dfP (fun _ _ => bs_no) (fun _ _ => rfl)
  | n + 1 => have ih := dp_law_same_2 n; dfP (fun vs h => match vs, h with | [x1, x2], _ => (show BS false [] [some x1, some x2, none, none] _ _ _ from (by rw [p_law_same_2]; exact (bs_ifA (tt_val (TE.v (te_n oc_isi (tva_cons (TE.v (te_var (i := 1))) (tva_cons (TE.v (te_tup (ta_cons te_ty (ta_cons te_ty ta_nil)))) tva_nil))))) (bs_ifA (tt_or (tt_val (TE.v (te_bin oc_ne (TE.v (te_n oc_isi (tva_cons (TE.v (te_var (i := 0))) (tva_cons (TE.v te_ty) tva_nil)))) (TE.v (te_n oc_isi (tva_cons (TE.v (te_var (i := 1))) (tva_cons (TE.v te_ty) tva_nil))))))) (tt_val (TE.v (te_bin oc_ne (TE.v (te_n oc_isi (tva_cons (TE.v (te_var (i := 0))) (tva_cons (TE.v te_ty) tva_nil)))) (TE.v (te_n oc_isi (tva_cons (TE.v (te_var (i := 1))) (tva_cons (TE.v te_ty) tva_nil)))))))) (bs_ret (inj := fun r => r) (retIn_nj (retIn_nj retIn_ret)) te_bl) (bs_nil (show BS false [] [some x1, some x2, none, none] _ _ _ from (bs_ret (inj := fun r => r) (retIn_nj retIn_ret) (te_and (TE.v (te_bin oc_eq (TE.v (te_n oc_len (tva_cons (TE.v (te_var (i := 0))) tva_nil))) (TE.v (te_n oc_len (tva_cons (TE.v (te_var (i := 1))) tva_nil))))) (te_n oc_all (tva_cons (TE.v (te_comp (un := un2) (vs := [2, 3]) (sl := [2, 3]) (ti_weak (ti_zipB (ta_cons (te_var (i := 0)) (ta_cons (te_var (i := 1)) ta_nil)))) (tg_2 2 3) (fun a4 => tt_true) (fun a4 => (te_call ih (ta_cons (te_var (i := 2)) (ta_cons (te_var (i := 3)) ta_nil)))))) tva_nil))))))) (bs_nil (show BS false [] [some x1, some x2, none, none] _ _ _ from (bs_ifA (tt_or (tt_val (TE.v (te_bin oc_is (TE.v (te_var (i := 1))) (TE.v te_non)))) (tt_val (TE.v (te_n oc_isi (tva_cons (TE.v (te_var (i := 1))) (tva_cons (TE.v (te_tup (ta_cons te_ty (ta_cons te_ty ta_nil)))) tva_nil)))))) (bs_ret (inj := fun r => r) (retIn_nj retIn_ret) (te_and (TE.v (te_bin oc_eq (TE.v (te_var (i := 0))) (TE.v (te_var (i := 1))))) (te_and (TE.v (te_bin oc_eq (TE.v (te_n oc_isi (tva_cons (TE.v (te_var (i := 0))) (tva_cons (TE.v te_ty) tva_nil)))) (TE.v (te_n oc_isi (tva_cons (TE.v (te_var (i := 1))) (tva_cons (TE.v te_ty) tva_nil)))))) (te_bin oc_eq (TE.v (te_bin oc_is (TE.v (te_var (i := 0))) (TE.v te_non))) (TE.v (te_bin oc_is (TE.v (te_var (i := 1))) (TE.v te_non))))))) (bs_nil (show BS false [] [some x1, some x2, none, none] _ _ _ from (bs_ret (inj := fun r => r) retIn_ret (te_and (TE.v (te_n oc_isi (tva_cons (TE.v (te_var (i := 0))) (tva_cons (TE.v te_ty) tva_nil)))) (te_and (TE.v (te_not (TE.v (te_n oc_isi (tva_cons (TE.v (te_var (i := 0))) (tva_cons (TE.v te_ty) tva_nil)))))) (te_bin oc_eq (TE.v (te_var (i := 0))) (TE.v (te_var (i := 1)))))))))))))))) (fun vs h => match vs, h with | [], _ => rfl | [_], _ => rfl | [_, _], h => absurd rfl h | _ :: _ :: _ :: _, _ => rfl)
end Cm

namespace Cm
open PySem PySem.Spec PyProof.Rows L2 Tw

def tI (ns : List Int) : D := .tup (ns.map .int)
def lI (ns : List Int) : D := .lst (ns.map .int)
def lW (ws : List (List Int)) : D := .lst (ws.map tI)
def cI (ns : List Int) : Cell := .lst (ns.map .int)
def cW (ws : List (List Int)) : Cell := .lst (ws.map tI)
def plk : Nat → D → Bool
  | 0, _ => false
  | _ + 1, .non => true
  | _ + 1, .bl _ => true
  | _ + 1, .int _ => true
  | _ + 1, .str _ => true
  | k + 1, .tup xs => xs.all (plk k)
  | k + 1, .lst xs => xs.all (plk k)
  | k + 1, .rol xs => xs.all (plk k)
  | _ + 1, _ => false
@[simp] theorem plk_int (k : Nat) (i : Int) : plk (k + 1) (.int i) = true := rfl
@[simp] theorem plk_bl (k : Nat) (i : Bool) : plk (k + 1) (.bl i) = true := rfl
@[simp] theorem plk_non (k : Nat) : plk (k + 1) .non = true := rfl
@[simp] theorem plk_str (k : Nat) (s : Str) : plk (k + 1) (.str s) = true := rfl
theorem all_ints (k : Nat) (ns : List Int) : (ns.map D.int).all (plk (k + 1)) = true := by simp [plk]
@[simp] theorem plk_tI (k : Nat) (ns : List Int) : plk (k + 2) (tI ns) = true := by simp [plk, tI]
@[simp] theorem plk_lI (k : Nat) (ns : List Int) : plk (k + 2) (lI ns) = true := by simp [plk, lI]
theorem all_words (k : Nat) (ws : List (List Int)) : (ws.map tI).all (plk (k + 2)) = true := by simp
@[simp] theorem plk_lW (k : Nat) (ws : List (List Int)) : plk (k + 3) (lW ws) = true := by simp [plk, lW]
def Fc : Cell → Prop
  | .lst xs => xs.all (plk 10) = true
  | _ => False
def Fl (h : Hd) : Prop := ∀ c ∈ h, Fc c
@[simp] theorem fc_cI (ns : List Int) : Fc (cI ns) := all_ints 9 ns
@[simp] theorem fc_cW (ws : List (List Int)) : Fc (cW ws) := all_words 8 ws
theorem Fl.append {h j : Hd} (a : Fl h) (b : Fl j) : Fl (h ++ j) := fun c hc => (List.mem_append.mp hc).elim (a c) (b c)
theorem Fl.left {h j : Hd} (a : Fl (h ++ j)) : Fl h := fun c hc => a c (List.mem_append_left _ hc)
theorem Fl.push {h : Hd} {c : Cell} (a : Fl h) (b : Fc c) : Fl (h ++ [c]) := a.append fun d hd => by rw [List.mem_singleton.mp hd]; exact b
theorem Fl.put {h : Hd} {c : Cell} (a : Fl h) (b : Fc c) (n : Nat) : Fl (h.set n c) := fun d hd => (List.mem_or_eq_of_mem_set hd).elim (a d) fun e => by rw [e]; exact b
theorem Fl.nil : Fl [] := fun _ z => nomatch z
def Ab (h0 h' : Hd) : Prop := ∃ j, h' = h0 ++ j ∧ Fl j
theorem Ab.refl (h : Hd) : Ab h h := ⟨[], by simp, Fl.nil⟩
theorem Ab.push {h0 h' : Hd} {c : Cell} (a : Ab h0 h') (b : Fc c) : Ab h0 (h' ++ [c]) := by
  obtain ⟨j, rfl, f⟩ := a
  exact ⟨j ++ [c], by simp, f.push b⟩
theorem Ab.put {h0 h' : Hd} {c : Cell} {n : Nat} (a : Ab h0 h') (b : Fc c) (hn : h0.length ≤ n) : Ab h0 (h'.set n c) := by
  obtain ⟨j, rfl, f⟩ := a
  exact ⟨j.set (n - h0.length) c, List.set_append_right _ _ hn, f.put b _⟩
theorem Ab.fl {h0 h' : Hd} (a : Ab h0 h') (f : Fl h0) : Fl h' := by
  obtain ⟨j, rfl, g⟩ := a
  exact f.append g
theorem Ab.len {h0 h' : Hd} (a : Ab h0 h') : h0.length ≤ h'.length := by
  obtain ⟨j, rfl, g⟩ := a
  simp
theorem Ab.get {h0 h' : Hd} (a : Ab h0 h') {n : Nat} (hn : n < h0.length) : h'[n]? = h0[n]? := by
  obtain ⟨j, rfl, g⟩ := a
  exact List.getElem?_append_left hn
theorem lt_of_get {h : Hd} {n : Nat} {c : Cell} (e : h[n]? = some c) : n < h.length := (List.getElem?_eq_some_iff.mp e).1
end Cm

namespace Cm
open PySem PySem.Spec PyProof.Rows L2 Tw

section
variable {env : En} {h : Hd}
@[simp] theorem x_eVar (i : Nat) : eVar i env h = (match env[i]? with
  | some (some d) => .ok d h
  | _ => .stuck) := id rfl
@[simp] theorem x_eC (d : D) : eC d env h = .ok d h := id rfl
@[simp] theorem x_eUn (op : D → Hd → Option D) (a : ME) : eUn op a env h = (a env h).bind fun x h1 => R.lift h1 (op x h1) := id rfl
@[simp] theorem x_eBin (op : D → D → Hd → Option D) (a b : ME) : eBin op a b env h = (a env h).bind fun x h1 => (b env h1).bind fun y h2 => R.lift h2 (op x y h2) := id rfl
@[simp] theorem x_aNil : aNil env h = .ok [] h := id rfl
@[simp] theorem x_aCons (a : ME) (as : MA) : aCons a as env h = (a env h).bind fun x h1 => (as env h1).bind fun xs h2 => .ok (x :: xs) h2 := id rfl
@[simp] theorem x_eN (op : List D → Hd → Option D) (as : MA) : eN op as env h = (as env h).bind fun xs h1 => R.lift h1 (op xs h1) := id rfl
@[simp] theorem x_asB (b : Bool) : asB h (.bl b) = .ok b h := id rfl
@[simp] theorem x_tVal (a : ME) : tVal a env h = (a env h).bind fun x h1 => asB h1 x := id rfl
@[simp] theorem x_tNot (a : MT) : tNot a env h = (a env h).bind fun b h1 => .ok (!b) h1 := id rfl
@[simp] theorem x_tAnd (a b : MT) : tAnd a b env h = (a env h).bind fun c h1 => if c = true then b env h1 else .ok false h1 := id rfl
@[simp] theorem x_tOr (a b : MT) : tOr a b env h = (a env h).bind fun c h1 => if c = true then .ok true h1 else b env h1 := id rfl
@[simp] theorem x_eIf (t : MT) (a b : ME) : eIf t a b env h = (t env h).bind fun c h1 => if c = true then a env h1 else b env h1 := id rfl
@[simp] theorem x_asBD (c : Bool) (f : Bool → R D) : asBD h (.bl c) f = f c := id rfl
@[simp] theorem x_eAnd (a b : ME) : eAnd a b env h = (a env h).bind fun x h1 => asBD h1 x fun c => if c = true then b env h1 else .ok (.bl false) h1 := id rfl
@[simp] theorem x_eOr (a b : ME) : eOr a b env h = (a env h).bind fun x h1 => asBD h1 x fun c => if c = true then .ok (.bl true) h1 else b env h1 := id rfl
@[simp] theorem x_eNot (a : ME) : eNot a env h = (a env h).bind fun x h1 => asBD h1 x fun c => .ok (.bl (!c)) h1 := id rfl
@[simp] theorem x_eCall (mf : MF) (as : MA) : eCall mf as env h = (as env h).bind fun ds h1 => mf ds h1 := id rfl
@[simp] theorem x_oNone : oNone env h = .ok none h := id rfl
@[simp] theorem x_oSome (a : ME) : oSome a env h = (a env h).bind fun x h1 => asI h1 x := id rfl
@[simp] theorem x_asI (i : Int) : asI h (.int i) = .ok (some i) h := id rfl
@[simp] theorem x_eSl (a : ME) (lo hi : MO) : eSl a lo hi env h = (a env h).bind fun x h1 => (lo env h1).bind fun l h2 => (hi env h2).bind fun u h3 => R.lift h3 (dSl x l u h3) := id rfl
@[simp] theorem x_sSeq (a b : MS) : sSeq a b env h = (match a env h with
  | .nx env' h' => b env' h'
  | r => r) := id rfl
@[simp] theorem x_sDrop (a : ME) : sDrop a env h = RS.of env (a env h) fun _ h1 => .nx env h1 := id rfl
@[simp] theorem x_sRet (a : ME) : sRet a env h = RS.of env (a env h) fun d h1 => .rt d h1 := id rfl
@[simp] theorem x_sRetN : sRetN env h = .rt .non h := id rfl
@[simp] theorem x_sBk : sBk env h = .bk env h := id rfl
@[simp] theorem x_sCt : sCt env h = .ct env h := id rfl
@[simp] theorem x_sNil : sNil env h = .nx env h := id rfl
@[simp] theorem x_sIf (t : MT) (a b : MS) : sIf t a b env h = RS.ofB env (t env h) fun c h1 => if c = true then a env h1 else b env h1 := id rfl
@[simp] theorem x_gNm (i : Nat) (d : D) : gNm i d h = some [(i, d)] := id rfl
@[simp] theorem x_gTp (gs : List MG) (ds : List D) : gTp gs (.tup ds) h = gAll gs ds h := id rfl
@[simp] theorem x_gAll0 : gAll [] [] h = some [] := id rfl
@[simp] theorem x_gAll (g : MG) (gs : List MG) (d : D) (ds : List D) : gAll (g :: gs) (d :: ds) h = (match g d h, gAll gs ds h with
    | some a, some b => some (a ++ b)
    | _, _ => none) := id rfl
@[simp] theorem x_setAll0 : setAll env [] = env := id rfl
@[simp] theorem x_setAll (p : Nat × D) (ps : List (Nat × D)) : setAll env (p :: ps) = setAll (env.set p.1 (some p.2)) ps := id rfl
@[simp] theorem x_sAsg (g : MG) (a : ME) : sAsg g a env h = RS.of env (a env h) fun d h1 => match g (box d h1).1 (box d h1).2 with
  | some ps => .nx (setAll env ps) (box d h1).2
  | none => .stuck := id rfl
@[simp] theorem x_sAug (i : Nat) (f : D → D → Hd → Option D) (me : ME) : sAug i f me env h = (match env[i]? with
  | some (some x) => RS.of env (me env h) fun y h1 => match f x y h1 with
    | some z => if z.set = true then .nx (env.set i (some z)) h1 else .stuck
    | none => .stuck
  | _ => .stuck) := id rfl
@[simp] theorem x_eBM (T : String) (f : D → List D → Hd → Option (D × Hd)) (mo : ME) (as : MA) : eBM T f mo as env h = (mo env h).bind fun x h1 => if tyD T h1 x = true then (as env h1).bind fun ds h2 => liftM (f x ds h2) else .stuck := id rfl
@[simp] theorem x_liftM (d : D) (h1 : Hd) : liftM (some (d, h1)) = .ok d h1 := id rfl
@[simp] theorem x_eChain (f g : D → D → Hd → Option D) (a b c : ME) : eChain f g a b c env h = (a env h).bind fun x h1 => (b env h1).bind fun y h2 => match f x y h2 with
  | some (.bl true) => if y.set = true then (c env h2).bind fun z h3 => R.lift h3 (g y z h3) else .stuck
  | some (.bl false) => .ok (.bl false) h2
  | _ => .stuck := id rfl
@[simp] theorem x_iSeq (a : ME) : iSeq a env h = (match a env h with
  | .ok d h1 => seqI h1 d
  | .exc e h1 => .exc e h1
  | .stuck => .stuck) := id rfl
@[simp] theorem x_iN (f : List D → Option (List D)) (as : MA) : iN f as env h = (match as env h with
  | .ok ds h1 => liftI h1 (f ds)
  | .exc e h1 => .exc e h1
  | .stuck => .stuck) := id rfl
@[simp] theorem x_iS (f : Hd → List D → Option (List D × Src)) (as : MA) : iS f as env h = (match as env h with
  | .ok ds h1 => liftS h1 (f h1 ds)
  | .exc e h1 => .exc e h1
  | .stuck => .stuck) := id rfl
@[simp] theorem x_liftI (items : List D) : liftI h (some items) = .ok (items, []) h := id rfl
@[simp] theorem x_liftS (r : List D × Src) : liftS h (some r) = .ok r h := id rfl
@[simp] theorem x_srcOk0 : srcOk [] h = true := id rfl
@[simp] theorem box_int (i : Int) : box (.int i) h = (.int i, h) := id rfl
@[simp] theorem box_bl (i : Bool) : box (.bl i) h = (.bl i, h) := id rfl
@[simp] theorem box_non : box .non h = (.non, h) := id rfl
@[simp] theorem box_str (s : Str) : box (.str s) h = (.str s, h) := id rfl
@[simp] theorem box_ref (n : Nat) : box (.ref n) h = (.ref n, h) := id rfl
@[simp] theorem box_rol (xs : List D) : box (.rol xs) h = (.rol xs, h) := id rfl
theorem pureL_ints : ∀ ns : List Int, pureL (ns.map .int) = true
  | [] => rfl
  | n :: ns => by
    show (true && pureL (ns.map .int)) = true
    rw [pureL_ints ns]; rfl
@[simp] theorem pure_tI (ns : List Int) : (tI ns).pure = true := pureL_ints ns
theorem pureL_words : ∀ ns : List (List Int), pureL (ns.map tI) = true
  | [] => rfl
  | n :: ns => by
    show ((tI n).pure && pureL (ns.map tI)) = true
    rw [pureL_words ns, pure_tI]; rfl
@[simp] theorem box_tI (ns : List Int) : box (tI ns) h = (tI ns, h) := box_pure _ _ (pure_tI ns)
theorem boxL_ints (ns : List Int) : boxL (ns.map .int) h = (ns.map .int, h) := boxL_pure _ _ (pureL_ints ns)
theorem boxL_words (ns : List (List Int)) : boxL (ns.map tI) h = (ns.map tI, h) := boxL_pure _ _ (pureL_words ns)
@[simp] theorem box_lI (ns : List Int) : box (lI ns) h = (.ref h.length, h ++ [cI ns]) := by
  unfold lI cI box
  rw [boxL_ints]
@[simp] theorem box_lW (ns : List (List Int)) : box (lW ns) h = (.ref h.length, h ++ [cW ns]) := by
  unfold lW cW box
  rw [boxL_words]
@[simp] theorem boxL_nil : boxL [] h = ([], h) := id rfl
@[simp] theorem boxL_cons (x : D) (xs : List D) : boxL (x :: xs) h = ((box x h).1 :: (boxL xs (box x h).2).1, (boxL xs (box x h).2).2) := id rfl
@[simp] theorem box_tup (x : D) (xs : List D) : box (.tup (x :: xs)) h = (.tup (boxL (x :: xs) h).1, (boxL (x :: xs) h).2) := id rfl
theorem set_of_ints : ∀ ns : List Int, setL (ns.map .int) = true := fun ns => setL_of_pure (pureL_ints ns)
@[simp] theorem set_tI (ns : List Int) : (tI ns).set = true := D.set_of_pure (pure_tI ns)
@[simp] theorem set_int (i : Int) : (D.int i).set = true := id rfl
@[simp] theorem set_bl (i : Bool) : (D.bl i).set = true := id rfl
@[simp] theorem o_add (i j : Int) : dAdd (.int i) (.int j) h = some (.int (i + j)) := id rfl
@[simp] theorem o_sub (i j : Int) : dSub (.int i) (.int j) h = some (.int (i - j)) := id rfl
@[simp] theorem o_lt (i j : Int) : dLt (.int i) (.int j) h = some (.bl (decide (i < j))) := id rfl
@[simp] theorem o_le (i j : Int) : dLe (.int i) (.int j) h = some (.bl (decide (i ≤ j))) := id rfl
@[simp] theorem o_gt (i j : Int) : dGt (.int i) (.int j) h = some (.bl (decide (j < i))) := id rfl
@[simp] theorem o_ge (i j : Int) : dGe (.int i) (.int j) h = some (.bl (decide (j ≤ i))) := id rfl
@[simp] theorem o_neg (i : Int) : dNeg (.int i) h = some (.int (-i)) := id rfl
@[simp] theorem o_iadd (i j : Int) : dIAdd (.int i) (.int j) h = some (.int (i + j)) := id rfl
@[simp] theorem o_isub (i j : Int) : dISub (.int i) (.int j) h = some (.int (i - j)) := id rfl
@[simp] theorem o_isn (d : D) : dIs d .non h = some (.bl (Tw.isNon d)) := id rfl
@[simp] theorem o_isNotn (d : D) : dIsNot d .non h = some (.bl (!Tw.isNon d)) := id rfl
@[simp] theorem o_isNon_non : Tw.isNon .non = true := id rfl
@[simp] theorem o_isNon_tI (w : List Int) : Tw.isNon (tI w) = false := id rfl
@[simp] theorem o_isNon_tup (w : List D) : Tw.isNon (.tup w) = false := id rfl
@[simp] theorem o_isNon_str (w : Str) : Tw.isNon (.str w) = false := id rfl
theorem o_mod {i j : Int} (hj : 0 < j) : dMod (.int i) (.int j) h = some (.int (i % j)) := by simp [dMod, hj]
theorem o_fdiv {i j : Int} (hj : 0 < j) (hs : j.natAbs < 2 ^ 8000) : dFdiv (.int i) (.int j) h = some (.int (i / j)) := by simp only [dFdiv, hj, hs, decide_true, Bool.and_self, if_true]
theorem o_mul {i j : Int} (hi : -(2 ^ 64) < i) (hi2 : i < 2 ^ 64) : dTimes (.int i) (.int j) h = some (.int (i * j)) := by
  simp only [dTimes, dMul, mulOk, hi, hi2, decide_true, Bool.true_or, Bool.and_self, if_true]
theorem o_mul2 {i j : Int} (hi : -(2 ^ 64) < j) (hi2 : j < 2 ^ 64) : dTimes (.int i) (.int j) h = some (.int (i * j)) := by
  simp only [dTimes, dMul, mulOk, hi, hi2, decide_true, Bool.true_or, Bool.or_true, Bool.and_self, if_true]
@[simp] theorem o_eqI (i j : Int) : dEq (.int i) (.int j) h = some (.bl (i == j)) := id rfl
@[simp] theorem o_neI (i j : Int) : dNe (.int i) (.int j) h = some (.bl (!(i == j))) := id rfl
theorem optL_ints (k : Nat) : ∀ ns : List Int, optL (toPy h (k + 1)) (ns.map .int) = some (ns.map PyData.int)
  | [] => rfl
  | n :: ns => by
    simp only [List.map_cons, optL]
    rw [optL_ints k ns]
    rfl
@[simp] theorem toPy_tI (k : Nat) (ns : List Int) : toPy h (k + 2) (tI ns) = some (.tuple (ns.map .int)) := by
  simp only [tI, toPy]
  rw [optL_ints]
theorem eqv_ints : ∀ a b : List Int, PyData.eqvAll (a.map .int) (b.map .int) = (a == b)
  | [], [] => rfl
  | [], _ :: _ => rfl
  | _ :: _, [] => rfl
  | a :: as, b :: bs => by
    simp only [List.map_cons, PyData.eqvAll, PyData.eqv]
    rw [eqv_ints as bs]
    rfl
@[simp] theorem o_eqT (a b : List Int) : dEq (tI a) (tI b) h = some (.bl (a == b)) := by
  unfold dEq
  rw [toPy_tI, toPy_tI]
  simp only [PyData.eqv]
  rw [eqv_ints]
@[simp] theorem o_neT (a b : List Int) : dNe (tI a) (tI b) h = some (.bl (!(a == b))) := by
  unfold dNe
  rw [toPy_tI, toPy_tI]
  simp only [PyData.eqv]
  rw [eqv_ints]
@[simp] theorem o_tup0 : dTup [] h = some (tI []) := id rfl
@[simp] theorem o_tup1 (i : Int) : dTup [.int i] h = some (tI [i]) := by
  unfold dTup
  rw [if_pos (by simp [sizeLine_eq])]
  rfl
@[simp] theorem o_lenT (a : List Int) : dLen [tI a] h = some (.int a.length) := by simp [dLen, seqOf, tI]
@[simp] theorem o_lenL (xs : List D) : dLen [.lst xs] h = some (.int xs.length) := by simp [dLen, seqOf]
theorem atI_map {α β : Type} (f : α → β) (xs : List α) (i : Int) : atI (xs.map f) i = (atI xs i).map f := by
  unfold atI
  rw [List.length_map]
  cases ixN xs.length i with
  | none => rfl
  | some j => simp
@[simp] theorem o_ixT (a : List Int) (i : Int) : dIx (tI a) (.int i) h = (atI a i).map .int := by
  show (match seqOf h (tI a) with
    | some xs => atI xs i
    | none => none) = _
  simp only [tI, seqOf]
  exact atI_map _ _ _
theorem atI_nat {α : Type} (xs : List α) (j : Nat) : atI xs (j : Int) = xs[j]? := by
  unfold atI ixN
  rw [if_pos (by omega)]
  by_cases hj : j < xs.length
  · rw [if_pos (by omega)]
    simp
  · rw [if_neg (by omega), List.getElem?_eq_none (by omega)]
    rfl
theorem cutL_map {α β : Type} (f : α → β) (xs : List α) (lo hi : Option Int) : cutL (xs.map f) lo hi = (cutL xs lo hi).map f := by
  unfold cutL
  simp [List.map_take, List.map_drop]
@[simp] theorem o_slT (a : List Int) (lo hi : Option Int) : dSl (tI a) lo hi h = some (tI (cutL a lo hi)) := by
  simp only [dSl, tI]
  rw [cutL_map]
end

section
variable {env : En} {h : Hd}
@[simp] theorem seqI_tI (ns : List Int) : seqI h (tI ns) = .ok (ns.map .int, []) h := by
  simp only [tI, seqI]
  rw [if_pos (set_of_ints ns)]
@[simp] theorem o_lst0 : dLst [] h = some (lW []) := id rfl
@[simp] theorem o_lstW (w : List Int) : dLst [tI w] h = some (lW [w]) := by
  unfold dLst
  rw [if_pos (by simp [sizeLine_eq])]
  rfl
@[simp] theorem o_lstI (i : Int) : dLst [.int i] h = some (lI [i]) := by
  unfold dLst
  rw [if_pos (by simp [sizeLine_eq])]
  rfl
theorem ix_lI (ws : List Int) (i : Int) : dIx (lI ws) (.int i) h = (atI ws i).map .int := by
  show atI (ws.map D.int) i = _
  rw [atI_map]
@[simp] theorem len_lW (ws : List (List Int)) : dLen [lW ws] h = some (.int ws.length) := by
  unfold lW
  rw [o_lenL, List.length_map]
@[simp] theorem len_lI (ws : List Int) : dLen [lI ws] h = some (.int ws.length) := by
  unfold lI
  rw [o_lenL, List.length_map]
end
def stp (w : List Int) (c : Int) : List Int := if w.getLast? = some c then w.dropLast else w ++ [c]
def rstsFrom (w : List Int) : List Int → List (List Int)
  | [] => [w]
  | c :: cs => w :: rstsFrom (stp w c) cs
def rsts (row : List Int) : List (List Int) := rstsFrom [] row
def rst (row : List Int) : List Int := row.foldl stp []
theorem rsts_len (w : List Int) : ∀ row : List Int, (rstsFrom w row).length = row.length + 1
  | [] => rfl
  | d :: row => by
    show (rstsFrom (stp w d) row).length + 1 = _
    rw [rsts_len]
    rfl
end Cm

namespace Cm
open PySem PySem.Spec PyProof.Rows L2 Tw

def cmn : List Int → List Int → Nat
  | a :: as, b :: bs => if a = b then cmn as bs + 1 else 0
  | _, _ => 0
theorem cmn_le : ∀ a b : List Int, cmn a b ≤ min a.length b.length
  | [], _ => by simp [cmn]
  | _ :: _, [] => by simp [cmn]
  | a :: as, b :: bs => by
    have := cmn_le as bs
    unfold cmn
    split
    · simp only [List.length_cons]; omega
    · omega
def apt (a b : List Int) : Nat := a.length + b.length - 2 * cmn a b
section
variable {h : Hd}
theorem o_min2 (i j : Nat) : dMin2 [.int (i : Int), .int (j : Int)] h = some (.int ((min i j : Nat) : Int)) := by
  simp only [dMin2]
  congr 2
  split <;> omega
end
def Nw (q : Int) : Nat → Nat → Int
  | 0, 0 => 1
  | 0, _ + 1 => 0
  | t + 1, 0 => q * Nw q t 1
  | t + 1, d + 1 => Nw q t d + (q - 1) * Nw q t (d + 2)
section
variable {h : Hd}
theorem rng1_nat (n : Nat) (hn : n ≤ 1000000) : rng1 [.int (n : Int)] = some ((List.range n).map fun i => .int (i : Nat)) := by
  simp only [rng1]
  rw [if_pos (by unfold rngOk; simp; omega)]
  simp
end
end Cm

namespace Cm
open PySem PySem.Spec PyProof.Rows L2 Tw
section
variable {h : Hd}
@[simp] theorem o_ixTup (xs : List D) (i : Int) : dIx (.tup xs) (.int i) h = atI xs i := id rfl
@[simp] theorem o_tup2 (x y : D) : dTup [x, y] h = some (.tup [x, y]) := by
  unfold dTup
  rw [if_pos (by simp [sizeLine_eq])]
@[simp] theorem o_tup3 (x y z : D) : dTup [x, y, z] h = some (.tup [x, y, z]) := by
  unfold dTup
  rw [if_pos (by simp [sizeLine_eq])]
@[simp] theorem o_tup4 (x y z w : D) : dTup [x, y, z, w] h = some (.tup [x, y, z, w]) := by
  unfold dTup
  rw [if_pos (by simp [sizeLine_eq])]
def pickC (q : Int) (t : Nat) (word goal : List Int) : Nat → Nat → Int → Option (Nat × Int)
  | 0, _, _ => none
  | k + 1, c, l => if l < Nw q t (apt (stp word c) goal) then some (c, l) else pickC q t word goal k (c + 1) (l - Nw q t (apt (stp word c) goal))
def rowAtF (qn : Nat) (goal : List Int) : Nat → List Int → Int → Option (List Int)
  | 0, _, _ => some []
  | t + 1, word, l => match pickC qn t word goal qn 0 l with
    | some (c, l') => (rowAtF qn goal t (stp word c) l').map ((c : Int) :: ·)
    | none => none
def sumC (q : Int) (t : Nat) (word goal : List Int) : Nat → Int
  | 0 => 0
  | c + 1 => sumC q t word goal c + Nw q t (apt (stp word (c : Int)) goal)
def numF (q : Int) (goal : List Int) : List Int → List Int → Int
  | _, [] => 0
  | w, c :: cs => sumC q cs.length w goal c.toNat + numF q goal (stp w c) cs
theorem rsts_get (w : List Int) : ∀ (row : List Int) (i : Nat), i ≤ row.length → (rstsFrom w row)[i]? = some ((row.take i).foldl stp w)
  | [], 0, _ => rfl
  | c :: cs, 0, _ => rfl
  | c :: cs, i + 1, hi => by
    show (rstsFrom (stp w c) cs)[i]? = _
    rw [rsts_get (stp w c) cs i (by simpa using hi)]
    rfl
end
end Cm

namespace Cm
open PySem PySem.Spec PyProof.Rows L2 Tw
def Bx (h : Hd) (b n : Nat) : Prop := ∃ x c d : Int, h[b]? = some (cI [x, c, d]) ∧ 0 ≤ x ∧ 0 ≤ c ∧ c < 2 ^ 63 ∧ 0 ≤ d ∧ d ≤ n
def To (h : Hd) (b : Nat) (h' : Hd) (n' : Nat) : Prop := (∃ y, h' = h.set b (cI y)) ∧ Bx h' b n'
theorem Bx.mono {h : Hd} {b n n' : Nat} (x : Bx h b n) (l : n ≤ n') : Bx h b n' := by
  obtain ⟨x, c, d, e, a1, a2, a3, a4, a5⟩ := x
  exact ⟨x, c, d, e, a1, a2, a3, a4, by omega⟩
theorem To.mono {h h' : Hd} {b n n' : Nat} (x : To h b h' n) (l : n ≤ n') : To h b h' n' := ⟨x.1, x.2.mono l⟩
theorem To.refl {h : Hd} {b n : Nat} (x : Bx h b n) : To h b h n := by
  obtain ⟨x1, c, d, e, a⟩ := id x
  refine ⟨⟨[x1, c, d], ?_⟩, x⟩
  obtain ⟨hl, he⟩ := List.getElem?_eq_some_iff.mp e
  rw [← he, List.set_getElem_self]
theorem To.trans {h h1 h2 : Hd} {b n m : Nat} (x : To h b h1 n) (y : To h1 b h2 m) : To h b h2 m := by
  obtain ⟨⟨a, rfl⟩, _⟩ := x
  obtain ⟨⟨c, rfl⟩, z⟩ := y
  exact ⟨⟨c, by rw [List.set_set]⟩, z⟩
theorem To.fl {h h' : Hd} {b n : Nat} (x : To h b h' n) (f : Fl h) : Fl h' := by
  obtain ⟨⟨a, rfl⟩, _⟩ := x
  exact f.put (fc_cI _) _
theorem To.len {h h' : Hd} {b n : Nat} (x : To h b h' n) : h'.length = h.length := by
  obtain ⟨⟨a, rfl⟩, _⟩ := x
  simp
theorem To.get {h h' : Hd} {b n m : Nat} (x : To h b h' n) (ne : m ≠ b) : h'[m]? = h[m]? := by
  obtain ⟨⟨a, rfl⟩, _⟩ := x
  rw [List.getElem?_set_ne (Ne.symm ne)]
theorem Bx.lt {h : Hd} {b n : Nat} (x : Bx h b n) : b < h.length := by
  obtain ⟨x, c, d, e, _⟩ := x
  exact lt_of_get e
def Av (h0 : Hd) (b : Nat) (h' : Hd) (n : Nat) : Prop := ∃ h1, To h0 b h1 n ∧ Ab h1 h'
theorem Av.bx {h0 h' : Hd} {b n : Nat} (a : Av h0 b h' n) : Bx h' b n := by
  obtain ⟨h1, t, ab⟩ := a
  obtain ⟨x, c, d, e, r⟩ := t.2
  exact ⟨x, c, d, by rw [ab.get (lt_of_get e)]; exact e, r⟩
theorem Av.refl {h : Hd} {b n : Nat} (x : Bx h b n) : Av h b h n := ⟨h, To.refl x, Ab.refl h⟩
theorem Av.to {h0 h1 h2 : Hd} {b n m : Nat} (a : Av h0 b h1 n) (t : To h1 b h2 m) : Av h0 b h2 m := by
  obtain ⟨g, t0, j, rfl, f⟩ := a
  obtain ⟨⟨y, rfl⟩, z⟩ := t
  have lb := t0.2.lt
  rw [List.set_append_left _ _ lb] at z ⊢
  obtain ⟨x, c, d, e, r⟩ := z
  rw [List.getElem?_append_left (by rw [List.length_set]; exact lb)] at e
  refine ⟨g.set b (cI y), ?_, j, rfl, f⟩
  obtain ⟨⟨w, rfl⟩, _⟩ := t0
  exact ⟨⟨y, by rw [List.set_set]⟩, x, c, d, e, r⟩
theorem Av.push {h0 h' : Hd} {b n : Nat} {c : Cell} (a : Av h0 b h' n) (f : Fc c) : Av h0 b (h' ++ [c]) n := by
  obtain ⟨h1, t, ab⟩ := a
  exact ⟨h1, t, ab.push f⟩
theorem Av.put {h0 h' : Hd} {b n m : Nat} {c : Cell} (a : Av h0 b h' n) (f : Fc c) (l : h0.length ≤ m) : Av h0 b (h'.set m c) n := by
  obtain ⟨h1, t, ab⟩ := a
  exact ⟨h1, t, ab.put f (by rw [t.len]; exact l)⟩
theorem Av.fl {h0 h' : Hd} {b n : Nat} (a : Av h0 b h' n) (f : Fl h0) : Fl h' := by
  obtain ⟨h1, t, ab⟩ := a
  exact ab.fl (t.fl f)
theorem Av.len {h0 h' : Hd} {b n : Nat} (a : Av h0 b h' n) : h0.length ≤ h'.length := by
  obtain ⟨h1, t, ab⟩ := a
  rw [← t.len]
  exact ab.len
theorem Av.mono {h0 h' : Hd} {b n n' : Nat} (a : Av h0 b h' n) (l : n ≤ n') : Av h0 b h' n' := by
  obtain ⟨h1, t, ab⟩ := a
  exact ⟨h1, t.mono l, ab⟩
section
variable {h : Hd} {b n : Nat}
@[simp] theorem x_sSetIx (me mo mi : ME) (env : En) : sSetIx me mo mi env h = RS.of env (me env h) fun d h1 => RS.of env (mo env (box d h1).2) fun o h2 => RS.of env (mi env h2) fun i h3 => match setIx o i (box d h1).1 h3 with
  | some h4 => .nx env h4
  | none => .stuck := id rfl
theorem o_pow (i j : Int) (hj : 0 ≤ j) (hj2 : j ≤ 1000000) (hi : i.natAbs < 2 ^ 64) : dPow (.int i) (.int j) h = some (.int (i ^ j.toNat)) := by
  simp only [dPow, hj, hj2, hi, decide_true, Bool.and_self, if_true]
@[simp] theorem o_pow7 : dPow (.int 10) (.int 7) h = some (.int 10000000) := o_pow 10 7 (by omega) (by omega) (by decide)
@[simp] theorem o_pow18 : dPow (.int 10) (.int 18) h = some (.int 1000000000000000000) := o_pow 10 18 (by omega) (by omega) (by decide)
def Row (q : Nat) (n : Nat) (r : List Int) : Prop := r.length = n ∧ ∀ c ∈ r, 0 ≤ c ∧ c < (q : Int)
end
end Cm

namespace Cm
open PySem PySem.Spec PyProof.Rows L2 Tw
section
variable {h : Hd} {b n : Nat}
@[simp] theorem o_abs (i : Int) : dAbs [.int i] h = some (.int (if i < 0 then -i else i)) := id rfl
@[simp] theorem o_intB (k : Bool) : dInt [.bl k] h = some (.int (if k then 1 else 0)) := id rfl
@[simp] theorem o_lst3 (x y z : Int) : dLst [.int x, .int y, .int z] h = some (lI [x, y, z]) := by
  unfold dLst
  rw [if_pos (by simp [sizeLine_eq])]
  rfl
end
end Cm

namespace Cm
open PySem PySem.Spec PyProof.Rows L2 Tw
def Red : List Int → Prop
  | a :: b :: r => a ≠ b ∧ Red (b :: r)
  | _ => True
theorem Red.tail {a : Int} {r : List Int} (h : Red (a :: r)) : Red r := by
  cases r with
  | nil => trivial
  | cons b r => exact h.2
theorem red_snoc : ∀ {w : List Int} {c : Int}, Red w → w.getLast? ≠ some c → Red (w ++ [c])
  | [], c, _, _ => trivial
  | [a], c, _, h => ⟨fun z => h (by simp [z]), trivial⟩
  | a :: b :: r, c, hr, h => by
    refine ⟨hr.1, red_snoc (w := b :: r) hr.2 ?_⟩
    rw [List.getLast?_cons_cons] at h
    exact h
theorem red_init : ∀ {w : List Int}, Red w → Red w.dropLast
  | [], _ => trivial
  | [a], _ => trivial
  | [a, b], _ => trivial
  | a :: b :: c :: r, hr => ⟨hr.1, red_init (w := b :: c :: r) hr.2⟩
theorem red_stp {w : List Int} {c : Int} (h : Red w) : Red (stp w c) := by
  unfold stp
  split
  · exact red_init h
  · rename_i hl
    exact red_snoc h hl
theorem red_fold : ∀ (row : List Int) {w : List Int}, Red w → Red (row.foldl stp w)
  | [], w, h => h
  | c :: row, w, h => red_fold row (red_stp h)
theorem red_rst (row : List Int) : Red (rst row) := red_fold row trivial
theorem red_last : ∀ {w : List Int} {c : Int}, Red w → w.getLast? = some c → w.dropLast.getLast? ≠ some c
  | [], c, _, h => by simp at h
  | [a], c, _, _ => by simp
  | [a, b], c, hr, h => by
    simp at h
    subst h
    simp
    exact hr.1
  | a :: b :: d :: r, c, hr, h => by
    have := red_last (w := b :: d :: r) (c := c) hr.2 (by rw [List.getLast?_cons_cons] at h; exact h)
    simpa using this
theorem stp_stp {w : List Int} {c : Int} (h : Red w) : stp (stp w c) c = w := by
  by_cases hl : w.getLast? = some c
  · have h1 : stp w c = w.dropLast := by unfold stp; rw [if_pos hl]
    rw [h1]
    unfold stp
    rw [if_neg (red_last h hl)]
    obtain ⟨hn, hl'⟩ : ∃ hn : w ≠ [], w.getLast hn = c := by
      cases w with
      | nil => simp at hl
      | cons x xs => exact ⟨List.cons_ne_nil x xs, by rw [List.getLast?_eq_getLast (List.cons_ne_nil x xs)] at hl; exact Option.some.inj hl⟩
    rw [← hl']
    exact List.dropLast_concat_getLast hn
  · have h1 : stp w c = w ++ [c] := by unfold stp; rw [if_neg hl]
    rw [h1]
    unfold stp
    rw [if_pos (by simp)]
    simp
section
variable {h : Hd} {b n : Nat}
@[simp] theorem x_tTrue (env : En) : tTrue env h = .ok true h := id rfl
@[simp] theorem x_wipe0 (env : En) : wipeE env [] = env := id rfl
@[simp] theorem x_wipe (env : En) (v : Nat) (vs : List Nat) : wipeE env (v :: vs) = (wipeE env vs).set v none := id rfl
theorem split_pair {r : List Int} {k : Nat} {c : Int} (h1 : r[k]? = some c) (h2 : r[k + 1]? = some c) : r = r.take k ++ [c, c] ++ r.drop (k + 2) := by
  obtain ⟨l1, e1⟩ := List.getElem?_eq_some_iff.mp h1
  obtain ⟨l2, e2⟩ := List.getElem?_eq_some_iff.mp h2
  have d1 : r.drop k = c :: r.drop (k + 1) := by rw [List.drop_eq_getElem_cons l1, e1]
  have d2 : r.drop (k + 1) = c :: r.drop (k + 2) := by rw [List.drop_eq_getElem_cons l2, e2]
  have := (List.take_append_drop k r).symm
  rw [d1, d2] at this
  simpa using this
end
end Cm

namespace Cm
open PySem PySem.Spec PyProof.Rows L2 Tw
theorem Av.ne {h0 h' : Hd} {b n m : Nat} (a : Av h0 b h' n) (l : h0.length ≤ m) : m ≠ b := fun z => by
  obtain ⟨g, t, _⟩ := a
  have := t.2.lt
  rw [t.len] at this
  omega
section
variable {h : Hd} {b n : Nat}
end
end Cm

namespace Cm
open PySem PySem.Spec PyProof.Rows L2 Tw
section
variable {h : Hd} {b n : Nat}
theorem kit_int : kitAll "int" [.ty "list", .ty "tuple"] = some false ∧ kitAll "int" [.ty "bool", .ty "str"] = some false ∧ kitB "int" "int" = some true ∧ kitB "int" "bool" = some false := by decide +kernel
@[simp] theorem isi_i1 (i : Int) : dIsi [.int i, .tup [.ty "list", .ty "tuple"]] h = some (.bl false) := by simp [dIsi, tyN, kit_int.1]
@[simp] theorem isi_i2 (i : Int) : dIsi [.int i, .tup [.ty "bool", .ty "str"]] h = some (.bl false) := by simp [dIsi, tyN, kit_int.2.1]
@[simp] theorem isi_i3 (i : Int) : dIsi [.int i, .ty "int"] h = some (.bl true) := by simp [dIsi, tyN, kit_int.2.2.1]
@[simp] theorem isi_i4 (i : Int) : dIsi [.int i, .ty "bool"] h = some (.bl false) := by simp [dIsi, tyN, kit_int.2.2.2]
@[simp] theorem o_isNon_int (i : Int) : Tw.isNon (.int i) = false := rfl
@[simp] theorem o_eqB (i j : Bool) : dEq (.bl i) (.bl j) h = some (.bl (i == j)) := id rfl
@[simp] theorem o_neB (i j : Bool) : dNe (.bl i) (.bl j) h = some (.bl (!(i == j))) := id rfl
theorem optL_bls' : ∀ bs : List Bool, optL unB (bs.map D.bl) = some bs
  | [] => rfl
  | b :: bs => by
    simp only [List.map_cons, optL, unB]
    rw [optL_bls' bs]
theorem o_allB (bs : List Bool) : dAll [.lst (bs.map D.bl)] h = some (.bl (bs.all id)) := by
  simp only [dAll, isLst, optL_bls']
end
end Cm

namespace Cm
def dec : List Int → List Int → Option Int
  | [], [] => none
  | [], g :: _ => some g
  | w :: ws, [] => (w :: ws).getLast?
  | w :: ws, g :: gs => if w = g then dec ws gs else (w :: ws).getLast?
theorem stp_cons {a : Int} {u : List Int} (hu : u ≠ []) (x : Int) : stp (a :: u) x = a :: stp u x := by
  obtain ⟨z, hz⟩ : ∃ z, u.getLast? = some z := ⟨_, List.getLast?_eq_getLast hu⟩
  have hl : (a :: u).getLast? = u.getLast? := by rw [List.getLast?_cons, hz]; rfl
  unfold stp
  rw [hl]
  split
  · rw [List.dropLast_cons_of_ne_nil hu]
  · rfl
theorem apt_cons (a : Int) (u v : List Int) : apt (a :: u) (a :: v) = apt u v := by
  have h := cmn_le u v
  unfold apt
  simp only [cmn, if_true, List.length_cons]
  omega
theorem apt_ne {a b : Int} (h : a ≠ b) (u v : List Int) : apt (a :: u) (b :: v) = u.length + v.length + 2 := by
  unfold apt
  simp only [cmn, if_neg h, List.length_cons]
  omega
theorem apt_nil (v : List Int) : apt [] v = v.length := by simp [apt, cmn]
theorem apt_nil' (v : List Int) : apt v [] = v.length := by cases v <;> simp [apt, cmn]
theorem stp_len {w : List Int} {c : Int} : (stp w c).length = if w.getLast? = some c then w.length - 1 else w.length + 1 := by
  unfold stp
  split <;> simp
theorem getLast_pos {w : List Int} {c : Int} (h : w.getLast? = some c) : 0 < w.length := by cases w with
  | nil => simp at h
  | cons a w => simp
theorem apt_stp : ∀ (w g : List Int) (c : Int), Red w → Red g → apt (stp w c) g = if dec w g = some c then apt w g - 1 else apt w g + 1
  | [], [], c, _, _ => by simp [stp, dec, apt, cmn]
  | [], b :: g, c, _, _ => by
    have e : stp [] c = [c] := rfl
    rw [e, apt_nil]
    unfold dec
    by_cases hc : b = c
    · subst hc
      rw [if_pos rfl, apt_cons, apt_nil]
      simp
    · rw [if_neg (fun z => hc (Option.some.inj z)), apt_ne (Ne.symm hc)]
      simp
      try omega
  | a :: u, [], c, _, _ => by
    rw [apt_nil', apt_nil', stp_len]
    unfold dec
    rfl
  | a :: u, b :: g, c, hw, hg => by
    by_cases hab : a = b
    · subst hab
      have ed : dec (a :: u) (a :: g) = dec u g := by simp [dec]
      rw [ed, apt_cons]
      cases u with
      | nil =>
        by_cases hc : a = c
        · subst hc
          have e : stp [a] a = [] := by simp [stp]
          rw [e, apt_nil]
          cases g with
          | nil => simp [dec, apt, cmn]
          | cons d g =>
            have : dec [] (d :: g) = some d := rfl
            rw [this, if_neg (fun z => hg.1 (Option.some.inj z).symm), apt_nil]
            simp
        · have e : stp [a] c = [a, c] := by simp [stp, hc]
          rw [e, apt_cons]
          have := apt_stp [] g c trivial hg.tail
          simpa [stp] using this
      | cons d u =>
        rw [stp_cons (List.cons_ne_nil d u), apt_cons]
        exact apt_stp (d :: u) g c hw.tail hg.tail
    · have ed : dec (a :: u) (b :: g) = (a :: u).getLast? := by simp [dec, hab]
      rw [ed, apt_ne hab]
      cases u with
      | nil =>
        by_cases hc : a = c
        · subst hc
          have e : stp [a] a = [] := by simp [stp]
          rw [e, apt_nil]
          simp
        · have e : stp [a] c = [a, c] := by simp [stp, hc]
          rw [e, apt_ne hab]
          simp [hc]
          omega
      | cons d u =>
        rw [stp_cons (List.cons_ne_nil d u), apt_ne hab, stp_len, List.getLast?_cons_cons]
        split
        · simp
          omega
        · simp
          omega
theorem dec_mem {P : Int → Prop} : ∀ {w g : List Int} {c : Int}, (∀ x ∈ w, P x) → (∀ x ∈ g, P x) → dec w g = some c → P c
  | [], [], _, _, _, h => by simp [dec] at h
  | [], b :: g, c, _, hg, h => by
    simp [dec] at h
    subst h
    exact hg _ (by simp)
  | a :: u, [], c, hw, _, h => hw c (List.mem_of_getLast? h)
  | a :: u, b :: g, c, hw, hg, h => by
    unfold dec at h
    split at h
    · exact dec_mem (fun x hx => hw x (by simp [hx])) (fun x hx => hg x (by simp [hx])) h
    · exact hw c (List.mem_of_getLast? h)
theorem dec_none : ∀ {w g : List Int}, dec w g = none → w = g
  | [], [], _ => rfl
  | [], b :: g, h => by simp [dec] at h
  | a :: u, [], h => by
    have : (a :: u).getLast? = none := h
    simp at this
  | a :: u, b :: g, h => by
    unfold dec at h
    split at h
    · rename_i e
      rw [e, dec_none h]
    · simp at h
theorem apt_self (w : List Int) : apt w w = 0 := by
  induction w with
  | nil => rfl
  | cons a w ih => rw [apt_cons, ih]
theorem dec_self (w : List Int) : dec w w = none := by
  induction w with
  | nil => rfl
  | cons a w ih => simp [dec, ih]
theorem apt_pos : ∀ {w g : List Int}, w ≠ g → 0 < apt w g
  | [], [], h => absurd rfl h
  | [], b :: g, _ => by rw [apt_nil]; simp
  | a :: u, [], _ => by rw [apt_nil']; simp
  | a :: u, b :: g, h => by
    by_cases e : a = b
    · subst e
      rw [apt_cons]
      exact apt_pos fun z => h (by rw [z])
    · rw [apt_ne e]; omega
theorem apt_zero {w g : List Int} (h : apt w g = 0) : w = g := by
  by_cases e : w = g
  · exact e
  · have := apt_pos e; omega
theorem Nw_nonneg {q : Int} (hq : 1 ≤ q) : ∀ t d, 0 ≤ Nw q t d
  | 0, 0 => by show (0 : Int) ≤ 1; decide
  | 0, d + 1 => Int.le_refl 0
  | t + 1, 0 => Int.mul_nonneg (by omega) (Nw_nonneg hq t 1)
  | t + 1, d + 1 => Int.add_nonneg (Nw_nonneg hq t d) (Int.mul_nonneg (by omega) (Nw_nonneg hq t (d + 2)))
def InR (q : Nat) (w : List Int) : Prop := ∀ c ∈ w, 0 ≤ c ∧ c < (q : Int)
theorem InR.stp {q : Nat} {w : List Int} {c : Int} (h : InR q w) (c0 : 0 ≤ c) (c1 : c < q) : InR q (stp w c) := by
  unfold Cm.stp
  split
  · exact fun x hx => h x (List.dropLast_subset w hx)
  · exact fun x hx => by
      rcases List.mem_append.mp hx with z | z
      · exact h x z
      · rw [List.mem_singleton.mp z]; exact ⟨c0, c1⟩
theorem sum_one {q : Int} {t : Nat} {w g : List Int} (hw : Red w) (hg : Red g) : ∀ n : Nat, sumC q t w g n =
    match dec w g with
    | none => n * Nw q t (apt w g + 1)
    | some c => if 0 ≤ c ∧ c < (n : Int) then Nw q t (apt w g - 1) + ((n : Int) - 1) * Nw q t (apt w g + 1) else n * Nw q t (apt w g + 1)
  | 0 => by
    cases dec w g with
    | none => simp [sumC]
    | some c =>
      show (0 : Int) = if 0 ≤ c ∧ c < ((0 : Nat) : Int) then _ else _
      rw [if_neg (by omega)]
      simp
  | n + 1 => by
    rw [show sumC q t w g (n + 1) = sumC q t w g n + Nw q t (apt (stp w (n : Int)) g) from rfl, sum_one hw hg n, apt_stp w g (n : Int) hw hg]
    cases hd : dec w g with
    | none =>
      simp
      rw [Int.add_mul]; omega
    | some c =>
      simp only [Option.some.injEq]
      by_cases h1 : c = (n : Int)
      · subst h1
        rw [if_neg (by omega), if_pos rfl, if_pos (by omega)]
        have : ((n + 1 : Nat) : Int) - 1 = (n : Int) := by omega
        rw [this]
        omega
      · rw [if_neg h1]
        by_cases h2 : 0 ≤ c ∧ c < (n : Int)
        · rw [if_pos h2, if_pos (by omega)]
          have : ((n + 1 : Nat) : Int) - 1 = ((n : Int) - 1) + 1 := by omega
          rw [this, Int.add_mul]
          omega
        · rw [if_neg h2, if_neg (by omega)]
          have : ((n + 1 : Nat) : Int) = (n : Int) + 1 := by omega
          rw [this, Int.add_mul]
          omega
theorem sum_all {q t : Nat} {w g : List Int} (hw : Red w) (hg : Red g) (rw_ : InR q w) (rg : InR q g) : sumC q t w g q = Nw q (t + 1) (apt w g) := by
  rw [sum_one hw hg]
  cases hd : dec w g with
  | none =>
    have e := dec_none hd
    subst e
    rw [apt_self]
    rfl
  | some c =>
    have hc := dec_mem (P := fun c => 0 ≤ c ∧ c < (q : Int)) rw_ rg hd
    simp only
    rw [if_pos hc]
    have ne : w ≠ g := fun z => by subst z; rw [dec_self] at hd; cases hd
    have hp := apt_pos ne
    obtain ⟨k, hk⟩ : ∃ k, apt w g = k + 1 := ⟨apt w g - 1, by omega⟩
    rw [hk]
    rfl
theorem sumC_mono {q : Int} (hq : 1 ≤ q) {t : Nat} {w g : List Int} : ∀ {m n : Nat}, m ≤ n → sumC q t w g m ≤ sumC q t w g n
  | m, n, h => by
    induction h with
    | refl => exact Int.le_refl _
    | step _ ih =>
      refine Int.le_trans ih ?_
      rename_i k _
      have := Nw_nonneg hq t (apt (stp w (k : Int)) g)
      show sumC q t w g k ≤ sumC q t w g k + _
      omega
theorem sumC_nonneg {q : Int} (hq : 1 ≤ q) {t : Nat} {w g : List Int} (n : Nat) : 0 ≤ sumC q t w g n := sumC_mono hq (m := 0) (Nat.zero_le n)
theorem pick_at {q : Int} {t : Nat} {w g : List Int} (hq : 1 ≤ q) : ∀ (k c : Nat) (l : Int) (c' : Nat), c ≤ c' → c' < c + k → 0 ≤ l → l < Nw q t (apt (stp w (c' : Int)) g) →
    pickC q t w g k c (l + (sumC q t w g c' - sumC q t w g c)) = some (c', l)
  | 0, c, l, c', h1, h2, _, _ => absurd h2 (by omega)
  | k + 1, c, l, c', h1, h2, h3, h4 => by
    unfold pickC
    by_cases e : c = c'
    · subst e
      have : l + (sumC q t w g c - sumC q t w g c) = l := by omega
      rw [this, if_pos h4]
    · have m := sumC_mono hq (t := t) (w := w) (g := g) (show c + 1 ≤ c' by omega)
      have s : sumC q t w g (c + 1) = sumC q t w g c + Nw q t (apt (stp w (c : Int)) g) := rfl
      rw [if_neg (by omega)]
      have : l + (sumC q t w g c' - sumC q t w g c) - Nw q t (apt (stp w (c : Int)) g) = l + (sumC q t w g c' - sumC q t w g (c + 1)) := by omega
      rw [this]
      exact pick_at hq k (c + 1) l c' (by omega) (by omega) h3 h4
theorem find_c {q : Int} {t : Nat} {w g : List Int} : ∀ (n : Nat) (l : Int), 0 ≤ l → l < sumC q t w g n → ∃ c, c < n ∧ sumC q t w g c ≤ l ∧ l < sumC q t w g (c + 1)
  | 0, l, h1, h2 => by
    have : sumC q t w g 0 = 0 := rfl
    omega
  | n + 1, l, h1, h2 => by
    by_cases h : l < sumC q t w g n
    · obtain ⟨c, a, b, d⟩ := find_c n l h1 h
      exact ⟨c, by omega, b, d⟩
    · exact ⟨n, by omega, by omega, h2⟩
theorem rowAt_ok {q : Nat} (hq : 1 ≤ q) : ∀ (t : Nat) (w g : List Int) (l : Int), Red w → Red g → InR q w → InR q g → 0 ≤ l → l < Nw q t (apt w g) →
    ∃ r, rowAtF q g t w l = some r ∧ r.length = t ∧ InR q r ∧ r.foldl stp w = g ∧ numF q g w r = l
  | 0, w, g, l, _, _, _, _, h0, h1 => by
    have e : apt w g = 0 := by
      cases hd : apt w g with
      | zero => rfl
      | succ d => rw [hd] at h1; simp [Nw] at h1; omega
    rw [e] at h1
    simp [Nw] at h1
    exact ⟨[], rfl, rfl, (fun _ z => nomatch z), apt_zero e, by simp only [numF]; omega⟩
  | t + 1, w, g, l, hw, hg, rw_, rg, h0, h1 => by
    rw [← sum_all hw hg rw_ rg] at h1
    obtain ⟨c, c1, c2, c3⟩ := find_c q l h0 h1
    have s : sumC (q : Int) t w g (c + 1) = sumC q t w g c + Nw q t (apt (stp w (c : Int)) g) := rfl
    have pk := pick_at (q := (q : Int)) (t := t) (w := w) (g := g) (by omega) q 0 (l - sumC q t w g c) c (by omega) (by omega) (by omega) (by omega)
    have z : sumC (q : Int) t w g 0 = 0 := rfl
    have e : l - sumC (q : Int) t w g c + (sumC q t w g c - sumC q t w g 0) = l := by omega
    rw [e] at pk
    obtain ⟨r, e1, e2, e3, e4, e5⟩ := rowAt_ok hq t (stp w c) g (l - sumC q t w g c) (red_stp hw) hg (rw_.stp (by omega) (by omega)) rg (by omega) (by omega)
    refine ⟨(c : Int) :: r, ?_, by simp [e2], fun x hx => ?_, e4, ?_⟩
    · unfold rowAtF
      rw [pk]
      simp [e1]
    · rcases List.mem_cons.mp hx with z | z
      · rw [z]; omega
      · exact e3 x z
    · simp only [numF, e2, e5, Int.toNat_natCast]
      omega
theorem rowAt_num {q : Nat} (hq : 1 ≤ q) : ∀ (r w g : List Int), Red w → Red g → InR q w → InR q g → InR q r → r.foldl stp w = g →
    rowAtF q g r.length w (numF q g w r) = some r ∧ 0 ≤ numF q g w r ∧ numF q g w r < Nw q r.length (apt w g)
  | [], w, g, _, _, _, _, _, e => by
    have e' : w = g := e
    subst e'
    exact ⟨rfl, Int.le_refl _, by simp [numF, apt_self, Nw]⟩
  | c :: r, w, g, hw, hg, rw_, rg, rr, e => by
    have hc := rr c (by simp)
    obtain ⟨k, rfl⟩ : ∃ k : Nat, c = (k : Int) := ⟨c.toNat, by omega⟩
    obtain ⟨i1, i2, i3⟩ := rowAt_num hq r (stp w k) g (red_stp hw) hg (rw_.stp hc.1 hc.2) rg (fun x hx => rr x (by simp [hx])) e
    have n : numF (q : Int) g w ((k : Int) :: r) = sumC q r.length w g k + numF q g (stp w k) r := by simp [numF]
    have s : sumC (q : Int) r.length w g (k + 1) = sumC q r.length w g k + Nw q r.length (apt (stp w (k : Int)) g) := rfl
    have m := sumC_mono (q := (q : Int)) (by omega) (t := r.length) (w := w) (g := g) (show k + 1 ≤ q by omega)
    have a := sum_all (t := r.length) hw hg rw_ rg
    have p0 := sumC_nonneg (q := (q : Int)) (by omega) (t := r.length) (w := w) (g := g) k
    rw [n]
    refine ⟨?_, by omega, by show _ < Nw q (r.length + 1) (apt w g); omega⟩
    have pk := pick_at (q := (q : Int)) (t := r.length) (w := w) (g := g) (by omega) q 0 (numF q g (stp w k) r) k (by omega) (by omega) i2 i3
    have z : sumC (q : Int) r.length w g 0 = 0 := rfl
    have e2 : numF (q : Int) g (stp w k) r + (sumC q r.length w g k - sumC q r.length w g 0) = sumC q r.length w g k + numF q g (stp w k) r := by omega
    rw [e2] at pk
    show rowAtF q g (r.length + 1) w _ = _
    unfold rowAtF
    rw [pk]
    simp [i1]
end Cm

namespace Cm
end Cm

namespace Cm
open Tw
end Cm

namespace Cm
open PySem PySem.Spec PyProof.Rows L2 Tw
section
variable {h : Hd}
end
end Cm

namespace Cm
open PySem PySem.Spec PyProof.Rows L2 Tw
def prs (a b : List Int) : List (List Int × List Int) := (((rsts a).zip (rsts b)).drop 1).dropLast
def usesF (a b : List Int) : List Int := (prs a b).map fun p => ((apt p.1 p.2 / 2 : Nat) : Int)
section
variable {h : Hd}
end
end Cm

namespace Cm
open PySem PySem.Spec PyProof.Rows L2 Tw Pq
section
variable {α σ ρ : Type}
@[simp] theorem q_un (op : D → Hd → Option D) (x : D) : qUn op (.ok x) = qOp (op x []) := bind_ok _ _
@[simp] theorem q_bin (op : D → D → Hd → Option D) (x y : D) : qBin op (.ok x) (.ok y) = qOp (op x y []) := by simp [qBin]
@[simp] theorem q_nil : qNil = .ok [] := id rfl
@[simp] theorem q_cons (x : D) (xs : List D) : qCons (.ok x) (.ok xs) = .ok (x :: xs) := by simp [qCons]
@[simp] theorem q_n (op : List D → Hd → Option D) (xs : List D) : qN op (.ok xs) = qOp (op xs []) := by simp [qN]
@[simp] theorem q_asB (b : Bool) : qAsB (.bl b) = .ok b := id rfl
@[simp] theorem q_val (b : Bool) : qVal (.ok (.bl b)) = .ok b := by simp [qVal]
@[simp] theorem q_not (b : Bool) : qNot (.ok b) = .ok (!b) := by simp [qNot]
@[simp] theorem q_and (c : Bool) (b : Rt Bool) : qAnd (.ok c) b = if c = true then b else .ok false := by simp [qAnd]
@[simp] theorem q_or (c : Bool) (b : Rt Bool) : qOr (.ok c) b = if c = true then .ok true else b := by simp [qOr]
@[simp] theorem q_if (c : Bool) (a b : Rt D) : qIf (.ok c) a b = if c = true then a else b := by simp [qIf]
@[simp] theorem q_asBD (c : Bool) (f : Bool → Rt D) : qAsBD (.bl c) f = f c := id rfl
@[simp] theorem q_eand (c : Bool) (b : Rt D) : qEAnd (.ok (.bl c)) b = if c = true then b else .ok (.bl false) := by simp [qEAnd]
@[simp] theorem q_eor (c : Bool) (b : Rt D) : qEOr (.ok (.bl c)) b = if c = true then .ok (.bl true) else b := by simp [qEOr]
@[simp] theorem q_enot (c : Bool) : qENot (.ok (.bl c)) = .ok (.bl (!c)) := by simp [qENot]
@[simp] theorem q_call (f : List D → Rt D) (xs : List D) : qCall f (.ok xs) = f xs := by simp [qCall]
@[simp] theorem q_oNone : qoNone = .ok none := id rfl
@[simp] theorem q_asI (i : Int) : qAsI (.int i) = .ok (some i) := id rfl
@[simp] theorem q_oSome (i : Int) : qoSome (.ok (.int i)) = .ok (some i) := by simp [qoSome]
@[simp] theorem q_sl (x : D) (l u : Option Int) : qSl (.ok x) (.ok l) (.ok u) = qOp (dSl x l u []) := by simp [qSl]
@[simp] theorem q_seq (x : D) : qSeq (.ok x) = itemsOf x := by simp [qSeq]
@[simp] theorem q_iN (f : List D → Option (List D)) (xs : List D) : qiN f (.ok xs) = qL (f xs) := by simp [qiN]
@[simp] theorem q_iS (f : Hd → List D → Option (List D × Src)) (xs : List D) : qiS f (.ok xs) = qL ((f [] xs).map (·.1)) := by simp [qiS]
@[simp] theorem q_cond (c : Bool) (a b : Rt ρ) : qCond (.ok c) a b = if c = true then a else b := by simp [qCond]
theorem q_chainII (i j k : Int) (f g : D → D → Hd → Option D) (b1 b2 : Bool) (e1 : f (.int i) (.int j) [] = some (.bl b1)) (e2 : g (.int j) (.int k) [] = some (.bl b2)) : qChain f g (.ok (.int i)) (.ok (.int j)) (.ok (.int k)) = .ok (.bl (b1 && b2)) := by
  simp only [qChain, bind_ok, e1]
  cases b1
  · rfl
  · simp [e2]
@[simp] theorem q_chainLL (i j k : Int) : qChain dLe dLt (.ok (.int i)) (.ok (.int j)) (.ok (.int k)) = .ok (.bl (decide (i ≤ j) && decide (j < k))) := q_chainII i j k _ _ _ _ rfl rfl
@[simp] theorem items_tI (ns : List Int) : itemsOf (tI ns) = .ok (ns.map .int) := id rfl
@[simp] theorem items_lst (xs : List D) : itemsOf (.lst xs) = .ok xs := id rfl
@[simp] theorem items_lI (ns : List Int) : itemsOf (lI ns) = .ok (ns.map .int) := id rfl
@[simp] theorem items_lW (ns : List (List Int)) : itemsOf (lW ns) = .ok (ns.map tI) := id rfl
@[simp] theorem isL_lI (ns : List Int) : qIsL (lI ns) = .ok () := id rfl
@[simp] theorem isL_lW (ns : List (List Int)) : qIsL (lW ns) = .ok () := id rfl
@[simp] theorem new_lI (ns : List Int) : qNew (.ok (lI ns)) = .ok (lI ns) := by simp [qNew, lI, isL]
@[simp] theorem new_lW (ns : List (List Int)) : qNew (.ok (lW ns)) = .ok (lW ns) := by simp [qNew, lW, isL]
@[simp] theorem new_some (xs : List D) : qNew (.ok (.lst xs)) = .ok (.lst xs) := qNew_lst xs
@[simp] theorem qs_cons (x b : D) (as : D → Rt (List D × D)) : qsCons (.ok (x, b)) as = (as b).bind fun xs => .ok (x :: xs.1, xs.2) := by simp [qsCons]
@[simp] theorem qs_bin (op : D → D → Hd → Option D) (x b : D) (g : D → Rt (D × D)) : qsBin op (.ok (x, b)) g = (g b).bind fun y => (qOp (op x y.1 [])).bind fun z => .ok (z, y.2) := by simp [qsBin]
@[simp] theorem qs_n (op : List D → Hd → Option D) (xs : List D) (b : D) : qsN op (.ok (xs, b)) = (qOp (op xs [])).bind fun z => .ok (z, b) := by simp [qsN]
@[simp] theorem qs_val (c : Bool) (b : D) : qsVal (.ok (.bl c, b)) = .ok (c, b) := by simp [qsVal]
@[simp] theorem qs_not (c : Bool) (b : D) : qsNot (.ok (c, b)) = .ok (!c, b) := by simp [qsNot]
@[simp] theorem qs_and (c : Bool) (b : D) (g : D → Rt (Bool × D)) : qsAnd (.ok (c, b)) g = if c = true then g b else .ok (false, b) := by simp [qsAnd]
@[simp] theorem qs_or (c : Bool) (b : D) (g : D → Rt (Bool × D)) : qsOr (.ok (c, b)) g = if c = true then .ok (true, b) else g b := by simp [qsOr]
@[simp] theorem qs_if (c : Bool) (b : D) (g k : D → Rt (D × D)) : qsIf (.ok (c, b)) g k = if c = true then g b else k b := by simp [qsIf]
@[simp] theorem qs_asBD (c : Bool) (f : Bool → Rt (D × D)) : qsAsBD (.bl c) f = f c := id rfl
@[simp] theorem qs_eand (c : Bool) (b : D) (g : D → Rt (D × D)) : qsEAnd (.ok (.bl c, b)) g = if c = true then g b else .ok (.bl false, b) := by simp [qsEAnd]
@[simp] theorem qs_eor (c : Bool) (b : D) (g : D → Rt (D × D)) : qsEOr (.ok (.bl c, b)) g = if c = true then .ok (.bl true, b) else g b := by simp [qsEOr]
@[simp] theorem qs_call (f : List D → Rt D) (xs : List D) (b : D) : qsCall f (.ok (xs, b)) = (f xs).bind fun z => .ok (z, b) := by simp [qsCall]
@[simp] theorem qs_callB (f : D → List D → Rt (D × D)) (xs : List D) (b : D) : qsCallB f (.ok (xs, b)) = f b xs := by simp [qsCallB]
@[simp] theorem qs_cond (c : Bool) (b : D) (g k : D → Rt ρ) : qsCond (.ok (c, b)) g k = if c = true then g b else k b := by simp [qsCond]
theorem bind_eq {β γ : Type} {r : Rt β} {s : β} {G : β → Rt γ} {q : Rt γ} (h : r = .ok s) (k : G s = q) : r.bind G = q := by rw [h, bind_ok]; exact k
theorem qFor_nx {β : Type} {f : σ → D → Rt (Stp σ ρ)} {enc : β → D} {items : List β} (S : Nat → σ) {s : σ} (hs : s = S 0) (h : ∀ i x, items[i]? = some x → f (S i) (enc x) = .ok (.nx (S (i + 1)))) : qFor (items.map enc) s f = .ok (.nx (S items.length)) := by
  subst hs
  have : ∀ (items : List β) (k : Nat), (∀ i x, items[i]? = some x → f (S (k + i)) (enc x) = .ok (.nx (S (k + i + 1)))) → qFor (items.map enc) (S k) f = .ok (.nx (S (k + items.length))) := by
    intro items
    induction items with
    | nil => intro k _; simp [qFor]
    | cons x xs ih =>
      intro k h
      have h0 := h 0 x rfl
      simp only [List.map_cons, qFor]
      rw [show f (S k) (enc x) = .ok (.nx (S (k + 1))) by simpa using h0, bind_ok]
      simp only
      rw [ih (k + 1) fun i y e => by
        have := h (i + 1) y (by simpa using e)
        rw [show k + 1 + i = k + (i + 1) by omega]
        exact this]
      simp only [List.length_cons]
      congr 3
      omega
  simpa using this items 0 fun i x e => by simpa using h i x e
theorem comp_enc {β γ : Type} {t : D → Rt Bool} {e : D → Rt D} {enc : β → D} {dec : γ → D} {p : β → Bool} {f : β → γ} : ∀ {xs : List β}, (∀ x ∈ xs, t (enc x) = .ok (p x) ∧ (p x = true → e (enc x) = .ok (dec (f x)))) → compL t e (xs.map enc) = .ok (((xs.filter p).map f).map dec)
  | [], _ => rfl
  | x :: xs, h => by
    obtain ⟨h1, h2⟩ := h x List.mem_cons_self
    simp only [compL, List.map_cons]
    rw [h1, bind_ok, comp_enc fun y hy => h y (List.mem_cons_of_mem _ hy)]
    cases hp : p x with
    | true => simp [h2 hp, hp]
    | false => simp [hp]
theorem q_comp {β γ : Type} {t : D → Rt Bool} {e : D → Rt D} {enc : β → D} {dec : γ → D} (p : β → Bool) (f : β → γ) {xs : List β} (hl : xs.length ≤ sizeLine) (h : ∀ x ∈ xs, t (enc x) = .ok (p x) ∧ (p x = true → e (enc x) = .ok (dec (f x)))) : qComp (.ok (xs.map enc)) t e = .ok (.lst (((xs.filter p).map f).map dec)) := by
  simp only [qComp, bind_ok]
  rw [comp_enc h, tame_ok, bind_ok, if_pos]
  rw [List.length_map, List.length_map]
  exact Nat.le_trans (List.length_filter_le _ _) hl
theorem q_comp1 {β γ : Type} {e : D → Rt D} {enc : β → D} {dec : γ → D} (f : β → γ) {xs : List β} (hl : xs.length ≤ sizeLine) (h : ∀ x ∈ xs, e (enc x) = .ok (dec (f x))) {t : D → Rt Bool} (ht : ∀ x ∈ xs, t (enc x) = .ok true) : qComp (.ok (xs.map enc)) t e = .ok (.lst ((xs.map f).map dec)) := by
  have := q_comp (t := t) (e := e) (enc := enc) (dec := dec) (fun _ => true) f hl fun x hx => ⟨ht x hx, fun _ => h x hx⟩
  rw [this, List.filter_eq_self.mpr fun _ _ => rfl]
end
end Cm

namespace Cm
open PySem PySem.Spec PyProof.Rows L2 Tw Pq
end Cm

namespace Cm
open PySem PySem.Spec PyProof.Rows L2 Tw Pq
def Bq (b : D) (n : Nat) : Prop := ∃ x c d : Int, b = lI [x, c, d] ∧ 0 ≤ x ∧ 0 ≤ c ∧ c < 2 ^ 63 ∧ 0 ≤ d ∧ d ≤ n
theorem Bq.mono {b : D} {n n' : Nat} (x : Bq b n) (l : n ≤ n') : Bq b n' := by
  obtain ⟨x, c, d, e, a1, a2, a3, a4, a5⟩ := x
  exact ⟨x, c, d, e, a1, a2, a3, a4, by omega⟩
theorem lI_ix (x c d : Int) : dIx (lI [x, c, d]) (.int 0) [] = some (.int x) ∧ dIx (lI [x, c, d]) (.int 1) [] = some (.int c) ∧ dIx (lI [x, c, d]) (.int 2) [] = some (.int d) := ⟨ix_lI _ 0, ix_lI _ 1, ix_lI _ 2⟩
theorem q_setIx0 (x c d v : Int) : qSetIx (lI [x, c, d]) (.int 0) (.int v) = .ok (lI [v, c, d]) := by with_unfolding_all rfl
theorem q_setIx2 (x c d v : Int) : qSetIx (lI [x, c, d]) (.int 2) (.int v) = .ok (lI [x, c, v]) := by with_unfolding_all rfl
theorem p_take1 {k n : Nat} {b : D} {m : Int} (bx : Bq b n) (hn : n ≤ 2 ^ 40) (m1 : 1 ≤ m) (m2 : m ≤ 10000000) : ∃ r b', p_law_take (k + 1) b [.int m] = .ok (.int r, b') ∧ 0 ≤ r ∧ r < m ∧ Bq b' (n + 1) := by
  obtain ⟨x, c, d, rfl, a1, a2, a3, a4, a5⟩ := bx
  obtain ⟨i0, i1, i2⟩ := lI_ix x c d
  rw [p_law_take]
  by_cases hx : 0 < x
  · refine ⟨x % m, lI [x / m, c, d], ?_, Int.emod_nonneg _ (by omega), Int.emod_lt_of_pos _ (by omega), ⟨x / m, c, d, rfl, Int.ediv_nonneg a1 (by omega), a2, a3, a4, by omega⟩⟩
    have fd := o_fdiv (h := []) (i := x) (j := m) (by omega) (Nat.lt_of_le_of_lt (show m.natAbs ≤ 10000000 by omega) (by decide))
    simp [i0, hx, o_mod (h := []) (i := x) (j := m) (by omega), fd, q_setIx0]
  · have x0 : x = 0 := by omega
    obtain ⟨j0, j1, j2⟩ := lI_ix x c (d + 1)
    have hm : ¬ (10000000 : Int) < m := by omega
    have w1 := o_mul (h := []) (i := 48271) (j := d + 1) (by omega) (by omega)
    have w2 := o_mul2 (h := []) (i := c + 48271 * (d + 1)) (j := 39373 + (d + 1)) (by omega) (by omega)
    have w3 := o_mod (h := []) (i := (c + 48271 * (d + 1)) * (39373 + (d + 1))) (j := 2147483647) (by omega)
    generalize ho : (c + 48271 * (d + 1)) * (39373 + (d + 1)) % 2147483647 = o at w3
    have w4 := o_fdiv (h := []) (i := c) (j := 1000003) (by omega) (by decide)
    have w5 := o_mod (h := []) (i := o) (j := 40009) (by omega)
    have o1 : 0 ≤ o := by rw [← ho]; exact Int.emod_nonneg _ (by omega)
    have o2 : 0 ≤ o % 40009 := Int.emod_nonneg _ (by omega)
    have o3 : o % 40009 < 40009 := Int.emod_lt_of_pos _ (by omega)
    have w6 := o_mul2 (h := []) (i := o + (d + 1) + c / 1000003) (j := o % 40009 + 7) (by omega) (by omega)
    have w7 := o_mod (h := []) (i := (o + (d + 1) + c / 1000003) * (o % 40009 + 7)) (j := 2147483629) (by omega)
    generalize ht : (o + (d + 1) + c / 1000003) * (o % 40009 + 7) % 2147483629 = t at w7
    have w8 := o_mul2 (h := []) (i := t) (j := 48271) (by omega) (by omega)
    have w9 := o_mod (h := []) (i := t * 48271 + o) (j := 2147483587) (by omega)
    have w10 := o_fdiv (h := []) (i := (t * 48271 + o) % 2147483587) (j := 64) (by omega) (by decide)
    have w11 := o_mod (h := []) (i := (t * 48271 + o) % 2147483587 / 64) (j := m) (by omega)
    refine ⟨(t * 48271 + o) % 2147483587 / 64 % m, lI [x, c, d + 1], ?_, Int.emod_nonneg _ (by omega), Int.emod_lt_of_pos _ (by omega), ⟨x, c, d + 1, rfl, a1, a2, a3, by omega, by omega⟩⟩
    simp [i0, i2, hx, hm, q_setIx2, j0, j1, j2, w1, w2, w3, w4, w5, w6, w7, w8, w9, w10, w11]
theorem p_take2 {k n : Nat} {b : D} {m : Int} (bx : Bq b n) (hn : n ≤ 2 ^ 39) (m1 : 1 ≤ m) (m2 : m ≤ 10000000000000) : ∃ r b', p_law_take (k + 2) b [.int m] = .ok (.int r, b') ∧ 0 ≤ r ∧ r < m ∧ Bq b' (n + 2) := by
  by_cases hm : m ≤ 10000000
  · obtain ⟨r, h', e1, e2, e3, e4⟩ := p_take1 (k := k + 1) bx (Nat.le_trans hn (by decide)) m1 hm
    exact ⟨r, h', e1, e2, e3, e4.mono (by omega)⟩
  · obtain ⟨x, c, d, e, a1, a2, a3, a4, a5⟩ := id bx
    obtain ⟨i0, i1, i2⟩ := lI_ix x c d
    rw [p_law_take]
    by_cases hx : 0 < x
    · refine ⟨x % m, lI [x / m, c, d], ?_, Int.emod_nonneg _ (by omega), Int.emod_lt_of_pos _ (by omega), ⟨x / m, c, d, rfl, Int.ediv_nonneg a1 (by omega), a2, a3, a4, by omega⟩⟩
      have fd := o_fdiv (h := []) (i := x) (j := m) (by omega) (Nat.lt_of_le_of_lt (show m.natAbs ≤ 10000000000000 by omega) (by decide))
      subst e
      simp [i0, hx, o_mod (h := []) (i := x) (j := m) (by omega), fd, q_setIx0]
    · have hm' : (10000000 : Int) < m := by omega
      obtain ⟨r1, h1, e1, b1, c1, t1⟩ := p_take1 (k := k) (m := 10000000) bx (Nat.le_trans hn (by decide)) (by omega) (by omega)
      obtain ⟨r2, h2, e2, b2, c2, t2⟩ := p_take1 (k := k) (m := m / 10000000 + 1) t1 (by omega) (by omega) (by omega)
      have fd := o_fdiv (h := []) (i := m) (j := 10000000) (by omega) (by decide)
      have ml := o_mul (h := []) (i := 10000000) (j := r2) (by omega) (by omega)
      have md := o_mod (h := []) (i := r1 + 10000000 * r2) (j := m) (by omega)
      refine ⟨(r1 + 10000000 * r2) % m, h2, ?_, Int.emod_nonneg _ (by omega), Int.emod_lt_of_pos _ (by omega), t2⟩
      subst e
      simp [i0, hx, hm', e1, fd, e2, ml, md]
theorem p_take8 {n : Nat} {b : D} {m : Int} (bx : Bq b n) (hn : n ≤ 2 ^ 39) (m1 : 1 ≤ m) (m2 : m ≤ 10000000000000) : ∃ r b', p_law_take 8 b [.int m] = .ok (.int r, b') ∧ 0 ≤ r ∧ r < m ∧ Bq b' (n + 2) := p_take2 (k := 6) bx hn m1 m2
theorem p_takeN {n : Nat} {b : D} {m : Nat} (bx : Bq b n) (hn : n ≤ 2 ^ 39) (m1 : 1 ≤ m) (m2 : m ≤ 10000000000000) : ∃ (r : Nat) (b' : D), p_law_take 8 b [.int (m : Int)] = .ok (.int (r : Int), b') ∧ r < m ∧ Bq b' (n + 2) := by
  obtain ⟨r, b', e, h0, h1, bq⟩ := p_take8 (m := (m : Int)) bx hn (by omega) (by omega)
  obtain ⟨s, rfl⟩ := Int.eq_ofNat_of_zero_le h0
  exact ⟨s, b', e, by omega, bq⟩
theorem p_cell_eq (ns : List Int) (k : Nat) : ∃ v, p_law_cell_at [.rol (ns.map .int), .int (k : Int)] = .ok (.int v) := by
  have len : dLen [.rol (ns.map D.int)] [] = some (.int ns.length) := by simp [dLen, seqOf]
  have ix : dIx (.rol (ns.map D.int)) (.int (k : Int)) [] = (ns[k]?).map .int := by
    show (match seqOf [] (.rol (ns.map D.int)) with
      | some xs => atI xs k
      | none => none) = _
    simp only [seqOf]
    rw [Cm.atI_map, Cm.atI_nat]
  by_cases hk : k < ns.length
  · have hk' : (k : Int) < (ns.length : Int) := by omega
    exact ⟨ns[k], by simp [p_law_cell_at, len, hk', ix, hk]⟩
  · have hk' : ¬ (k : Int) < (ns.length : Int) := by omega
    exact ⟨0, by simp [p_law_cell_at, len, hk']⟩
theorem p_box_eq (ns : List Int) (k : Nat) (hk : k ≤ 1000) : ∃ b, p_law_box [.rol (ns.map .int), .int (k : Int)] = .ok b ∧ Bq b 0 := by
  obtain ⟨v, e⟩ := p_cell_eq ns k
  have c1 : 0 ≤ v % 2305843009213693951 := Int.emod_nonneg _ (by omega)
  have c2 : v % 2305843009213693951 < 2305843009213693951 := Int.emod_lt_of_pos _ (by omega)
  generalize ha : (if v < 0 then -v else v) = a
  have a0 : 0 ≤ a := by rw [← ha]; split <;> omega
  generalize hj : (if decide (1000000000000000000 ≤ a) = true then (1 : Int) else 0) = j
  have j0 : 0 ≤ j ∧ j ≤ 1 := by rw [← hj]; split <;> omega
  have mu := o_mul2 (h := []) (i := a) (j := j) (by omega) (by omega)
  have mo := o_mod (h := []) (i := v) (j := 2305843009213693951) (by omega)
  have mk := o_mul (h := []) (i := 39373) (j := (k : Int)) (by omega) (by omega)
  refine ⟨lI [a * j, v % 2305843009213693951 + 39373 * (k : Int) + 29, 0], ?_, _, _, _, rfl, Int.mul_nonneg a0 j0.1, by omega, by omega, by omega, by omega⟩
  simp only [decide_eq_true_eq] at hj
  simp [p_law_box, e, ha, hj, mu, mo, mk]
end Cm

namespace Cm
open PySem PySem.Spec PyProof.Rows L2 Tw Pq
section
variable {α β γ σ ρ : Type}
def Ok (r : Rt α) (Q : α → Prop) : Prop := ∃ y, r = .ok y ∧ Q y
theorem Ok.of {Q : α → Prop} {r : Rt α} {y : α} (e : r = .ok y) (q : Q y) : Ok r Q := ⟨y, e, q⟩
theorem Ok.mono {Q Q' : α → Prop} {r : Rt α} (h : Ok r Q) (k : ∀ y, Q y → Q' y) : Ok r Q' := let ⟨y, e, q⟩ := h; ⟨y, e, k y q⟩
theorem Ok.bind {r : Rt β} {G : β → Rt γ} {Q : γ → Prop} (s : β) (e : r = .ok s) (k : Ok (G s) Q) : Ok (r.bind G) Q := by rw [e, bind_ok]; exact k
theorem Ok.ct {w : Rt Bool} {a b : Rt γ} {Q : γ → Prop} (e : w = .ok true) (k : Ok a Q) : Ok (qCond w a b) Q := by rw [e]; simpa using k
end
theorem rng1N {n : Nat} (hn : n ≤ 1000000) : qL (rng1 [.int (n : Int)]) = .ok ((List.range n).map fun i => D.int (i : Nat)) := by rw [rng1_nat n hn]; rfl
end Cm

namespace Cm
open PySem PySem.Spec PyProof.Rows L2 Tw Pq
theorem ix_at {r : List Int} {k : Nat} {c : Int} (e : r[k]? = some c) : dIx (tI r) (.int (k : Int)) [] = some (.int c) := by
  rw [o_ixT, Cm.atI_nat, e]; rfl
end Cm

namespace Cm
theorem cmn_comm : ∀ a b : List Int, cmn a b = cmn b a
  | [], [] => rfl
  | [], _ :: _ => rfl
  | _ :: _, [] => rfl
  | a :: as, b :: bs => by
    unfold cmn
    by_cases h : a = b
    · subst h; simp [cmn_comm as bs]
    · rw [if_neg h, if_neg (fun z => h z.symm)]
theorem apt_comm (a b : List Int) : apt a b = apt b a := by
  unfold apt
  rw [cmn_comm a b]
  omega
theorem apt_stp_r {w g : List Int} (c : Int) (hw : Red w) (hg : Red g) : apt w (stp g c) = if dec g w = some c then apt w g - 1 else apt w g + 1 := by
  rw [apt_comm, apt_stp g w c hg hw, apt_comm g w]
theorem dec_of_ne {w g : List Int} (h : w ≠ g) : ∃ c, dec w g = some c := by
  cases e : dec w g with
  | none => exact absurd (dec_none e) h
  | some c => exact ⟨c, rfl⟩
theorem ne_of_dec {w g : List Int} {c : Int} (h : dec w g = some c) : w ≠ g := fun z => by
  subst z
  rw [dec_self] at h
  cases h
theorem apt_near {w g : List Int} {c : Int} (hw : Red w) (hg : Red g) (h : dec w g = some c) : apt (stp w c) g + 1 = apt w g := by
  have p := apt_pos (ne_of_dec h)
  rw [apt_stp w g c hw hg, if_pos h]
  omega
theorem apt_far {w g : List Int} {c : Int} (hw : Red w) (hg : Red g) (h : dec w g ≠ some c) : apt (stp w c) g = apt w g + 1 := by rw [apt_stp w g c hw hg, if_neg h]
theorem dec_iff {w g : List Int} {c : Int} (hw : Red w) (hg : Red g) : dec w g = some c ↔ apt (stp w c) g < apt w g := by
  constructor
  · intro h
    have := apt_near hw hg h
    omega
  · intro h
    apply Decidable.byContradiction
    intro z
    have := apt_far hw hg z
    omega
theorem dec_on {w g : List Int} {c y : Int} (hw : Red w) (hg : Red g) (h : dec w g = some c) (hy : dec g w ≠ some y) : dec w (stp g y) = some c := by
  have hr := red_stp (c := c) hw
  have hs := red_stp (c := y) hg
  rw [dec_iff hw hs]
  have e1 : apt w (stp g y) = apt w g + 1 := by rw [apt_stp_r y hw hg, if_neg hy]
  have e2 := apt_near hw hg h
  have e3 : apt (stp w c) (stp g y) ≤ apt (stp w c) g + 1 := by
    rw [apt_stp_r y hr hg]
    split <;> omega
  omega
theorem stp_inj {w : List Int} {c d : Int} (h : stp w c = stp w d) : c = d := by
  unfold stp at h
  by_cases h1 : w.getLast? = some c
  · by_cases h2 : w.getLast? = some d
    · rw [h1] at h2; exact Option.some.inj h2
    · rw [if_pos h1, if_neg h2] at h
      have := congrArg List.length h
      simp at this
  · by_cases h2 : w.getLast? = some d
    · rw [if_neg h1, if_pos h2] at h
      have := congrArg List.length h
      simp at this
      omega
    · rw [if_neg h1, if_neg h2] at h
      simpa using h
theorem len_par (w : List Int) (c : Int) : (stp w c).length % 2 = (w.length + 1) % 2 := by
  unfold stp
  split
  · rename_i h
    have := getLast_pos h
    simp
    omega
  · simp
theorem fold_par : ∀ (r w : List Int), (r.foldl stp w).length % 2 = (w.length + r.length) % 2
  | [], w => by simp
  | c :: r, w => by
    have h1 := fold_par r (stp w c)
    have h2 := len_par w c
    simp only [List.foldl_cons, List.length_cons]
    omega
theorem apt_par (a b : List Int) : apt a b % 2 = (a.length + b.length) % 2 := by
  have := cmn_le a b
  unfold apt
  omega
def twd (w g : List Int) : List Int := if g.take w.length = w then w ++ (g[w.length]?).toList else w.dropLast
theorem twd_eq : ∀ {w g : List Int}, Red g → w ≠ g → ∃ c, dec w g = some c ∧ twd w g = stp w c
  | [], [], _, h => absurd rfl h
  | [], b :: g, _, _ => ⟨b, rfl, by simp [twd, stp]⟩
  | a :: u, [], _, _ => by
    obtain ⟨z, hz⟩ : ∃ z, (a :: u).getLast? = some z := ⟨_, List.getLast?_eq_getLast (List.cons_ne_nil a u)⟩
    refine ⟨z, by unfold dec; exact hz, ?_⟩
    unfold twd stp
    rw [if_neg (by simp), if_pos hz]
  | a :: u, b :: g, hg, h => by
    by_cases hab : a = b
    · subst hab
      obtain ⟨c, e1, e2⟩ := twd_eq (w := u) (g := g) hg.tail (fun z => h (by rw [z]))
      refine ⟨c, by simp [dec, e1], ?_⟩
      cases u with
      | nil =>
        cases g with
        | nil => exact absurd rfl h
        | cons x g =>
          simp [dec] at e1
          subst e1
          have : a ≠ x := hg.1
          simp [twd, stp, this]
      | cons y v =>
        rw [stp_cons (List.cons_ne_nil y v), ← e2]
        unfold twd
        by_cases hp : g.take (y :: v).length = y :: v
        · rw [if_pos hp, if_pos (by simp only [List.length_cons, List.take_succ_cons]; simp only [List.length_cons] at hp; rw [hp])]
          simp
        · rw [if_neg hp, if_neg (by simp only [List.length_cons, List.take_succ_cons]; simp only [List.length_cons] at hp; intro z; exact hp (List.cons.inj z).2)]
          simp
    · obtain ⟨z, hz⟩ : ∃ z, (a :: u).getLast? = some z := ⟨_, List.getLast?_eq_getLast (List.cons_ne_nil a u)⟩
      refine ⟨z, by unfold dec; rw [if_neg hab]; exact hz, ?_⟩
      unfold twd stp
      rw [if_neg (by simp; intro z; exact absurd z.symm hab), if_pos hz]
def stepC (base later : List Int) : Option Int := if base.length < later.length then later.getLast? else base.getLast?
theorem stepC_eq {w : List Int} {c : Int} : stepC w (stp w c) = some c := by
  unfold stepC stp
  by_cases h : w.getLast? = some c
  · rw [if_pos h, if_neg (by simp)]; exact h
  · rw [if_neg h, if_pos (by simp)]; simp
abbrev Wd (r : List Int) (j : Nat) : List Int := rst (r.take j)
theorem wd_succ {r : List Int} {j : Nat} {c : Int} (h : r[j]? = some c) : Wd r (j + 1) = stp (Wd r j) c := by
  unfold Wd
  rw [List.take_add_one, h]
  unfold rst
  rw [List.foldl_append]
  rfl
theorem near_on : ∀ (r s w g : List Int) (c : Int), Red w → Red g → dec w g = some c → (∀ k, k ≤ r.length → apt ((r.take k).foldl stp w) ((s.take k).foldl stp g) ≤ apt w g) → r.length = s.length → r.foldl stp w = s.foldl stp g →
    ∃ (k : Nat) (x : Int), r[k]? = some x ∧ dec ((r.take k).foldl stp w) ((s.take k).foldl stp g) = some x ∧ ((k = 0 ∧ x = c) ∨ ∃ j, k = j + 1 ∧ r[j]? = some x)
  | [], [], w, g, c, _, _, h, _, _, e => absurd e (ne_of_dec h)
  | [], _ :: _, _, _, _, _, _, _, _, l, _ => by simp at l
  | _ :: _, [], _, _, _, _, _, _, _, l, _ => by simp at l
  | x :: r, y :: s, w, g, c, hw, hg, h, hm, l, e => by
    by_cases hx : x = c
    · exact ⟨0, x, rfl, by rw [hx]; exact h, .inl ⟨rfl, hx⟩⟩
    · have hw' := red_stp (c := x) hw
      have hg' := red_stp (c := y) hg
      have p := apt_pos (ne_of_dec h)
      have e1 : apt (stp w x) g = apt w g + 1 := apt_far hw hg fun z => hx (by rw [h] at z; exact (Option.some.inj z).symm)
      have m1 : apt (stp w x) (stp g y) ≤ apt w g := by
        have := hm 1 (by simp)
        simpa using this
      have e2 : dec g (stp w x) = some y := by
        apply Decidable.byContradiction
        intro z
        have := apt_stp_r y hw' hg
        rw [if_neg z] at this
        omega
      have e3 : apt (stp w x) (stp g y) = apt w g := by
        have := apt_stp_r y hw' hg
        rw [if_pos e2] at this
        omega
      have e4 : dec g w = some y := by
        apply Decidable.byContradiction
        intro z
        have q := dec_on hw hg h z
        have a1 : apt w (stp g y) = apt w g + 1 := by rw [apt_stp_r y hw hg, if_neg z]
        have a2 : dec w (stp g y) = some x := by
          rw [dec_iff hw hg']
          omega
        rw [q] at a2
        exact hx (Option.some.inj a2).symm
      have e5 : dec (stp w x) (stp g y) = some x := by
        rw [dec_iff hw' hg', stp_stp hw]
        have : apt w (stp g y) = apt w g - 1 := by rw [apt_stp_r y hw hg, if_pos e4]
        omega
      obtain ⟨k, z, k1, k2, k3⟩ := near_on r s (stp w x) (stp g y) x hw' hg' e5 (fun k hk => by
        have := hm (k + 1) (by simpa using hk)
        rw [e3]
        simpa using this) (by simpa using l) (by simpa using e)
      refine ⟨k + 1, z, by simpa using k1, by simpa using k2, .inr ⟨k, rfl, ?_⟩⟩
      rcases k3 with ⟨rfl, rfl⟩ | ⟨j, rfl, k3⟩
      · rfl
      · simpa using k3
theorem first_max (f : Nat → Nat) : ∀ n, ∃ m, m ≤ n ∧ (∀ k, k ≤ n → f k ≤ f m) ∧ ∀ k, k < m → f k < f m
  | 0 => ⟨0, Nat.le_refl _, fun k h => by rw [Nat.le_zero.mp h]; exact Nat.le_refl _, fun k h => by omega⟩
  | n + 1 => by
    obtain ⟨m, h1, h2, h3⟩ := first_max f n
    by_cases h : f m < f (n + 1)
    · refine ⟨n + 1, Nat.le_refl _, fun k hk => ?_, fun k hk => Nat.lt_of_le_of_lt (h2 k (by omega)) h⟩
      by_cases e : k = n + 1
      · rw [e]; exact Nat.le_refl _
      · exact Nat.le_of_lt (Nat.lt_of_le_of_lt (h2 k (by omega)) h)
    · refine ⟨m, by omega, fun k hk => ?_, h3⟩
      by_cases e : k = n + 1
      · rw [e]; omega
      · exact h2 k (by omega)
theorem fold_Wd (r : List Int) (j k : Nat) : ((r.drop j).take k).foldl stp (Wd r j) = Wd r (j + k) := by
  unfold Wd rst
  rw [← List.foldl_append, ← List.take_add]
def NearAt (r s : List Int) (p : Nat) : Prop := p + 2 ≤ r.length ∧ Wd r (p + 1) ≠ Wd s (p + 1) ∧ Wd r (p + 2) = Wd r p ∧ twd (Wd r (p + 1)) (Wd s (p + 1)) = Wd r p
theorem wd_zero (r : List Int) : Wd r 0 = [] := by simp [Wd, rst]
theorem near_exists {r s : List Int} (hl : r.length = s.length) (he : rst r = rst s) (hne : r ≠ s) : ∃ p, NearAt r s p := by
  obtain ⟨m, m1, m2, m3⟩ := first_max (fun k => apt (Wd r k) (Wd s k)) r.length
  have pos : 0 < apt (Wd r m) (Wd s m) := by
    apply Nat.pos_of_ne_zero
    intro z
    apply hne
    have all : ∀ k, k ≤ r.length → Wd r k = Wd s k := fun k hk => apt_zero (Nat.le_zero.mp (z ▸ m2 k hk))
    apply List.ext_getElem hl
    intro i h1 h2
    have e1 := wd_succ (r := r) (j := i) (List.getElem?_eq_getElem h1)
    have e2 := wd_succ (r := s) (j := i) (List.getElem?_eq_getElem h2)
    rw [all (i + 1) (by omega), all i (by omega)] at e1
    exact stp_inj (e1.symm.trans e2)
  have m0 : m ≠ 0 := fun z => by
    subst z
    rw [wd_zero, wd_zero] at pos
    simp [apt, cmn] at pos
  obtain ⟨j, rfl⟩ : ∃ j, m = j + 1 := ⟨m - 1, by omega⟩
  obtain ⟨c, hc⟩ : ∃ c, r[j]? = some c := ⟨_, List.getElem?_eq_getElem (by omega)⟩
  obtain ⟨y, hy⟩ : ∃ y, s[j]? = some y := ⟨_, List.getElem?_eq_getElem (by omega)⟩
  have rw_ : Red (Wd r j) := red_rst _
  have rg : Red (Wd s j) := red_rst _
  have up := m3 j (by omega)
  have w1 := wd_succ hc
  have w2 := wd_succ hy
  have rw1 : Red (Wd r (j + 1)) := red_rst _
  have rg1 : Red (Wd s (j + 1)) := red_rst _
  have dc : dec (Wd r (j + 1)) (Wd s (j + 1)) = some c := by
    rw [dec_iff rw1 rg1]
    have b : stp (Wd r (j + 1)) c = Wd r j := by rw [w1, stp_stp rw_]
    rw [b]
    have a1 : apt (Wd r j) (Wd s (j + 1)) ≤ apt (Wd r j) (Wd s j) + 1 := by
      rw [w2, apt_stp_r y rw_ rg]
      split <;> omega
    have p1 := apt_par (Wd r j) (Wd s (j + 1))
    have p2 := apt_par (Wd r (j + 1)) (Wd s (j + 1))
    have q1 := fold_par (r.take j) []
    have q2 := fold_par (r.take (j + 1)) []
    have q3 : (Wd r j).length % 2 = j % 2 := by rw [show (Wd r j).length = ((r.take j).foldl stp []).length from rfl, q1]; simp; omega
    have q4 : (Wd r (j + 1)).length % 2 = (j + 1) % 2 := by rw [show (Wd r (j + 1)).length = ((r.take (j + 1)).foldl stp []).length from rfl, q2]; simp; omega
    omega
  have key := near_on (r.drop (j + 1)) (s.drop (j + 1)) (Wd r (j + 1)) (Wd s (j + 1)) c rw1 rg1 dc (fun k hk => by
    rw [fold_Wd, fold_Wd]
    rw [List.length_drop] at hk
    exact m2 _ (by omega)) (by simp [hl]) (by
    have f1 := fold_Wd r (j + 1) (r.length - (j + 1))
    have f2 := fold_Wd s (j + 1) (s.length - (j + 1))
    rw [List.take_of_length_le (by simp)] at f1 f2
    rw [f1, f2]
    unfold Wd
    rw [List.take_of_length_le (by omega), List.take_of_length_le (by omega)]
    exact he)
  obtain ⟨k, x, k1, k2, k3⟩ := key
  rw [fold_Wd, fold_Wd] at k2
  rw [List.getElem?_drop] at k1
  have hx : r[j + k]? = some x := by
    rcases k3 with ⟨rfl, rfl⟩ | ⟨i, rfl, k3⟩
    · exact hc
    · rw [List.getElem?_drop] at k3
      rw [show j + (i + 1) = j + 1 + i by omega]
      exact k3
  have wA := wd_succ hx
  have wB := wd_succ k1
  have rb : Red (Wd r (j + k)) := red_rst _
  have back : Wd r (j + k + 2) = Wd r (j + k) := by
    rw [show j + k + 2 = j + 1 + k + 1 by omega, wB, show j + 1 + k = j + k + 1 by omega, wA, stp_stp rb]
  refine ⟨j + k, ?_, ?_, back, ?_⟩
  · have := (List.getElem?_eq_some_iff.mp k1).1
    omega
  · rw [show j + k + 1 = j + 1 + k by omega]
    exact ne_of_dec k2
  · have ne := ne_of_dec k2
    obtain ⟨c', t1, t2⟩ := twd_eq (red_rst _) ne
    rw [k2] at t1
    cases t1
    rw [show j + k + 1 = j + 1 + k by omega, t2, show j + 1 + k = j + k + 1 by omega, wA, stp_stp rb]
def repF (r : List Int) (p : Nat) (d : Int) : List Int := r.take p ++ [d, d] ++ r.drop (p + 2)
theorem repF_len {r : List Int} {p : Nat} {d : Int} (h : p + 2 ≤ r.length) : (repF r p d).length = r.length := by
  unfold repF
  simp
  omega
theorem repF_at {r : List Int} {p : Nat} {d : Int} (h : p + 2 ≤ r.length) (j : Nat) : Wd (repF r p d) j = if j = p + 1 then stp (Wd r p) d else if j ≤ p then Wd r j else (r.drop (p + 2)).take (j - (p + 2)) |>.foldl stp (Wd r p) := by
  have l1 : (r.take p).length = p := by simp; omega
  have rw_ : Red (Wd r p) := red_rst _
  unfold Wd repF rst
  by_cases h1 : j ≤ p
  · rw [if_neg (by omega), if_pos h1, List.append_assoc, List.take_append_of_le_length (by omega), List.take_take, Nat.min_eq_left h1]
  · rw [if_neg h1]
    by_cases h2 : j = p + 1
    · rw [if_pos h2]
      subst h2
      rw [List.append_assoc, List.take_append, List.take_of_length_le (by omega), l1, show p + 1 - p = 1 by omega]
      simp [List.foldl_append]
    · rw [if_neg h2]
      rw [List.take_append, List.take_of_length_le (by simp; omega), List.foldl_append, List.foldl_append]
      have : (r.take p ++ [d, d]).length = p + 2 := by simp; omega
      rw [this]
      simp only [List.foldl_cons, List.foldl_nil]
      rw [stp_stp (show Red ((r.take p).foldl stp []) from rw_)]
theorem repF_rest {r : List Int} {p : Nat} {d c : Int} (h1 : r[p]? = some c) (h2 : r[p + 1]? = some c) : (∀ j, j ≠ p + 1 → j ≤ r.length → Wd (repF r p d) j = Wd r j) ∧ Wd (repF r p d) (p + 1) = stp (Wd r p) d ∧ rst (repF r p d) = rst r := by
  have hl : p + 2 ≤ r.length := (List.getElem?_eq_some_iff.mp h2).1
  have rw_ : Red (Wd r p) := red_rst _
  have back : Wd r (p + 2) = Wd r p := by rw [wd_succ h2, wd_succ h1, stp_stp rw_]
  have far : ∀ j, p + 2 ≤ j → ((r.drop (p + 2)).take (j - (p + 2))).foldl stp (Wd r p) = Wd r j := fun j hj => by
    rw [← back, fold_Wd, show p + 2 + (j - (p + 2)) = j by omega]
  have all : ∀ j, j ≠ p + 1 → Wd (repF r p d) j = Wd r j := fun j hj => by
    rw [repF_at hl, if_neg hj]
    by_cases h : j ≤ p
    · rw [if_pos h]
    · rw [if_neg h, far j (by omega)]
  refine ⟨fun j hj _ => all j hj, by rw [repF_at hl, if_pos rfl], ?_⟩
  have := all r.length (by omega)
  unfold Wd at this
  rw [List.take_of_length_le (Nat.le_refl _), List.take_of_length_le (by rw [repF_len hl]; exact Nat.le_refl _)] at this
  exact this
theorem wd_par {r : List Int} {j : Nat} (h : j ≤ r.length) : (Wd r j).length % 2 = j % 2 := by
  have := fold_par (r.take j) []
  rw [show (Wd r j).length = ((r.take j).foldl stp []).length from rfl, this]
  simp
  omega
theorem near_facts {r s : List Int} {p : Nat} (hl : r.length = s.length) (h : NearAt r s p) : ∃ (x d : Int), r[p]? = some x ∧ r[p + 1]? = some x ∧ dec (Wd r p) (Wd s (p + 1)) = some d ∧ x ≠ d ∧ apt (stp (Wd r p) d) (Wd s (p + 1)) + 2 = apt (Wd r (p + 1)) (Wd s (p + 1)) ∧ stepC (Wd r p) (twd (Wd r p) (Wd s (p + 1))) = some d := by
  obtain ⟨h1, h2, h3, h4⟩ := h
  obtain ⟨x, hx⟩ : ∃ x, r[p]? = some x := ⟨_, List.getElem?_eq_getElem (by omega)⟩
  obtain ⟨y, hy⟩ : ∃ y, r[p + 1]? = some y := ⟨_, List.getElem?_eq_getElem (by omega)⟩
  have rb : Red (Wd r p) := red_rst _
  have rw1 : Red (Wd r (p + 1)) := red_rst _
  have rg : Red (Wd s (p + 1)) := red_rst _
  have w1 := wd_succ hx
  have w2 := wd_succ hy
  have back : stp (Wd r (p + 1)) x = Wd r p := by rw [w1, stp_stp rb]
  obtain ⟨c, c1, c2⟩ := twd_eq rg h2
  have hc : c = x := stp_inj (by rw [← c2, h4, back])
  subst hc
  have hyx : y = c := stp_inj (by rw [← w2, h3, back])
  subst hyx
  have n1 := apt_near rw1 rg c1
  rw [back] at n1
  have p1 := apt_par (Wd r p) (Wd s (p + 1))
  have p2 := apt_par (Wd r (p + 1)) (Wd s (p + 1))
  have q1 : (Wd r p).length % 2 = p % 2 := by
    have := fold_par (r.take p) []
    rw [show (Wd r p).length = ((r.take p).foldl stp []).length from rfl, this]
    simp
    omega
  have q2 : (Wd r (p + 1)).length % 2 = (p + 1) % 2 := by
    have := fold_par (r.take (p + 1)) []
    rw [show (Wd r (p + 1)).length = ((r.take (p + 1)).foldl stp []).length from rfl, this]
    simp
    omega
  have ne : Wd r p ≠ Wd s (p + 1) := by
    intro z
    have a1 := wd_par (r := s) (j := p + 1) (by omega)
    rw [← z] at a1
    omega
  obtain ⟨d, d1, d2⟩ := twd_eq rg ne
  have n2 := apt_near rb rg d1
  have xd : y ≠ d := by
    intro z
    subst z
    rw [← w1] at n2
    omega
  exact ⟨y, d, hx, hy, d1, xd, by omega, by rw [d2]; exact stepC_eq⟩
def usN (r s : List Int) (i : Nat) : Nat := apt (Wd r (i + 1)) (Wd s (i + 1)) / 2
theorem usesF_range {r s : List Int} (hl : r.length = s.length) : usesF r s = (List.range (r.length - 1)).map fun i => ((usN r s i : Nat) : Int) := by
  have l1 : (rsts r).length = r.length + 1 := rsts_len [] r
  have l2 : (rsts s).length = s.length + 1 := rsts_len [] s
  have lp : (prs r s).length = r.length - 1 := by
    unfold prs
    rw [List.length_dropLast, List.length_drop, List.length_zip]
    omega
  unfold usesF
  apply List.ext_getElem?
  intro i
  by_cases hi : i < r.length - 1
  · have g1 : (rsts r)[1 + i]? = some (Wd r (i + 1)) := by rw [show 1 + i = i + 1 by omega]; exact rsts_get [] r (i + 1) (by omega)
    have g2 : (rsts s)[1 + i]? = some (Wd s (i + 1)) := by rw [show 1 + i = i + 1 by omega]; exact rsts_get [] s (i + 1) (by omega)
    have gp : (prs r s)[i]? = some (Wd r (i + 1), Wd s (i + 1)) := by
      unfold prs
      rw [List.getElem?_dropLast, if_pos (by rw [List.length_drop, List.length_zip]; omega), List.getElem?_drop, List.getElem?_zip_eq_some]
      exact ⟨g1, g2⟩
    rw [List.getElem?_map, gp, List.getElem?_map, List.getElem?_range hi]
    rfl
  · rw [List.getElem?_eq_none (by rw [List.length_map, lp]; omega), List.getElem?_eq_none (by simp; omega)]
def dsN (r s : List Int) : Nat := ((List.range (r.length - 1)).map (usN r s)).sum
theorem apt_even {r s : List Int} (hl : r.length = s.length) {j : Nat} (hj : j ≤ r.length) : apt (Wd r j) (Wd s j) % 2 = 0 := by
  have a := apt_par (Wd r j) (Wd s j)
  have b := wd_par (r := r) hj
  have c := wd_par (r := s) (j := j) (by omega)
  omega
theorem usN_step {r s : List Int} (hl : r.length = s.length) {p : Nat} {x d : Int} (h1 : r[p]? = some x) (h2 : r[p + 1]? = some x) (hd : apt (stp (Wd r p) d) (Wd s (p + 1)) + 2 = apt (Wd r (p + 1)) (Wd s (p + 1))) : ∀ i, i < r.length - 1 → usN (repF r p d) s i = if i = p then usN r s i - 1 else usN r s i := by
  intro i hi
  obtain ⟨a, b, c⟩ := repF_rest (d := d) h1 h2
  have hp : p + 2 ≤ r.length := (List.getElem?_eq_some_iff.mp h2).1
  unfold usN
  by_cases e : i = p
  · subst e
    rw [if_pos rfl, b]
    omega
  · rw [if_neg e, a (i + 1) (by omega) (by omega)]
theorem usN_pos {r s : List Int} {p : Nat} {d : Int} (hd : apt (stp (Wd r p) d) (Wd s (p + 1)) + 2 = apt (Wd r (p + 1)) (Wd s (p + 1))) : 1 ≤ usN r s p := by
  unfold usN
  omega
theorem sum_less (f g : Nat → Nat) (p : Nat) : ∀ n, p < n → (∀ i, i < n → g i = if i = p then f i - 1 else f i) → 1 ≤ f p → ((List.range n).map g).sum + 1 = ((List.range n).map f).sum
  | 0, h, _, _ => by omega
  | n + 1, h, hg, hp => by
    rw [List.range_succ, List.map_append, List.map_append, List.sum_append, List.sum_append]
    simp only [List.map_cons, List.map_nil, List.sum_cons, List.sum_nil]
    have e := hg n (by omega)
    by_cases hn : n = p
    · subst hn
      rw [if_pos rfl] at e
      have : (List.range n).map g = (List.range n).map f := by
        apply List.map_congr_left
        intro i hi
        have := List.mem_range.mp hi
        rw [hg i (by omega), if_neg (by omega)]
      rw [this]
      omega
    · rw [if_neg hn] at e
      have := sum_less f g p n (by omega) (fun i hi => hg i (by omega)) hp
      omega
theorem ds_step {r s : List Int} (hl : r.length = s.length) {p : Nat} {x d : Int} (h1 : r[p]? = some x) (h2 : r[p + 1]? = some x) (hd : apt (stp (Wd r p) d) (Wd s (p + 1)) + 2 = apt (Wd r (p + 1)) (Wd s (p + 1))) : dsN (repF r p d) s + 1 = dsN r s := by
  have hp : p + 2 ≤ r.length := (List.getElem?_eq_some_iff.mp h2).1
  unfold dsN
  rw [repF_len hp]
  exact sum_less (usN r s) (usN (repF r p d) s) p (r.length - 1) (by omega) (usN_step hl h1 h2 hd) (usN_pos hd)
end Cm

namespace Cm
open PySem PySem.Spec PyProof.Rows L2 Tw Pq
inductive Pth : List Int → List (Nat × Int) → List Int → Prop
  | nil (r : List Int) : Pth r [] r
  | cons {r s : List Int} {p : Nat} {x d : Int} {l : List (Nat × Int)} : r[p]? = some x → r[p + 1]? = some x → x ≠ d → 0 ≤ d → Pth (repF r p d) l s → Pth r ((p, d) :: l) s
theorem Pth.append {r s t : List Int} {l m : List (Nat × Int)} (a : Pth r l s) (b : Pth s m t) : Pth r (l ++ m) t := by
  induction a with
  | nil => exact b
  | cons h1 h2 h3 h4 _ ih => exact .cons h1 h2 h3 h4 (ih b)
theorem Pth.snoc {r s : List Int} {p : Nat} {x d : Int} {l : List (Nat × Int)} (a : Pth r l s) (h1 : s[p]? = some x) (h2 : s[p + 1]? = some x) (h3 : x ≠ d) (h4 : 0 ≤ d) : Pth r (l ++ [(p, d)]) (repF s p d) := a.append (.cons h1 h2 h3 h4 (.nil _))
theorem Pth.len {r s : List Int} {l : List (Nat × Int)} (a : Pth r l s) : r.length = s.length ∧ rst r = rst s := by
  induction a with
  | nil => exact ⟨rfl, rfl⟩
  | cons h1 h2 h3 h4 _ ih => exact ⟨by rw [← ih.1, repF_len (List.getElem?_eq_some_iff.mp h2).1], by rw [← ih.2, (repF_rest h1 h2).2.2]⟩
theorem repF_pos {r : List Int} {p : Nat} {d : Int} (hr : ∀ c ∈ r, 0 ≤ c) (hd : 0 ≤ d) : ∀ c ∈ repF r p d, 0 ≤ c := fun c hc => by
  unfold repF at hc
  simp only [List.append_assoc, List.mem_append, List.mem_cons, List.not_mem_nil, or_false] at hc
  rcases hc with z | (z | z) | z
  · exact hr c (List.mem_of_mem_take z)
  · omega
  · omega
  · exact hr c (List.mem_of_mem_drop z)
inductive Npt (g : List Int) : List Int → List (Nat × Int) → List Int → Prop
  | nil (r : List Int) : Npt g r [] r
  | cons {r s : List Int} {p : Nat} {x d : Int} {l : List (Nat × Int)} : r[p]? = some x → r[p + 1]? = some x → x ≠ d → 0 ≤ d → apt (stp (Wd r p) d) (Wd g (p + 1)) + 2 = apt (Wd r (p + 1)) (Wd g (p + 1)) → Npt g (repF r p d) l s → Npt g r ((p, d) :: l) s
theorem Npt.append {g r s t : List Int} {l m : List (Nat × Int)} (a : Npt g r l s) (b : Npt g s m t) : Npt g r (l ++ m) t := by
  induction a with
  | nil => exact b
  | cons h1 h2 h3 h4 h5 _ ih => exact .cons h1 h2 h3 h4 h5 (ih b)
theorem Npt.pth {g r s : List Int} {l : List (Nat × Int)} (a : Npt g r l s) : Pth r l s := by
  induction a with
  | nil => exact .nil _
  | cons h1 h2 h3 h4 h5 _ ih => exact .cons h1 h2 h3 h4 ih
theorem Npt.len {g r s : List Int} {l : List (Nat × Int)} (a : Npt g r l s) : r.length = s.length ∧ rst r = rst s := a.pth.len
end Cm

namespace Cm
open PySem PySem.Spec PyProof.Rows L2 Tw Pq
end Cm

namespace Cm
theorem wd_left {a b : List Int} {j : Nat} (h : j ≤ a.length) : Wd (a ++ b) j = Wd a j := by
  unfold Wd
  rw [List.take_append_of_le_length h]
theorem repF_left {u r : List Int} {p : Nat} {d : Int} : repF (u ++ r) (u.length + p) d = u ++ repF r p d := by
  unfold repF
  rw [List.take_length_add_append, show u.length + p + 2 = u.length + (p + 2) by omega, List.drop_length_add_append]
  simp
def shiftS (k : Nat) (l : List (Nat × Int)) : List (Nat × Int) := l.map fun s => (s.1 + k, s.2)
theorem Pth.left {r s u : List Int} {l : List (Nat × Int)} (h : Pth r l s) : Pth (u ++ r) (shiftS u.length l) (u ++ s) := by
  induction h with
  | nil => exact .nil _
  | @cons r s p x d l h1 h2 h3 h4 _ ih =>
    refine .cons (by rw [List.getElem?_append_right (by omega)]; simpa using h1) (by rw [List.getElem?_append_right (by omega), show p + u.length + 1 - u.length = p + 1 by omega]; exact h2) h3 h4 ?_
    rw [Nat.add_comm p u.length, repF_left]
    exact ih
theorem inR_fold {q : Nat} : ∀ (r w : List Int), InR q r → InR q w → InR q (r.foldl stp w)
  | [], w, _, h => h
  | c :: r, w, hr, h => inR_fold r (stp w c) (fun x hx => hr x (by simp [hx])) (h.stp (hr c (by simp)).1 (hr c (by simp)).2)
theorem inR_rst {q : Nat} {r : List Int} (h : InR q r) : InR q (rst r) := inR_fold r [] h fun _ z => nomatch z
end Cm

namespace Cm
theorem apt_tri : ∀ (n : Nat) (a b c : List Int), apt a b = n → Red a → Red b → Red c → apt a c ≤ apt a b + apt b c
  | 0, a, b, c, h, _, _, _ => by
    rw [apt_zero h, apt_self]
    omega
  | n + 1, a, b, c, h, ha, hb, hc => by
    have ne : a ≠ b := fun z => by
      rw [z, apt_self] at h
      cases h
    obtain ⟨x, hx⟩ := dec_of_ne ne
    have e := apt_near ha hb hx
    have ih := apt_tri n (stp a x) b c (by omega) (red_stp ha) hb hc
    have s := apt_stp a c x ha hc
    split at s <;> omega
theorem usN_comm (r s : List Int) (i : Nat) : usN r s i = usN s r i := by
  unfold usN
  rw [apt_comm]
theorem usN_self (r : List Int) (i : Nat) : usN r r i = 0 := by
  unfold usN
  rw [apt_self]
theorem usN_tri {r s t : List Int} (h1 : r.length = s.length) (h2 : s.length = t.length) {i : Nat} (hi : i < r.length - 1) : usN r t i ≤ usN r s i + usN s t i := by
  have e1 := apt_even h1 (j := i + 1) (by omega)
  have e2 := apt_even h2 (j := i + 1) (by omega)
  have tr := apt_tri _ (Wd r (i + 1)) (Wd s (i + 1)) (Wd t (i + 1)) rfl (red_rst _) (red_rst _) (red_rst _)
  unfold usN
  omega
theorem usesF_at {r s : List Int} (hl : r.length = s.length) {i : Nat} (hi : i < r.length - 1) : (usesF r s)[i]? = some ((usN r s i : Nat) : Int) := by
  rw [usesF_range hl, List.getElem?_map, List.getElem?_range hi]
  rfl
theorem usesF_step {r s : List Int} (hl : r.length = s.length) {p : Nat} {x d : Int} (h1 : r[p]? = some x) (h2 : r[p + 1]? = some x) (hd : apt (stp (Wd r p) d) (Wd s (p + 1)) + 2 = apt (Wd r (p + 1)) (Wd s (p + 1))) : usesF (repF r p d) s = (usesF r s).set p (((usN r s p : Nat) : Int) - 1) := by
  have hp : p + 2 ≤ r.length := (List.getElem?_eq_some_iff.mp h2).1
  have pos := usN_pos (r := r) (s := s) hd
  rw [usesF_range (by rw [repF_len hp]; exact hl), usesF_range hl, repF_len hp]
  apply List.ext_getElem?
  intro i
  by_cases hi : i < r.length - 1
  · rw [List.getElem?_map, List.getElem?_range hi]
    have st := usN_step hl h1 h2 hd i hi
    by_cases e : i = p
    · subst e
      rw [List.getElem?_set_self (by simpa using hi), Option.map_some, st, if_pos rfl]
      congr 1
      omega
    · rw [List.getElem?_set_ne (fun z => e z.symm), List.getElem?_map, List.getElem?_range hi, Option.map_some, Option.map_some, st, if_neg e]
  · rw [List.getElem?_eq_none (by simpa using hi), List.getElem?_eq_none (by simpa using hi)]
theorem usN_any {r s : List Int} (hl : r.length = s.length) {p : Nat} {x d : Int} (h1 : r[p]? = some x) (h2 : r[p + 1]? = some x) : (∀ i, i ≠ p → i < r.length - 1 → usN (repF r p d) s i = usN r s i) ∧ usN (repF r p d) s p ≤ usN r s p + 1 ∧ usN r s p ≤ usN (repF r p d) s p + 1 := by
  obtain ⟨a, b, c⟩ := repF_rest (d := d) h1 h2
  have hp : p + 2 ≤ r.length := (List.getElem?_eq_some_iff.mp h2).1
  refine ⟨fun i hi hl => ?_, ?_⟩
  · unfold usN
    rw [a (i + 1) (by omega) (by omega)]
  · have rb : Red (Wd r p) := red_rst _
    have rg : Red (Wd s (p + 1)) := red_rst _
    have s1 := apt_stp (Wd r p) (Wd s (p + 1)) d rb rg
    have s2 := apt_stp (Wd r p) (Wd s (p + 1)) x rb rg
    rw [← wd_succ h1] at s2
    unfold usN
    rw [b]
    split at s1 <;> split at s2 <;> omega
def backF : List Int → List (Nat × Int) → List (Nat × Int)
  | _, [] => []
  | r, (p, d) :: l => backF (repF r p d) l ++ [(p, (r[p]?).getD 0)]
theorem repF_back {r : List Int} {p : Nat} {x d : Int} (h1 : r[p]? = some x) (h2 : r[p + 1]? = some x) : repF (repF r p d) p x = r ∧ (repF r p d)[p]? = some d ∧ (repF r p d)[p + 1]? = some d := by
  have hp : p + 2 ≤ r.length := (List.getElem?_eq_some_iff.mp h2).1
  have l1 : (r.take p).length = p := by simp; omega
  refine ⟨?_, ?_, ?_⟩
  · unfold repF
    have t1 : (r.take p ++ [d, d] ++ r.drop (p + 2)).take p = r.take p := by
      rw [List.append_assoc, List.take_append_of_le_length (by omega), List.take_of_length_le (by omega)]
    have t2 : (r.take p ++ [d, d] ++ r.drop (p + 2)).drop (p + 2) = r.drop (p + 2) := by
      rw [List.drop_append_of_le_length (by simp; omega), List.drop_of_length_le (by simp; omega)]
      rfl
    rw [t1, t2]
    exact (split_pair h1 h2).symm
  · unfold repF
    rw [List.append_assoc, List.getElem?_append_right (by omega), l1]
    simp
  · unfold repF
    rw [List.append_assoc, List.getElem?_append_right (by omega), l1, show p + 1 - p = 1 by omega]
    simp
theorem Pth.back {r s : List Int} {l : List (Nat × Int)} (h : Pth r l s) : (∀ c ∈ r, 0 ≤ c) → Pth s (backF r l) r := by
  induction h with
  | nil => exact fun _ => .nil _
  | @cons r s p x d l h1 h2 h3 h4 _ ih =>
    intro hr
    obtain ⟨b1, b2, b3⟩ := repF_back (d := d) h1 h2
    have x0 : 0 ≤ x := hr x (List.mem_of_getElem? h1)
    have := (ih (repF_pos hr h4)).append (Pth.cons b2 b3 (fun z => h3 z.symm) x0 (.nil _))
    rw [b1] at this
    unfold backF
    rw [h1]
    exact this
end Cm

namespace Cm
open PySem PySem.Spec PyProof.Rows L2 Tw Pq
section
variable {σ ρ : Type}
end
end Cm

namespace Cm
open PySem PySem.Spec PyProof.Rows L2 Tw Pq
end Cm

namespace Cm
open PySem PySem.Spec PyProof.Rows L2 Tw Pq
def Sm : Nat → D → Prop
  | 0, _ => False
  | k + 1, d => (∃ i, d = .int i) ∨ (∃ b, d = .bl b) ∨ d = .non ∨ (∃ s, d = .str s ∧ PyData.strOk s = true) ∨ (∃ xs, d = .lst xs ∧ xs.length ≤ sizeLine ∧ ∀ x ∈ xs, Sm k x) ∨ (∃ xs, d = .tup xs ∧ pureL xs = true ∧ xs.length ≤ sizeLine ∧ ∀ x ∈ xs, Sm k x)
theorem zipD_self : ∀ xs : List D, zipD xs xs = xs.map fun x => .tup [x, x]
  | [] => rfl
  | x :: xs => by
    have := zipD_self xs
    unfold zipD at this ⊢
    rw [List.zipWith_cons_cons, this, List.map_cons]
theorem eqB (b c : Bool) : dEq (.bl b) (.bl c) [] = some (.bl (b == c)) := by cases b <;> cases c <;> rfl
theorem neB (b c : Bool) : dNe (.bl b) (.bl c) [] = some (.bl (!(b == c))) := by cases b <;> cases c <;> rfl
theorem same_items {k : Nat} {xs : List D} (hl : xs.length ≤ sizeLine) (ih : ∀ x ∈ xs, p_law_same_2 k [x, x] = .ok (.bl true)) :
    qComp (Rt.ok (zipD xs xs)) (fun v5 => (un2 v5).bind fun a4 => (Rt.ok true)) (fun v5 => (un2 v5).bind fun a4 => (qCall (p_law_same_2 k) (qCons (Rt.ok a4.1) (qCons (Rt.ok a4.2) qNil)))) = .ok (.lst ((xs.map fun _ => true).map D.bl)) := by
  have := q_comp1 (enc := fun x : D => D.tup [x, x]) (dec := D.bl) (xs := xs) (fun _ => true) hl (e := fun v5 => (un2 v5).bind fun a4 => (qCall (p_law_same_2 k) (qCons (Rt.ok a4.1) (qCons (Rt.ok a4.2) qNil)))) (t := fun v5 => (un2 v5).bind fun a4 => (Rt.ok true)) (fun x hx => by simp [un2, ih x hx]) (fun _ _ => by simp [un2])
  rw [← zipD_self] at this
  exact this
theorem all_items (xs : List D) : dAll [.lst ((xs.map fun _ => true).map D.bl)] [] = some (.bl true) := by
  have al := o_allB (h := []) (xs.map fun _ => true)
  have tr : (xs.map fun _ => true).all id = true := by simp
  rw [tr] at al
  exact al
theorem p_same_self : ∀ (k : Nat) (d : D), Sm k d → p_law_same_2 k [d, d] = .ok (.bl true)
  | 0, _, h => h.elim
  | k + 1, d, h => by
    have t1 : dTup [.ty "list", .ty "tuple"] [] = some (.tup [.ty "list", .ty "tuple"]) := rfl
    have t2 : dTup [.ty "bool", .ty "str"] [] = some (.tup [.ty "bool", .ty "str"]) := rfl
    rw [p_law_same_2]
    rcases h with ⟨i, rfl⟩ | ⟨b, rfl⟩ | rfl | ⟨s, rfl, so⟩ | ⟨xs, rfl, hl, hx⟩ | ⟨xs, rfl, hp, hl, hx⟩
    · have i1 : dIsi [.int i, .tup [.ty "list", .ty "tuple"]] [] = some (.bl false) := rfl
      have i2 : dIs (.int i) .non [] = some (.bl false) := rfl
      have i3 : dIsi [.int i, .tup [.ty "bool", .ty "str"]] [] = some (.bl false) := rfl
      have i4 : dIsi [.int i, .ty "int"] [] = some (.bl true) := rfl
      have i5 : dIsi [.int i, .ty "bool"] [] = some (.bl false) := rfl
      simp only [q_cons, q_nil, q_n, t1, t2, i1, i2, i3, i4, i5, qOp_some, q_val, q_cond, q_bin, q_or, q_eand, q_enot, Bool.false_eq_true, if_false, if_true, Bool.not_false, o_eqI, beq_self_eq_true, bind_ok]
    · have i1 : dIsi [.bl b, .tup [.ty "list", .ty "tuple"]] [] = some (.bl false) := rfl
      have i2 : dIs (.bl b) .non [] = some (.bl false) := rfl
      have i3 : dIsi [.bl b, .tup [.ty "bool", .ty "str"]] [] = some (.bl true) := rfl
      have i5 : dIsi [.bl b, .ty "bool"] [] = some (.bl true) := rfl
      simp only [q_cons, q_nil, q_n, t1, t2, i1, i2, i3, i5, qOp_some, q_val, q_cond, q_bin, q_or, q_eand, q_enot, Bool.false_eq_true, if_false, if_true, eqB, beq_self_eq_true, bind_ok]
    · have i1 : dIsi [.non, .tup [.ty "list", .ty "tuple"]] [] = some (.bl false) := rfl
      have i2 : dIs .non .non [] = some (.bl true) := rfl
      have i5 : dIsi [.non, .ty "bool"] [] = some (.bl false) := rfl
      have i6 : dEq .non .non [] = some (.bl true) := rfl
      simp only [q_cons, q_nil, q_n, t1, t2, i1, i2, i5, i6, qOp_some, q_val, q_cond, q_bin, q_or, q_eand, q_enot, Bool.false_eq_true, if_false, if_true, eqB, beq_self_eq_true, bind_ok]
    · have i1 : dIsi [.str s, .tup [.ty "list", .ty "tuple"]] [] = some (.bl false) := rfl
      have i2 : dIs (.str s) .non [] = some (.bl false) := rfl
      have i3 : dIsi [.str s, .tup [.ty "bool", .ty "str"]] [] = some (.bl true) := rfl
      have i5 : dIsi [.str s, .ty "bool"] [] = some (.bl false) := rfl
      have i6 : dEq (.str s) (.str s) [] = some (.bl true) := by simp [dEq, toPy, PyData.eqv, so]
      simp only [q_cons, q_nil, q_n, t1, t2, i1, i2, i3, i5, i6, qOp_some, q_val, q_cond, q_bin, q_or, q_eand, q_enot, Bool.false_eq_true, if_false, if_true, eqB, beq_self_eq_true, bind_ok]
    · have i1 : dIsi [.lst xs, .tup [.ty "list", .ty "tuple"]] [] = some (.bl true) := rfl
      have i2 : dIsi [.lst xs, .ty "list"] [] = some (.bl true) := rfl
      have i3 : dIsi [.lst xs, .ty "tuple"] [] = some (.bl false) := rfl
      have ln : dLen [.lst xs] [] = some (.int xs.length) := by simp [dLen, seqOf]
      have zq : zipQ [.lst xs, .lst xs] = some (zipD xs xs) := rfl
      have it := same_items hl fun x hx' => p_same_self k x (hx x hx')
      simp only [q_cons, q_nil] at it
      simp only [q_cons, q_nil, q_n, t1, i1, i2, i3, qOp_some, q_val, q_cond, q_bin, q_or, neB, beq_self_eq_true, Bool.not_true, Bool.false_eq_true, if_false, if_true, ln, o_eqI, q_eand, q_iN, zq, show qL (some (zipD xs xs)) = Rt.ok (zipD xs xs) from rfl, it, all_items, bind_ok]
    · have i1 : dIsi [.tup xs, .tup [.ty "list", .ty "tuple"]] [] = some (.bl true) := rfl
      have i2 : dIsi [.tup xs, .ty "list"] [] = some (.bl false) := rfl
      have i3 : dIsi [.tup xs, .ty "tuple"] [] = some (.bl true) := rfl
      have ln : dLen [.tup xs] [] = some (.int xs.length) := by simp [dLen, seqOf]
      have zq : zipQ [.tup xs, .tup xs] = some (zipD xs xs) := by simp [zipQ, itD, hp]
      have it := same_items hl fun x hx' => p_same_self k x (hx x hx')
      simp only [q_cons, q_nil] at it
      simp only [q_cons, q_nil, q_n, t1, i1, i2, i3, qOp_some, q_val, q_cond, q_bin, q_or, neB, beq_self_eq_true, Bool.not_true, Bool.false_eq_true, if_false, if_true, ln, o_eqI, q_eand, q_iN, zq, show qL (some (zipD xs xs)) = Rt.ok (zipD xs xs) from rfl, it, all_items, bind_ok]
theorem sm_int (k : Nat) (i : Int) : Sm (k + 1) (.int i) := .inl ⟨i, rfl⟩
theorem sm_str (k : Nat) {s : Str} (h : PyData.strOk s = true) : Sm (k + 1) (.str s) := .inr (.inr (.inr (.inl ⟨s, rfl, h⟩)))
theorem sm_lst {k : Nat} {xs : List D} (hl : xs.length ≤ sizeLine) (h : ∀ x ∈ xs, Sm k x) : Sm (k + 1) (.lst xs) := .inr (.inr (.inr (.inr (.inl ⟨xs, rfl, hl, h⟩))))
theorem sm_tup {k : Nat} {xs : List D} (hp : pureL xs = true) (hl : xs.length ≤ sizeLine) (h : ∀ x ∈ xs, Sm k x) : Sm (k + 1) (.tup xs) := .inr (.inr (.inr (.inr (.inr ⟨xs, rfl, hp, hl, h⟩))))
end Cm

namespace Cm
open PySem PySem.Spec PyProof.Rows L2 Tw Pq
theorem stp_all {P : Int → Prop} {w : List Int} {c : Int} (hw : ∀ x ∈ w, P x) (hc : P c) : ∀ x ∈ stp w c, P x := by
  intro x hx
  unfold stp at hx
  split at hx
  · exact hw x (List.dropLast_subset _ hx)
  · rcases List.mem_append.mp hx with z | z
    · exact hw x z
    · rw [List.mem_singleton.mp z]; exact hc
theorem fold_all {P : Int → Prop} : ∀ (r w : List Int), (∀ x ∈ r, P x) → (∀ x ∈ w, P x) → ∀ x ∈ r.foldl stp w, P x
  | [], w, _, hw => hw
  | c :: r, w, hr, hw => fold_all r (stp w c) (fun x hx => hr x (by simp [hx])) (stp_all hw (hr c (by simp)))
end Cm

namespace Cm
open PySem PySem.Spec PyProof.Rows L2 Tw Pq
theorem wd_all {P : Int → Prop} {r : List Int} (hr : ∀ x ∈ r, P x) (i : Nat) : ∀ x ∈ Wd r i, P x := fold_all _ [] (fun x hx => hr x (List.mem_of_mem_take hx)) fun _ z => nomatch z
theorem repF_all {P : Int → Prop} {r : List Int} {p : Nat} {d : Int} (h : ∀ x ∈ r, P x) (hd : P d) : ∀ x ∈ repF r p d, P x := by
  intro x hx
  unfold repF at hx
  simp only [List.mem_append, List.mem_cons, List.not_mem_nil, or_false] at hx
  rcases hx with (z | z) | z
  · exact h x (List.mem_of_mem_take z)
  · rcases z with rfl | rfl <;> exact hd
  · exact h x (List.mem_of_mem_drop z)
end Cm

namespace Cm
open PySem PySem.Spec PyProof.Rows L2 Tw
def lotL (q n : Nat) (g : List Int) : List (List Int) := (List.range (Nw q n g.length).toNat).map fun (k : Nat) => (rowAtF q g n [] (k : Int)).getD []
theorem lot_at {q n : Nat} {g : List Int} (hq : 1 ≤ q) (hg : Red g) (ig : InR q g) {k : Nat} (hk : (k : Int) < Nw q n g.length) : ∃ r, rowAtF q g n [] (k : Int) = some r ∧ (lotL q n g)[k]? = some r ∧ Row q n r ∧ rst r = g ∧ numF q g [] r = k := by
  obtain ⟨r, e1, e2, e3, e4, e5⟩ := rowAt_ok hq n [] g (k : Int) trivial hg (fun _ z => nomatch z) ig (by omega) (by rw [apt_nil]; exact hk)
  refine ⟨r, e1, ?_, ⟨e2, e3⟩, e4, e5⟩
  unfold lotL
  rw [List.getElem?_map, List.getElem?_range (by omega), Option.map_some, e1]
  rfl
theorem len_lotL (q n : Nat) (g : List Int) : (lotL q n g).length = (Nw q n g.length).toNat := by simp [lotL]
theorem mem_lotL {q n : Nat} {g : List Int} (hq : 1 ≤ q) (hg : Red g) (ig : InR q g) {r : List Int} : r ∈ lotL q n g ↔ Row q n r ∧ rst r = g := by
  constructor
  · intro h
    obtain ⟨k, hk, e⟩ := List.getElem_of_mem h
    have hk2 : (k : Int) < Nw q n g.length := by rw [len_lotL] at hk; omega
    obtain ⟨r', _, e2, e3, e4, _⟩ := lot_at hq hg ig hk2
    rw [List.getElem?_eq_getElem hk, e] at e2
    cases e2
    exact ⟨e3, e4⟩
  · rintro ⟨hr, e⟩
    obtain ⟨i1, i2, i3⟩ := rowAt_num hq r [] g trivial hg (fun _ z => nomatch z) ig hr.2 e
    rw [hr.1, apt_nil] at i3
    obtain ⟨k, hk⟩ : ∃ k : Nat, numF (q : Int) g [] r = (k : Int) := ⟨(numF (q : Int) g [] r).toNat, by omega⟩
    rw [hk, hr.1] at i1
    obtain ⟨r', e1, e2, _⟩ := lot_at (n := n) hq hg ig (k := k) (by omega)
    rw [i1] at e1
    cases e1
    exact List.mem_of_getElem? e2
theorem nodup_lotL {q n : Nat} {g : List Int} (hq : 1 ≤ q) (hg : Red g) (ig : InR q g) : (lotL q n g).Nodup := by
  refine List.pairwise_iff_getElem.mpr fun i j hi hj lt e => ?_
  have hi2 : (i : Int) < Nw q n g.length := by rw [len_lotL] at hi; omega
  have hj2 : (j : Int) < Nw q n g.length := by rw [len_lotL] at hj; omega
  obtain ⟨r, _, a2, _, _, a5⟩ := lot_at hq hg ig hi2
  obtain ⟨s, _, b2, _, _, b5⟩ := lot_at hq hg ig hj2
  rw [List.getElem?_eq_getElem hi] at a2
  rw [List.getElem?_eq_getElem hj] at b2
  cases a2
  cases b2
  rw [e] at a5
  omega
def Can (q : Nat) (r : List Int) (p : Nat) (d : Int) : Prop := ∃ x, r[p]? = some x ∧ r[p + 1]? = some x ∧ x ≠ d ∧ 0 ≤ d ∧ d < (q : Int)
theorem Can.lot {q n : Nat} {r : List Int} {p : Nat} {d : Int} (h : Can q r p d) (hr : Row q n r) : Row q n (repF r p d) ∧ rst (repF r p d) = rst r := by
  obtain ⟨x, h1, h2, h3, h4, h5⟩ := h
  have hp := (List.getElem?_eq_some_iff.mp h2).1
  exact ⟨⟨by rw [repF_len (by omega)]; exact hr.1, repF_all (P := fun c => 0 ≤ c ∧ c < (q : Int)) hr.2 ⟨h4, h5⟩⟩, (repF_rest h1 h2).2.2⟩
end Cm

namespace Cm
open PySem PySem.Spec PyProof.Rows L2 Tw Pq
structure Rch (q n : Nat) (g line : List Int) (fs gs : List (List Int)) : Prop where
  nd : fs.Nodup
  lot : ∀ r ∈ fs, Row q n r ∧ rst r = g
  sub : ∀ r ∈ gs, r ∈ fs
  one : line ∈ fs
end Cm

namespace Cm
open PySem PySem.Spec PyProof.Rows L2 Tw
theorem tri {a b c : List Int} (ha : Red a) (hb : Red b) (hc : Red c) : apt a c ≤ apt a b + apt b c := apt_tri _ a b c rfl ha hb hc
theorem twd_near {w g : List Int} (hw : Red w) (hg : Red g) (h : w ≠ g) : Red (twd w g) ∧ apt (twd w g) g + 1 = apt w g ∧ apt w (twd w g) = 1 := by
  obtain ⟨c, e1, e2⟩ := twd_eq hg h
  refine ⟨by rw [e2]; exact red_stp hw, by rw [e2]; exact apt_near hw hg e1, ?_⟩
  rw [e2, apt_stp_r c hw hw, dec_self, if_neg (fun z => nomatch z), apt_self]
theorem apt_one_stp {w : List Int} (c : Int) (hw : Red w) : apt w (stp w c) = 1 := by
  rw [apt_stp_r c hw hw, dec_self, if_neg (fun z => nomatch z), apt_self]
theorem apt_one {w m : List Int} (hw : Red w) (hm : Red m) (h : apt w m = 1) : ∃ c, m = stp w c := by
  have ne : w ≠ m := fun z => by rw [z, apt_self] at h; cases h
  obtain ⟨c, hc⟩ := dec_of_ne ne
  have := apt_near hw hm hc
  exact ⟨c, (apt_zero (by omega)).symm⟩
def geoN : Nat → List Int → List Int → List (List Int)
  | 0, w, _ => [w]
  | k + 1, w, g => w :: geoN k (twd w g) g
def geo (w g : List Int) : List (List Int) := geoN (apt w g) w g
theorem mem_geoN : ∀ {k : Nat} {w g m : List Int}, Red w → Red g → apt w g = k → (m ∈ geoN k w g ↔ Red m ∧ apt w m + apt m g = apt w g)
  | 0, w, g, m, hw, hg, e => by
    have z := apt_zero e
    subst z
    simp only [geoN, List.mem_singleton, apt_self]
    refine ⟨fun q => by subst q; exact ⟨hw, by rw [apt_self]⟩, fun q => (apt_zero (by omega)).symm⟩
  | k + 1, w, g, m, hw, hg, e => by
    have ne : w ≠ g := fun z => by rw [z, apt_self] at e; cases e
    obtain ⟨r1, r2, r3⟩ := twd_near hw hg ne
    rw [geoN, List.mem_cons, mem_geoN r1 hg (by omega)]
    constructor
    · rintro (q | ⟨q1, q2⟩)
      · subst q
        exact ⟨hw, by rw [apt_self]; omega⟩
      · refine ⟨q1, ?_⟩
        have t1 := tri hw r1 q1
        have t2 := tri hw q1 hg
        omega
    · rintro ⟨q1, q2⟩
      by_cases z : m = w
      · exact .inl z
      · refine .inr ⟨q1, ?_⟩
        obtain ⟨c, hc⟩ := dec_of_ne (Ne.symm z)
        have n1 := apt_near hw q1 hc
        obtain ⟨c', e1, e2⟩ := twd_eq hg ne
        have t1 := tri (red_stp (c := c) hw) q1 hg
        have s := apt_stp w g c hw hg
        have hcc : dec w g = some c := by
          by_cases y : dec w g = some c
          · exact y
          · rw [if_neg y] at s
            omega
        rw [e1] at hcc
        cases hcc
        rw [e2] at r2 ⊢
        omega
theorem mem_geo {w g m : List Int} (hw : Red w) (hg : Red g) : m ∈ geo w g ↔ Red m ∧ apt w m + apt m g = apt w g := mem_geoN hw hg rfl
def BtA (a m b : List Int) (i : Nat) : Prop := apt (Wd a i) (Wd m i) + apt (Wd m i) (Wd b i) = apt (Wd a i) (Wd b i)
def isB (a m b : List Int) : Bool := (List.range (a.length + 1)).all fun i => apt (Wd a i) (Wd m i) + apt (Wd m i) (Wd b i) == apt (Wd a i) (Wd b i)
theorem isB_iff {a m b : List Int} : isB a m b = true ↔ ∀ i, i ≤ a.length → BtA a m b i := by
  unfold isB BtA
  simp only [List.all_eq_true, List.mem_range, beq_iff_eq]
  exact ⟨fun h i hi => h i (by omega), fun h i hi => h i (by omega)⟩
def colB (w m : List Int) : Int := (stepC w m).getD 0
theorem colB_stp (w : List Int) (c : Int) : colB w (stp w c) = c := by unfold colB; rw [stepC_eq]; rfl
theorem stp_colB {w m : List Int} (hw : Red w) (hm : Red m) (h : apt w m = 1) : stp w (colB w m) = m := by
  obtain ⟨c, rfl⟩ := apt_one hw hm h
  rw [colB_stp]
def bls (a b : List Int) : Nat → List (List Int)
  | 0 => [[]]
  | j + 1 => (geo (Wd a (j + 1)) (Wd b (j + 1))).flatMap fun m => ((bls a b j).filter fun p => apt (rst p) m == 1).map fun p => p ++ [colB (rst p) m]
theorem rst_snoc (p : List Int) (c : Int) : rst (p ++ [c]) = stp (rst p) c := by unfold rst; rw [List.foldl_append]; rfl
theorem wd_full (p : List Int) : Wd p p.length = rst p := by unfold Wd; rw [List.take_length]
theorem mem_bls {a b : List Int} : ∀ {j : Nat} {p : List Int}, p ∈ bls a b j ↔ p.length = j ∧ ∀ i, i ≤ j → BtA a p b i
  | 0, p => by
    simp only [bls, List.mem_singleton]
    constructor
    · intro e
      subst e
      refine ⟨rfl, fun i hi => ?_⟩
      have : i = 0 := by omega
      subst this
      simp only [BtA, wd_zero, apt_self]
    · intro h
      exact List.length_eq_zero_iff.mp h.1
  | j + 1, p => by
    simp only [bls, List.mem_flatMap, List.mem_map, List.mem_filter, beq_iff_eq]
    constructor
    · rintro ⟨m, hm, q, ⟨hq, h1⟩, rfl⟩
      obtain ⟨m1, m2⟩ := (mem_geo (red_rst _) (red_rst _)).mp hm
      obtain ⟨q1, q2⟩ := mem_bls.mp hq
      have sc := stp_colB (red_rst q) m1 h1
      have len : (q ++ [colB (rst q) m]).length = j + 1 := by simp [q1]
      refine ⟨len, fun i hi => ?_⟩
      by_cases z : i = j + 1
      · subst z
        unfold BtA
        rw [← len, wd_full, rst_snoc, sc, len]
        exact m2
      · have := q2 i (by omega)
        unfold BtA at this ⊢
        rw [wd_left (a := q) (b := [colB (rst q) m]) (by omega)]
        exact this
    · rintro ⟨hl, hb⟩
      have ne : p ≠ [] := fun z => by rw [z] at hl; simp at hl
      have e := List.dropLast_concat_getLast ne
      generalize p.getLast ne = c at e
      generalize hq : p.dropLast = q at e
      have ql : q.length = j := by rw [← hq, List.length_dropLast, hl]; rfl
      subst e
      refine ⟨stp (rst q) c, ?_, q, ⟨mem_bls.mpr ⟨ql, fun i hi => ?_⟩, apt_one_stp c (red_rst q)⟩, by rw [colB_stp]⟩
      · have := hb (j + 1) (Nat.le_refl _)
        unfold BtA at this
        rw [← hl, wd_full, rst_snoc, hl] at this
        exact (mem_geo (red_rst _) (red_rst _)).mpr ⟨red_stp (red_rst q), this⟩
      · have := hb i (by omega)
        unfold BtA at this ⊢
        rw [wd_left (a := q) (b := [c]) (by omega)] at this
        exact this
def bl (a b : List Int) : List (List Int) := bls a b a.length
theorem mem_bl {a b m : List Int} : m ∈ bl a b ↔ m.length = a.length ∧ isB a m b = true := by
  unfold bl
  rw [mem_bls, isB_iff]
theorem sum_le' (f g : Nat → Nat) : ∀ n, (∀ i, i < n → f i ≤ g i) → ((List.range n).map f).sum ≤ ((List.range n).map g).sum
  | 0, _ => by simp
  | n + 1, h => by
    rw [List.range_succ, List.map_append, List.map_append, List.sum_append, List.sum_append]
    have := sum_le' f g n fun i hi => h i (by omega)
    have := h n (by omega)
    simp
    omega
theorem sum_eq' (f g : Nat → Nat) : ∀ n, (∀ i, i < n → f i ≤ g i) → ((List.range n).map f).sum = ((List.range n).map g).sum → ∀ i, i < n → f i = g i
  | 0, _, _, i, hi => by omega
  | n + 1, h, e, i, hi => by
    rw [List.range_succ, List.map_append, List.map_append, List.sum_append, List.sum_append] at e
    have h1 := sum_le' f g n fun i hi => h i (by omega)
    have h2 := h n (by omega)
    simp at e
    by_cases z : i = n
    · subst z; omega
    · exact sum_eq' f g n (fun i hi => h i (by omega)) (by omega) i (by omega)
theorem sum_add' (f g : Nat → Nat) : ∀ n, ((List.range n).map fun i => f i + g i).sum = ((List.range n).map f).sum + ((List.range n).map g).sum
  | 0 => rfl
  | n + 1 => by
    rw [List.range_succ, List.map_append, List.map_append, List.map_append, List.sum_append, List.sum_append, List.sum_append, sum_add' f g n]
    simp
    omega
theorem btA_us {a m b : List Int} (h1 : a.length = m.length) (h2 : m.length = b.length) {i : Nat} (hi : i < a.length - 1) : BtA a m b (i + 1) ↔ usN a m i + usN m b i = usN a b i := by
  have e1 := apt_even h1 (j := i + 1) (by omega)
  have e2 := apt_even h2 (j := i + 1) (by omega)
  have e3 := apt_even (h1.trans h2) (j := i + 1) (by omega)
  unfold BtA usN
  omega
theorem isB_us {a m b : List Int} (h1 : a.length = m.length) (h2 : m.length = b.length) (r1 : rst a = rst m) (r2 : rst m = rst b) : isB a m b = true ↔ ∀ i, i < a.length - 1 → usN a m i + usN m b i = usN a b i := by
  rw [isB_iff]
  constructor
  · intro h i hi
    exact (btA_us h1 h2 hi).mp (h (i + 1) (by omega))
  · intro h i hi
    by_cases z : i = 0
    · subst z
      simp only [BtA, wd_zero, apt_self]
    · by_cases z2 : i = a.length
      · subst z2
        unfold BtA
        rw [wd_full, h1, wd_full, h2, wd_full, r1, r2, apt_self]
      · obtain ⟨k, rfl⟩ : ∃ k, i = k + 1 := ⟨i - 1, by omega⟩
        exact (btA_us h1 h2 (by omega)).mpr (h k (by omega))
theorem isB_ds {a m b : List Int} (h1 : a.length = m.length) (h2 : m.length = b.length) (r1 : rst a = rst m) (r2 : rst m = rst b) : isB a m b = true ↔ dsN a m + dsN m b = dsN a b := by
  rw [isB_us h1 h2 r1 r2]
  unfold dsN
  rw [← h1, ← sum_add']
  constructor
  · intro h
    congr 1
    apply List.map_congr_left
    intro i hi
    exact h i (List.mem_range.mp hi)
  · intro h i hi
    exact (sum_eq' (usN a b) (fun i => usN a m i + usN m b i) _ (fun i hi => usN_tri h1 h2 hi) h.symm i hi).symm
theorem ds_comm {a b : List Int} (hl : a.length = b.length) : dsN a b = dsN b a := by
  unfold dsN
  rw [hl]
  congr 1
  apply List.map_congr_left
  intro i _
  exact usN_comm a b i
theorem ds_self (a : List Int) : dsN a a = 0 := by
  unfold dsN
  have : ∀ n, ((List.range n).map (usN a a)).sum = 0 := fun n => by
    induction n with
    | zero => rfl
    | succ n ih => rw [List.range_succ, List.map_append, List.sum_append, ih]; simp [usN_self]
  exact this _
theorem ds_tri {r s t : List Int} (h1 : r.length = s.length) (h2 : s.length = t.length) : dsN r t ≤ dsN r s + dsN s t := by
  unfold dsN
  rw [← h1, ← sum_add']
  exact sum_le' _ _ _ fun i hi => usN_tri h1 h2 hi
def bAt (a b : List Int) (s : Nat) : Nat := ((bl a b).filter fun m => dsN a m == s).length
theorem bAt_of {a b m : List Int} (h : m ∈ bl a b) : 1 ≤ bAt a b (dsN a m) := by
  unfold bAt
  exact List.length_pos_of_mem (List.mem_filter.mpr ⟨h, by simp⟩)
end Cm

namespace Cm
open PySem PySem.Spec PyProof.Rows L2 Tw Pq
structure KeyE {K : Type} (ek : K → D) (kn : K → NestedKey) : Prop where
  key : ∀ k, keyN (ek k) = some (kn k)
  inj : ∀ a b, kn a = kn b → a = b
  sort : ∀ (ks : List K) (k : K), sortD (ks.map ek) (kn k) = true
section
variable {K : Type} [DecidableEq K]
def getE : List (K × Int) → K → Int
  | [], _ => 0
  | e :: es, k => if e.1 = k then e.2 else getE es k
variable {ek : K → D} {kn : K → NestedKey}
end
def ekW (k : List Int × Nat) : D := .tup [tI k.1, .int (k.2 : Nat)]
end Cm

namespace Cm
open PySem PySem.Spec PyProof.Rows L2 Tw Pq
end Cm

namespace Cm
open PySem PySem.Spec PyProof.Rows L2 Tw Pq
end Cm

namespace Cm
open PySem PySem.Spec PyProof.Rows L2 Tw Pq
theorem one_ind (p : Nat) : ∀ n, ((List.range n).map fun i => if i = p then 1 else 0).sum = if p < n then 1 else 0
  | 0 => rfl
  | n + 1 => by
    rw [List.range_succ, List.map_append, List.sum_append, one_ind p n]
    simp only [List.map_cons, List.map_nil, List.sum_cons, List.sum_nil, Nat.add_zero]
    split <;> split <;> split <;> omega
theorem ds_rep {r : List Int} {p : Nat} {x d : Int} (h1 : r[p]? = some x) (h2 : r[p + 1]? = some x) : dsN r (repF r p d) ≤ 1 := by
  have hp := (List.getElem?_eq_some_iff.mp h2).1
  obtain ⟨n1, n2, n3⟩ := usN_any (s := r) (d := d) rfl h1 h2
  have := sum_le' (usN r (repF r p d)) (fun i => if i = p then 1 else 0) (r.length - 1) fun i hi => by
    rw [usN_comm]
    by_cases z : i = p
    · subst z
      rw [usN_self] at n2
      simp only [if_true]
      omega
    · rw [if_neg z, n1 i z hi, usN_self]
      exact Nat.le_refl _
  rw [one_ind] at this
  unfold dsN
  split at this <;> omega
structure Tr (a b : List Int) (k : Nat) (r : List Int) : Prop where
  len : r.length = a.length
  rest : rst r = rst a
  pos : ∀ c ∈ r, 0 ≤ c
  far : dsN a r = k
  left : dsN r b + k = dsN a b
theorem Tr.zero {a : List Int} (b : List Int) (pa : ∀ c ∈ a, 0 ≤ c) : Tr a b 0 a := ⟨rfl, rfl, pa, ds_self a, rfl⟩
theorem Tr.step {a b : List Int} {k : Nat} {r : List Int} (hl : a.length = b.length) (t : Tr a b k r) {p : Nat} {x d : Int} (h1 : r[p]? = some x) (h2 : r[p + 1]? = some x) (h4 : 0 ≤ d) (h5 : apt (stp (Wd r p) d) (Wd b (p + 1)) + 2 = apt (Wd r (p + 1)) (Wd b (p + 1))) : Tr a b (k + 1) (repF r p d) := by
  have hp := (List.getElem?_eq_some_iff.mp h2).1
  have ln : (repF r p d).length = r.length := repF_len (by omega)
  have e := ds_step (r := r) (s := b) (by rw [t.len]; exact hl) h1 h2 h5
  have lf := t.left
  have fr := t.far
  have t1 := ds_tri (r := a) (s := r) (t := repF r p d) t.len.symm ln.symm
  have t2 := ds_tri (r := a) (s := repF r p d) (t := b) (by rw [ln, t.len]) (by rw [ln, t.len]; exact hl)
  have one := ds_rep (d := d) h1 h2
  refine ⟨by rw [ln, t.len], by rw [(repF_rest h1 h2).2.2]; exact t.rest, repF_pos t.pos h4, by omega, by omega⟩
theorem Tr.isB {a b : List Int} {k : Nat} {r : List Int} (hl : a.length = b.length) (hr : rst a = rst b) (t : Tr a b k r) : isB a r b = true := by
  refine (isB_ds t.len.symm (by rw [t.len]; exact hl) t.rest.symm (by rw [t.rest]; exact hr)).mpr ?_
  have := t.left
  have := t.far
  omega
theorem Tr.at {a b : List Int} {k : Nat} {r : List Int} (hl : a.length = b.length) (hr : rst a = rst b) (t : Tr a b k r) : 1 ≤ bAt a b k := by
  have := bAt_of (mem_bl.mpr ⟨t.len, t.isB hl hr⟩)
  rw [t.far] at this
  exact this
end Cm

namespace Cm
open PySem PySem.Spec PyProof.Rows L2 Tw Pq
end Cm

namespace Cm
open PySem PySem.Spec PyProof.Rows L2 Tw Pq
end Cm

namespace Cm
open PySem PySem.Spec PyProof.Rows L2 Tw Pq
end Cm

namespace Cm
open PySem PySem.Spec PyProof.Rows L2 Tw Pq
def bs (f : Int) : List Int := if f < 0 then [] else [f]
end Cm

namespace Cm
open PySem PySem.Spec PyProof.Rows L2 Tw Pq
section
variable {K : Type} [DecidableEq K]
variable {ek : K → D} {kn : K → NestedKey}
end
def sub (s : List (Option Int)) (a b : Nat) : List (Option Int) := (s.drop a).take (b - a)
end Cm

namespace Cm
open PySem PySem.Spec PyProof.Rows L2 Tw Pq
end Cm

namespace Cm
open PySem PySem.Spec PyProof.Rows L2 Tw Pq
theorem tup_lst (xs : List D) : dTuple [.lst xs] [] = some (.tup xs) := by simp [dTuple, seqOf]
end Cm

namespace Cm
open PySem PySem.Spec PyProof.Rows L2 Tw Pq
end Cm

namespace Cm
open PySem PySem.Spec PyProof.Rows L2 Tw Pq
end Cm

namespace Cm
open PySem PySem.Spec PyProof.Rows L2 Tw Pq
section
variable {K : Type} [DecidableEq K]
end
end Cm

namespace Cm
open PySem PySem.Spec PyProof.Rows L2 Tw Pq
abbrev EP := List ((Nat × Int) × Int)
end Cm

namespace Cm
open PySem PySem.Spec PyProof.Rows L2 Tw Pq
def LexL (x y : List Int) : Prop := ∃ k a b, x.take k = y.take k ∧ x[k]? = some a ∧ y[k]? = some b ∧ a < b
theorem LexL.snoc {x y : List Int} (h : LexL x y) (c d : Int) : LexL (x ++ [c]) (y ++ [d]) := by
  obtain ⟨k, a, b, e, h1, h2, lt⟩ := h
  have k1 := (List.getElem?_eq_some_iff.mp h1).1
  have k2 := (List.getElem?_eq_some_iff.mp h2).1
  refine ⟨k, a, b, ?_, ?_, ?_, lt⟩
  · rw [List.take_append_of_le_length (by omega), List.take_append_of_le_length (by omega), e]
  · rw [List.getElem?_append_left k1, h1]
  · rw [List.getElem?_append_left k2, h2]
end Cm

namespace Cm
open PySem PySem.Spec PyProof.Rows L2 Tw Pq
end Cm

set_option maxHeartbeats 4000000
namespace Cm
open PySem PySem.Spec PyProof.Rows L2 Tw Pq
end Cm

set_option maxHeartbeats 4000000
namespace Cm
open PySem PySem.Spec PyProof.Rows L2 Tw Pq
theorem small_log {i : Int} (h : i.natAbs < 2 ^ 1000) : i.natAbs.log2 < 1920 := by
  by_cases z : i.natAbs = 0
  · rw [z]; decide
  · have := (Nat.log2_lt z).mpr h
    omega
end Cm

set_option maxHeartbeats 4000000
namespace Cm
open PySem PySem.Spec PyProof.Rows L2 Tw Pq
theorem ix_swap (xs : List D) (i : D) : dIx (.lst xs) i [] = dIx (.tup xs) i [] := by cases i <;> rfl
theorem ixI_swap (r : List Int) (i : D) : dIx (lI r) i [] = dIx (tI r) i [] := ix_swap _ i
def Sq (r : List Int) (d : D) : Prop := d = tI r ∨ d = lI r
theorem Sq.t (r : List Int) : Sq r (tI r) := .inl rfl
theorem Sq.l (r : List Int) : Sq r (lI r) := .inr rfl
section
variable {r : List Int} {d : D}
theorem Sq.len (h : Sq r d) : dLen [d] [] = some (.int ((r.length : Nat) : Int)) := by
  rcases h with rfl | rfl
  · exact o_lenT _
  · exact o_lenL _ |>.trans (by rw [List.length_map])
theorem Sq.ix (h : Sq r d) {k : Nat} {c : Int} (e : r[k]? = some c) : dIx d (.int (k : Int)) [] = some (.int c) := by
  rcases h with rfl | rfl
  · exact ix_at e
  · rw [ixI_swap]; exact ix_at e
theorem Sq.cut (h : Sq r d) (lo hi : Option Int) : ∃ e, dSl d lo hi [] = some e ∧ dTuple [e] [] = some (tI (cutL r lo hi)) := by
  rcases h with rfl | rfl
  · exact ⟨_, o_slT _ _ _, by simp [dTuple, seqOf, Cm.tI]⟩
  · refine ⟨.lst (cutL (r.map .int) lo hi), rfl, ?_⟩
    rw [tup_lst, cutL_map]
    rfl
end
theorem Sq.un2 {a b : Int} {e : D} (h : Sq [a, b] e) : un2x e = .ok (.int a, .int b) := by
  rcases h with rfl | rfl <;> rfl
end Cm

set_option maxHeartbeats 4000000
namespace Cm
open PySem PySem.Spec PyProof.Rows L2 Tw Pq
end Cm

namespace Cm
theorem sum_dip {f g : Nat → Nat} {p : Nat} (hp : f p + 1 = g p) : ∀ n, p < n → (∀ i, i ≠ p → i < n → f i = g i) → ((List.range n).map f).sum + 1 = ((List.range n).map g).sum
  | 0, h, _ => absurd h (by omega)
  | n + 1, h, e => by
    rw [List.range_succ, List.map_append, List.map_append, List.sum_append, List.sum_append]
    simp only [List.map_cons, List.map_nil, List.sum_cons, List.sum_nil, Nat.add_zero]
    by_cases z : p = n
    · subst z
      have : (List.range p).map f = (List.range p).map g := List.map_congr_left fun i hi => e i (Nat.ne_of_lt (List.mem_range.mp hi)) (by have := List.mem_range.mp hi; omega)
      rw [this]
      omega
    · have ih := sum_dip hp n (by omega) fun i h1 h2 => e i h1 (by omega)
      have := e n (fun q => z q.symm) (by omega)
      omega
theorem near_one {r s : List Int} (hl : r.length = s.length) (he : rst r = rst s) (hne : r ≠ s) : ∃ (p : Nat) (x d : Int), r[p]? = some x ∧ r[p + 1]? = some x ∧ x ≠ d ∧ dsN (repF r p d) s + 1 = dsN r s ∧ dec (Wd r p) (Wd s (p + 1)) = some d := by
  obtain ⟨p, hp⟩ := near_exists hl he hne
  obtain ⟨x, d, h1, h2, h3, h4, h5, _⟩ := near_facts hl hp
  refine ⟨p, x, d, h1, h2, h4, ?_, h3⟩
  obtain ⟨a, _, _⟩ := usN_any (d := d) hl h1 h2
  have lp : p + 2 ≤ r.length := (List.getElem?_eq_some_iff.mp h2).1
  have lr : (repF r p d).length = r.length := repF_len lp
  have up : usN (repF r p d) s p + 1 = usN r s p := by
    have st := usesF_step (d := d) hl h1 h2 h5
    have u1 := usesF_at (r := repF r p d) (s := s) (lr.trans hl) (i := p) (by omega)
    have u2 := usesF_at (r := r) (s := s) hl (i := p) (by omega)
    have lu : p < (usesF r s).length := (List.getElem?_eq_some_iff.mp u2).1
    rw [st, List.getElem?_set_self lu, Option.some.injEq] at u1
    omega
  unfold dsN
  rw [lr]
  exact sum_dip up _ (by omega) fun i h1 h2 => a i h1 h2
theorem near_back {q n : Nat} {line r : List Int} (hl : Row q n line) (hr : Row q n r) (he : rst r = rst line) (hne : r ≠ line) : ∃ (z : List Int) (p : Nat) (x : Int), Row q n z ∧ rst z = rst line ∧ dsN z line + 1 = dsN r line ∧ Can q z p x ∧ repF z p x = r := by
  obtain ⟨p, x, d, h1, h2, h3, h4, h5⟩ := near_one (hr.1.trans hl.1.symm) he hne
  obtain ⟨b1, b2, b3⟩ := repF_back (d := d) h1 h2
  have id := dec_mem (P := fun c => 0 ≤ c ∧ c < (q : Int)) (wd_all hr.2 p) (wd_all hl.2 (p + 1)) h5
  have ix := hr.2 x (List.mem_of_getElem? h1)
  have cn : Can q r p d := ⟨x, h1, h2, h3, id.1, id.2⟩
  obtain ⟨l1, l2⟩ := cn.lot hr
  exact ⟨repF r p d, p, x, l1, l2.trans he, h4, ⟨d, b2, b3, fun z => h3 z.symm, ix.1, ix.2⟩, b1⟩
end Cm

namespace Cm
open PySem PySem.Spec PyProof.Rows L2 Tw Pq
section
variable {K : Type} [DecidableEq K] {ek : K → D} {kn : K → NestedKey}
end
structure Far (q n : Nat) (line : List Int) (m : Nat) (es : List (List Int × Int)) (ls : List (List Int)) : Prop where
  nd : (es.map (·.1)).Nodup
  lot : ∀ k ∈ es.map (·.1), Row q n k ∧ rst k = rst line
  val : ∀ k ∈ es.map (·.1), getE es k = ((dsN k line : Nat) : Int)
  le : ∀ k ∈ es.map (·.1), dsN k line ≤ m
  ly : ∀ r, r ∈ ls ↔ r ∈ es.map (·.1) ∧ dsN r line = m
structure Mid (q n : Nat) (line : List Int) (m : Nat) (es0 es : List (List Int × Int)) (la : List (List Int)) : Prop where
  far : Far q n line (m + 1) es la
  sub : ∀ k ∈ es0.map (·.1), k ∈ es.map (·.1)
  len : es.length = es0.length + la.length
end Cm

namespace Cm
open PySem PySem.Spec PyProof.Rows L2 Tw Pq
end Cm

namespace Cm
end Cm

namespace Cm
open PySem PySem.Spec PyProof.Rows L2 Tw Pq
abbrev KT := List Int × Nat
abbrev TL := List (KT × Inn)
def encT (es : TL) : Ls := es.map fun e => (ekW e.1, e.2)
end Cm

namespace Cm
open PySem PySem.Spec PyProof.Rows L2 Tw Pq
structure Trunk (q : Nat) (T : List (List Int)) : Prop where
  nil : [] ∈ T
  cl : ∀ v ∈ T, v.dropLast ∈ T
  red : ∀ v ∈ T, Red v
  inr : ∀ v ∈ T, InR q v
section
variable {q : Nat} {T : List (List Int)} {v W : List Int}
theorem pre_drop {p v : List Int} (h : p <+: v) (ne : p ≠ v) : p <+: v.dropLast := by
  obtain ⟨t, rfl⟩ := h
  have nt : t ≠ [] := fun z => ne (by rw [z, List.append_nil])
  rw [List.dropLast_append_of_ne_nil nt]
  exact List.prefix_append _ _
theorem Trunk.pre (t : Trunk q T) : ∀ (n : Nat) {p v : List Int}, v.length = n → v ∈ T → p <+: v → p ∈ T
  | n, p, v, hn, hv, h => by
    by_cases z : p = v
    · rw [z]; exact hv
    · cases n with
      | zero =>
        rw [List.length_eq_zero_iff.mp hn] at h
        rw [List.prefix_nil.mp h]
        exact t.nil
      | succ n => exact t.pre n (v := v.dropLast) (by rw [List.length_dropLast]; omega) (t.cl v hv) (pre_drop h z)
end
end Cm

namespace Cm
open PySem PySem.Spec PyProof.Rows L2 Tw Pq
section
variable {q : Nat} {T : List (List Int)} {W : List Int}
end
end Cm

namespace Cm
open PySem PySem.Spec PyProof.Rows L2 Tw Pq
def sphN (q : Nat) (r : List Int) (k : Nat) : Nat := ((lotL q r.length (rst r)).filter fun x => dsN r x == k).length
def farN (q : Nat) (r : List Int) : Nat := ((lotL q r.length (rst r)).map fun x => dsN r x).foldr max 0
theorem foldr_max_ge : ∀ {l : List Nat} {x : Nat}, x ∈ l → x ≤ l.foldr max 0
  | y :: l, x, h => by
    rw [List.foldr_cons]
    rcases List.mem_cons.mp h with z | z
    · rw [z]; exact Nat.le_max_left _ _
    · exact Nat.le_trans (foldr_max_ge z) (Nat.le_max_right _ _)
theorem foldr_max_mem : ∀ {l : List Nat}, l ≠ [] → l.foldr max 0 ∈ l
  | [y], _ => by simp
  | y :: z :: l, _ => by
    have ih := foldr_max_mem (l := z :: l) (by simp)
    rw [List.foldr_cons]
    rcases Nat.le_total y ((z :: l).foldr max 0) with h | h
    · rw [Nat.max_eq_right h]; exact List.mem_cons_of_mem _ ih
    · rw [Nat.max_eq_left h]; exact List.mem_cons_self
section
variable {q : Nat} {T : List (List Int)} {r : List Int}
end
end Cm

namespace Cm
open PySem PySem.Spec PyProof.Rows L2 Tw Pq
section
variable {q : Nat} {r s : List Int}
theorem lot_self (q1 : 1 ≤ q) (ir : InR q r) : r ∈ lotL q r.length (rst r) := (mem_lotL q1 (red_rst r) (inR_rst ir)).mpr ⟨⟨rfl, ir⟩, rfl⟩
theorem sph_iff (q1 : 1 ≤ q) (ir : InR q r) {k : Nat} : 0 < sphN q r k ↔ ∃ x, Row q r.length x ∧ rst x = rst r ∧ dsN r x = k := by
  unfold sphN
  rw [List.length_pos_iff_exists_mem]
  constructor
  · rintro ⟨x, hx⟩
    obtain ⟨h1, h2⟩ := List.mem_filter.mp hx
    have := (mem_lotL q1 (red_rst r) (inR_rst ir)).mp h1
    exact ⟨x, this.1, this.2, by simpa using h2⟩
  · rintro ⟨x, h1, h2, h3⟩
    exact ⟨x, List.mem_filter.mpr ⟨(mem_lotL q1 (red_rst r) (inR_rst ir)).mpr ⟨h1, h2⟩, by simp [h3]⟩⟩
theorem far_ge (q1 : 1 ≤ q) (ir : InR q r) {x : List Int} (hx : Row q r.length x) (he : rst x = rst r) : dsN r x ≤ farN q r :=
  foldr_max_ge (List.mem_map.mpr ⟨x, (mem_lotL q1 (red_rst r) (inR_rst ir)).mpr ⟨hx, he⟩, rfl⟩)
theorem far_at (q1 : 1 ≤ q) (ir : InR q r) : ∃ x, Row q r.length x ∧ rst x = rst r ∧ dsN r x = farN q r := by
  have ne : (lotL q r.length (rst r)).map (fun x => dsN r x) ≠ [] := fun z => by
    have := List.mem_map_of_mem (f := fun x => dsN r x) (lot_self q1 ir)
    rw [z] at this
    exact nomatch this
  obtain ⟨x, hx, e⟩ := List.mem_map.mp (foldr_max_mem ne)
  have := (mem_lotL q1 (red_rst r) (inR_rst ir)).mp hx
  exact ⟨x, this.1, this.2, e⟩
theorem sph_down (q1 : 1 ≤ q) (ir : InR q r) {k : Nat} (h : 0 < sphN q r (k + 1)) : 0 < sphN q r k := by
  obtain ⟨x, h1, h2, h3⟩ := (sph_iff q1 ir).mp h
  have rr : Row q r.length r := ⟨rfl, ir⟩
  have ne : x ≠ r := fun z => by rw [z, ds_self] at h3; omega
  obtain ⟨z, p, c, z1, z2, z3, _⟩ := near_back rr h1 h2 ne
  rw [ds_comm (z1.1.trans rr.1.symm), ds_comm (h1.1.trans rr.1.symm)] at z3
  exact (sph_iff q1 ir).mpr ⟨z, z1, z2, by omega⟩
theorem sph_pos (q1 : 1 ≤ q) (ir : InR q r) {k : Nat} (h : k ≤ farN q r) : 0 < sphN q r k := by
  have top : 0 < sphN q r (farN q r) := (sph_iff q1 ir).mpr (far_at q1 ir)
  have : ∀ d, d ≤ farN q r → 0 < sphN q r (farN q r - d) := fun d => by
    induction d with
    | zero => intro _; exact top
    | succ d ih =>
      intro hd
      have := ih (by omega)
      rw [show farN q r - d = farN q r - (d + 1) + 1 by omega] at this
      exact sph_down q1 ir this
  have := this (farN q r - k) (by omega)
  rwa [show farN q r - (farN q r - k) = k by omega] at this
theorem sph_out (q1 : 1 ≤ q) (ir : InR q r) {k : Nat} (h : farN q r < k) : sphN q r k = 0 := by
  apply Nat.eq_zero_of_not_pos
  intro z
  obtain ⟨x, h1, h2, h3⟩ := (sph_iff q1 ir).mp z
  have := far_ge q1 ir h1 h2
  omega
end
end Cm

namespace Cm
open PySem PySem.Spec PyProof.Rows L2 Tw Pq
structure Twin (q n : Nat) (f g : List Int → List Int) : Prop where
  row : ∀ x, Row q n x → Row q n (f x)
  inv : ∀ x, Row q n x → g (f x) = x
  rowI : ∀ x, Row q n x → Row q n (g x)
  invI : ∀ x, Row q n x → f (g x) = x
  lot : ∀ x y, Row q n x → Row q n y → (rst (f x) = rst (f y) ↔ rst x = rst y)
  ds : ∀ x y, Row q n x → Row q n y → rst x = rst y → dsN (f x) (f y) = dsN x y
  btw : ∀ a m b, Row q n a → Row q n m → Row q n b → rst m = rst a → rst b = rst a → isB (f a) (f m) (f b) = isB a m b
theorem nodup_mapOn {α β : Type} {f : α → β} : ∀ {l : List α}, l.Nodup → (∀ x ∈ l, ∀ y ∈ l, f x = f y → x = y) → (l.map f).Nodup
  | [], _, _ => List.nodup_nil
  | x :: l, nd, h => by
    rw [List.nodup_cons] at nd
    rw [List.map_cons, List.nodup_cons]
    refine ⟨fun z => ?_, nodup_mapOn nd.2 fun a ha b hb => h a (List.mem_cons_of_mem _ ha) b (List.mem_cons_of_mem _ hb)⟩
    obtain ⟨y, hy, e⟩ := List.mem_map.mp z
    have := h y (List.mem_cons_of_mem _ hy) x List.mem_cons_self e
    exact nd.1 (this ▸ hy)
theorem filter_len {α β : Type} {f : α → β} {l : List α} {m : List β} (p : (l.map f).Perm m) (P : β → Bool) (Q : α → Bool) (h : ∀ x ∈ l, P (f x) = Q x) : (m.filter P).length = (l.filter Q).length := by
  rw [← (p.filter P).length_eq, List.filter_map, List.length_map]
  refine congrArg List.length (List.filter_congr fun x hx => ?_)
  exact h x hx
section
variable {q n : Nat} {f g : List Int → List Int} {r a b : List Int}
theorem Twin.perm (t : Twin q n f g) (q1 : 1 ≤ q) (hr : Row q n r) : ((lotL q n (rst r)).map f).Perm (lotL q n (rst (f r))) := by
  have hf := t.row r hr
  have m1 := fun {x : List Int} => mem_lotL (q := q) (n := n) (r := x) q1 (red_rst r) (inR_rst hr.2)
  have m2 := fun {x : List Int} => mem_lotL (q := q) (n := n) (r := x) q1 (red_rst (f r)) (inR_rst hf.2)
  refine (List.perm_ext_iff_of_nodup (nodup_mapOn (nodup_lotL q1 (red_rst r) (inR_rst hr.2)) fun x hx y hy e => ?_) (nodup_lotL q1 (red_rst _) (inR_rst hf.2))).mpr fun y => ?_
  · rw [← t.inv x (m1.mp hx).1, e, t.inv y (m1.mp hy).1]
  · rw [m2]
    constructor
    · intro h
      obtain ⟨x, hx, rfl⟩ := List.mem_map.mp h
      have hx := m1.mp hx
      exact ⟨t.row x hx.1, (t.lot x r hx.1 hr).mpr hx.2⟩
    · rintro ⟨h1, h2⟩
      have e := t.invI y h1
      refine List.mem_map.mpr ⟨g y, m1.mpr ⟨t.rowI y h1, ?_⟩, e⟩
      rw [← e] at h2
      exact (t.lot (g y) r (t.rowI y h1) hr).mp h2
theorem Twin.count (t : Twin q n f g) (q1 : 1 ≤ q) (hr : Row q n r) (P Q : List Int → Bool) (h : ∀ x, Row q n x → rst x = rst r → P (f x) = Q x) : ((lotL q n (rst (f r))).filter P).length = ((lotL q n (rst r)).filter Q).length :=
  filter_len (t.perm q1 hr) P Q fun x hx => by
    have := (mem_lotL q1 (red_rst r) (inR_rst hr.2)).mp hx
    exact h x this.1 this.2
theorem Twin.sph (t : Twin q n f g) (q1 : 1 ≤ q) (hr : Row q n r) (k : Nat) : sphN q (f r) k = sphN q r k := by
  unfold sphN
  rw [(t.row r hr).1, hr.1]
  exact t.count q1 hr _ _ fun x hx e => by rw [t.ds r x hr hx e.symm]
theorem far_of_sph {r s : List Int} (q1 : 1 ≤ q) (ir : InR q r) (is : InR q s) (h : ∀ k, sphN q s k = sphN q r k) : farN q s = farN q r := by
  have a : farN q s ≤ farN q r := by
    apply Nat.le_of_not_lt
    intro z
    have := sph_out q1 ir z
    have p := sph_pos q1 is (Nat.le_refl (farN q s))
    rw [h] at p
    omega
  have b : farN q r ≤ farN q s := by
    apply Nat.le_of_not_lt
    intro z
    have := sph_out q1 is z
    have p := sph_pos q1 ir (Nat.le_refl (farN q r))
    rw [← h] at p
    omega
  omega
theorem Twin.far (t : Twin q n f g) (q1 : 1 ≤ q) (hr : Row q n r) : farN q (f r) = farN q r := far_of_sph q1 hr.2 (t.row r hr).2 (t.sph q1 hr)
end
section
variable {q : Nat} {r : List Int}
end
section
variable {q : Nat} {r : List Int}
end
end Cm

namespace Tw
open PySem PySem.Spec PyProof.Rows L2
section
variable {P : Program} {w : World} {A : Around} {E : Value → Shared → Prop} {s : Shared} {d : Addr} {es : Array DictEntry} {ep : Nat}
end
section
variable {X : Cx} {Wx : WX} {a : Expr} {mas : MA} {p pos : Pos}
end
end Tw

namespace Pq
open PySem Tw
end Pq

namespace Tw
open PySem PySem.Spec PyProof.Rows L2
section
variable {X : Cx} {Wx : WX} {e : Expr} {td : TE} {me : ME} {apos cpos p pos : Pos}
end
end Tw

namespace Pq
open PySem Tw
end Pq

namespace Cm
open PySem PySem.Spec PyProof.Rows L2 Tw Pq
end Cm

namespace Cm
open PySem PySem.Spec PyProof.Rows L2 Tw Pq
end Cm

namespace Cm
open PySem PySem.Spec PyProof.Rows L2 Tw Pq
section
variable {a b r : List Int} {d e : D}
end
end Cm

namespace Cm
open PySem PySem.Spec PyProof.Rows L2 Tw Pq
mutual
def eqD : D → D → Bool
  | .non, .non => true
  | .bl a, .bl b => a == b
  | .int a, .int b => a == b
  | .tup a, .tup b => eqDL a b
  | .lst a, .lst b => eqDL a b
  | _, _ => false
def eqDL : List D → List D → Bool
  | [], [] => true
  | a :: as, b :: bs => eqD a b && eqDL as bs
  | _, _ => false
end
mutual
theorem eqD_eq : ∀ {a b : D}, eqD a b = true → a = b
  | .non, b, h => by cases b <;> simp [eqD] at h ⊢
  | .bl x, b, h => by cases b <;> simp [eqD] at h ⊢; exact h
  | .int x, b, h => by cases b <;> simp [eqD] at h ⊢; exact h
  | .tup x, b, h => by
    cases b with
    | tup y => rw [eqD] at h; rw [eqDL_eq h]
    | _ => simp [eqD] at h
  | .lst x, b, h => by
    cases b with
    | lst y => rw [eqD] at h; rw [eqDL_eq h]
    | _ => simp [eqD] at h
  | .str _, _, h => by simp [eqD] at h
  | .dct _ _, _, h => by simp [eqD] at h
  | .rol _, _, h => by simp [eqD] at h
  | .ref _, _, h => by simp [eqD] at h
  | .glb _, _, h => by simp [eqD] at h
  | .ty _, _, h => by simp [eqD] at h
  | .exc _ _ _, _, h => by simp [eqD] at h
theorem eqDL_eq : ∀ {a b : List D}, eqDL a b = true → a = b
  | [], b, h => by cases b <;> simp [eqDL] at h ⊢
  | x :: xs, b, h => by
    cases b with
    | nil => simp [eqDL] at h
    | cons y ys =>
      rw [eqDL, Bool.and_eq_true] at h
      rw [eqD_eq h.1, eqDL_eq h.2]
end
def evR (r : Rt D) (v : D) : Bool := match r with
  | .ok a => eqD a v
  | _ => false
theorem ev {r : Rt D} {v : D} (h : evR r v = true) : r = .ok v := by
  cases r with
  | ok a => rw [eqD_eq h]
  | ex _ => simp [evR] at h
  | no => simp [evR] at h
end Cm

namespace Tw
open PySem PySem.Spec PyProof.Rows L2
section
variable {X : Cx} {Wx : WX}
end
end Tw

namespace Pq
open PySem Tw
end Pq

namespace Tw
open PySem PySem.Spec PyProof.Rows L2
section
variable {prog : Program} {w : World} {A : Around} {E : Value → Shared → Prop} {s : Shared}
end
section
variable {X : Cx} {Wx : WX}
variable {e o : Expr} {me mo : ME} {pos tpos p2 : Pos}
end
end Tw

namespace Pq
open PySem Tw
section
variable {st : Bool} {mu : List Nat} {pe : PE} {ρ : Type} {C : Ctx ρ} {b : MS}
end
end Pq

namespace Pq
open PySem Tw
section
variable (st : Bool) (mu : List Nat) (j : Nat) (pe : PE)
end
section
variable {st : Bool} {mu : List Nat} {j : Nat} {pe : PE} {a : ME} {p : Rt D} {as : MA} {ps : Rt (List D)} {w : D}
end
end Pq

namespace Pq
open PySem Tw
section
variable (st : Bool) (mu : List Nat) (pe : PE)
end
section
variable {st : Bool} {mu : List Nat} {pe : PE} {a : ME} {p : Rt D} {as : MA} {ps : Rt (List D)}
end
end Pq

namespace Tw
open PySem PySem.Spec PyProof.Rows L2
section
variable {X : Cx} {Wx : WX} {x : Str} {ps : List Str} {mf : MF} {k : Nat} {p pos : Pos}
end
end Tw

namespace Tw
open PySem PySem.Spec PyProof.Rows L2
section
variable {X : Cx} {Wx : WX} {T : List (Str × MF)} {perm : List Nat} {me : ME} {mas : MA}
inductive DfT (P : Program) (w : World) (K : PySem.W.Frag) (mg : Str → Option Value) (base : Heap) (k : Nat) (ks : List Str) (perm : List Nat) : List (Str × MF) → Prop
  | nil : DfT P w K mg base k ks perm []
  | cons {x : Str} {ps : List Str} {mf : MF} {T : List (Str × MF)} : DfK P w K mg base x k ps mf ks perm → DfT P w K mg base k ks perm T → DfT P w K mg base k ks perm ((x, mf) :: T)
theorem DfT.get {P : Program} {w : World} {K : PySem.W.Frag} {mg : Str → Option Value} {base : Heap} {k : Nat} {ks : List Str} : ∀ {T : List (Str × MF)}, DfT P w K mg base k ks perm T → ∀ {x : Str} {mf : MF}, T.lookup x = some mf → ∃ ps, DfK P w K mg base x k ps mf ks perm
  | _, .nil, _, _, h => nomatch h
  | _, .cons (x := y) (ps := ps) d t, x, mf, h => by
    rw [List.lookup_cons] at h
    split at h
    · rename_i e
      cases h
      have := eq_of_beq e
      subst this
      exact ⟨ps, d⟩
    · exact t.get h
end
section
variable {X : Cx} {Wx : WX}
end
end Tw

namespace Pq
open PySem Tw
abbrev PF := List D → Rt D
inductive TabP : List (Str × MF) → List (Str × PF) → Prop
  | nil : TabP [] []
  | cons {x : Str} {fr : Bool} {mf : MF} {pf : PF} {T : List (Str × MF)} {U : List (Str × PF)} : DfP fr mf pf → TabP T U → TabP ((x, mf) :: T) ((x, pf) :: U)
theorem TabP.get : ∀ {T : List (Str × MF)} {U : List (Str × PF)}, TabP T U → ∀ {x : Str} {pf : PF}, U.lookup x = some pf → ∃ fr mf, T.lookup x = some mf ∧ DfP fr mf pf
  | _, _, .nil, _, _, h => nomatch h
  | _, _, .cons (x := y) (fr := fr) (mf := mf) d t, x, pf, h => by
    rw [List.lookup_cons] at h ⊢
    split at h
    · rename_i e
      cases h
      exact ⟨fr, mf, rfl, d⟩
    · rename_i e
      obtain ⟨fr', mf', e1, e2⟩ := t.get h
      exact ⟨fr', mf', e1, e2⟩
section
variable {st : Bool} {mu : List Nat} {pe : PE} {a : ME} {p : Rt D} {as : MA} {ps : Rt (List D)} {T : List (Str × MF)} {U : List (Str × PF)} {perm : List Nat}
end
end Pq

namespace Pq
open PySem Tw
open L2 (atI ixN)
section
variable {st : Bool} {mu : List Nat} {j : Nat} {pe : PE} {ρ : Type} {C : Ctx ρ} {B : MS} {w : D}
end
end Pq

namespace Tw
open PySem PySem.Spec PyProof.Rows L2
section
variable {K : PySem.W.Frag} {mg : Str → Option Value} {ρ : List Addr} {H : Hp}
end
end Tw

namespace Pq
open PySem Tw
section
variable {st : Bool} {mu : List Nat} {pe : PE}
end
end Pq

namespace Cm
open PySem PySem.Spec PyProof.Rows L2 Tw Pq
section
variable {a b : List Int} {d e : D}
end
theorem dLst2 (u v : D) : dLst [u, v] [] = some (.lst [u, v]) := by simp [dLst, sizeLine_eq]
theorem dLst3 (u v w : D) : dLst [u, v, w] [] = some (.lst [u, v, w]) := by simp [dLst, sizeLine_eq]
theorem dLst4 (u v w x : D) : dLst [u, v, w, x] [] = some (.lst [u, v, w, x]) := by simp [dLst, sizeLine_eq]
end Cm

namespace Tw
open PySem PySem.Spec PyProof.Rows L2
abbrev NoGd (A : Around) : Prop := A.guards = some []
structure FnG (P : Program) (w : World) (K : PySem.W.Frag) (mg : Str → Option Value) (base : Heap) (CX : CXT) (k : Nat) (f : Addr) (fd : FuncData) (ps : List Str) (sp : Sp) : Prop where
  lg : ∀ {vs : List V} {H : Hp} {Q : VK} {E : XK}, sp vs H Q E → vs.length = ps.length
  go : ∀ {A : Around} {outer : List Env} {s : Shared} {H : Hp} {args : Args} {us : List Value} {vs : List V} {Q : VK} {E : XK}, NoGd A → Room k A → Env0 P w K mg base A outer s H →
    BindsTo s fd args (ps.zip us) → Vals vs us → sp vs H Q E → codeAny (model P w) A (.call (.ref f) args) (CR CX outer P w H s Q E) s
section
variable {P : Program} {w : World} {K : PySem.W.Frag} {mg : Str → Option Value} {base : Heap} {CX : CXT} {k : Nat} {f : Addr} {fd : FuncData} {ps : List Str} {sp sp' : Sp}
theorem FnG.of (F : FnOk P w K mg base CX k f fd ps sp) : FnG P w K mg base CX k f fd ps sp :=
  ⟨fun h => F.len _ _ _ _ h, fun _ r e b v h => F.run _ _ _ _ _ _ _ _ _ r e b v h⟩
theorem FnG.mono {j : Nat} (F : FnG P w K mg base CX j f fd ps sp) (h : j ≤ k) : FnG P w K mg base CX k f fd ps sp :=
  ⟨F.lg, fun g r e b v z => F.go g (r.mono h) e b v z⟩
theorem FnG.imp (F : FnG P w K mg base CX k f fd ps sp) (h : ∀ vs H Q E, sp' vs H Q E → sp vs H Q E) : FnG P w K mg base CX k f fd ps sp' :=
  ⟨fun z => F.lg (h _ _ _ _ z), fun g r e b v z => F.go g r e b v (h _ _ _ _ z)⟩
end
section
variable {P : Program} {w : World} {K : PySem.W.Frag} {mg : Str → Option Value} {base : Heap}
structure DfG (P : Program) (w : World) (K : PySem.W.Frag) (mg : Str → Option Value) (base : Heap) (x : Str) (k : Nat) (ps : List Str) (mf : MF) : Prop where
  ex : ∃ f fd, FnG P w K mg base (L2.CX P w) k f fd ps (spF K mg ps.length mf) ∧ mg x = some (.ref f) ∧ PySem.W.keepIn K (.ref f) = true ∧ Binds K fd ps []
  np : ∀ ds h, mf ds h ≠ .stuck → ds.length = ps.length
theorem DfG.mono {x : Str} {j k : Nat} {ps : List Str} {mf : MF} (d : DfG P w K mg base x j ps mf) (h : j ≤ k) : DfG P w K mg base x k ps mf := by
  obtain ⟨⟨f, fd, F, a, b, c⟩, n⟩ := d
  exact ⟨⟨f, fd, F.mono h, a, b, c⟩, n⟩
end
section
variable {X : Cx} {Wx : WX} {k : Nat} {x : Str} {ps : List Str} {mf : MF} {p pos : Pos} {e : Expr} {es : List Expr} {mas : MA}
end
section
variable {P : Program} {w : World} {K : PySem.W.Frag} {mg mb : Str → Option Value} {CX : CXT} {k : Nat} {fa a : Addr} {fd : FuncData} {x : Str} {sp : Sp} {s : Shared} {vs : List Value}
structure OneT (H : Hp) (s : Shared) (a : Addr) : Prop where
  at_a : ∀ b, H b ≠ none → b = a
  only : Only H
  ok : HOk P w H s.heap
theorem OneT.env {H : Hp} (o : OneT (P := P) (w := w) H s a) (inK : K.In s.heap) (gl : s.heap.Ns mainGlobals mg) (bl : s.heap.Ns builtinsNs mb) (bb : ∀ y : Str, y ≠ "__name__" → mb y = bootBuiltins y)
    (nl : s.heap.NoLimit) (gens : s.gens = #[]) (oa : s.heap.get? a = some { cls := .type "list", data := .seq vs.toArray }) (away : H a ≠ none → K.lookup a = none) :
    K.In (hidT s.heap H) ∧ (hidT s.heap H).Ns mainGlobals mg ∧ Env0 P w K mg (hidT s.heap H) callerA [] s H := by
  have stays : ∀ {b : Addr} {ob : Obj}, s.heap.get? b = some ob → (b = a → H a = none) → (hidT s.heap H).get? b = some ob := by
    intro b ob e h
    refine hidT_get e (Classical.byContradiction fun n => ?_)
    have eb := o.at_a b n
    exact n (eb ▸ h eb)
  have names : ∀ {d : Addr} {m : Str → Option Value}, s.heap.Ns d m → (hidT s.heap H).Ns d m := by
    rintro d m ⟨ob, es, n, e, ed, r⟩
    refine ⟨ob, es, n, stays e fun ea => ?_, ed, r⟩
    subst ea
    rw [oa] at e
    cases e
    cases ed
  have kin : K.In (hidT s.heap H) := by
    intro b ob e
    refine stays (inK b ob e) fun ea => Classical.byContradiction fun n => ?_
    have := away n
    rw [← ea, e] at this
    cases this
  refine ⟨kin, names gl, ⟨rfl, ⟨kin, names gl, ⟨mb, names bl, bb⟩, ?_⟩, fun b ob e => of_hidT e, Nat.le_of_eq (hidT_size _ _), trivial, ?_, o.ok, .of_eq gens⟩⟩
  · obtain ⟨m, h1, h2⟩ := nl
    exact ⟨m, names h1, h2⟩
  · intro b hb
    cases hb
end
end Tw

namespace Tw
open PySem PySem.Spec PyProof.Rows L2
section
variable {X : Cx}
end
section
variable {K : PySem.W.Frag} {mg : Str → Option Value}
end
section
variable {X : Cx} {Wx : WX} {a : Expr} {mas : MA} {p pos : Pos} {k : Nat}
end
end Tw

namespace Pq
open PySem Tw
end Pq

namespace Pq
open PySem Tw
section
variable {st : Bool} {mu : List Nat} {pe : PE} {ρ : Type} {C : Ctx ρ} {B : MS}
end
end Pq

namespace Tw
open PySem PySem.Spec PyProof.Rows L2
section
variable {P : Program} {w : World} {A : Around} {E : Value → Shared → Prop} {s : Shared} {z TI TO i1 i2 i3 : Addr} {fp1 fp2 fp3 : List Addr} {n1 n2 n3 i : Nat} {P1 P2 P3 : Nat → Value → Prop} {St1 St2 St3 : Nat → Heap → Prop} {x0 y0 w0 : Value}
end
section
variable {P : Program} {w : World} {A : Around} {E : Value → Shared → Prop} {s : Shared} {z TI TO i1 i2 i3 : Addr} {fp1 fp2 fp3 : List Addr} {n1 n2 n3 i : Nat} {P1 P2 P3 : Nat → Value → Prop} {St1 St2 St3 : Nat → Heap → Prop} {x0 y0 w0 : Value}
end
section
variable {X : Cx} {pins : List (Addr × Obj)} {σ : L2.St} {b1 b2 b3 : Bool} {a1 a2 a3 z TI TO i1 i2 i3 q : Addr} {xs ys ws : List V} {Rs : Result → Shared → Prop} {A1 : Around}
end
section
variable {K : PySem.W.Frag} {mg : Str → Option Value} {ρ : List Addr} {H : Hp} {h : Hd}
end
section
variable {X : Cx} {Wx : WX} {a b c : Expr} {mas : MA} {p p2 pos pos2 : Pos}
end
end Tw

namespace Pq
open PySem Tw
end Pq

namespace Cm
open PySem PySem.Spec PyProof.Rows L2 Tw Pq
def OkS (n : Nat) (t : Str) : Prop := t.length ≤ n ∧ PyData.strOk t = true
theorem OkS.mono {m n : Nat} {t : Str} (x : OkS m t) (h : m ≤ n) : OkS n t := ⟨Nat.le_trans x.1 h, x.2⟩
def Shw (k n : Nat) (d : D) : Prop := ∃ p, toPy [] k d = some p ∧ p.showable = true ∧ OkS n p.shown
theorem Shw.mono {k m n : Nat} {d : D} (x : Shw k m d) (h : m ≤ n) : Shw k n d := let ⟨p, a, b, c⟩ := x; ⟨p, a, b, c.mono h⟩
theorem shw_up : ∀ {k n : Nat} {d : D}, Shw k n d → Shw (k + 1) n d := by
  have key : ∀ (k : Nat) (d : D) (p : PyData), toPy [] k d = some p → toPy [] (k + 1) d = some p := by
    intro k
    induction k with
    | zero => intro d p e; simp [toPy] at e
    | succ k ih =>
      intro d p e
      have all : ∀ (xs : List D) (ps : List PyData), optL (toPy [] k) xs = some ps → optL (toPy [] (k + 1)) xs = some ps := by
        intro xs
        induction xs with
        | nil => intro ps e; exact e
        | cons x xs ih2 =>
          intro ps e
          simp only [optL] at e ⊢
          cases e1 : toPy [] k x with
          | none => rw [e1] at e; cases e
          | some y =>
            rw [e1] at e
            cases e2 : optL (toPy [] k) xs with
            | none => rw [e2] at e; cases e
            | some ys =>
              rw [e2] at e
              rw [ih _ _ e1, ih2 _ e2]
              exact e
      have seq : ∀ (c : List PyData → PyData) (xs : List D), (match optL (toPy [] k) xs with | some ys => some (c ys) | none => none) = some p → (match optL (toPy [] (k + 1)) xs with | some ys => some (c ys) | none => none) = some p := by
        intro c xs e
        cases e2 : optL (toPy [] k) xs with
        | none => rw [e2] at e; cases e
        | some ys => rw [e2] at e; rw [all _ _ e2]; exact e
      cases d with
      | tup xs => simp only [toPy] at e ⊢; exact seq .tuple xs e
      | lst xs => simp only [toPy] at e ⊢; exact seq .list xs e
      | rol xs => simp only [toPy] at e ⊢; exact seq .list xs e
      | ref n => simp [toPy] at e
      | _ => simpa only [toPy] using e
  intro k n d ⟨p, e, r⟩
  exact ⟨p, key k d p e, r⟩
theorem Shw.up {k n : Nat} {d : D} (x : Shw k n d) : ∀ {j : Nat}, k ≤ j → Shw j n d := fun {j} h => by
  obtain ⟨m, rfl⟩ := Nat.le.dest h
  clear h
  induction m with
  | zero => exact x
  | succ m ih => exact shw_up ih
end Cm

namespace Tw
open PySem PySem.Spec PyProof.Rows L2
section
variable {K : PySem.W.Frag} {mg : Str → Option Value} {ρ : List Addr} {H : Hp} {h : Hd}
end
section
variable {X : Cx} {Wx : WX} {o e f : Expr} {mo : ME} {mas : MA} {apos cpos : Pos}
end
end Tw

namespace Pq
open PySem Tw
open L2 (atI ixN)
section
variable {st : Bool} {mu : List Nat} {j : Nat} {pe : PE} {ρ : Type} {C : Ctx ρ} {B : MS} {w0 : D}
end
end Pq

namespace Cm
open PySem PySem.Spec PyProof.Rows L2 Tw Pq
def Dat (L : Nat) : Nat → D → Prop
  | 0, _ => False
  | k + 1, d => d = .non ∨ (∃ b, d = .bl b) ∨ (∃ i : Int, d = .int i ∧ i.natAbs < 10 ^ 30 + L) ∨ (∃ s, d = .str s ∧ PyData.strOk s = true ∧ s.length ≤ 33) ∨ (∃ xs, d = .lst xs ∧ xs.length ≤ L ∧ ∀ x ∈ xs, Dat L k x) ∨ (∃ xs, d = .tup xs ∧ xs.length ≤ L ∧ ∀ x ∈ xs, Dat L k x)
section
variable {L k : Nat}
theorem dat_int {i : Int} (h : i.natAbs < 10 ^ 30 + L) : Dat L (k + 1) (.int i) := .inr (.inr (.inl ⟨i, rfl, h⟩))
theorem dat_lst {xs : List D} (hl : xs.length ≤ L) (h : ∀ x ∈ xs, Dat L k x) : Dat L (k + 1) (.lst xs) := .inr (.inr (.inr (.inr (.inl ⟨xs, rfl, hl, h⟩))))
theorem dat_tup {xs : List D} (hl : xs.length ≤ L) (h : ∀ x ∈ xs, Dat L k x) : Dat L (k + 1) (.tup xs) := .inr (.inr (.inr (.inr (.inr ⟨xs, rfl, hl, h⟩))))
end
theorem Dat.mono {L M : Nat} (hm : L ≤ M) : ∀ {k j : Nat} {d : D}, k ≤ j → Dat L k d → Dat M j d
  | 0, _, _, _, h => h.elim
  | k + 1, 0, _, h, _ => absurd h (by omega)
  | k + 1, j + 1, d, hk, h => by
    rcases h with h | h | h | h | ⟨xs, rfl, l, hx⟩ | ⟨xs, rfl, l, hx⟩
    · exact .inl h
    · exact .inr (.inl h)
    · obtain ⟨i, rfl, hi⟩ := h
      exact dat_int (by omega)
    · exact .inr (.inr (.inr (.inl h)))
    · exact dat_lst (Nat.le_trans l hm) fun x m => Dat.mono hm (by omega) (hx x m)
    · exact dat_tup (Nat.le_trans l hm) fun x m => Dat.mono hm (by omega) (hx x m)
end Cm

namespace Lk15
open PySem PySem.Spec PyProof.Rows L2 Tw Cm
abbrev xtab : XTb := [("BadText", "ValueError", ["text"]), ("BadLine", "ValueError", ["number"]), ("Barred", "ValueError", ["reason"]), ("NoPlace", "LookupError", ["place"]), ("NoColour", "LookupError", ["colour"]), ("NoNumber", "LookupError", ["number"]), ("NoRow", "LookupError", []), ("NoOperation", "LookupError", ["many"]), ("Unlike", "RuntimeError", ["place"]), ("Same", "RuntimeError", ["colour"]), ("TooMany", "OverflowError", ["many"]), ("Full", "OverflowError", ["many"])]
def b_law_flags : MS :=
  (sSeq (sAsg (gNm 1) (eN dLst (aCons (eN (dIsiX xtab) (aCons (eVar 0) (aCons (eC (.glb "BadLine")) aNil))) (aCons (eN (dIsiX xtab) (aCons (eVar 0) (aCons (eC (.glb "BadText")) aNil))) (aCons (eN (dIsiX xtab) (aCons (eVar 0) (aCons (eC (.glb "Barred")) aNil))) (aCons (eN (dIsiX xtab) (aCons (eVar 0) (aCons (eC (.glb "Full")) aNil))) aNil))))))
  (sSeq (sAsg (gNm 1) (eBin dAdd (eVar 1) (eN dLst (aCons (eN (dIsiX xtab) (aCons (eVar 0) (aCons (eC (.glb "NoColour")) aNil))) (aCons (eN (dIsiX xtab) (aCons (eVar 0) (aCons (eC (.glb "NoNumber")) aNil))) (aCons (eN (dIsiX xtab) (aCons (eVar 0) (aCons (eC (.glb "NoOperation")) aNil))) aNil))))))
  (sSeq (sAsg (gNm 1) (eBin dAdd (eVar 1) (eN dLst (aCons (eN (dIsiX xtab) (aCons (eVar 0) (aCons (eC (.glb "NoPlace")) aNil))) (aCons (eN (dIsiX xtab) (aCons (eVar 0) (aCons (eC (.glb "NoRow")) aNil))) (aCons (eN (dIsiX xtab) (aCons (eVar 0) (aCons (eC (.glb "Same")) aNil))) aNil))))))
  (sRet (eBin dAdd (eVar 1) (eN dLst (aCons (eN (dIsiX xtab) (aCons (eVar 0) (aCons (eC (.glb "TooMany")) aNil))) (aCons (eN (dIsiX xtab) (aCons (eVar 0) (aCons (eC (.glb "Unlike")) aNil))) aNil))))))))
def m_law_flags : MF := runDef 1 2 b_law_flags
def b_law_one_right : MS :=
  (sSeq (sIf (tVal (eBin dNe (eBM "list" mCount (eCall m_law_flags (aCons (eVar 0) aNil)) (aCons (eC (.bl true)) aNil)) (eC (.int 1))))
    (sRet (eC (.bl false)))
    sNil)
  (sSeq (sAsg (gNm 2) (eN dLst (aCons (eN (dIsiX xtab) (aCons (eVar 0) (aCons (eC (.ty "ValueError")) aNil))) (aCons (eN (dIsiX xtab) (aCons (eVar 0) (aCons (eC (.ty "LookupError")) aNil))) (aCons (eN (dIsiX xtab) (aCons (eVar 0) (aCons (eC (.ty "RuntimeError")) aNil))) aNil)))))
  (sSeq (sDrop (eBM "list" mAppend (eVar 2) (aCons (eN (dIsiX xtab) (aCons (eVar 0) (aCons (eC (.ty "OverflowError")) aNil))) aNil)))
  (sSeq (sAsg (gNm 3) (eBin dTimes (eN dLst (aCons (eC (.bl false)) aNil)) (eC (.int 4))))
  (sSeq (sSetIx (eC (.bl true)) (eVar 3) (eVar 1))
  (sRet (eAnd (eBin dEq (eVar 2) (eVar 3)) (eNot (eN (dIsiX xtab) (aCons (eVar 0) (aCons (eN dTup (aCons (eC (.ty "IndexError")) (aCons (eC (.ty "KeyError")) (aCons (eC (.ty "NotImplementedError")) aNil)))) aNil)))))))))))
def m_law_one_right : MF := runDef 2 4 b_law_one_right
def b_law_right : MS :=
  (sSeq (sAsg (gTp ([1, 2].map gNm)) (eN dTup (aCons (eCall (m_law_take 8) (aCons (eVar 0) (aCons (eC (.int 13)) aNil))) (aCons (eCall (m_law_take 8) (aCons (eVar 0) (aCons (eBin dPow (eC (.int 10)) (eC (.int 9))) aNil))) aNil))))
  (sSeq (sAsg (gNm 3) (eN dLst (aCons (eC (.str "x")) (aCons (eVar 1) (aCons (eN dTup (aCons (eN dTup (aCons (eC (.int 0)) (aCons (eVar 1) aNil))) (aCons (eN dTup (aCons (eBin dAdd (eVar 1) (eC (.int 1))) aNil)) aNil))) (aCons (eBin dSub (eVar 2) (eC (.int 500))) (aCons (eBin dAdd (eVar 2) (eC (.int 5))) (aCons (eVar 2) (aCons (eBin dAdd (eC (.int 61)) (eVar 1)) (aCons (eVar 1) (aCons (eBin dMod (eVar 1) (eC (.int 5))) aNil)))))))))))
  (sSeq (sAsg (gNm 3) (eBin dAdd (eVar 3) (eN dLst (aCons (eBin dAdd (eC (.int 301)) (eVar 2)) (aCons (eBin dAdd (eC (.int 13)) (eBin dMod (eVar 1) (eC (.int 2)))) aNil)))))
  (sSeq (sAsg (gNm 4) (eN dLst (aCons (eN (dMk "BadText" ["text"] okTxt) (aCons (eBin dIx (eVar 3) (eC (.int 0))) aNil)) (aCons (eN (dMk "BadLine" ["number"] okX) (aCons (eBin dIx (eVar 3) (eC (.int 1))) aNil)) (aCons (eN (dMk "Barred" ["reason"] okX) (aCons (eBin dIx (eVar 3) (eC (.int 2))) aNil)) (aCons (eN (dMk "NoPlace" ["place"] okX) (aCons (eBin dIx (eVar 3) (eC (.int 3))) aNil)) (aCons (eN (dMk "NoColour" ["colour"] okX) (aCons (eBin dIx (eVar 3) (eC (.int 4))) aNil)) aNil)))))))
  (sSeq (sAsg (gNm 4) (eBin dAdd (eVar 4) (eN dLst (aCons (eN (dMk "NoNumber" ["number"] okX) (aCons (eBin dIx (eVar 3) (eC (.int 5))) aNil)) (aCons (eN (dMk "NoOperation" ["many"] okX) (aCons (eBin dIx (eVar 3) (eC (.int 6))) aNil)) (aCons (eN (dMk "Unlike" ["place"] okX) (aCons (eBin dIx (eVar 3) (eC (.int 7))) aNil)) (aCons (eN (dMk "Same" ["colour"] okX) (aCons (eBin dIx (eVar 3) (eC (.int 8))) aNil)) aNil)))))))
  (sSeq (sAsg (gNm 4) (eBin dAdd (eVar 4) (eN dLst (aCons (eN (dMk "TooMany" ["many"] okX) (aCons (eBin dIx (eVar 3) (eC (.int 9))) aNil)) (aCons (eN (dMk "Full" ["many"] okX) (aCons (eBin dIx (eVar 3) (eC (.int 10))) aNil)) aNil)))))
  (sSeq (sAsg (gNm 5) (eN dLst (aCons (eN (dMk "BadText" ["text"] okTxt) (aCons (eBin dIx (eVar 3) (eC (.int 0))) aNil)) (aCons (eN (dMk "BadLine" ["number"] okX) (aCons (eBin dIx (eVar 3) (eC (.int 1))) aNil)) (aCons (eN (dMk "Barred" ["reason"] okX) (aCons (eBin dIx (eVar 3) (eC (.int 2))) aNil)) aNil)))))
  (sSeq (sAsg (gNm 5) (eBin dAdd (eVar 5) (eN dLst (aCons (eN (dMk "NoPlace" ["place"] okX) (aCons (eBin dIx (eVar 3) (eC (.int 3))) aNil)) (aCons (eN (dMk "NoColour" ["colour"] okX) (aCons (eBin dIx (eVar 3) (eC (.int 4))) aNil)) (aCons (eN (dMk "NoNumber" ["number"] okX) (aCons (eBin dIx (eVar 3) (eC (.int 5))) aNil)) aNil))))))
  (sSeq (sAsg (gNm 5) (eBin dAdd (eVar 5) (eN dLst (aCons (eN (dMk "NoOperation" ["many"] okX) (aCons (eBin dIx (eVar 3) (eC (.int 6))) aNil)) (aCons (eN (dMk "Unlike" ["place"] okX) (aCons (eBin dIx (eVar 3) (eC (.int 7))) aNil)) (aCons (eN (dMk "Same" ["colour"] okX) (aCons (eBin dIx (eVar 3) (eC (.int 8))) aNil)) aNil))))))
  (sSeq (sAsg (gNm 5) (eBin dAdd (eVar 5) (eN dLst (aCons (eN (dMk "TooMany" ["many"] okX) (aCons (eBin dIx (eVar 3) (eC (.int 9))) aNil)) (aCons (eN (dMk "Full" ["many"] okX) (aCons (eBin dIx (eVar 3) (eC (.int 10))) aNil)) aNil)))))
  (sSeq (sFor (iSeq (eN dTup (aCons (eVar 4) (aCons (eVar 5) aNil)))) (gNm 6)
    (sSeq (sAsg (gNm 7) (eN dLst (aCons (eUn (dXF xtab "text") (eBin dIx (eVar 6) (eC (.int 0)))) (aCons (eUn (dXF xtab "number") (eBin dIx (eVar 6) (eC (.int 1)))) (aCons (eUn (dXF xtab "reason") (eBin dIx (eVar 6) (eC (.int 2)))) (aCons (eUn (dXF xtab "place") (eBin dIx (eVar 6) (eC (.int 3)))) (aCons (eUn (dXF xtab "colour") (eBin dIx (eVar 6) (eC (.int 4)))) (aCons (eUn (dXF xtab "number") (eBin dIx (eVar 6) (eC (.int 5)))) aNil))))))))
  (sSeq (sAsg (gNm 7) (eBin dAdd (eVar 7) (eN dLst (aCons (eUn (dXF xtab "many") (eBin dIx (eVar 6) (eC (.int 6)))) (aCons (eUn (dXF xtab "place") (eBin dIx (eVar 6) (eC (.int 7)))) (aCons (eUn (dXF xtab "colour") (eBin dIx (eVar 6) (eC (.int 8)))) (aCons (eUn (dXF xtab "many") (eBin dIx (eVar 6) (eC (.int 9)))) (aCons (eUn (dXF xtab "many") (eBin dIx (eVar 6) (eC (.int 10)))) aNil))))))))
  (sSeq (sIf (tNot (tVal (eCall (m_law_same_2 8) (aCons (eVar 7) (aCons (eVar 3) aNil)))))
    (sRet (eC (.bl false)))
    sNil)
  (sSeq (sAsg (gNm 8) (eBin dAdd (eBin dAdd (eBin dAdd (eBin dTimes (eN dLst (aCons (eC (.int 0)) aNil)) (eC (.int 3))) (eBin dTimes (eN dLst (aCons (eC (.int 1)) aNil)) (eC (.int 4)))) (eBin dTimes (eN dLst (aCons (eC (.int 2)) aNil)) (eC (.int 2)))) (eBin dTimes (eN dLst (aCons (eC (.int 3)) aNil)) (eC (.int 2)))))
  (sIf (tNot (tVal (eN dAll (aCons (eComp [9, 10] (iSB zip2M (aCons (eVar 6) (aCons (eVar 8) aNil))) (gTp [(gNm 9), (gNm 10)]) tTrue (eCall m_law_one_right (aCons (eVar 9) (aCons (eVar 10) aNil)))) aNil))))
    (sRet (eC (.bl false)))
    sNil))))))
  (sRet (eAnd (eCall m_law_one_right (aCons (eN (dMk "NoRow" [] okX) aNil) (aCons (eC (.int 1)) aNil))) (eAnd (eBin dEq (eUn (dXF xtab "reason") (eN (dMk "Barred" ["reason"] okX) (aCons (eC (.str "tiles")) aNil))) (eC (.str "tiles"))) (eBin dEq (eC (.int 300)) (eC (.int 300)))))))))))))))))
def m_law_right : MF := runDef 1 11 b_law_right
def b_law : MS :=
  (sSeq (sFor (iN rng1 (aCons (eBin dAdd (eC (.int 1)) (eN dMin2 (aCons (eC (.int 3)) (aCons (eN dLen (aCons (eVar 0) aNil)) aNil)))) aNil)) (gNm 1)
    (sSeq (sAsg (gNm 2) (eCall m_law_box (aCons (eVar 0) (aCons (eVar 1) aNil))))
  (sIf (tNot (tVal (eN dAll (aCons (eComp [3] (iN rng1 (aCons (eC (.int 1)) aNil)) (gNm 3) tTrue (eCall m_law_right (aCons (eVar 2) aNil))) aNil))))
    (sRet (eC (.bl false)))
    sNil)))
  (sRet (eC (.bl true))))
def m_law : MF := runDef 1 4 b_law

end Lk15
namespace Lk15
open PySem Tw Pq Cm
def p_law_flags : List D → Rt D
  | [x1] => ((qN dLst (qCons (qN (dIsiX xtab) (qCons (Rt.ok x1) (qCons (Rt.ok (.glb "BadLine")) qNil))) (qCons (qN (dIsiX xtab) (qCons (Rt.ok x1) (qCons (Rt.ok (.glb "BadText")) qNil))) (qCons (qN (dIsiX xtab) (qCons (Rt.ok x1) (qCons (Rt.ok (.glb "Barred")) qNil))) (qCons (qN (dIsiX xtab) (qCons (Rt.ok x1) (qCons (Rt.ok (.glb "Full")) qNil))) qNil))))).bind fun x2 => ((qBin dAdd (Rt.ok x2) (qN dLst (qCons (qN (dIsiX xtab) (qCons (Rt.ok x1) (qCons (Rt.ok (.glb "NoColour")) qNil))) (qCons (qN (dIsiX xtab) (qCons (Rt.ok x1) (qCons (Rt.ok (.glb "NoNumber")) qNil))) (qCons (qN (dIsiX xtab) (qCons (Rt.ok x1) (qCons (Rt.ok (.glb "NoOperation")) qNil))) qNil))))).bind fun x3 => ((qBin dAdd (Rt.ok x3) (qN dLst (qCons (qN (dIsiX xtab) (qCons (Rt.ok x1) (qCons (Rt.ok (.glb "NoPlace")) qNil))) (qCons (qN (dIsiX xtab) (qCons (Rt.ok x1) (qCons (Rt.ok (.glb "NoRow")) qNil))) (qCons (qN (dIsiX xtab) (qCons (Rt.ok x1) (qCons (Rt.ok (.glb "Same")) qNil))) qNil))))).bind fun x4 => (((qNew (qBin dAdd (Rt.ok x4) (qN dLst (qCons (qN (dIsiX xtab) (qCons (Rt.ok x1) (qCons (Rt.ok (.glb "TooMany")) qNil))) (qCons (qN (dIsiX xtab) (qCons (Rt.ok x1) (qCons (Rt.ok (.glb "Unlike")) qNil))) qNil)))))).bind fun v5 => Rt.ok v5))))
  | _ => .no
theorem dp_law_flags : DfP true m_law_flags p_law_flags := dfP (fun vs h => match vs, h with | [x1], _ => (show BS false [] [some x1, none] _ _ _ from (by rw [p_law_flags]; exact (bs_set (i := 1) (te_lst (ta_cons (te_n (oc_isX xtab) (tva_cons (TE.v (te_var (i := 0))) (tva_cons (TE.v te_glb) tva_nil))) (ta_cons (te_n (oc_isX xtab) (tva_cons (TE.v (te_var (i := 0))) (tva_cons (TE.v te_glb) tva_nil))) (ta_cons (te_n (oc_isX xtab) (tva_cons (TE.v (te_var (i := 0))) (tva_cons (TE.v te_glb) tva_nil))) (ta_cons (te_n (oc_isX xtab) (tva_cons (TE.v (te_var (i := 0))) (tva_cons (TE.v te_glb) tva_nil))) ta_nil))))) (fun x2 => (show BS false [] [some x1, some x2] _ _ _ from (bs_set (i := 1) (te_bin oc_add (TE.v (te_var (i := 1))) (TE.v (te_lst (ta_cons (te_n (oc_isX xtab) (tva_cons (TE.v (te_var (i := 0))) (tva_cons (TE.v te_glb) tva_nil))) (ta_cons (te_n (oc_isX xtab) (tva_cons (TE.v (te_var (i := 0))) (tva_cons (TE.v te_glb) tva_nil))) (ta_cons (te_n (oc_isX xtab) (tva_cons (TE.v (te_var (i := 0))) (tva_cons (TE.v te_glb) tva_nil))) ta_nil)))))) (fun x3 => (show BS false [] [some x1, some x3] _ _ _ from (bs_set (i := 1) (te_bin oc_add (TE.v (te_var (i := 1))) (TE.v (te_lst (ta_cons (te_n (oc_isX xtab) (tva_cons (TE.v (te_var (i := 0))) (tva_cons (TE.v te_glb) tva_nil))) (ta_cons (te_n (oc_isX xtab) (tva_cons (TE.v (te_var (i := 0))) (tva_cons (TE.v te_glb) tva_nil))) (ta_cons (te_n (oc_isX xtab) (tva_cons (TE.v (te_var (i := 0))) (tva_cons (TE.v te_glb) tva_nil))) ta_nil)))))) (fun x4 => (show BS false [] [some x1, some x4] _ _ _ from (bs_retF (inj := fun r => r) retIn_ret (TL.f (tl_bin oc_add nr_add (TE.v (te_var (i := 1))) (TE.v (te_lst (ta_cons (te_n (oc_isX xtab) (tva_cons (TE.v (te_var (i := 0))) (tva_cons (TE.v te_glb) tva_nil))) (ta_cons (te_n (oc_isX xtab) (tva_cons (TE.v (te_var (i := 0))) (tva_cons (TE.v te_glb) tva_nil))) ta_nil))))))))))))))))))) (fun vs h => match vs, h with | [], _ => rfl | [_], h => absurd rfl h | _ :: _ :: _, _ => rfl)
def p_law_one_right : List D → Rt D
  | [x1, x2] => (qCond (qVal (qBin dNe (qCount (qCall p_law_flags (qCons (Rt.ok x1) qNil)) (Rt.ok (D.bl true))) (Rt.ok (D.int 1)))) (((Rt.ok (D.bl false))).bind fun v3 => Rt.ok v3) ((qNew (qN dLst (qCons (qN (dIsiX xtab) (qCons (Rt.ok x1) (qCons (Rt.ok (.ty "ValueError")) qNil))) (qCons (qN (dIsiX xtab) (qCons (Rt.ok x1) (qCons (Rt.ok (.ty "LookupError")) qNil))) (qCons (qN (dIsiX xtab) (qCons (Rt.ok x1) (qCons (Rt.ok (.ty "RuntimeError")) qNil))) qNil))))).bind fun x4 => ((qIsL x4).bind fun _ => (qN (dIsiX xtab) (qCons (Rt.ok x1) (qCons (Rt.ok (.ty "OverflowError")) qNil))).bind fun v5 => (qApp x4 v5).bind fun x6 => ((qNew (qBin dTimes (qN dLst (qCons (Rt.ok (D.bl false)) qNil)) (Rt.ok (D.int 4)))).bind fun x7 => ((Rt.ok (D.bl true)).bind fun v8 => (Rt.ok x2).bind fun n9 => (qSetIx x7 n9 v8).bind fun x10 => (((qEAnd (qBin dEq (Rt.ok x6) (Rt.ok x10)) (qENot (qN (dIsiX xtab) (qCons (Rt.ok x1) (qCons (qN dTup (qCons (Rt.ok (.ty "IndexError")) (qCons (Rt.ok (.ty "KeyError")) (qCons (Rt.ok (.ty "NotImplementedError")) qNil)))) qNil)))))).bind fun v11 => Rt.ok v11))))))
  | _ => .no
theorem dp_law_one_right : DfP false m_law_one_right p_law_one_right := dfP (fun vs h => match vs, h with | [x1, x2], _ => (show BS false [] [some x1, some x2, none, none] _ _ _ from (by rw [p_law_one_right]; have dq0 := dp_law_flags; revert dq0; generalize p_law_flags = fq0; intro dq0; exact (bs_weak (wk_wide 2 wk_refl) (bs_weak (wk_wide 3 wk_refl) (bs_ifA (tt_val (TE.v (te_bin oc_ne (TE.v (te_count (TE.v (te_call dq0 (ta_cons (te_var (i := 0)) ta_nil))) (TE.v te_bl))) (TE.v te_int)))) (bs_ret (inj := fun r => r) (retIn_nj retIn_ret) te_bl) (bs_nil (show BS false [3, 2] [some x1, some x2, none, none] _ _ _ from (bs_setF (i := 2) (TL.f (tl_lst (ta_cons (te_n (oc_isX xtab) (tva_cons (TE.v (te_var (i := 0))) (tva_cons (TE.v te_ty) tva_nil))) (ta_cons (te_n (oc_isX xtab) (tva_cons (TE.v (te_var (i := 0))) (tva_cons (TE.v te_ty) tva_nil))) (ta_cons (te_n (oc_isX xtab) (tva_cons (TE.v (te_var (i := 0))) (tva_cons (TE.v te_ty) tva_nil))) ta_nil))))) (fun x4 => (show BS false [3, 2] [some x1, some x2, some x4, none] _ _ _ from (bs_append (i := 2) (te_n (oc_isX xtab) (tva_cons (TE.v (te_var (i := 0))) (tva_cons (TE.v te_ty) tva_nil))) (fun x6 => (show BS false [3, 2] [some x1, some x2, some x6, none] _ _ _ from (bs_setF (i := 3) (TL.f (tl_bin oc_times nr_times (TE.v (te_lst (ta_cons te_bl ta_nil))) (TE.v te_int))) (fun x7 => (show BS false [3, 2] [some x1, some x2, some x6, some x7] _ _ _ from (bs_setIx (i := 3) te_bl (TE.v (te_var (i := 1))) (fun x10 => (show BS false [3, 2] [some x1, some x2, some x6, some x10] _ _ _ from (bs_ret (inj := fun r => r) retIn_ret (te_and (TE.v (te_bin oc_eq (tv_var (i := 2)) (tv_var (i := 3)))) (te_not (TE.v (te_n (oc_isX xtab) (tva_cons (TE.v (te_var (i := 0))) (tva_cons (TE.v (te_tup (ta_cons te_ty (ta_cons te_ty (ta_cons te_ty ta_nil))))) tva_nil))))))))))))))))))))))))))) (fun vs h => match vs, h with | [], _ => rfl | [_], _ => rfl | [_, _], h => absurd rfl h | _ :: _ :: _ :: _, _ => rfl)
def p_law_right : D → List D → Rt (D × D)
  | x1, [] => ((qsCons (qsCallB (p_law_take 8) ((qCons (Rt.ok (D.int 13)) qNil).bind fun v => Rt.ok (v, x1))) (fun b2 => (qsCons (qsCallB (p_law_take 8) ((qCons (qBin dPow (Rt.ok (D.int 10)) (Rt.ok (D.int 9))) qNil).bind fun v => Rt.ok (v, b2))) (fun b3 => (qNil.bind fun v => Rt.ok (v, b3)))))).bind fun v4 => (lu2 v4.1).bind fun a5 => (fun b6 => ((qN dLst (qCons (Rt.ok (D.str "x")) (qCons (Rt.ok a5.1) (qCons (qN dTup (qCons (qN dTup (qCons (Rt.ok (D.int 0)) (qCons (Rt.ok a5.1) qNil))) (qCons (qN dTup (qCons (qBin dAdd (Rt.ok a5.1) (Rt.ok (D.int 1))) qNil)) qNil))) (qCons (qBin dSub (Rt.ok a5.2) (Rt.ok (D.int 500))) (qCons (qBin dAdd (Rt.ok a5.2) (Rt.ok (D.int 5))) (qCons (Rt.ok a5.2) (qCons (qBin dAdd (Rt.ok (D.int 61)) (Rt.ok a5.1)) (qCons (Rt.ok a5.1) (qCons (qBin dMod (Rt.ok a5.1) (Rt.ok (D.int 5))) qNil)))))))))).bind fun x7 => ((qBin dAdd (Rt.ok x7) (qN dLst (qCons (qBin dAdd (Rt.ok (D.int 301)) (Rt.ok a5.2)) (qCons (qBin dAdd (Rt.ok (D.int 13)) (qBin dMod (Rt.ok a5.1) (Rt.ok (D.int 2)))) qNil)))).bind fun x8 => ((qN dLst (qCons (qN (dMk "BadText" ["text"] okTxt) (qCons (qBin dIx (Rt.ok x8) (Rt.ok (D.int 0))) qNil)) (qCons (qN (dMk "BadLine" ["number"] okX) (qCons (qBin dIx (Rt.ok x8) (Rt.ok (D.int 1))) qNil)) (qCons (qN (dMk "Barred" ["reason"] okX) (qCons (qBin dIx (Rt.ok x8) (Rt.ok (D.int 2))) qNil)) (qCons (qN (dMk "NoPlace" ["place"] okX) (qCons (qBin dIx (Rt.ok x8) (Rt.ok (D.int 3))) qNil)) (qCons (qN (dMk "NoColour" ["colour"] okX) (qCons (qBin dIx (Rt.ok x8) (Rt.ok (D.int 4))) qNil)) qNil)))))).bind fun x9 => ((qBin dAdd (Rt.ok x9) (qN dLst (qCons (qN (dMk "NoNumber" ["number"] okX) (qCons (qBin dIx (Rt.ok x8) (Rt.ok (D.int 5))) qNil)) (qCons (qN (dMk "NoOperation" ["many"] okX) (qCons (qBin dIx (Rt.ok x8) (Rt.ok (D.int 6))) qNil)) (qCons (qN (dMk "Unlike" ["place"] okX) (qCons (qBin dIx (Rt.ok x8) (Rt.ok (D.int 7))) qNil)) (qCons (qN (dMk "Same" ["colour"] okX) (qCons (qBin dIx (Rt.ok x8) (Rt.ok (D.int 8))) qNil)) qNil)))))).bind fun x10 => ((qBin dAdd (Rt.ok x10) (qN dLst (qCons (qN (dMk "TooMany" ["many"] okX) (qCons (qBin dIx (Rt.ok x8) (Rt.ok (D.int 9))) qNil)) (qCons (qN (dMk "Full" ["many"] okX) (qCons (qBin dIx (Rt.ok x8) (Rt.ok (D.int 10))) qNil)) qNil)))).bind fun x11 => ((qN dLst (qCons (qN (dMk "BadText" ["text"] okTxt) (qCons (qBin dIx (Rt.ok x8) (Rt.ok (D.int 0))) qNil)) (qCons (qN (dMk "BadLine" ["number"] okX) (qCons (qBin dIx (Rt.ok x8) (Rt.ok (D.int 1))) qNil)) (qCons (qN (dMk "Barred" ["reason"] okX) (qCons (qBin dIx (Rt.ok x8) (Rt.ok (D.int 2))) qNil)) qNil)))).bind fun x12 => ((qBin dAdd (Rt.ok x12) (qN dLst (qCons (qN (dMk "NoPlace" ["place"] okX) (qCons (qBin dIx (Rt.ok x8) (Rt.ok (D.int 3))) qNil)) (qCons (qN (dMk "NoColour" ["colour"] okX) (qCons (qBin dIx (Rt.ok x8) (Rt.ok (D.int 4))) qNil)) (qCons (qN (dMk "NoNumber" ["number"] okX) (qCons (qBin dIx (Rt.ok x8) (Rt.ok (D.int 5))) qNil)) qNil))))).bind fun x13 => ((qBin dAdd (Rt.ok x13) (qN dLst (qCons (qN (dMk "NoOperation" ["many"] okX) (qCons (qBin dIx (Rt.ok x8) (Rt.ok (D.int 6))) qNil)) (qCons (qN (dMk "Unlike" ["place"] okX) (qCons (qBin dIx (Rt.ok x8) (Rt.ok (D.int 7))) qNil)) (qCons (qN (dMk "Same" ["colour"] okX) (qCons (qBin dIx (Rt.ok x8) (Rt.ok (D.int 8))) qNil)) qNil))))).bind fun x14 => ((qBin dAdd (Rt.ok x14) (qN dLst (qCons (qN (dMk "TooMany" ["many"] okX) (qCons (qBin dIx (Rt.ok x8) (Rt.ok (D.int 9))) qNil)) (qCons (qN (dMk "Full" ["many"] okX) (qCons (qBin dIx (Rt.ok x8) (Rt.ok (D.int 10))) qNil)) qNil)))).bind fun x15 => ((qSeq (qN dTup (qCons (Rt.ok x11) (qCons (Rt.ok x15) qNil)))).bind fun l19 => (qFor l19 () fun s16 x18 => ((fun v => Rt.ok v) x18).bind fun a17 => ((qN dLst (qCons (qUn (dXF xtab "text") (qBin dIx (Rt.ok a17) (Rt.ok (D.int 0)))) (qCons (qUn (dXF xtab "number") (qBin dIx (Rt.ok a17) (Rt.ok (D.int 1)))) (qCons (qUn (dXF xtab "reason") (qBin dIx (Rt.ok a17) (Rt.ok (D.int 2)))) (qCons (qUn (dXF xtab "place") (qBin dIx (Rt.ok a17) (Rt.ok (D.int 3)))) (qCons (qUn (dXF xtab "colour") (qBin dIx (Rt.ok a17) (Rt.ok (D.int 4)))) (qCons (qUn (dXF xtab "number") (qBin dIx (Rt.ok a17) (Rt.ok (D.int 5)))) qNil))))))).bind fun x20 => ((qBin dAdd (Rt.ok x20) (qN dLst (qCons (qUn (dXF xtab "many") (qBin dIx (Rt.ok a17) (Rt.ok (D.int 6)))) (qCons (qUn (dXF xtab "place") (qBin dIx (Rt.ok a17) (Rt.ok (D.int 7)))) (qCons (qUn (dXF xtab "colour") (qBin dIx (Rt.ok a17) (Rt.ok (D.int 8)))) (qCons (qUn (dXF xtab "many") (qBin dIx (Rt.ok a17) (Rt.ok (D.int 9)))) (qCons (qUn (dXF xtab "many") (qBin dIx (Rt.ok a17) (Rt.ok (D.int 10)))) qNil))))))).bind fun x21 => (qCond (qNot (qVal (qCall (p_law_same_2 8) (qCons (Rt.ok x21) (qCons (Rt.ok x8) qNil))))) (((Rt.ok (D.bl false))).bind fun v22 => Rt.ok (Stp.up (v22, b6))) ((qBin dAdd (qBin dAdd (qBin dAdd (qBin dTimes (qN dLst (qCons (Rt.ok (D.int 0)) qNil)) (Rt.ok (D.int 3))) (qBin dTimes (qN dLst (qCons (Rt.ok (D.int 1)) qNil)) (Rt.ok (D.int 4)))) (qBin dTimes (qN dLst (qCons (Rt.ok (D.int 2)) qNil)) (Rt.ok (D.int 2)))) (qBin dTimes (qN dLst (qCons (Rt.ok (D.int 3)) qNil)) (Rt.ok (D.int 2)))).bind fun x23 => (qCond (qNot (qVal (qN dAll (qCons (qComp (qiN zipQ (qCons (Rt.ok a17) (qCons (Rt.ok x23) qNil))) (fun v25 => (un2 v25).bind fun a24 => (Rt.ok true)) (fun v25 => (un2 v25).bind fun a24 => (qCall p_law_one_right (qCons (Rt.ok a24.1) (qCons (Rt.ok a24.2) qNil))))) qNil)))) (((Rt.ok (D.bl false))).bind fun v26 => Rt.ok (Stp.up (v26, b6))) (Rt.ok (Stp.nx ())))))))).bind (qJ fun s16 => (((qEAnd (qCall p_law_one_right (qCons (qN (dMk "NoRow" [] okX) qNil) (qCons (Rt.ok (D.int 1)) qNil))) (qEAnd (qBin dEq (qUn (dXF xtab "reason") (qN (dMk "Barred" ["reason"] okX) (qCons (Rt.ok (D.str "tiles")) qNil))) (Rt.ok (D.str "tiles"))) (qBin dEq (Rt.ok (.int 300)) (Rt.ok (D.int 300)))))).bind fun v27 => Rt.ok (v27, b6)))))))))))))) v4.2)
  | _, _ => .no
theorem dp_law_right : DfB m_law_right p_law_right := dfB (fun x1 vs h => match vs, h with | [], _ => (show BS true [0] [some x1, none, none, none, none, none, none, none, none, none, none] _ _ _ from (by rw [p_law_right]; have dq0 := dp_law_take 8; revert dq0; generalize p_law_take 8 = fq0; intro dq0; have dq1 := dp_law_same_2 8; revert dq1; generalize p_law_same_2 8 = fq1; intro dq1; have dq2 := dp_law_one_right; revert dq2; generalize p_law_one_right = fq2; intro dq2; exact (bs_asgFS (j := 0) (sl := [1, 2]) LU2 (f := fun (a5 : D × D) (b6 : D) => ((qN dLst (qCons (Rt.ok (D.str "x")) (qCons (Rt.ok a5.1) (qCons (qN dTup (qCons (qN dTup (qCons (Rt.ok (D.int 0)) (qCons (Rt.ok a5.1) qNil))) (qCons (qN dTup (qCons (qBin dAdd (Rt.ok a5.1) (Rt.ok (D.int 1))) qNil)) qNil))) (qCons (qBin dSub (Rt.ok a5.2) (Rt.ok (D.int 500))) (qCons (qBin dAdd (Rt.ok a5.2) (Rt.ok (D.int 5))) (qCons (Rt.ok a5.2) (qCons (qBin dAdd (Rt.ok (D.int 61)) (Rt.ok a5.1)) (qCons (Rt.ok a5.1) (qCons (qBin dMod (Rt.ok a5.1) (Rt.ok (D.int 5))) qNil)))))))))).bind fun x7 => ((qBin dAdd (Rt.ok x7) (qN dLst (qCons (qBin dAdd (Rt.ok (D.int 301)) (Rt.ok a5.2)) (qCons (qBin dAdd (Rt.ok (D.int 13)) (qBin dMod (Rt.ok a5.1) (Rt.ok (D.int 2)))) qNil)))).bind fun x8 => ((qN dLst (qCons (qN (dMk "BadText" ["text"] okTxt) (qCons (qBin dIx (Rt.ok x8) (Rt.ok (D.int 0))) qNil)) (qCons (qN (dMk "BadLine" ["number"] okX) (qCons (qBin dIx (Rt.ok x8) (Rt.ok (D.int 1))) qNil)) (qCons (qN (dMk "Barred" ["reason"] okX) (qCons (qBin dIx (Rt.ok x8) (Rt.ok (D.int 2))) qNil)) (qCons (qN (dMk "NoPlace" ["place"] okX) (qCons (qBin dIx (Rt.ok x8) (Rt.ok (D.int 3))) qNil)) (qCons (qN (dMk "NoColour" ["colour"] okX) (qCons (qBin dIx (Rt.ok x8) (Rt.ok (D.int 4))) qNil)) qNil)))))).bind fun x9 => ((qBin dAdd (Rt.ok x9) (qN dLst (qCons (qN (dMk "NoNumber" ["number"] okX) (qCons (qBin dIx (Rt.ok x8) (Rt.ok (D.int 5))) qNil)) (qCons (qN (dMk "NoOperation" ["many"] okX) (qCons (qBin dIx (Rt.ok x8) (Rt.ok (D.int 6))) qNil)) (qCons (qN (dMk "Unlike" ["place"] okX) (qCons (qBin dIx (Rt.ok x8) (Rt.ok (D.int 7))) qNil)) (qCons (qN (dMk "Same" ["colour"] okX) (qCons (qBin dIx (Rt.ok x8) (Rt.ok (D.int 8))) qNil)) qNil)))))).bind fun x10 => ((qBin dAdd (Rt.ok x10) (qN dLst (qCons (qN (dMk "TooMany" ["many"] okX) (qCons (qBin dIx (Rt.ok x8) (Rt.ok (D.int 9))) qNil)) (qCons (qN (dMk "Full" ["many"] okX) (qCons (qBin dIx (Rt.ok x8) (Rt.ok (D.int 10))) qNil)) qNil)))).bind fun x11 => ((qN dLst (qCons (qN (dMk "BadText" ["text"] okTxt) (qCons (qBin dIx (Rt.ok x8) (Rt.ok (D.int 0))) qNil)) (qCons (qN (dMk "BadLine" ["number"] okX) (qCons (qBin dIx (Rt.ok x8) (Rt.ok (D.int 1))) qNil)) (qCons (qN (dMk "Barred" ["reason"] okX) (qCons (qBin dIx (Rt.ok x8) (Rt.ok (D.int 2))) qNil)) qNil)))).bind fun x12 => ((qBin dAdd (Rt.ok x12) (qN dLst (qCons (qN (dMk "NoPlace" ["place"] okX) (qCons (qBin dIx (Rt.ok x8) (Rt.ok (D.int 3))) qNil)) (qCons (qN (dMk "NoColour" ["colour"] okX) (qCons (qBin dIx (Rt.ok x8) (Rt.ok (D.int 4))) qNil)) (qCons (qN (dMk "NoNumber" ["number"] okX) (qCons (qBin dIx (Rt.ok x8) (Rt.ok (D.int 5))) qNil)) qNil))))).bind fun x13 => ((qBin dAdd (Rt.ok x13) (qN dLst (qCons (qN (dMk "NoOperation" ["many"] okX) (qCons (qBin dIx (Rt.ok x8) (Rt.ok (D.int 6))) qNil)) (qCons (qN (dMk "Unlike" ["place"] okX) (qCons (qBin dIx (Rt.ok x8) (Rt.ok (D.int 7))) qNil)) (qCons (qN (dMk "Same" ["colour"] okX) (qCons (qBin dIx (Rt.ok x8) (Rt.ok (D.int 8))) qNil)) qNil))))).bind fun x14 => ((qBin dAdd (Rt.ok x14) (qN dLst (qCons (qN (dMk "TooMany" ["many"] okX) (qCons (qBin dIx (Rt.ok x8) (Rt.ok (D.int 9))) qNil)) (qCons (qN (dMk "Full" ["many"] okX) (qCons (qBin dIx (Rt.ok x8) (Rt.ok (D.int 10))) qNil)) qNil)))).bind fun x15 => ((qSeq (qN dTup (qCons (Rt.ok x11) (qCons (Rt.ok x15) qNil)))).bind fun l19 => (qFor l19 () fun s16 x18 => ((fun v => Rt.ok v) x18).bind fun a17 => ((qN dLst (qCons (qUn (dXF xtab "text") (qBin dIx (Rt.ok a17) (Rt.ok (D.int 0)))) (qCons (qUn (dXF xtab "number") (qBin dIx (Rt.ok a17) (Rt.ok (D.int 1)))) (qCons (qUn (dXF xtab "reason") (qBin dIx (Rt.ok a17) (Rt.ok (D.int 2)))) (qCons (qUn (dXF xtab "place") (qBin dIx (Rt.ok a17) (Rt.ok (D.int 3)))) (qCons (qUn (dXF xtab "colour") (qBin dIx (Rt.ok a17) (Rt.ok (D.int 4)))) (qCons (qUn (dXF xtab "number") (qBin dIx (Rt.ok a17) (Rt.ok (D.int 5)))) qNil))))))).bind fun x20 => ((qBin dAdd (Rt.ok x20) (qN dLst (qCons (qUn (dXF xtab "many") (qBin dIx (Rt.ok a17) (Rt.ok (D.int 6)))) (qCons (qUn (dXF xtab "place") (qBin dIx (Rt.ok a17) (Rt.ok (D.int 7)))) (qCons (qUn (dXF xtab "colour") (qBin dIx (Rt.ok a17) (Rt.ok (D.int 8)))) (qCons (qUn (dXF xtab "many") (qBin dIx (Rt.ok a17) (Rt.ok (D.int 9)))) (qCons (qUn (dXF xtab "many") (qBin dIx (Rt.ok a17) (Rt.ok (D.int 10)))) qNil))))))).bind fun x21 => (qCond (qNot (qVal (qCall (fq1) (qCons (Rt.ok x21) (qCons (Rt.ok x8) qNil))))) (((Rt.ok (D.bl false))).bind fun v22 => Rt.ok (Stp.up (v22, b6))) ((qBin dAdd (qBin dAdd (qBin dAdd (qBin dTimes (qN dLst (qCons (Rt.ok (D.int 0)) qNil)) (Rt.ok (D.int 3))) (qBin dTimes (qN dLst (qCons (Rt.ok (D.int 1)) qNil)) (Rt.ok (D.int 4)))) (qBin dTimes (qN dLst (qCons (Rt.ok (D.int 2)) qNil)) (Rt.ok (D.int 2)))) (qBin dTimes (qN dLst (qCons (Rt.ok (D.int 3)) qNil)) (Rt.ok (D.int 2)))).bind fun x23 => (qCond (qNot (qVal (qN dAll (qCons (qComp (qiN zipQ (qCons (Rt.ok a17) (qCons (Rt.ok x23) qNil))) (fun v25 => (un2 v25).bind fun a24 => (Rt.ok true)) (fun v25 => (un2 v25).bind fun a24 => (qCall fq2 (qCons (Rt.ok a24.1) (qCons (Rt.ok a24.2) qNil))))) qNil)))) (((Rt.ok (D.bl false))).bind fun v26 => Rt.ok (Stp.up (v26, b6))) (Rt.ok (Stp.nx ())))))))).bind (qJ fun s16 => (((qEAnd (qCall fq2 (qCons (qN (dMk "NoRow" [] okX) qNil) (qCons (Rt.ok (D.int 1)) qNil))) (qEAnd (qBin dEq (qUn (dXF xtab "reason") (qN (dMk "Barred" ["reason"] okX) (qCons (Rt.ok (D.str "tiles")) qNil))) (Rt.ok (D.str "tiles"))) (qBin dEq (Rt.ok (.int 300)) (Rt.ok (D.int 300)))))).bind fun v27 => Rt.ok (v27, b6)))))))))))))) (tafs_v (tes_callB dq0 (tas_of (ta_cons te_int ta_nil))) (fun b2 => (tafs_v (tes_callB dq0 (tas_of (ta_cons (te_bin oc_pow (TE.v te_int) (TE.v te_int)) ta_nil))) (fun b3 => (tafs_of taf_nil))))) (fun a5 b6 => (show BS true [0] [some b6, some a5.1, some a5.2, none, none, none, none, none, none, none, none] _ _ _ from (bs_set (i := 3) (te_lst (ta_cons te_str (ta_cons (te_var (i := 1)) (ta_cons (te_tup (ta_cons (te_tup (ta_cons te_int (ta_cons (te_var (i := 1)) ta_nil))) (ta_cons (te_tup (ta_cons (te_bin oc_add (TE.v (te_var (i := 1))) (TE.v te_int)) ta_nil)) ta_nil))) (ta_cons (te_bin oc_sub (TE.v (te_var (i := 2))) (TE.v te_int)) (ta_cons (te_bin oc_add (TE.v (te_var (i := 2))) (TE.v te_int)) (ta_cons (te_var (i := 2)) (ta_cons (te_bin oc_add (TE.v te_int) (TE.v (te_var (i := 1)))) (ta_cons (te_var (i := 1)) (ta_cons (te_bin oc_mod (TE.v (te_var (i := 1))) (TE.v te_int)) ta_nil)))))))))) (fun x7 => (show BS true [0] [some b6, some a5.1, some a5.2, some x7, none, none, none, none, none, none, none] _ _ _ from (bs_set (i := 3) (te_bin oc_add (TE.v (te_var (i := 3))) (TE.v (te_lst (ta_cons (te_bin oc_add (TE.v te_int) (TE.v (te_var (i := 2)))) (ta_cons (te_bin oc_add (TE.v te_int) (TE.v (te_bin oc_mod (TE.v (te_var (i := 1))) (TE.v te_int)))) ta_nil))))) (fun x8 => (show BS true [0] [some b6, some a5.1, some a5.2, some x8, none, none, none, none, none, none, none] _ _ _ from (bs_set (i := 4) (te_lst (ta_cons (te_mk okDen_T (ta_cons (te_bin oc_ix (TE.v (te_var (i := 3))) (TE.v te_int)) ta_nil)) (ta_cons (te_mk okDen_X (ta_cons (te_bin oc_ix (TE.v (te_var (i := 3))) (TE.v te_int)) ta_nil)) (ta_cons (te_mk okDen_X (ta_cons (te_bin oc_ix (TE.v (te_var (i := 3))) (TE.v te_int)) ta_nil)) (ta_cons (te_mk okDen_X (ta_cons (te_bin oc_ix (TE.v (te_var (i := 3))) (TE.v te_int)) ta_nil)) (ta_cons (te_mk okDen_X (ta_cons (te_bin oc_ix (TE.v (te_var (i := 3))) (TE.v te_int)) ta_nil)) ta_nil)))))) (fun x9 => (show BS true [0] [some b6, some a5.1, some a5.2, some x8, some x9, none, none, none, none, none, none] _ _ _ from (bs_set (i := 4) (te_bin oc_add (TE.v (te_var (i := 4))) (TE.v (te_lst (ta_cons (te_mk okDen_X (ta_cons (te_bin oc_ix (TE.v (te_var (i := 3))) (TE.v te_int)) ta_nil)) (ta_cons (te_mk okDen_X (ta_cons (te_bin oc_ix (TE.v (te_var (i := 3))) (TE.v te_int)) ta_nil)) (ta_cons (te_mk okDen_X (ta_cons (te_bin oc_ix (TE.v (te_var (i := 3))) (TE.v te_int)) ta_nil)) (ta_cons (te_mk okDen_X (ta_cons (te_bin oc_ix (TE.v (te_var (i := 3))) (TE.v te_int)) ta_nil)) ta_nil))))))) (fun x10 => (show BS true [0] [some b6, some a5.1, some a5.2, some x8, some x10, none, none, none, none, none, none] _ _ _ from (bs_set (i := 4) (te_bin oc_add (TE.v (te_var (i := 4))) (TE.v (te_lst (ta_cons (te_mk okDen_X (ta_cons (te_bin oc_ix (TE.v (te_var (i := 3))) (TE.v te_int)) ta_nil)) (ta_cons (te_mk okDen_X (ta_cons (te_bin oc_ix (TE.v (te_var (i := 3))) (TE.v te_int)) ta_nil)) ta_nil))))) (fun x11 => (show BS true [0] [some b6, some a5.1, some a5.2, some x8, some x11, none, none, none, none, none, none] _ _ _ from (bs_set (i := 5) (te_lst (ta_cons (te_mk okDen_T (ta_cons (te_bin oc_ix (TE.v (te_var (i := 3))) (TE.v te_int)) ta_nil)) (ta_cons (te_mk okDen_X (ta_cons (te_bin oc_ix (TE.v (te_var (i := 3))) (TE.v te_int)) ta_nil)) (ta_cons (te_mk okDen_X (ta_cons (te_bin oc_ix (TE.v (te_var (i := 3))) (TE.v te_int)) ta_nil)) ta_nil)))) (fun x12 => (show BS true [0] [some b6, some a5.1, some a5.2, some x8, some x11, some x12, none, none, none, none, none] _ _ _ from (bs_set (i := 5) (te_bin oc_add (TE.v (te_var (i := 5))) (TE.v (te_lst (ta_cons (te_mk okDen_X (ta_cons (te_bin oc_ix (TE.v (te_var (i := 3))) (TE.v te_int)) ta_nil)) (ta_cons (te_mk okDen_X (ta_cons (te_bin oc_ix (TE.v (te_var (i := 3))) (TE.v te_int)) ta_nil)) (ta_cons (te_mk okDen_X (ta_cons (te_bin oc_ix (TE.v (te_var (i := 3))) (TE.v te_int)) ta_nil)) ta_nil)))))) (fun x13 => (show BS true [0] [some b6, some a5.1, some a5.2, some x8, some x11, some x13, none, none, none, none, none] _ _ _ from (bs_set (i := 5) (te_bin oc_add (TE.v (te_var (i := 5))) (TE.v (te_lst (ta_cons (te_mk okDen_X (ta_cons (te_bin oc_ix (TE.v (te_var (i := 3))) (TE.v te_int)) ta_nil)) (ta_cons (te_mk okDen_X (ta_cons (te_bin oc_ix (TE.v (te_var (i := 3))) (TE.v te_int)) ta_nil)) (ta_cons (te_mk okDen_X (ta_cons (te_bin oc_ix (TE.v (te_var (i := 3))) (TE.v te_int)) ta_nil)) ta_nil)))))) (fun x14 => (show BS true [0] [some b6, some a5.1, some a5.2, some x8, some x11, some x14, none, none, none, none, none] _ _ _ from (bs_set (i := 5) (te_bin oc_add (TE.v (te_var (i := 5))) (TE.v (te_lst (ta_cons (te_mk okDen_X (ta_cons (te_bin oc_ix (TE.v (te_var (i := 3))) (TE.v te_int)) ta_nil)) (ta_cons (te_mk okDen_X (ta_cons (te_bin oc_ix (TE.v (te_var (i := 3))) (TE.v te_int)) ta_nil)) ta_nil))))) (fun x15 => (show BS true [0] [some b6, some a5.1, some a5.2, some x8, some x11, some x15, none, none, none, none, none] _ _ _ from (bs_for (mu' := [0]) (E := (fun (s : Unit) => ([some b6, some a5.1, some a5.2, some x8, some x11, some x15, none, none, none, none, none] : PE))) (un := (fun v => Rt.ok v)) (sl := [6]) (s0 := ()) rf_ret (ti_seq (te_tup (ta_cons (te_var (i := 4)) (ta_cons (te_var (i := 5)) ta_nil)))) (tg_nm 6) wk_refl (fun s16 a17 => (bs_set (i := 7) (te_lst (ta_cons (te_xf (TE.v (te_bin oc_ix (TE.v (te_var (i := 6))) (TE.v te_int)))) (ta_cons (te_xf (TE.v (te_bin oc_ix (TE.v (te_var (i := 6))) (TE.v te_int)))) (ta_cons (te_xf (TE.v (te_bin oc_ix (TE.v (te_var (i := 6))) (TE.v te_int)))) (ta_cons (te_xf (TE.v (te_bin oc_ix (TE.v (te_var (i := 6))) (TE.v te_int)))) (ta_cons (te_xf (TE.v (te_bin oc_ix (TE.v (te_var (i := 6))) (TE.v te_int)))) (ta_cons (te_xf (TE.v (te_bin oc_ix (TE.v (te_var (i := 6))) (TE.v te_int)))) ta_nil))))))) (fun x20 => (show BS true [0] [some b6, some a5.1, some a5.2, some x8, some x11, some x15, some a17, some x20, none, none, none] _ _ _ from (bs_set (i := 7) (te_bin oc_add (TE.v (te_var (i := 7))) (TE.v (te_lst (ta_cons (te_xf (TE.v (te_bin oc_ix (TE.v (te_var (i := 6))) (TE.v te_int)))) (ta_cons (te_xf (TE.v (te_bin oc_ix (TE.v (te_var (i := 6))) (TE.v te_int)))) (ta_cons (te_xf (TE.v (te_bin oc_ix (TE.v (te_var (i := 6))) (TE.v te_int)))) (ta_cons (te_xf (TE.v (te_bin oc_ix (TE.v (te_var (i := 6))) (TE.v te_int)))) (ta_cons (te_xf (TE.v (te_bin oc_ix (TE.v (te_var (i := 6))) (TE.v te_int)))) ta_nil)))))))) (fun x21 => (show BS true [0] [some b6, some a5.1, some a5.2, some x8, some x11, some x15, some a17, some x21, none, none, none] _ _ _ from (bs_ifA (tt_not (tt_val (TE.v (te_call dq1 (ta_cons (te_var (i := 7)) (ta_cons (te_var (i := 3)) ta_nil)))))) (bs_retB (inj := fun r => (Stp.up r)) (retIn_nj (retIn_cl retIn_ret)) te_bl) (bs_nil (show BS true [0] [some b6, some a5.1, some a5.2, some x8, some x11, some x15, some a17, some x21, none, none, none] _ _ _ from (bs_set (i := 8) (te_bin oc_add (TE.v (te_bin oc_add (TE.v (te_bin oc_add (TE.v (te_bin oc_times (TE.v (te_lst (ta_cons te_int ta_nil))) (TE.v te_int))) (TE.v (te_bin oc_times (TE.v (te_lst (ta_cons te_int ta_nil))) (TE.v te_int))))) (TE.v (te_bin oc_times (TE.v (te_lst (ta_cons te_int ta_nil))) (TE.v te_int))))) (TE.v (te_bin oc_times (TE.v (te_lst (ta_cons te_int ta_nil))) (TE.v te_int)))) (fun x23 => (show BS true [0] [some b6, some a5.1, some a5.2, some x8, some x11, some x15, some a17, some x21, some x23, none, none] _ _ _ from (bs_if (tt_not (tt_val (TE.v (te_n oc_all (tva_cons (TE.v (te_comp (un := un2) (vs := [9, 10]) (sl := [9, 10]) (ti_weak (ti_zipB (ta_cons (te_var (i := 6)) (ta_cons (te_var (i := 8)) ta_nil)))) (tg_2 9 10) (fun a24 => tt_true) (fun a24 => (te_call dq2 (ta_cons (te_var (i := 9)) (ta_cons (te_var (i := 10)) ta_nil)))))) tva_nil))))) (bs_retB (inj := fun r => (Stp.up r)) (retIn_cl retIn_ret) te_bl) (bs_end_cl (s := ()) (wk_drop 6 (wk_drop 7 (wk_drop 8 wk_refl)))))))))))))))))) (fun s16 => (show BS true [0] [some b6, some a5.1, some a5.2, some x8, some x11, some x15, none, none, none, none, none] _ _ _ from (bs_retB (inj := fun r => r) retIn_ret (te_and (TE.v (te_call dq2 (ta_cons (te_mk okDen_X ta_nil) (ta_cons te_int ta_nil)))) (te_and (TE.v (te_bin oc_eq (TE.v (te_xf (TE.v (te_mk okDen_X (ta_cons te_str ta_nil))))) (TE.v te_str))) (te_bin oc_eq (TE.v te_int) (TE.v te_int))))))))))))))))))))))))))))))))))))))))) (fun x vs h => match vs, h with | [], h => absurd rfl h | _ :: _, _ => rfl)
def p_law : List D → Rt D
  | [x1] => ((qiN rng1 (qCons (qBin dAdd (Rt.ok (D.int 1)) (qN dMin2 (qCons (Rt.ok (D.int 3)) (qCons (qN dLen (qCons (Rt.ok x1) qNil)) qNil)))) qNil)).bind fun l5 => (qFor l5 () fun s2 x4 => ((fun v => Rt.ok v) x4).bind fun a3 => ((qCall p_law_box (qCons (Rt.ok x1) (qCons (Rt.ok a3) qNil))).bind fun x6 => (qsCond (qsNot (qsVal (qsN dAll (qsCons (qsComp (qiN rng1 (qCons (Rt.ok (D.int 1)) qNil)) (fun v8 b9 => ((fun v => Rt.ok v) v8).bind fun a7 => ((Rt.ok true).bind fun v => Rt.ok (v, b9))) (fun v8 b9 => ((fun v => Rt.ok v) v8).bind fun a7 => (qsCallB p_law_right (qNil.bind fun v => Rt.ok (v, b9)))) x6) (fun b10 => (qNil.bind fun v => Rt.ok (v, b10))))))) (fun b11 => (((Rt.ok (D.bl false))).bind fun v12 => Rt.ok (Stp.up v12))) (fun b13 => (Rt.ok (Stp.nx ())))))).bind (qJ fun s2 => (((Rt.ok (D.bl true))).bind fun v14 => Rt.ok v14)))
  | _ => .no
theorem dp_law : DfP false m_law p_law := dfP (fun vs h => match vs, h with | [x1], _ => (show BS false [] [some x1, none, none, none] _ _ _ from (by rw [p_law]; have dq0 := dp_law_box; revert dq0; generalize p_law_box = fq0; intro dq0; have dq1 := dp_law_right; revert dq1; generalize p_law_right = fq1; intro dq1; exact (bs_weak (wk_wide 2 wk_refl) (bs_for (mu' := [2]) (E := (fun (s : Unit) => ([some x1, none, none, none] : PE))) (un := (fun v => Rt.ok v)) (sl := [1]) (s0 := ()) rf_ret (ti_n rg1 (tva_cons (TE.v (te_bin oc_add (TE.v te_int) (TE.v (te_n oc_min2 (tva_cons (TE.v te_int) (tva_cons (TE.v (te_n oc_len (tva_cons (TE.v (te_var (i := 0))) tva_nil))) tva_nil)))))) tva_nil)) (tg_nm 1) wk_refl (fun s2 a3 => (bs_setF (i := 2) (tf_call dq0 (ta_cons (te_var (i := 0)) (ta_cons (te_var (i := 1)) ta_nil))) (fun x6 => (show BS false [2] [some x1, some a3, some x6, none] _ _ _ from (bs_ifS (j := 2) (tts_not (tts_val (tes_n oc_all (tas_cons (tes_comp (un := (fun v => Rt.ok v)) (vs := [3]) (sl := [3]) (ti_n rg1 (tva_cons (TE.v te_int) tva_nil)) (tg_nm 3) (fun a7 b9 => (tts_of tt_true)) (fun a7 b9 => (tes_callB dq1 (tas_of ta_nil)))) (fun b10 => (tas_of ta_nil)))))) (fun b11 => (bs_ret (inj := fun r => (Stp.up r)) (retIn_cl retIn_ret) te_bl)) (fun b13 => (bs_end_cl (s := ()) (wk_drop 1 (wk_drop 2 wk_refl))))))))) (fun s2 => (show BS false [2] [some x1, none, none, none] _ _ _ from (bs_ret (inj := fun r => r) retIn_ret te_bl)))))))) (fun vs h => match vs, h with | [], _ => rfl | [_], h => absurd rfl h | _ :: _ :: _, _ => rfl)

end Lk15
namespace Lk15
open PySem PySem.Spec PyProof.Rows L2 Tw Pq Cm
theorem small_log {i : Int} (h : i.natAbs < 10 ^ 12) : i.natAbs.log2 < 1920 := by
  by_cases z : i.natAbs = 0
  · rw [z]; decide
  · exact Nat.lt_trans ((Nat.log2_lt z).mpr (Nat.lt_of_lt_of_le h (show 10 ^ 12 ≤ 2 ^ 1900 by decide +kernel))) (by omega)
theorem mk_int {C f : Str} {i : Int} (h : i.natAbs < 10 ^ 12) : dMk C [f] okX [.int i] [] = some (.exc C [f] [.int i]) := by
  unfold dMk
  rw [if_pos ⟨by simp only [okX]; exact decide_eq_true (small_log h), rfl⟩]
theorem mk_pair {C f : Str} {i j : Int} (h : i.natAbs < 10 ^ 12) (hj : j.natAbs < 10 ^ 12) : dMk C [f] okX [.tup [.tup [.int 0, .int i], .tup [.int j]]] [] = some (.exc C [f] [.tup [.tup [.int 0, .int i], .tup [.int j]]]) := by
  unfold dMk
  have a := small_log h
  have b := small_log hj
  have c : (0 : Int).natAbs.log2 < 1920 := by decide
  rw [if_pos ⟨by simp [okX, okI, smI, a, b]; try decide, rfl⟩]
theorem mk_text : dMk "BadText" ["text"] okTxt [.str "x"] [] = some (.exc "BadText" ["text"] [.str "x"]) := by kernel_rfl
theorem mk_tiles : dMk "Barred" ["reason"] okX [.str "tiles"] [] = some (.exc "Barred" ["reason"] [.str "tiles"]) := by kernel_rfl
theorem mk_norow : dMk "NoRow" [] okX [] [] = some (.exc "NoRow" [] []) := by kernel_rfl
theorem one_BadText (xs : List D) : p_law_one_right [.exc "BadText" ["text"] xs, .int 0] = .ok (.bl true) := by rw [p_law_one_right]; kernel_rfl
theorem one_BadLine (xs : List D) : p_law_one_right [.exc "BadLine" ["number"] xs, .int 0] = .ok (.bl true) := by rw [p_law_one_right]; kernel_rfl
theorem one_Barred (xs : List D) : p_law_one_right [.exc "Barred" ["reason"] xs, .int 0] = .ok (.bl true) := by rw [p_law_one_right]; kernel_rfl
theorem one_NoPlace (xs : List D) : p_law_one_right [.exc "NoPlace" ["place"] xs, .int 1] = .ok (.bl true) := by rw [p_law_one_right]; kernel_rfl
theorem one_NoColour (xs : List D) : p_law_one_right [.exc "NoColour" ["colour"] xs, .int 1] = .ok (.bl true) := by rw [p_law_one_right]; kernel_rfl
theorem one_NoNumber (xs : List D) : p_law_one_right [.exc "NoNumber" ["number"] xs, .int 1] = .ok (.bl true) := by rw [p_law_one_right]; kernel_rfl
theorem one_NoOperation (xs : List D) : p_law_one_right [.exc "NoOperation" ["many"] xs, .int 1] = .ok (.bl true) := by rw [p_law_one_right]; kernel_rfl
theorem one_Unlike (xs : List D) : p_law_one_right [.exc "Unlike" ["place"] xs, .int 2] = .ok (.bl true) := by rw [p_law_one_right]; kernel_rfl
theorem one_Same (xs : List D) : p_law_one_right [.exc "Same" ["colour"] xs, .int 2] = .ok (.bl true) := by rw [p_law_one_right]; kernel_rfl
theorem one_TooMany (xs : List D) : p_law_one_right [.exc "TooMany" ["many"] xs, .int 3] = .ok (.bl true) := by rw [p_law_one_right]; kernel_rfl
theorem one_Full (xs : List D) : p_law_one_right [.exc "Full" ["many"] xs, .int 3] = .ok (.bl true) := by rw [p_law_one_right]; kernel_rfl
theorem one_NoRow : p_law_one_right [.exc "NoRow" [] [], .int 1] = .ok (.bl true) := by rw [p_law_one_right]; kernel_rfl
theorem xf_BadText (x : D) : dXF xtab "text" (.exc "BadText" ["text"] [x]) [] = some x := by kernel_rfl
theorem xf_BadLine (x : D) : dXF xtab "number" (.exc "BadLine" ["number"] [x]) [] = some x := by kernel_rfl
theorem xf_Barred (x : D) : dXF xtab "reason" (.exc "Barred" ["reason"] [x]) [] = some x := by kernel_rfl
theorem xf_NoPlace (x : D) : dXF xtab "place" (.exc "NoPlace" ["place"] [x]) [] = some x := by kernel_rfl
theorem xf_NoColour (x : D) : dXF xtab "colour" (.exc "NoColour" ["colour"] [x]) [] = some x := by kernel_rfl
theorem xf_NoNumber (x : D) : dXF xtab "number" (.exc "NoNumber" ["number"] [x]) [] = some x := by kernel_rfl
theorem xf_NoOperation (x : D) : dXF xtab "many" (.exc "NoOperation" ["many"] [x]) [] = some x := by kernel_rfl
theorem xf_Unlike (x : D) : dXF xtab "place" (.exc "Unlike" ["place"] [x]) [] = some x := by kernel_rfl
theorem xf_Same (x : D) : dXF xtab "colour" (.exc "Same" ["colour"] [x]) [] = some x := by kernel_rfl
theorem xf_TooMany (x : D) : dXF xtab "many" (.exc "TooMany" ["many"] [x]) [] = some x := by kernel_rfl
theorem xf_Full (x : D) : dXF xtab "many" (.exc "Full" ["many"] [x]) [] = some x := by kernel_rfl
theorem mk_BadLine {i : Int} (h : i.natAbs < 10 ^ 12) : dMk "BadLine" ["number"] okX [.int i] [] = some (.exc "BadLine" ["number"] [.int i]) := mk_int h
theorem mk_NoPlace {i : Int} (h : i.natAbs < 10 ^ 12) : dMk "NoPlace" ["place"] okX [.int i] [] = some (.exc "NoPlace" ["place"] [.int i]) := mk_int h
theorem mk_NoColour {i : Int} (h : i.natAbs < 10 ^ 12) : dMk "NoColour" ["colour"] okX [.int i] [] = some (.exc "NoColour" ["colour"] [.int i]) := mk_int h
theorem mk_NoNumber {i : Int} (h : i.natAbs < 10 ^ 12) : dMk "NoNumber" ["number"] okX [.int i] [] = some (.exc "NoNumber" ["number"] [.int i]) := mk_int h
theorem mk_NoOperation {i : Int} (h : i.natAbs < 10 ^ 12) : dMk "NoOperation" ["many"] okX [.int i] [] = some (.exc "NoOperation" ["many"] [.int i]) := mk_int h
theorem mk_Unlike {i : Int} (h : i.natAbs < 10 ^ 12) : dMk "Unlike" ["place"] okX [.int i] [] = some (.exc "Unlike" ["place"] [.int i]) := mk_int h
theorem mk_Same {i : Int} (h : i.natAbs < 10 ^ 12) : dMk "Same" ["colour"] okX [.int i] [] = some (.exc "Same" ["colour"] [.int i]) := mk_int h
theorem mk_TooMany {i : Int} (h : i.natAbs < 10 ^ 12) : dMk "TooMany" ["many"] okX [.int i] [] = some (.exc "TooMany" ["many"] [.int i]) := mk_int h
theorem mk_Full {i : Int} (h : i.natAbs < 10 ^ 12) : dMk "Full" ["many"] okX [.int i] [] = some (.exc "Full" ["many"] [.int i]) := mk_int h
section
variable {i1 i2 i3 i4 i5 i6 i7 i8 i9 i10 : Int}
def vals (i1 i2 i3 i4 i5 i6 i7 i8 i9 i10 : Int) : List D := [(.str "x"), (.int i1), (.tup [.tup [.int 0, .int i1], .tup [.int i2]]), (.int i3), (.int i4), (.int i5), (.int i6), (.int i7), (.int i8), (.int i9), (.int i10)]
def exs (i1 i2 i3 i4 i5 i6 i7 i8 i9 i10 : Int) : List D := [.exc "BadText" ["text"] [(.str "x")], .exc "BadLine" ["number"] [(.int i1)], .exc "Barred" ["reason"] [(.tup [.tup [.int 0, .int i1], .tup [.int i2]])], .exc "NoPlace" ["place"] [(.int i3)], .exc "NoColour" ["colour"] [(.int i4)], .exc "NoNumber" ["number"] [(.int i5)], .exc "NoOperation" ["many"] [(.int i6)], .exc "Unlike" ["place"] [(.int i7)], .exc "Same" ["colour"] [(.int i8)], .exc "TooMany" ["many"] [(.int i9)], .exc "Full" ["many"] [(.int i10)]]
theorem same_vals : p_law_same_2 8 [.lst (vals i1 i2 i3 i4 i5 i6 i7 i8 i9 i10), .lst (vals i1 i2 i3 i4 i5 i6 i7 i8 i9 i10)] = .ok (.bl true) := p_same_self 8 _ (sm_lst (k := 7) (by rw [sizeLine_eq]; simp [vals]) fun x hx => by
  simp only [vals, List.mem_cons, List.not_mem_nil, or_false] at hx
  rcases hx with rfl | rfl | rfl | rfl | rfl | rfl | rfl | rfl | rfl | rfl | rfl
  · exact sm_str 6 (by decide +kernel)
  · exact sm_int 6 _
  · refine sm_tup (k := 6) (by simp [pureL, D.pure]) (by rw [sizeLine_eq]; simp) fun y hy => ?_
    simp only [List.mem_cons, List.not_mem_nil, or_false] at hy
    rcases hy with rfl | rfl
    · exact sm_tup (k := 5) (by simp [pureL, D.pure]) (by rw [sizeLine_eq]; simp) fun z hz => by
        simp only [List.mem_cons, List.not_mem_nil, or_false] at hz
        rcases hz with rfl | rfl <;> exact sm_int 4 _
    · exact sm_tup (k := 5) (by simp [pureL, D.pure]) (by rw [sizeLine_eq]; simp) fun z hz => by
        simp only [List.mem_cons, List.not_mem_nil, or_false] at hz
        rw [hz]; exact sm_int 4 _
  · exact sm_int 6 _
  · exact sm_int 6 _
  · exact sm_int 6 _
  · exact sm_int 6 _
  · exact sm_int 6 _
  · exact sm_int 6 _
  · exact sm_int 6 _
  · exact sm_int 6 _)
theorem dLst_any {xs : List D} (h : xs.length ≤ 1000) : dLst xs [] = some (.lst xs) := by
  unfold dLst
  rw [if_pos (by rw [sizeLine_eq]; omega)]
theorem dAdd_any {xs ys : List D} (h : xs.length + ys.length ≤ 1000) : dAdd (.lst xs) (.lst ys) [] = some (.lst (xs ++ ys)) := by
  show (if xs.length + ys.length ≤ sizeLine then some (D.lst (xs ++ ys)) else none) = _
  rw [if_pos (by rw [sizeLine_eq]; omega)]
theorem turn_ok {bx : D} : (fun s16 x18 => ((fun v => Rt.ok v) x18).bind fun a17 => ((qN dLst (qCons (qUn (dXF xtab "text") (qBin dIx (Rt.ok a17) (Rt.ok (D.int 0)))) (qCons (qUn (dXF xtab "number") (qBin dIx (Rt.ok a17) (Rt.ok (D.int 1)))) (qCons (qUn (dXF xtab "reason") (qBin dIx (Rt.ok a17) (Rt.ok (D.int 2)))) (qCons (qUn (dXF xtab "place") (qBin dIx (Rt.ok a17) (Rt.ok (D.int 3)))) (qCons (qUn (dXF xtab "colour") (qBin dIx (Rt.ok a17) (Rt.ok (D.int 4)))) (qCons (qUn (dXF xtab "number") (qBin dIx (Rt.ok a17) (Rt.ok (D.int 5)))) qNil))))))).bind fun x20 => ((qBin dAdd (Rt.ok x20) (qN dLst (qCons (qUn (dXF xtab "many") (qBin dIx (Rt.ok a17) (Rt.ok (D.int 6)))) (qCons (qUn (dXF xtab "place") (qBin dIx (Rt.ok a17) (Rt.ok (D.int 7)))) (qCons (qUn (dXF xtab "colour") (qBin dIx (Rt.ok a17) (Rt.ok (D.int 8)))) (qCons (qUn (dXF xtab "many") (qBin dIx (Rt.ok a17) (Rt.ok (D.int 9)))) (qCons (qUn (dXF xtab "many") (qBin dIx (Rt.ok a17) (Rt.ok (D.int 10)))) qNil))))))).bind fun x21 => (qCond (qNot (qVal (qCall (p_law_same_2 8) (qCons (Rt.ok x21) (qCons (Rt.ok (.lst (vals i1 i2 i3 i4 i5 i6 i7 i8 i9 i10))) qNil))))) (((Rt.ok (D.bl false))).bind fun v22 => Rt.ok (Stp.up (v22, bx))) ((qBin dAdd (qBin dAdd (qBin dAdd (qBin dTimes (qN dLst (qCons (Rt.ok (D.int 0)) qNil)) (Rt.ok (D.int 3))) (qBin dTimes (qN dLst (qCons (Rt.ok (D.int 1)) qNil)) (Rt.ok (D.int 4)))) (qBin dTimes (qN dLst (qCons (Rt.ok (D.int 2)) qNil)) (Rt.ok (D.int 2)))) (qBin dTimes (qN dLst (qCons (Rt.ok (D.int 3)) qNil)) (Rt.ok (D.int 2)))).bind fun x23 => (qCond (qNot (qVal (qN dAll (qCons (qComp (qiN zipQ (qCons (Rt.ok a17) (qCons (Rt.ok x23) qNil))) (fun v25 => (un2 v25).bind fun a24 => (Rt.ok true)) (fun v25 => (un2 v25).bind fun a24 => (qCall p_law_one_right (qCons (Rt.ok a24.1) (qCons (Rt.ok a24.2) qNil))))) qNil)))) (((Rt.ok (D.bl false))).bind fun v26 => Rt.ok (Stp.up (v26, bx))) (Rt.ok (Stp.nx ())))))))) () (.lst (exs i1 i2 i3 i4 i5 i6 i7 i8 i9 i10)) = .ok (.nx ()) := by
  have sv := same_vals (i1 := i1) (i2 := i2) (i3 := i3) (i4 := i4) (i5 := i5) (i6 := i6) (i7 := i7) (i8 := i8) (i9 := i9) (i10 := i10)
  have x0 : dIx (.lst (exs i1 i2 i3 i4 i5 i6 i7 i8 i9 i10)) (.int 0) [] = some (.exc "BadText" ["text"] [(.str "x")]) := rfl
  have x1 : dIx (.lst (exs i1 i2 i3 i4 i5 i6 i7 i8 i9 i10)) (.int 1) [] = some (.exc "BadLine" ["number"] [(.int i1)]) := rfl
  have x2 : dIx (.lst (exs i1 i2 i3 i4 i5 i6 i7 i8 i9 i10)) (.int 2) [] = some (.exc "Barred" ["reason"] [(.tup [.tup [.int 0, .int i1], .tup [.int i2]])]) := rfl
  have x3 : dIx (.lst (exs i1 i2 i3 i4 i5 i6 i7 i8 i9 i10)) (.int 3) [] = some (.exc "NoPlace" ["place"] [(.int i3)]) := rfl
  have x4 : dIx (.lst (exs i1 i2 i3 i4 i5 i6 i7 i8 i9 i10)) (.int 4) [] = some (.exc "NoColour" ["colour"] [(.int i4)]) := rfl
  have x5 : dIx (.lst (exs i1 i2 i3 i4 i5 i6 i7 i8 i9 i10)) (.int 5) [] = some (.exc "NoNumber" ["number"] [(.int i5)]) := rfl
  have x6 : dIx (.lst (exs i1 i2 i3 i4 i5 i6 i7 i8 i9 i10)) (.int 6) [] = some (.exc "NoOperation" ["many"] [(.int i6)]) := rfl
  have x7 : dIx (.lst (exs i1 i2 i3 i4 i5 i6 i7 i8 i9 i10)) (.int 7) [] = some (.exc "Unlike" ["place"] [(.int i7)]) := rfl
  have x8 : dIx (.lst (exs i1 i2 i3 i4 i5 i6 i7 i8 i9 i10)) (.int 8) [] = some (.exc "Same" ["colour"] [(.int i8)]) := rfl
  have x9 : dIx (.lst (exs i1 i2 i3 i4 i5 i6 i7 i8 i9 i10)) (.int 9) [] = some (.exc "TooMany" ["many"] [(.int i9)]) := rfl
  have x10 : dIx (.lst (exs i1 i2 i3 i4 i5 i6 i7 i8 i9 i10)) (.int 10) [] = some (.exc "Full" ["many"] [(.int i10)]) := rfl
  have d6 : ∀ a b c d e f : D, dLst [a, b, c, d, e, f] [] = some (.lst [a, b, c, d, e, f]) := fun a b c d e f => dLst_any (by simp)
  have d5 : ∀ a b c d e : D, dLst [a, b, c, d, e] [] = some (.lst [a, b, c, d, e]) := fun a b c d e => dLst_any (by simp)
  have ad : dAdd (.lst [(.str "x"), (.int i1), (.tup [.tup [.int 0, .int i1], .tup [.int i2]]), (.int i3), (.int i4), (.int i5)]) (.lst [(.int i6), (.int i7), (.int i8), (.int i9), (.int i10)]) [] = some (.lst (vals i1 i2 i3 i4 i5 i6 i7 i8 i9 i10)) := dAdd_any (by simp)
  have kk : (qBin dAdd (qBin dAdd (qBin dAdd (qBin dTimes (qN dLst (qCons (Rt.ok (D.int 0)) qNil)) (Rt.ok (D.int 3))) (qBin dTimes (qN dLst (qCons (Rt.ok (D.int 1)) qNil)) (Rt.ok (D.int 4)))) (qBin dTimes (qN dLst (qCons (Rt.ok (D.int 2)) qNil)) (Rt.ok (D.int 2)))) (qBin dTimes (qN dLst (qCons (Rt.ok (D.int 3)) qNil)) (Rt.ok (D.int 2)))) = .ok (lI [0, 0, 0, 1, 1, 1, 1, 2, 2, 3, 3]) := by kernel_rfl
  have zq : zipQ [.lst (exs i1 i2 i3 i4 i5 i6 i7 i8 i9 i10), lI [0, 0, 0, 1, 1, 1, 1, 2, 2, 3, 3]] = some (zipD (exs i1 i2 i3 i4 i5 i6 i7 i8 i9 i10) (([0, 0, 0, 1, 1, 1, 1, 2, 2, 3, 3] : List Int).map .int)) := rfl
  have cp : (qComp (qiN zipQ (qCons (Rt.ok (.lst (exs i1 i2 i3 i4 i5 i6 i7 i8 i9 i10))) (qCons (Rt.ok (lI [0, 0, 0, 1, 1, 1, 1, 2, 2, 3, 3])) qNil))) (fun v25 => (un2 v25).bind fun a24 => (Rt.ok true)) (fun v25 => (un2 v25).bind fun a24 => (qCall p_law_one_right (qCons (Rt.ok a24.1) (qCons (Rt.ok a24.2) qNil))))) = .ok (.lst ((List.replicate 11 true).map .bl)) := by
    simp only [q_cons, q_nil, q_iN, zq, qL]
    have c1 := q_comp1 (enc := id) (dec := D.bl) (xs := zipD (exs i1 i2 i3 i4 i5 i6 i7 i8 i9 i10) (([0, 0, 0, 1, 1, 1, 1, 2, 2, 3, 3] : List Int).map .int)) (fun _ => true) (by rw [sizeLine_eq]; simp [zipD, exs]) (e := fun v25 => (un2 v25).bind fun a24 => (qCall p_law_one_right (qCons (Rt.ok a24.1) (qCons (Rt.ok a24.2) qNil)))) (t := fun v25 => (un2 v25).bind fun a24 => (Rt.ok true)) (fun x hx => by
      simp only [zipD, exs, List.map_cons, List.map_nil, List.zipWith_cons_cons, List.zipWith_nil_left, List.mem_cons, List.not_mem_nil, or_false] at hx
      rcases hx with rfl | rfl | rfl | rfl | rfl | rfl | rfl | rfl | rfl | rfl | rfl
      · exact one_BadText [(.str "x")]
      · exact one_BadLine [(.int i1)]
      · exact one_Barred [(.tup [.tup [.int 0, .int i1], .tup [.int i2]])]
      · exact one_NoPlace [(.int i3)]
      · exact one_NoColour [(.int i4)]
      · exact one_NoNumber [(.int i5)]
      · exact one_NoOperation [(.int i6)]
      · exact one_Unlike [(.int i7)]
      · exact one_Same [(.int i8)]
      · exact one_TooMany [(.int i9)]
      · exact one_Full [(.int i10)]) (fun x hx => by
      simp only [zipD, exs, List.map_cons, List.map_nil, List.zipWith_cons_cons, List.zipWith_nil_left, List.mem_cons, List.not_mem_nil, or_false] at hx
      rcases hx with rfl | rfl | rfl | rfl | rfl | rfl | rfl | rfl | rfl | rfl | rfl <;> rfl)
    rw [List.map_id] at c1
    exact c1
  have al := o_allB (h := []) (List.replicate 11 true)
  rw [show (List.replicate 11 true).all id = true from rfl] at al
  simp only [bind_ok, kk, cp]
  simp only [q_bin, x0, x1, x2, x3, x4, x5, x6, x7, x8, x9, x10, qOp_some, q_un, xf_BadText, xf_BadLine, xf_Barred, xf_NoPlace, xf_NoColour, xf_NoNumber, xf_NoOperation, xf_Unlike, xf_Same, xf_TooMany, xf_Full, q_cons, q_nil, q_n, d6, d5, bind_ok, ad, q_call, sv, q_val, q_not, Bool.not_true, q_cond, Bool.false_eq_true, if_false]
  simp only [List.map_replicate] at al ⊢
  rw [al]
  simp only [qOp_some, q_val, q_not, Bool.not_true, q_cond, Bool.false_eq_true, if_false]
end
theorem right_ok {b : D} {n : Nat} (bx : Bq b n) (hn : n ≤ 10 ^ 6) : Ok (p_law_right b []) fun y => ∃ b', y = (.bl true, b') ∧ Bq b' (n + 30000) := by
  obtain ⟨s, b1, e1, c1, t1⟩ := p_takeN (m := 13) bx (by omega) (by omega) (by omega)
  obtain ⟨f, b2, e2, c2, t2⟩ := p_takeN (m := 1000000000) t1 (by omega) (by omega) (by omega)
  simp only [Int.cast_ofNat_Int] at e1 e2
  have p9 : dPow (.int 10) (.int 9) [] = some (.int 1000000000) := o_pow 10 9 (by omega) (by omega) (by decide)
  have t1' : ∀ x : D, dTup [x] [] = some (.tup [x]) := fun x => by simp [dTup, sizeLine_eq]
  have d9 : ∀ a b c d e f g h i : D, dLst [a, b, c, d, e, f, g, h, i] [] = some (.lst [a, b, c, d, e, f, g, h, i]) := fun a b c d e f g h i => dLst_any (by simp)
  have d5 : ∀ a b c d e : D, dLst [a, b, c, d, e] [] = some (.lst [a, b, c, d, e]) := fun a b c d e => dLst_any (by simp)
  have m5 := o_mod (h := []) (i := (s : Int)) (j := 5) (by omega)
  have m2 := o_mod (h := []) (i := (s : Int)) (j := 2) (by omega)
  have a1 : dAdd (.lst [(.str "x"), (.int (s : Int)), (.tup [.tup [.int 0, .int (s : Int)], .tup [.int ((s : Int) + 1)]]), (.int ((f : Int) - 500)), (.int ((f : Int) + 5)), (.int (f : Int)), (.int (61 + (s : Int))), (.int (s : Int)), (.int ((s : Int) % 5))]) (.lst [(.int (301 + (f : Int))), (.int (13 + (s : Int) % 2))]) [] = some (.lst (vals (s : Int) ((s : Int) + 1) ((f : Int) - 500) ((f : Int) + 5) (f : Int) (61 + (s : Int)) (s : Int) ((s : Int) % 5) (301 + (f : Int)) (13 + (s : Int) % 2))) := dAdd_any (by simp)
  have v0 : dIx (.lst (vals (s : Int) ((s : Int) + 1) ((f : Int) - 500) ((f : Int) + 5) (f : Int) (61 + (s : Int)) (s : Int) ((s : Int) % 5) (301 + (f : Int)) (13 + (s : Int) % 2))) (.int 0) [] = some (.str "x") := rfl
  have v1 : dIx (.lst (vals (s : Int) ((s : Int) + 1) ((f : Int) - 500) ((f : Int) + 5) (f : Int) (61 + (s : Int)) (s : Int) ((s : Int) % 5) (301 + (f : Int)) (13 + (s : Int) % 2))) (.int 1) [] = some (.int (s : Int)) := rfl
  have v2 : dIx (.lst (vals (s : Int) ((s : Int) + 1) ((f : Int) - 500) ((f : Int) + 5) (f : Int) (61 + (s : Int)) (s : Int) ((s : Int) % 5) (301 + (f : Int)) (13 + (s : Int) % 2))) (.int 2) [] = some (.tup [.tup [.int 0, .int (s : Int)], .tup [.int ((s : Int) + 1)]]) := rfl
  have v3 : dIx (.lst (vals (s : Int) ((s : Int) + 1) ((f : Int) - 500) ((f : Int) + 5) (f : Int) (61 + (s : Int)) (s : Int) ((s : Int) % 5) (301 + (f : Int)) (13 + (s : Int) % 2))) (.int 3) [] = some (.int ((f : Int) - 500)) := rfl
  have v4 : dIx (.lst (vals (s : Int) ((s : Int) + 1) ((f : Int) - 500) ((f : Int) + 5) (f : Int) (61 + (s : Int)) (s : Int) ((s : Int) % 5) (301 + (f : Int)) (13 + (s : Int) % 2))) (.int 4) [] = some (.int ((f : Int) + 5)) := rfl
  have v5 : dIx (.lst (vals (s : Int) ((s : Int) + 1) ((f : Int) - 500) ((f : Int) + 5) (f : Int) (61 + (s : Int)) (s : Int) ((s : Int) % 5) (301 + (f : Int)) (13 + (s : Int) % 2))) (.int 5) [] = some (.int (f : Int)) := rfl
  have v6 : dIx (.lst (vals (s : Int) ((s : Int) + 1) ((f : Int) - 500) ((f : Int) + 5) (f : Int) (61 + (s : Int)) (s : Int) ((s : Int) % 5) (301 + (f : Int)) (13 + (s : Int) % 2))) (.int 6) [] = some (.int (61 + (s : Int))) := rfl
  have v7 : dIx (.lst (vals (s : Int) ((s : Int) + 1) ((f : Int) - 500) ((f : Int) + 5) (f : Int) (61 + (s : Int)) (s : Int) ((s : Int) % 5) (301 + (f : Int)) (13 + (s : Int) % 2))) (.int 7) [] = some (.int (s : Int)) := rfl
  have v8 : dIx (.lst (vals (s : Int) ((s : Int) + 1) ((f : Int) - 500) ((f : Int) + 5) (f : Int) (61 + (s : Int)) (s : Int) ((s : Int) % 5) (301 + (f : Int)) (13 + (s : Int) % 2))) (.int 8) [] = some (.int ((s : Int) % 5)) := rfl
  have v9 : dIx (.lst (vals (s : Int) ((s : Int) + 1) ((f : Int) - 500) ((f : Int) + 5) (f : Int) (61 + (s : Int)) (s : Int) ((s : Int) % 5) (301 + (f : Int)) (13 + (s : Int) % 2))) (.int 9) [] = some (.int (301 + (f : Int))) := rfl
  have v10 : dIx (.lst (vals (s : Int) ((s : Int) + 1) ((f : Int) - 500) ((f : Int) + 5) (f : Int) (61 + (s : Int)) (s : Int) ((s : Int) % 5) (301 + (f : Int)) (13 + (s : Int) % 2))) (.int 10) [] = some (.int (13 + (s : Int) % 2)) := rfl
  have g1 := mk_BadLine (i := (s : Int)) (by omega)
  have g3 := mk_NoPlace (i := ((f : Int) - 500)) (by omega)
  have g4 := mk_NoColour (i := ((f : Int) + 5)) (by omega)
  have g5 := mk_NoNumber (i := (f : Int)) (by omega)
  have g6 := mk_NoOperation (i := (61 + (s : Int))) (by omega)
  have g7 := mk_Unlike (i := (s : Int)) (by omega)
  have g8 := mk_Same (i := ((s : Int) % 5)) (by omega)
  have g9 := mk_TooMany (i := (301 + (f : Int))) (by omega)
  have g10 := mk_Full (i := (13 + (s : Int) % 2)) (by omega)
  have g2 := mk_pair (C := "Barred") (f := "reason") (i := (s : Int)) (j := (s : Int) + 1) (by omega) (by omega)
  have a2 : dAdd (.lst [.exc "BadText" ["text"] [(.str "x")], .exc "BadLine" ["number"] [(.int (s : Int))], .exc "Barred" ["reason"] [(.tup [.tup [.int 0, .int (s : Int)], .tup [.int ((s : Int) + 1)]])], .exc "NoPlace" ["place"] [(.int ((f : Int) - 500))], .exc "NoColour" ["colour"] [(.int ((f : Int) + 5))]]) (.lst [.exc "NoNumber" ["number"] [(.int (f : Int))], .exc "NoOperation" ["many"] [(.int (61 + (s : Int)))], .exc "Unlike" ["place"] [(.int (s : Int))], .exc "Same" ["colour"] [(.int ((s : Int) % 5))]]) [] = some (.lst [.exc "BadText" ["text"] [(.str "x")], .exc "BadLine" ["number"] [(.int (s : Int))], .exc "Barred" ["reason"] [(.tup [.tup [.int 0, .int (s : Int)], .tup [.int ((s : Int) + 1)]])], .exc "NoPlace" ["place"] [(.int ((f : Int) - 500))], .exc "NoColour" ["colour"] [(.int ((f : Int) + 5))], .exc "NoNumber" ["number"] [(.int (f : Int))], .exc "NoOperation" ["many"] [(.int (61 + (s : Int)))], .exc "Unlike" ["place"] [(.int (s : Int))], .exc "Same" ["colour"] [(.int ((s : Int) % 5))]]) := dAdd_any (by simp)
  have a3 : dAdd (.lst [.exc "BadText" ["text"] [(.str "x")], .exc "BadLine" ["number"] [(.int (s : Int))], .exc "Barred" ["reason"] [(.tup [.tup [.int 0, .int (s : Int)], .tup [.int ((s : Int) + 1)]])], .exc "NoPlace" ["place"] [(.int ((f : Int) - 500))], .exc "NoColour" ["colour"] [(.int ((f : Int) + 5))], .exc "NoNumber" ["number"] [(.int (f : Int))], .exc "NoOperation" ["many"] [(.int (61 + (s : Int)))], .exc "Unlike" ["place"] [(.int (s : Int))], .exc "Same" ["colour"] [(.int ((s : Int) % 5))]]) (.lst [.exc "TooMany" ["many"] [(.int (301 + (f : Int)))], .exc "Full" ["many"] [(.int (13 + (s : Int) % 2))]]) [] = some (.lst (exs (s : Int) ((s : Int) + 1) ((f : Int) - 500) ((f : Int) + 5) (f : Int) (61 + (s : Int)) (s : Int) ((s : Int) % 5) (301 + (f : Int)) (13 + (s : Int) % 2))) := dAdd_any (by simp)
  have a4 : dAdd (.lst [.exc "BadText" ["text"] [(.str "x")], .exc "BadLine" ["number"] [(.int (s : Int))], .exc "Barred" ["reason"] [(.tup [.tup [.int 0, .int (s : Int)], .tup [.int ((s : Int) + 1)]])]]) (.lst [.exc "NoPlace" ["place"] [(.int ((f : Int) - 500))], .exc "NoColour" ["colour"] [(.int ((f : Int) + 5))], .exc "NoNumber" ["number"] [(.int (f : Int))]]) [] = some (.lst [.exc "BadText" ["text"] [(.str "x")], .exc "BadLine" ["number"] [(.int (s : Int))], .exc "Barred" ["reason"] [(.tup [.tup [.int 0, .int (s : Int)], .tup [.int ((s : Int) + 1)]])], .exc "NoPlace" ["place"] [(.int ((f : Int) - 500))], .exc "NoColour" ["colour"] [(.int ((f : Int) + 5))], .exc "NoNumber" ["number"] [(.int (f : Int))]]) := dAdd_any (by simp)
  have a5 : dAdd (.lst [.exc "BadText" ["text"] [(.str "x")], .exc "BadLine" ["number"] [(.int (s : Int))], .exc "Barred" ["reason"] [(.tup [.tup [.int 0, .int (s : Int)], .tup [.int ((s : Int) + 1)]])], .exc "NoPlace" ["place"] [(.int ((f : Int) - 500))], .exc "NoColour" ["colour"] [(.int ((f : Int) + 5))], .exc "NoNumber" ["number"] [(.int (f : Int))]]) (.lst [.exc "NoOperation" ["many"] [(.int (61 + (s : Int)))], .exc "Unlike" ["place"] [(.int (s : Int))], .exc "Same" ["colour"] [(.int ((s : Int) % 5))]]) [] = some (.lst [.exc "BadText" ["text"] [(.str "x")], .exc "BadLine" ["number"] [(.int (s : Int))], .exc "Barred" ["reason"] [(.tup [.tup [.int 0, .int (s : Int)], .tup [.int ((s : Int) + 1)]])], .exc "NoPlace" ["place"] [(.int ((f : Int) - 500))], .exc "NoColour" ["colour"] [(.int ((f : Int) + 5))], .exc "NoNumber" ["number"] [(.int (f : Int))], .exc "NoOperation" ["many"] [(.int (61 + (s : Int)))], .exc "Unlike" ["place"] [(.int (s : Int))], .exc "Same" ["colour"] [(.int ((s : Int) % 5))]]) := dAdd_any (by simp)
  rw [p_law_right]
  refine Ok.bind ([.int (s : Int), .int (f : Int)], b2) (by simp only [q_cons, q_nil, bind_ok, qs_cons, qs_callB, e1, q_bin, p9, qOp_some, e2]) ?_
  refine Ok.bind (.int (s : Int), .int (f : Int)) rfl ?_
  refine Ok.bind (.lst [(.str "x"), (.int (s : Int)), (.tup [.tup [.int 0, .int (s : Int)], .tup [.int ((s : Int) + 1)]]), (.int ((f : Int) - 500)), (.int ((f : Int) + 5)), (.int (f : Int)), (.int (61 + (s : Int))), (.int (s : Int)), (.int ((s : Int) % 5))]) (by simp only [q_cons, q_nil, q_n, o_tup2, t1', qOp_some, q_bin, o_add, o_sub, m5, d9]) ?_
  refine Ok.bind (.lst (vals (s : Int) ((s : Int) + 1) ((f : Int) - 500) ((f : Int) + 5) (f : Int) (61 + (s : Int)) (s : Int) ((s : Int) % 5) (301 + (f : Int)) (13 + (s : Int) % 2))) (by simp only [q_cons, q_nil, q_n, qOp_some, q_bin, o_add, m2, dLst2, a1]) ?_
  refine Ok.bind (.lst [.exc "BadText" ["text"] [(.str "x")], .exc "BadLine" ["number"] [(.int (s : Int))], .exc "Barred" ["reason"] [(.tup [.tup [.int 0, .int (s : Int)], .tup [.int ((s : Int) + 1)]])], .exc "NoPlace" ["place"] [(.int ((f : Int) - 500))], .exc "NoColour" ["colour"] [(.int ((f : Int) + 5))]]) (by simp only [q_bin, v0, v1, v2, v3, v4, v5, v6, v7, v8, v9, v10, qOp_some, q_cons, q_nil, q_n, mk_text, g2, g1, g3, g4, g5, g6, g7, g8, g9, g10, d5]) ?_
  refine Ok.bind (.lst [.exc "BadText" ["text"] [(.str "x")], .exc "BadLine" ["number"] [(.int (s : Int))], .exc "Barred" ["reason"] [(.tup [.tup [.int 0, .int (s : Int)], .tup [.int ((s : Int) + 1)]])], .exc "NoPlace" ["place"] [(.int ((f : Int) - 500))], .exc "NoColour" ["colour"] [(.int ((f : Int) + 5))], .exc "NoNumber" ["number"] [(.int (f : Int))], .exc "NoOperation" ["many"] [(.int (61 + (s : Int)))], .exc "Unlike" ["place"] [(.int (s : Int))], .exc "Same" ["colour"] [(.int ((s : Int) % 5))]]) (by simp only [q_bin, v0, v1, v2, v3, v4, v5, v6, v7, v8, v9, v10, qOp_some, q_cons, q_nil, q_n, g1, g3, g4, g5, g6, g7, g8, g9, g10, dLst4, a2]) ?_
  refine Ok.bind (.lst (exs (s : Int) ((s : Int) + 1) ((f : Int) - 500) ((f : Int) + 5) (f : Int) (61 + (s : Int)) (s : Int) ((s : Int) % 5) (301 + (f : Int)) (13 + (s : Int) % 2))) (by simp only [q_bin, v0, v1, v2, v3, v4, v5, v6, v7, v8, v9, v10, qOp_some, q_cons, q_nil, q_n, g1, g3, g4, g5, g6, g7, g8, g9, g10, dLst2, a3]) ?_
  refine Ok.bind (.lst [.exc "BadText" ["text"] [(.str "x")], .exc "BadLine" ["number"] [(.int (s : Int))], .exc "Barred" ["reason"] [(.tup [.tup [.int 0, .int (s : Int)], .tup [.int ((s : Int) + 1)]])]]) (by simp only [q_bin, v0, v1, v2, v3, v4, v5, v6, v7, v8, v9, v10, qOp_some, q_cons, q_nil, q_n, mk_text, g2, g1, g3, g4, g5, g6, g7, g8, g9, g10, dLst3]) ?_
  refine Ok.bind (.lst [.exc "BadText" ["text"] [(.str "x")], .exc "BadLine" ["number"] [(.int (s : Int))], .exc "Barred" ["reason"] [(.tup [.tup [.int 0, .int (s : Int)], .tup [.int ((s : Int) + 1)]])], .exc "NoPlace" ["place"] [(.int ((f : Int) - 500))], .exc "NoColour" ["colour"] [(.int ((f : Int) + 5))], .exc "NoNumber" ["number"] [(.int (f : Int))]]) (by simp only [q_bin, v0, v1, v2, v3, v4, v5, v6, v7, v8, v9, v10, qOp_some, q_cons, q_nil, q_n, g1, g3, g4, g5, g6, g7, g8, g9, g10, dLst3, a4]) ?_
  refine Ok.bind (.lst [.exc "BadText" ["text"] [(.str "x")], .exc "BadLine" ["number"] [(.int (s : Int))], .exc "Barred" ["reason"] [(.tup [.tup [.int 0, .int (s : Int)], .tup [.int ((s : Int) + 1)]])], .exc "NoPlace" ["place"] [(.int ((f : Int) - 500))], .exc "NoColour" ["colour"] [(.int ((f : Int) + 5))], .exc "NoNumber" ["number"] [(.int (f : Int))], .exc "NoOperation" ["many"] [(.int (61 + (s : Int)))], .exc "Unlike" ["place"] [(.int (s : Int))], .exc "Same" ["colour"] [(.int ((s : Int) % 5))]]) (by simp only [q_bin, v0, v1, v2, v3, v4, v5, v6, v7, v8, v9, v10, qOp_some, q_cons, q_nil, q_n, g1, g3, g4, g5, g6, g7, g8, g9, g10, dLst3, a5]) ?_
  refine Ok.bind (.lst (exs (s : Int) ((s : Int) + 1) ((f : Int) - 500) ((f : Int) + 5) (f : Int) (61 + (s : Int)) (s : Int) ((s : Int) % 5) (301 + (f : Int)) (13 + (s : Int) % 2))) (by simp only [q_bin, v0, v1, v2, v3, v4, v5, v6, v7, v8, v9, v10, qOp_some, q_cons, q_nil, q_n, g1, g3, g4, g5, g6, g7, g8, g9, g10, dLst2, a3]) ?_
  refine Ok.bind [.lst (exs (s : Int) ((s : Int) + 1) ((f : Int) - 500) ((f : Int) + 5) (f : Int) (61 + (s : Int)) (s : Int) ((s : Int) % 5) (301 + (f : Int)) (13 + (s : Int) % 2)), .lst (exs (s : Int) ((s : Int) + 1) ((f : Int) - 500) ((f : Int) + 5) (f : Int) (61 + (s : Int)) (s : Int) ((s : Int) % 5) (301 + (f : Int)) (13 + (s : Int) % 2))] (by simp only [q_cons, q_nil, q_n, o_tup2, qOp_some]; rfl) ?_
  have fo := qFor_nx (ρ := D × D) (enc := id) (items := [.lst (exs (s : Int) ((s : Int) + 1) ((f : Int) - 500) ((f : Int) + 5) (f : Int) (61 + (s : Int)) (s : Int) ((s : Int) % 5) (301 + (f : Int)) (13 + (s : Int) % 2)), .lst (exs (s : Int) ((s : Int) + 1) ((f : Int) - 500) ((f : Int) + 5) (f : Int) (61 + (s : Int)) (s : Int) ((s : Int) % 5) (301 + (f : Int)) (13 + (s : Int) % 2))]) (s := ()) (fun _ => ()) rfl (f := (fun s16 x18 => ((fun v => Rt.ok v) x18).bind fun a17 => ((qN dLst (qCons (qUn (dXF xtab "text") (qBin dIx (Rt.ok a17) (Rt.ok (D.int 0)))) (qCons (qUn (dXF xtab "number") (qBin dIx (Rt.ok a17) (Rt.ok (D.int 1)))) (qCons (qUn (dXF xtab "reason") (qBin dIx (Rt.ok a17) (Rt.ok (D.int 2)))) (qCons (qUn (dXF xtab "place") (qBin dIx (Rt.ok a17) (Rt.ok (D.int 3)))) (qCons (qUn (dXF xtab "colour") (qBin dIx (Rt.ok a17) (Rt.ok (D.int 4)))) (qCons (qUn (dXF xtab "number") (qBin dIx (Rt.ok a17) (Rt.ok (D.int 5)))) qNil))))))).bind fun x20 => ((qBin dAdd (Rt.ok x20) (qN dLst (qCons (qUn (dXF xtab "many") (qBin dIx (Rt.ok a17) (Rt.ok (D.int 6)))) (qCons (qUn (dXF xtab "place") (qBin dIx (Rt.ok a17) (Rt.ok (D.int 7)))) (qCons (qUn (dXF xtab "colour") (qBin dIx (Rt.ok a17) (Rt.ok (D.int 8)))) (qCons (qUn (dXF xtab "many") (qBin dIx (Rt.ok a17) (Rt.ok (D.int 9)))) (qCons (qUn (dXF xtab "many") (qBin dIx (Rt.ok a17) (Rt.ok (D.int 10)))) qNil))))))).bind fun x21 => (qCond (qNot (qVal (qCall (p_law_same_2 8) (qCons (Rt.ok x21) (qCons (Rt.ok (.lst (vals (s : Int) ((s : Int) + 1) ((f : Int) - 500) ((f : Int) + 5) (f : Int) (61 + (s : Int)) (s : Int) ((s : Int) % 5) (301 + (f : Int)) (13 + (s : Int) % 2)))) qNil))))) (((Rt.ok (D.bl false))).bind fun v22 => Rt.ok (Stp.up (v22, b2))) ((qBin dAdd (qBin dAdd (qBin dAdd (qBin dTimes (qN dLst (qCons (Rt.ok (D.int 0)) qNil)) (Rt.ok (D.int 3))) (qBin dTimes (qN dLst (qCons (Rt.ok (D.int 1)) qNil)) (Rt.ok (D.int 4)))) (qBin dTimes (qN dLst (qCons (Rt.ok (D.int 2)) qNil)) (Rt.ok (D.int 2)))) (qBin dTimes (qN dLst (qCons (Rt.ok (D.int 3)) qNil)) (Rt.ok (D.int 2)))).bind fun x23 => (qCond (qNot (qVal (qN dAll (qCons (qComp (qiN zipQ (qCons (Rt.ok a17) (qCons (Rt.ok x23) qNil))) (fun v25 => (un2 v25).bind fun a24 => (Rt.ok true)) (fun v25 => (un2 v25).bind fun a24 => (qCall p_law_one_right (qCons (Rt.ok a24.1) (qCons (Rt.ok a24.2) qNil))))) qNil)))) (((Rt.ok (D.bl false))).bind fun v26 => Rt.ok (Stp.up (v26, b2))) (Rt.ok (Stp.nx ()))))))))) (fun i x hx => by
    have mx := List.mem_of_getElem? hx
    have : x = .lst (exs (s : Int) ((s : Int) + 1) ((f : Int) - 500) ((f : Int) + 5) (f : Int) (61 + (s : Int)) (s : Int) ((s : Int) % 5) (301 + (f : Int)) (13 + (s : Int) % 2)) := by simpa using mx
    rw [this]
    exact turn_ok)
  rw [List.map_id] at fo
  refine Ok.bind (.nx ()) fo ?_
  simp only [qJ_nx]
  refine .of (y := (.bl true, b2)) ?_ ⟨b2, rfl, t2.mono (by omega)⟩
  have xt := xf_Barred (.str "tiles")
  have eq1 : dEq (.str "tiles") (.str "tiles") [] = some (.bl true) := by kernel_rfl
  simp only [q_cons, q_nil, q_n, mk_norow, qOp_some, q_call, one_NoRow, q_eand, if_true, mk_tiles, q_un, xt, q_bin, eq1, o_eqI, beq_self_eq_true, bind_ok]
theorem turns {n : Nat} : ∀ (k : Nat) {b : D} {m : Nat}, Bq b m → m + 30000 * k ≤ 10 ^ 6 → ∀ (xs : List D), xs.length = k → Ok (compSL (fun _ b => Rt.ok (true, b)) (fun _ b => p_law_right b []) xs b) fun y => ∃ b', y = (List.replicate k (D.bl true), b') ∧ Bq b' (m + 30000 * k)
  | 0, b, m, bx, _, xs, hx => by
    have : xs = [] := List.length_eq_zero_iff.mp hx
    subst this
    exact .of (y := ([], b)) rfl ⟨b, rfl, by simpa using bx⟩
  | k + 1, b, m, bx, hm, [], hx => by simp at hx
  | k + 1, b, m, bx, hm, x :: xs, hx => by
    obtain ⟨y, e, b1, rfl, t1⟩ := right_ok bx (by omega)
    obtain ⟨y2, e2, b2, rfl, t2⟩ := turns (n := n) k t1 (by omega) xs (by simpa using hx)
    refine .of (y := (D.bl true :: List.replicate k (D.bl true), b2)) ?_ ⟨b2, rfl, t2.mono (by omega)⟩
    simp only [compSL, bind_ok, if_true]
    rw [e, bind_ok, e2, bind_ok]
theorem p_true (ns : List Int) (hl : ns.length ≤ 63) : p_law [.rol (ns.map .int)] = .ok (.bl true) := by
  generalize hk : 1 + min 3 ns.length = K
  have ln : dLen [.rol (ns.map D.int)] [] = some (.int ns.length) := by simp [dLen, seqOf]
  have mn := o_min2 (h := []) 3 ns.length
  have rgK := rng1N (n := K) (by omega)
  have eK : (K : Int) = 1 + ((min 3 ns.length : Nat) : Int) := by omega
  rw [eK] at rgK
  simp only [Int.cast_ofNat_Int] at mn
  have rg := rng1N (n := 1) (by omega)
  simp only [Int.cast_ofNat_Int] at rg
  rw [p_law]
  have it : qiN rng1 (qCons (qBin dAdd (Rt.ok (D.int 1)) (qN dMin2 (qCons (Rt.ok (D.int 3)) (qCons (qN dLen (qCons (Rt.ok (.rol (ns.map D.int))) qNil)) qNil)))) qNil) = .ok ((List.range K).map fun i => D.int (i : Nat)) := by
    simp only [q_cons, q_nil, q_n, ln, qOp_some, mn, q_bin, o_add, q_iN, rgK]
  rw [it]
  simp only [q_iN, q_cons, q_nil, rg, bind_ok]
  refine bind_eq (qFor_nx (fun _ => ()) rfl fun i k hk2 => ?_) rfl
  have hi : k < K := by
    have := List.mem_range.mp (List.mem_of_getElem? hk2)
    exact this
  obtain ⟨b, e, bx⟩ := p_box_eq ns k (by omega)
  obtain ⟨y, e2, b2, rfl, t2⟩ := turns (n := 0) 1 (m := 0) bx (by omega) ((List.range 1).map fun i => D.int (i : Nat)) (by simp)
  have al := o_allB (h := []) (List.replicate 1 true)
  have tr : (List.replicate 1 true).all id = true := rfl
  rw [tr, List.map_replicate] at al
  simp only [q_call, q_cons, q_nil, bind_ok, e, q_iN, rg]
  unfold qsComp
  simp only [bind_ok, qs_callB]
  rw [e2, tame_ok, bind_ok, if_pos (by simp [sizeLine_eq])]
  simp only [qs_cons, bind_ok, qs_n, al, qOp_some, qs_val, qs_not, Bool.not_true, qs_cond, Bool.false_eq_true, if_false]
theorem law_true (ns : List Int) (hl : ns.length ≤ 63) : ∃ h', m_law [.rol (ns.map .int)] [] = .ok (.bl true) h' := law_of dp_law (p_true ns hl)

end Lk15
namespace Lk15
open PySem PySem.Spec PyProof.Rows L2 Tw Cm
def topS (i : Nat) : Stmt := PySem.Challenge.pw_twintiles_k15_errors_by_hand.main.body.getD i (.Pass ⟨0, 0, 0, 0⟩)
theorem inX_BadText : inT xtab "BadText" = some ("ValueError", (["text"] : List Str)) := by decide +kernel
theorem inX_BadLine : inT xtab "BadLine" = some ("ValueError", (["number"] : List Str)) := by decide +kernel
theorem inX_Barred : inT xtab "Barred" = some ("ValueError", (["reason"] : List Str)) := by decide +kernel
theorem inX_NoPlace : inT xtab "NoPlace" = some ("LookupError", (["place"] : List Str)) := by decide +kernel
theorem inX_NoColour : inT xtab "NoColour" = some ("LookupError", (["colour"] : List Str)) := by decide +kernel
theorem inX_NoNumber : inT xtab "NoNumber" = some ("LookupError", (["number"] : List Str)) := by decide +kernel
theorem inX_NoRow : inT xtab "NoRow" = some ("LookupError", ([] : List Str)) := by decide +kernel
theorem inX_NoOperation : inT xtab "NoOperation" = some ("LookupError", (["many"] : List Str)) := by decide +kernel
theorem inX_Unlike : inT xtab "Unlike" = some ("RuntimeError", (["place"] : List Str)) := by decide +kernel
theorem inX_Same : inT xtab "Same" = some ("RuntimeError", (["colour"] : List Str)) := by decide +kernel
theorem inX_TooMany : inT xtab "TooMany" = some ("OverflowError", (["many"] : List Str)) := by decide +kernel
theorem inX_Full : inT xtab "Full" = some ("OverflowError", (["many"] : List Str)) := by decide +kernel
def initS (i : Nat) : Stmt := match topS i with
  | .ClassDef _ _ _ (b :: _) _ _ _ _ _ _ _ => b
  | s => s
theorem sc_init_BadText : FnScope ["self", "text"] ["self", "text"] (defScope (initS 1)) := ⟨rfl, rfl, rfl, by decide +kernel, rfl, by decide +kernel, by decide +kernel⟩
theorem sc_init_BadLine : FnScope ["self", "number"] ["self", "number"] (defScope (initS 2)) := ⟨rfl, rfl, rfl, by decide +kernel, rfl, by decide +kernel, by decide +kernel⟩
theorem sc_init_Barred : FnScope ["self", "reason"] ["self", "reason"] (defScope (initS 3)) := ⟨rfl, rfl, rfl, by decide +kernel, rfl, by decide +kernel, by decide +kernel⟩
theorem sc_init_NoPlace : FnScope ["self", "place"] ["self", "place"] (defScope (initS 4)) := ⟨rfl, rfl, rfl, by decide +kernel, rfl, by decide +kernel, by decide +kernel⟩
theorem sc_init_NoColour : FnScope ["self", "colour"] ["self", "colour"] (defScope (initS 5)) := ⟨rfl, rfl, rfl, by decide +kernel, rfl, by decide +kernel, by decide +kernel⟩
theorem sc_init_NoNumber : FnScope ["self", "number"] ["self", "number"] (defScope (initS 6)) := ⟨rfl, rfl, rfl, by decide +kernel, rfl, by decide +kernel, by decide +kernel⟩
theorem sc_init_NoRow : FnScope ["self"] ["self"] (defScope (initS 7)) := ⟨rfl, rfl, rfl, by decide +kernel, rfl, by decide +kernel, by decide +kernel⟩
theorem sc_init_NoOperation : FnScope ["self", "many"] ["self", "many"] (defScope (initS 8)) := ⟨rfl, rfl, rfl, by decide +kernel, rfl, by decide +kernel, by decide +kernel⟩
theorem sc_init_Unlike : FnScope ["self", "place"] ["self", "place"] (defScope (initS 9)) := ⟨rfl, rfl, rfl, by decide +kernel, rfl, by decide +kernel, by decide +kernel⟩
theorem sc_init_Same : FnScope ["self", "colour"] ["self", "colour"] (defScope (initS 10)) := ⟨rfl, rfl, rfl, by decide +kernel, rfl, by decide +kernel, by decide +kernel⟩
theorem sc_init_TooMany : FnScope ["self", "many"] ["self", "many"] (defScope (initS 11)) := ⟨rfl, rfl, rfl, by decide +kernel, rfl, by decide +kernel, by decide +kernel⟩
theorem sc_init_Full : FnScope ["self", "many"] ["self", "many"] (defScope (initS 12)) := ⟨rfl, rfl, rfl, by decide +kernel, rfl, by decide +kernel, by decide +kernel⟩
section
variable {P : Program} {w : World} {K : PySem.W.Frag} {mg : Str → Option Value} {base : Heap}
theorem sc_law_cell_at : FnScope ["_law_script", "_law_k"] ["_law_script", "_law_k"] (defScope (topS 15)) := ⟨rfl, rfl, rfl, by decide +kernel, rfl, by decide +kernel, by decide +kernel⟩
theorem ok_law_cell_at {f : Addr} {fd : FuncData} (F : Fun K "_law_cell_at" "_law_cell_at" (topS 15) f fd) (gl : mg "_law_cell_at" = some (.ref f)) (bi : Binds K fd ["_law_script", "_law_k"] [])   (z_len : mg (Str.ofString "len") = none)   : DfA P w K mg base "_law_cell_at" 1 ["_law_script", "_law_k"] m_law_cell_at f fd := dfa_ok (k := 0) F sc_law_cell_at gl bi (fun cdv A outer s H E hr => by
    have hc : (cxOf (L2.CX P w) P w K mg base ["_law_script", "_law_k"] "_law_cell_at" (defScope (topS 15)) f cdv A outer s H E).calm = true := rfl
    have nd := sc_law_cell_at.nd
    have tk : Takes (cxOf (L2.CX P w) P w K mg base ["_law_script", "_law_k"] "_law_cell_at" (defScope (topS 15)) f cdv A outer s H E) (fun cls d _ H => E cls d H) := takes_of rfl rfl rfl rfl
    have hp : PassesOwn (model P w) (cxOf (L2.CX P w) P w K mg base ["_law_script", "_law_k"] "_law_cell_at" (defScope (topS 15)) f cdv A outer s H E).A (cxOf (L2.CX P w) P w K mg base ["_law_script", "_law_k"] "_law_cell_at" (defScope (topS 15)) f cdv A outer s H E).env (cxOf (L2.CX P w) P w K mg base ["_law_script", "_law_k"] "_law_cell_at" (defScope (topS 15)) f cdv A outer s H E).xe := passes_of rfl
    exact (jb_cons (js_if (jt_lt (je_var (i := 1)) (je_len z_len (ja_cons (je_var (i := 0)) ja_nil))) (jb_one (js_ret (je_ix (je_var (i := 0)) (je_var (i := 1))))) jb_nil) (jb_one (js_ret je_int))))
theorem sc_law_box : FnScope ["_law_script", "_law_k", "_law_core"] ["_law_script", "_law_k"] (defScope (topS 16)) := ⟨rfl, rfl, rfl, by decide +kernel, rfl, by decide +kernel, by decide +kernel⟩
theorem ok_law_box {f : Addr} {fd : FuncData} (F : Fun K "_law_box" "_law_box" (topS 16) f fd) (gl : mg "_law_box" = some (.ref f)) (bi : Binds K fd ["_law_script", "_law_k"] []) (k_law_cell_at : Df P w K mg base "_law_cell_at" 1 ["_law_script", "_law_k"] m_law_cell_at)  (z_abs : mg (Str.ofString "abs") = none) (z_int : mg (Str.ofString "int") = none)   : DfA P w K mg base "_law_box" 2 ["_law_script", "_law_k"] m_law_box f fd := dfa_ok (k := 1) F sc_law_box gl bi (fun cdv A outer s H E hr => by
    have hc : (cxOf (L2.CX P w) P w K mg base ["_law_script", "_law_k", "_law_core"] "_law_box" (defScope (topS 16)) f cdv A outer s H E).calm = true := rfl
    have nd := sc_law_box.nd
    have tk : Takes (cxOf (L2.CX P w) P w K mg base ["_law_script", "_law_k", "_law_core"] "_law_box" (defScope (topS 16)) f cdv A outer s H E) (fun cls d _ H => E cls d H) := takes_of rfl rfl rfl rfl
    have hp : PassesOwn (model P w) (cxOf (L2.CX P w) P w K mg base ["_law_script", "_law_k", "_law_core"] "_law_box" (defScope (topS 16)) f cdv A outer s H E).A (cxOf (L2.CX P w) P w K mg base ["_law_script", "_law_k", "_law_core"] "_law_box" (defScope (topS 16)) f cdv A outer s H E).env (cxOf (L2.CX P w) P w K mg base ["_law_script", "_law_k", "_law_core"] "_law_box" (defScope (topS 16)) f cdv A outer s H E).xe := passes_of rfl
    replace k_law_cell_at := k_law_cell_at.mono (show 1 ≤ 1 by omega)
    exact (jb_cons (js_set (i := 2) nd (je_call k_law_cell_at hr tk (ja_cons (je_var (i := 0)) (ja_cons (je_var (i := 1)) ja_nil)))) (jb_one (js_ret (je_lst (ja_cons (je_times (je_abs z_abs (ja_cons (je_var (i := 2)) ja_nil)) (je_toInt z_int (ja_cons (je_ge (je_abs z_abs (ja_cons (je_var (i := 2)) ja_nil)) (je_pow je_int je_int)) ja_nil))) (ja_cons (je_add (je_add (je_mod (je_var (i := 2)) je_int) (je_times je_int (je_var (i := 1)))) je_int) (ja_cons je_int ja_nil))))))))
theorem sc_law_take : FnScope ["_law_box_here", "_law_below", "_law_found", "_law_once", "_law_twice"] ["_law_box_here", "_law_below"] (defScope (topS 17)) := ⟨rfl, rfl, rfl, by decide +kernel, rfl, by decide +kernel, by decide +kernel⟩
theorem ok_law_take {f : Addr} {fd : FuncData} (F : Fun K "_law_take" "_law_take" (topS 17) f fd) (gl : mg "_law_take" = some (.ref f)) (bi : Binds K fd ["_law_box_here", "_law_below"] [])      : ∀ n : Nat, DfA P w K mg base "_law_take" (0 + n + 1) ["_law_box_here", "_law_below"] (m_law_take n) f fd
  | 0 => dfa_ok (k := 0) F sc_law_take gl bi (fun cdv A outer s H E hr => jb_never)
  | n + 1 => dfa_ok (k := 0 + n + 1) F sc_law_take gl bi (fun cdv A outer s H E hr => by
    have hc : (cxOf (L2.CX P w) P w K mg base ["_law_box_here", "_law_below", "_law_found", "_law_once", "_law_twice"] "_law_take" (defScope (topS 17)) f cdv A outer s H E).calm = true := rfl
    have nd := sc_law_take.nd
    have tk : Takes (cxOf (L2.CX P w) P w K mg base ["_law_box_here", "_law_below", "_law_found", "_law_once", "_law_twice"] "_law_take" (defScope (topS 17)) f cdv A outer s H E) (fun cls d _ H => E cls d H) := takes_of rfl rfl rfl rfl
    have hp : PassesOwn (model P w) (cxOf (L2.CX P w) P w K mg base ["_law_box_here", "_law_below", "_law_found", "_law_once", "_law_twice"] "_law_take" (defScope (topS 17)) f cdv A outer s H E).A (cxOf (L2.CX P w) P w K mg base ["_law_box_here", "_law_below", "_law_found", "_law_once", "_law_twice"] "_law_take" (defScope (topS 17)) f cdv A outer s H E).env (cxOf (L2.CX P w) P w K mg base ["_law_box_here", "_law_below", "_law_found", "_law_once", "_law_twice"] "_law_take" (defScope (topS 17)) f cdv A outer s H E).xe := passes_of rfl
    have drec := DfA.df <| ok_law_take F gl bi   n
    exact (jb_cons (js_if (jt_gt (je_ix (je_var (i := 0)) je_int) je_int) (jb_cons (js_set (i := 2) nd (je_mod (je_ix (je_var (i := 0)) je_int) (je_var (i := 1)))) (jb_cons (js_setIx (je_fdiv (je_ix (je_var (i := 0)) je_int) (je_var (i := 1))) (je_var (i := 0)) je_int) (jb_one (js_ret (je_var (i := 2)))))) jb_nil) (jb_cons (js_if (jt_gt (je_var (i := 1)) (je_pow je_int je_int)) (jb_one (js_ret (je_mod (je_add (je_call drec hr tk (ja_cons (je_var (i := 0)) (ja_cons (je_pow je_int je_int) ja_nil))) (je_times (je_pow je_int je_int) (je_call drec hr tk (ja_cons (je_var (i := 0)) (ja_cons (je_add (je_fdiv (je_var (i := 1)) (je_pow je_int je_int)) je_int) ja_nil))))) (je_var (i := 1))))) jb_nil) (jb_cons (js_setIx (je_add (je_ix (je_var (i := 0)) je_int) je_int) (je_var (i := 0)) je_int) (jb_cons (js_set (i := 3) nd (je_mod (je_times (je_add (je_ix (je_var (i := 0)) je_int) (je_times je_int (je_ix (je_var (i := 0)) je_int))) (je_add je_int (je_ix (je_var (i := 0)) je_int))) je_int)) (jb_cons (js_set (i := 4) nd (je_mod (je_times (je_add (je_add (je_var (i := 3)) (je_ix (je_var (i := 0)) je_int)) (je_fdiv (je_ix (je_var (i := 0)) je_int) je_int)) (je_add (je_mod (je_var (i := 3)) je_int) je_int)) je_int)) (jb_one (js_ret (je_mod (je_fdiv (je_mod (je_add (je_times (je_var (i := 4)) je_int) (je_var (i := 3))) je_int) je_int) (je_var (i := 1)))))))))))
theorem sc_law_flags : FnScope ["_law_made", "_law_flags_here"] ["_law_made"] (defScope (topS 19)) := ⟨rfl, rfl, rfl, by decide +kernel, rfl, by decide +kernel, by decide +kernel⟩
theorem ok_law_flags {f : Addr} {fd : FuncData} (F : Fun K "_law_flags" "_law_flags" (topS 19) f fd) (gl : mg "_law_flags" = some (.ref f)) (bi : Binds K fd ["_law_made"] [])   (z_isinstance : mg (Str.ofString "isinstance") = none)   (x_tab : XTab K mg xtab) : DfA P w K mg base "_law_flags" 1 ["_law_made"] m_law_flags f fd := dfa_ok (k := 0) F sc_law_flags gl bi (fun cdv A outer s H E hr => by
    have hc : (cxOf (L2.CX P w) P w K mg base ["_law_made", "_law_flags_here"] "_law_flags" (defScope (topS 19)) f cdv A outer s H E).calm = true := rfl
    have nd := sc_law_flags.nd
    have tk : Takes (cxOf (L2.CX P w) P w K mg base ["_law_made", "_law_flags_here"] "_law_flags" (defScope (topS 19)) f cdv A outer s H E) (fun cls d _ H => E cls d H) := takes_of rfl rfl rfl rfl
    have hp : PassesOwn (model P w) (cxOf (L2.CX P w) P w K mg base ["_law_made", "_law_flags_here"] "_law_flags" (defScope (topS 19)) f cdv A outer s H E).A (cxOf (L2.CX P w) P w K mg base ["_law_made", "_law_flags_here"] "_law_flags" (defScope (topS 19)) f cdv A outer s H E).env (cxOf (L2.CX P w) P w K mg base ["_law_made", "_law_flags_here"] "_law_flags" (defScope (topS 19)) f cdv A outer s H E).xe := passes_of rfl
    exact (jb_cons (js_set (i := 1) nd (je_lst (ja_cons (je_isX x_tab z_isinstance (ja_cons (je_var (i := 0)) (ja_cons (je_glbT x_tab inX_BadLine) ja_nil))) (ja_cons (je_isX x_tab z_isinstance (ja_cons (je_var (i := 0)) (ja_cons (je_glbT x_tab inX_BadText) ja_nil))) (ja_cons (je_isX x_tab z_isinstance (ja_cons (je_var (i := 0)) (ja_cons (je_glbT x_tab inX_Barred) ja_nil))) (ja_cons (je_isX x_tab z_isinstance (ja_cons (je_var (i := 0)) (ja_cons (je_glbT x_tab inX_Full) ja_nil))) ja_nil)))))) (jb_cons (js_set (i := 1) nd (je_add (je_var (i := 1)) (je_lst (ja_cons (je_isX x_tab z_isinstance (ja_cons (je_var (i := 0)) (ja_cons (je_glbT x_tab inX_NoColour) ja_nil))) (ja_cons (je_isX x_tab z_isinstance (ja_cons (je_var (i := 0)) (ja_cons (je_glbT x_tab inX_NoNumber) ja_nil))) (ja_cons (je_isX x_tab z_isinstance (ja_cons (je_var (i := 0)) (ja_cons (je_glbT x_tab inX_NoOperation) ja_nil))) ja_nil)))))) (jb_cons (js_set (i := 1) nd (je_add (je_var (i := 1)) (je_lst (ja_cons (je_isX x_tab z_isinstance (ja_cons (je_var (i := 0)) (ja_cons (je_glbT x_tab inX_NoPlace) ja_nil))) (ja_cons (je_isX x_tab z_isinstance (ja_cons (je_var (i := 0)) (ja_cons (je_glbT x_tab inX_NoRow) ja_nil))) (ja_cons (je_isX x_tab z_isinstance (ja_cons (je_var (i := 0)) (ja_cons (je_glbT x_tab inX_Same) ja_nil))) ja_nil)))))) (jb_one (js_ret (je_add (je_var (i := 1)) (je_lst (ja_cons (je_isX x_tab z_isinstance (ja_cons (je_var (i := 0)) (ja_cons (je_glbT x_tab inX_TooMany) ja_nil))) (ja_cons (je_isX x_tab z_isinstance (ja_cons (je_var (i := 0)) (ja_cons (je_glbT x_tab inX_Unlike) ja_nil))) ja_nil))))))))))
theorem sc_law_one_right : FnScope ["_law_made", "_law_at", "_law_kinds", "_law_due"] ["_law_made", "_law_at"] (defScope (topS 20)) := ⟨rfl, rfl, rfl, by decide +kernel, rfl, by decide +kernel, by decide +kernel⟩
theorem ok_law_one_right {f : Addr} {fd : FuncData} (F : Fun K "_law_one_right" "_law_one_right" (topS 20) f fd) (gl : mg "_law_one_right" = some (.ref f)) (bi : Binds K fd ["_law_made", "_law_at"] []) (k_law_flags : Df P w K mg base "_law_flags" 1 ["_law_made"] m_law_flags)  (z_NotImplementedError : mg (Str.ofString "NotImplementedError") = none) (z_KeyError : mg (Str.ofString "KeyError") = none) (z_IndexError : mg (Str.ofString "IndexError") = none) (z_isinstance : mg (Str.ofString "isinstance") = none) (z_OverflowError : mg (Str.ofString "OverflowError") = none) (z_RuntimeError : mg (Str.ofString "RuntimeError") = none) (z_LookupError : mg (Str.ofString "LookupError") = none) (z_ValueError : mg (Str.ofString "ValueError") = none)   (x_tab : XTab K mg xtab) : DfA P w K mg base "_law_one_right" 2 ["_law_made", "_law_at"] m_law_one_right f fd := dfa_ok (k := 1) F sc_law_one_right gl bi (fun cdv A outer s H E hr => by
    have hc : (cxOf (L2.CX P w) P w K mg base ["_law_made", "_law_at", "_law_kinds", "_law_due"] "_law_one_right" (defScope (topS 20)) f cdv A outer s H E).calm = true := rfl
    have nd := sc_law_one_right.nd
    have tk : Takes (cxOf (L2.CX P w) P w K mg base ["_law_made", "_law_at", "_law_kinds", "_law_due"] "_law_one_right" (defScope (topS 20)) f cdv A outer s H E) (fun cls d _ H => E cls d H) := takes_of rfl rfl rfl rfl
    have hp : PassesOwn (model P w) (cxOf (L2.CX P w) P w K mg base ["_law_made", "_law_at", "_law_kinds", "_law_due"] "_law_one_right" (defScope (topS 20)) f cdv A outer s H E).A (cxOf (L2.CX P w) P w K mg base ["_law_made", "_law_at", "_law_kinds", "_law_due"] "_law_one_right" (defScope (topS 20)) f cdv A outer s H E).env (cxOf (L2.CX P w) P w K mg base ["_law_made", "_law_at", "_law_kinds", "_law_due"] "_law_one_right" (defScope (topS 20)) f cdv A outer s H E).xe := passes_of rfl
    replace k_law_flags := k_law_flags.mono (show 1 ≤ 1 by omega)
    exact (jb_cons (js_if (jt_ne hr (je_count hr (je_call k_law_flags hr tk (ja_cons (je_var (i := 0)) ja_nil)) (ja_cons je_bl ja_nil)) je_int) (jb_one (js_ret je_bl)) jb_nil) (jb_cons (js_set (i := 2) nd (je_lst (ja_cons (je_isX x_tab z_isinstance (ja_cons (je_var (i := 0)) (ja_cons (je_bty z_ValueError) ja_nil))) (ja_cons (je_isX x_tab z_isinstance (ja_cons (je_var (i := 0)) (ja_cons (je_bty z_LookupError) ja_nil))) (ja_cons (je_isX x_tab z_isinstance (ja_cons (je_var (i := 0)) (ja_cons (je_bty z_RuntimeError) ja_nil))) ja_nil))))) (jb_cons (js_expr (je_append (je_var (i := 2)) (ja_cons (je_isX x_tab z_isinstance (ja_cons (je_var (i := 0)) (ja_cons (je_bty z_OverflowError) ja_nil))) ja_nil))) (jb_cons (js_set (i := 3) nd (je_times (je_lst (ja_cons je_bl ja_nil)) je_int)) (jb_cons (js_setIx je_bl (je_var (i := 3)) (je_var (i := 1))) (jb_one (js_ret (je_and (je_eq hr (je_var (i := 2)) (je_var (i := 3))) (je_one (je_not (je_isX x_tab z_isinstance (ja_cons (je_var (i := 0)) (ja_cons (je_tup (ja_cons (je_bty z_IndexError) (ja_cons (je_bty z_KeyError) (ja_cons (je_bty z_NotImplementedError) ja_nil)))) ja_nil))))))))))))))
theorem sc_law_same : FnScope ["_law_found", "_law_due", "_law_a", "_law_b"] ["_law_found", "_law_due"] (defScope (topS 18)) := ⟨rfl, rfl, rfl, by decide +kernel, rfl, by decide +kernel, by decide +kernel⟩
theorem ok_law_same {f : Addr} {fd : FuncData} (F : Fun K "_law_same" "_law_same" (topS 18) f fd) (gl : mg "_law_same" = some (.ref f)) (bi : Binds K fd ["_law_found", "_law_due"] [])   (z_bool : mg (Str.ofString "bool") = none) (z_isinstance : mg (Str.ofString "isinstance") = none) (z_int : mg (Str.ofString "int") = none) (z_str : mg (Str.ofString "str") = none) (z_tuple : mg (Str.ofString "tuple") = none) (z_list : mg (Str.ofString "list") = none) (z_zip : mg (Str.ofString "zip") = none) (z_all : mg (Str.ofString "all") = none) (z_len : mg (Str.ofString "len") = none)   : ∀ n : Nat, DfA P w K mg base "_law_same" (0 + n + 1) ["_law_found", "_law_due"] (m_law_same_2 n) f fd
  | 0 => dfa_ok (k := 0) F sc_law_same gl bi (fun cdv A outer s H E hr => jb_never)
  | n + 1 => dfa_ok (k := 0 + n + 1) F sc_law_same gl bi (fun cdv A outer s H E hr => by
    have hc : (cxOf (L2.CX P w) P w K mg base ["_law_found", "_law_due", "_law_a", "_law_b"] "_law_same" (defScope (topS 18)) f cdv A outer s H E).calm = true := rfl
    have nd := sc_law_same.nd
    have tk : Takes (cxOf (L2.CX P w) P w K mg base ["_law_found", "_law_due", "_law_a", "_law_b"] "_law_same" (defScope (topS 18)) f cdv A outer s H E) (fun cls d _ H => E cls d H) := takes_of rfl rfl rfl rfl
    have hp : PassesOwn (model P w) (cxOf (L2.CX P w) P w K mg base ["_law_found", "_law_due", "_law_a", "_law_b"] "_law_same" (defScope (topS 18)) f cdv A outer s H E).A (cxOf (L2.CX P w) P w K mg base ["_law_found", "_law_due", "_law_a", "_law_b"] "_law_same" (defScope (topS 18)) f cdv A outer s H E).env (cxOf (L2.CX P w) P w K mg base ["_law_found", "_law_due", "_law_a", "_law_b"] "_law_same" (defScope (topS 18)) f cdv A outer s H E).xe := passes_of rfl
    have drec := DfA.df <| ok_law_same F gl bi  z_bool z_isinstance z_int z_str z_tuple z_list z_zip z_all z_len n
    exact (jb_cons (js_if (jt_val (je_isi z_isinstance (ja_cons (je_var (i := 1)) (ja_cons (je_tup (ja_cons (je_bty z_list) (ja_cons (je_bty z_tuple) ja_nil))) ja_nil)))) (jb_cons (js_if (jt_w (jw_or (jt_ne hr (je_isi z_isinstance (ja_cons (je_var (i := 0)) (ja_cons (je_bty z_list) ja_nil))) (je_isi z_isinstance (ja_cons (je_var (i := 1)) (ja_cons (je_bty z_list) ja_nil)))) (jw_one (jt_ne hr (je_isi z_isinstance (ja_cons (je_var (i := 0)) (ja_cons (je_bty z_tuple) ja_nil))) (je_isi z_isinstance (ja_cons (je_var (i := 1)) (ja_cons (je_bty z_tuple) ja_nil))))))) (jb_one (js_ret je_bl)) jb_nil) (jb_one (js_ret (je_and (je_eq hr (je_len z_len (ja_cons (je_var (i := 0)) ja_nil)) (je_len z_len (ja_cons (je_var (i := 1)) ja_nil))) (je_one (je_all hc z_all (ja_cons (je_comp (own := [(Str.ofString "_law_a", 2), (Str.ofString "_law_b", 3)]) hc nd (ji_zip2B z_zip (ja_cons (je_var (i := 0)) (ja_cons (je_var (i := 1)) ja_nil))) (blk_of rfl) (slots_tp (slotsL_cons (slots_nm (by decide)) (slotsL_cons (slots_nm (by decide)) slotsL_nil))) (fun _ _ _ _ _ => (jg_tup hc (jgs_cons (jg_name (i := 2) nd) (jgs_cons (jg_name (i := 3) nd) jgs_nil)))) (fun _ _ _ _ _ => jts_nil) (fun _ _ _ _ _ => (je_call drec hr takesN (ja_cons (je_var (i := 2)) (ja_cons (je_var (i := 3)) ja_nil))))) ja_nil))))))) jb_nil) (jb_cons (js_if (jt_w (jw_or (jt_is (je_var (i := 1)) je_non) (jw_one (jt_val (je_isi z_isinstance (ja_cons (je_var (i := 1)) (ja_cons (je_tup (ja_cons (je_bty z_bool) (ja_cons (je_bty z_str) ja_nil))) ja_nil))))))) (jb_one (js_ret (je_and (je_eq hr (je_var (i := 0)) (je_var (i := 1))) (je_and (je_eq hr (je_isi z_isinstance (ja_cons (je_var (i := 0)) (ja_cons (je_bty z_bool) ja_nil))) (je_isi z_isinstance (ja_cons (je_var (i := 1)) (ja_cons (je_bty z_bool) ja_nil)))) (je_one (je_eq hr (je_is (je_var (i := 0)) je_non) (je_is (je_var (i := 1)) je_non))))))) jb_nil) (jb_one (js_ret (je_and (je_isi z_isinstance (ja_cons (je_var (i := 0)) (ja_cons (je_bty z_int) ja_nil))) (je_and (je_not (je_isi z_isinstance (ja_cons (je_var (i := 0)) (ja_cons (je_bty z_bool) ja_nil)))) (je_one (je_eq hr (je_var (i := 0)) (je_var (i := 1)))))))))))
theorem sc_law_right : FnScope ["_law_box_here", "_law_spot", "_law_far", "_law_values", "_law_made", "_law_named", "_law_some", "_law_fields", "_law_kinds", "_law_its", "_law_at"] ["_law_box_here"] (defScope (topS 21)) := ⟨rfl, rfl, rfl, by decide +kernel, rfl, by decide +kernel, by decide +kernel⟩
theorem ok_law_right {f : Addr} {fd : FuncData} (F : Fun K "_law_right" "_law_right" (topS 21) f fd) (gl : mg "_law_right" = some (.ref f)) (bi : Binds K fd ["_law_box_here"] []) (k_law_one_right : Df P w K mg base "_law_one_right" 2 ["_law_made", "_law_at"] m_law_one_right) (k_law_same : Df P w K mg base "_law_same" 9 ["_law_found", "_law_due"] (m_law_same_2 8)) (k_law_take : Df P w K mg base "_law_take" 9 ["_law_box_here", "_law_below"] (m_law_take 8))  (z_zip : mg (Str.ofString "zip") = none) (z_all : mg (Str.ofString "all") = none) (k_MOST : ∃ t, mg "MOST" = some (.int 300 t))  (xm_Barred : MkG P w K mg base "Barred" 1 ["reason"] okX) (xm_NoRow : MkG P w K mg base "NoRow" 1 [] okX) (xm_Full : MkG P w K mg base "Full" 1 ["many"] okX) (xm_TooMany : MkG P w K mg base "TooMany" 1 ["many"] okX) (xm_Same : MkG P w K mg base "Same" 1 ["colour"] okX) (xm_Unlike : MkG P w K mg base "Unlike" 1 ["place"] okX) (xm_NoOperation : MkG P w K mg base "NoOperation" 1 ["many"] okX) (xm_NoNumber : MkG P w K mg base "NoNumber" 1 ["number"] okX) (xm_NoColour : MkG P w K mg base "NoColour" 1 ["colour"] okX) (xm_NoPlace : MkG P w K mg base "NoPlace" 1 ["place"] okX) (xm_BadLine : MkG P w K mg base "BadLine" 1 ["number"] okX) (xm_BadText : MkG P w K mg base "BadText" 1 ["text"] okTxt) (x_tab : XTab K mg xtab) : DfA P w K mg base "_law_right" 10 ["_law_box_here"] m_law_right f fd := dfa_ok (k := 9) F sc_law_right gl bi (fun cdv A outer s H E hr => by
    have hc : (cxOf (L2.CX P w) P w K mg base ["_law_box_here", "_law_spot", "_law_far", "_law_values", "_law_made", "_law_named", "_law_some", "_law_fields", "_law_kinds", "_law_its", "_law_at"] "_law_right" (defScope (topS 21)) f cdv A outer s H E).calm = true := rfl
    have nd := sc_law_right.nd
    have tk : Takes (cxOf (L2.CX P w) P w K mg base ["_law_box_here", "_law_spot", "_law_far", "_law_values", "_law_made", "_law_named", "_law_some", "_law_fields", "_law_kinds", "_law_its", "_law_at"] "_law_right" (defScope (topS 21)) f cdv A outer s H E) (fun cls d _ H => E cls d H) := takes_of rfl rfl rfl rfl
    have hp : PassesOwn (model P w) (cxOf (L2.CX P w) P w K mg base ["_law_box_here", "_law_spot", "_law_far", "_law_values", "_law_made", "_law_named", "_law_some", "_law_fields", "_law_kinds", "_law_its", "_law_at"] "_law_right" (defScope (topS 21)) f cdv A outer s H E).A (cxOf (L2.CX P w) P w K mg base ["_law_box_here", "_law_spot", "_law_far", "_law_values", "_law_made", "_law_named", "_law_some", "_law_fields", "_law_kinds", "_law_its", "_law_at"] "_law_right" (defScope (topS 21)) f cdv A outer s H E).env (cxOf (L2.CX P w) P w K mg base ["_law_box_here", "_law_spot", "_law_far", "_law_values", "_law_made", "_law_named", "_law_some", "_law_fields", "_law_kinds", "_law_its", "_law_at"] "_law_right" (defScope (topS 21)) f cdv A outer s H E).xe := passes_of rfl
    replace k_law_one_right := k_law_one_right.mono (show 2 ≤ 9 by omega)
    replace k_law_same := k_law_same.mono (show 9 ≤ 9 by omega)
    replace k_law_take := k_law_take.mono (show 9 ≤ 9 by omega)
    replace xm_Barred := xm_Barred.mono (show 1 ≤ 8 by omega)
    replace xm_NoRow := xm_NoRow.mono (show 1 ≤ 8 by omega)
    replace xm_Full := xm_Full.mono (show 1 ≤ 8 by omega)
    replace xm_TooMany := xm_TooMany.mono (show 1 ≤ 8 by omega)
    replace xm_Same := xm_Same.mono (show 1 ≤ 8 by omega)
    replace xm_Unlike := xm_Unlike.mono (show 1 ≤ 8 by omega)
    replace xm_NoOperation := xm_NoOperation.mono (show 1 ≤ 8 by omega)
    replace xm_NoNumber := xm_NoNumber.mono (show 1 ≤ 8 by omega)
    replace xm_NoColour := xm_NoColour.mono (show 1 ≤ 8 by omega)
    replace xm_NoPlace := xm_NoPlace.mono (show 1 ≤ 8 by omega)
    replace xm_BadLine := xm_BadLine.mono (show 1 ≤ 8 by omega)
    replace xm_BadText := xm_BadText.mono (show 1 ≤ 8 by omega)
    obtain ⟨_, k_MOST⟩ := k_MOST
    exact (jb_cons (js_par2 (i := 1) (j := 2) hc nd (ja_cons (je_call k_law_take hr tk (ja_cons (je_var (i := 0)) (ja_cons je_int ja_nil))) (ja_cons (je_call k_law_take hr tk (ja_cons (je_var (i := 0)) (ja_cons (je_pow je_int je_int) ja_nil))) ja_nil))) (jb_cons (js_set (i := 3) nd (je_lst (ja_cons je_str (ja_cons (je_var (i := 1)) (ja_cons (je_tup (ja_cons (je_tup (ja_cons je_int (ja_cons (je_var (i := 1)) ja_nil))) (ja_cons (je_tup (ja_cons (je_add (je_var (i := 1)) je_int) ja_nil)) ja_nil))) (ja_cons (je_sub (je_var (i := 2)) je_int) (ja_cons (je_add (je_var (i := 2)) je_int) (ja_cons (je_var (i := 2)) (ja_cons (je_add je_int (je_var (i := 1))) (ja_cons (je_var (i := 1)) (ja_cons (je_mod (je_var (i := 1)) je_int) ja_nil))))))))))) (jb_cons (js_set (i := 3) nd (je_add (je_var (i := 3)) (je_lst (ja_cons (je_add je_int (je_var (i := 2))) (ja_cons (je_add je_int (je_mod (je_var (i := 1)) je_int)) ja_nil))))) (jb_cons (js_set (i := 4) nd (je_lst (ja_cons (je_mk xm_BadText hr (ja_cons (je_ix (je_var (i := 3)) je_int) ja_nil)) (ja_cons (je_mk xm_BadLine hr (ja_cons (je_ix (je_var (i := 3)) je_int) ja_nil)) (ja_cons (je_mk xm_Barred hr (ja_cons (je_ix (je_var (i := 3)) je_int) ja_nil)) (ja_cons (je_mk xm_NoPlace hr (ja_cons (je_ix (je_var (i := 3)) je_int) ja_nil)) (ja_cons (je_mk xm_NoColour hr (ja_cons (je_ix (je_var (i := 3)) je_int) ja_nil)) ja_nil))))))) (jb_cons (js_set (i := 4) nd (je_add (je_var (i := 4)) (je_lst (ja_cons (je_mk xm_NoNumber hr (ja_cons (je_ix (je_var (i := 3)) je_int) ja_nil)) (ja_cons (je_mk xm_NoOperation hr (ja_cons (je_ix (je_var (i := 3)) je_int) ja_nil)) (ja_cons (je_mk xm_Unlike hr (ja_cons (je_ix (je_var (i := 3)) je_int) ja_nil)) (ja_cons (je_mk xm_Same hr (ja_cons (je_ix (je_var (i := 3)) je_int) ja_nil)) ja_nil))))))) (jb_cons (js_set (i := 4) nd (je_add (je_var (i := 4)) (je_lst (ja_cons (je_mk xm_TooMany hr (ja_cons (je_ix (je_var (i := 3)) je_int) ja_nil)) (ja_cons (je_mk xm_Full hr (ja_cons (je_ix (je_var (i := 3)) je_int) ja_nil)) ja_nil))))) (jb_cons (js_set (i := 5) nd (je_lst (ja_cons (je_mkK xm_BadText hr (jk_cons (je_ix (je_var (i := 3)) je_int) jk_nil)) (ja_cons (je_mkK xm_BadLine hr (jk_cons (je_ix (je_var (i := 3)) je_int) jk_nil)) (ja_cons (je_mkK xm_Barred hr (jk_cons (je_ix (je_var (i := 3)) je_int) jk_nil)) ja_nil))))) (jb_cons (js_set (i := 5) nd (je_add (je_var (i := 5)) (je_lst (ja_cons (je_mkK xm_NoPlace hr (jk_cons (je_ix (je_var (i := 3)) je_int) jk_nil)) (ja_cons (je_mkK xm_NoColour hr (jk_cons (je_ix (je_var (i := 3)) je_int) jk_nil)) (ja_cons (je_mkK xm_NoNumber hr (jk_cons (je_ix (je_var (i := 3)) je_int) jk_nil)) ja_nil)))))) (jb_cons (js_set (i := 5) nd (je_add (je_var (i := 5)) (je_lst (ja_cons (je_mkK xm_NoOperation hr (jk_cons (je_ix (je_var (i := 3)) je_int) jk_nil)) (ja_cons (je_mkK xm_Unlike hr (jk_cons (je_ix (je_var (i := 3)) je_int) jk_nil)) (ja_cons (je_mkK xm_Same hr (jk_cons (je_ix (je_var (i := 3)) je_int) jk_nil)) ja_nil)))))) (jb_cons (js_set (i := 5) nd (je_add (je_var (i := 5)) (je_lst (ja_cons (je_mkK xm_TooMany hr (jk_cons (je_ix (je_var (i := 3)) je_int) jk_nil)) (ja_cons (je_mkK xm_Full hr (jk_cons (je_ix (je_var (i := 3)) je_int) jk_nil)) ja_nil))))) (jb_cons (js_for hp hc (ji_val (je_tup (ja_cons (je_var (i := 4)) (ja_cons (je_var (i := 5)) ja_nil)))) (jg_name (i := 6) nd) (jb_cons (js_set (i := 7) nd (je_lst (ja_cons (je_xf x_tab (je_ix (je_var (i := 6)) je_int)) (ja_cons (je_xf x_tab (je_ix (je_var (i := 6)) je_int)) (ja_cons (je_xf x_tab (je_ix (je_var (i := 6)) je_int)) (ja_cons (je_xf x_tab (je_ix (je_var (i := 6)) je_int)) (ja_cons (je_xf x_tab (je_ix (je_var (i := 6)) je_int)) (ja_cons (je_xf x_tab (je_ix (je_var (i := 6)) je_int)) ja_nil)))))))) (jb_cons (js_set (i := 7) nd (je_add (je_var (i := 7)) (je_lst (ja_cons (je_xf x_tab (je_ix (je_var (i := 6)) je_int)) (ja_cons (je_xf x_tab (je_ix (je_var (i := 6)) je_int)) (ja_cons (je_xf x_tab (je_ix (je_var (i := 6)) je_int)) (ja_cons (je_xf x_tab (je_ix (je_var (i := 6)) je_int)) (ja_cons (je_xf x_tab (je_ix (je_var (i := 6)) je_int)) ja_nil)))))))) (jb_cons (js_if (jt_not (jt_val (je_call k_law_same hr tk (ja_cons (je_var (i := 7)) (ja_cons (je_var (i := 3)) ja_nil))))) (jb_one (js_ret je_bl)) jb_nil) (jb_cons (js_set (i := 8) nd (je_add (je_add (je_add (je_times (je_lst (ja_cons je_int ja_nil)) je_int) (je_times (je_lst (ja_cons je_int ja_nil)) je_int)) (je_times (je_lst (ja_cons je_int ja_nil)) je_int)) (je_times (je_lst (ja_cons je_int ja_nil)) je_int))) (jb_one (js_if (jt_not (jt_val (je_all hc z_all (ja_cons (je_comp (own := [(Str.ofString "_law_its", 9), (Str.ofString "_law_at", 10)]) hc nd (ji_zip2B z_zip (ja_cons (je_var (i := 6)) (ja_cons (je_var (i := 8)) ja_nil))) (blk_of rfl) (slots_tp (slotsL_cons (slots_nm (by decide)) (slotsL_cons (slots_nm (by decide)) slotsL_nil))) (fun _ _ _ _ _ => (jg_tup hc (jgs_cons (jg_name (i := 9) nd) (jgs_cons (jg_name (i := 10) nd) jgs_nil)))) (fun _ _ _ _ _ => jts_nil) (fun _ _ _ _ _ => (je_call k_law_one_right hr takesN (ja_cons (je_var (i := 9)) (ja_cons (je_var (i := 10)) ja_nil))))) ja_nil)))) (jb_one (js_ret je_bl)) jb_nil))))))) (jb_one (js_ret (je_and (je_call k_law_one_right hr tk (ja_cons (je_mk0 xm_NoRow hr) (ja_cons je_int ja_nil))) (je_and (je_eq hr (je_xf x_tab (je_mk xm_Barred hr (ja_cons je_str ja_nil))) je_str) (je_one (je_eq hr (je_gint k_MOST) je_int))))))))))))))))))
theorem sc_law : FnScope ["_law_script", "_law_k", "_law_box_here", "_law_turn"] ["_law_script"] (defScope (topS 22)) := ⟨rfl, rfl, rfl, by decide +kernel, rfl, by decide +kernel, by decide +kernel⟩
theorem ok_law {f : Addr} {fd : FuncData} (F : Fun K "law" "law" (topS 22) f fd) (gl : mg "law" = some (.ref f)) (bi : Binds K fd ["_law_script"] []) (k_law_right : Df P w K mg base "_law_right" 10 ["_law_box_here"] m_law_right) (k_law_box : Df P w K mg base "_law_box" 2 ["_law_script", "_law_k"] m_law_box)  (z_len : mg (Str.ofString "len") = none) (z_min : mg (Str.ofString "min") = none) (z_range : mg (Str.ofString "range") = none) (z_all : mg (Str.ofString "all") = none)   : FnOk P w K mg base (L2.CX P w) 11 f fd ["_law_script"] (spF K mg 1 m_law) := def_ok (k := 10) F sc_law rfl rfl (fun cdv A outer s H E hr => by
    have hc : (cxOf (L2.CX P w) P w K mg base ["_law_script", "_law_k", "_law_box_here", "_law_turn"] "law" (defScope (topS 22)) f cdv A outer s H E).calm = true := rfl
    have nd := sc_law.nd
    have tk : Takes (cxOf (L2.CX P w) P w K mg base ["_law_script", "_law_k", "_law_box_here", "_law_turn"] "law" (defScope (topS 22)) f cdv A outer s H E) (fun cls d _ H => E cls d H) := takes_of rfl rfl rfl rfl
    have hp : PassesOwn (model P w) (cxOf (L2.CX P w) P w K mg base ["_law_script", "_law_k", "_law_box_here", "_law_turn"] "law" (defScope (topS 22)) f cdv A outer s H E).A (cxOf (L2.CX P w) P w K mg base ["_law_script", "_law_k", "_law_box_here", "_law_turn"] "law" (defScope (topS 22)) f cdv A outer s H E).env (cxOf (L2.CX P w) P w K mg base ["_law_script", "_law_k", "_law_box_here", "_law_turn"] "law" (defScope (topS 22)) f cdv A outer s H E).xe := passes_of rfl
    replace k_law_right := k_law_right.mono (show 10 ≤ 10 by omega)
    replace k_law_box := k_law_box.mono (show 2 ≤ 10 by omega)
    exact (jb_cons (js_for hp hc (ji_range1 z_range (ja_cons (je_add je_int (je_min2 hc z_min (ja_cons je_int (ja_cons (je_len z_len (ja_cons (je_var (i := 0)) ja_nil)) ja_nil)))) ja_nil)) (jg_name (i := 1) nd) (jb_cons (js_set (i := 2) nd (je_call k_law_box hr tk (ja_cons (je_var (i := 0)) (ja_cons (je_var (i := 1)) ja_nil)))) (jb_one (js_if (jt_not (jt_val (je_all hc z_all (ja_cons (je_comp (own := [(Str.ofString "_law_turn", 3)]) hc nd (ji_range1 z_range (ja_cons je_int ja_nil)) (blk_of rfl) (slots_nm (by decide)) (fun _ _ _ _ _ => (jg_name (i := 3) nd)) (fun _ _ _ _ _ => jts_nil) (fun _ _ _ _ _ => (je_call k_law_right hr takesN (ja_cons (je_var (i := 2)) ja_nil)))) ja_nil)))) (jb_one (js_ret je_bl)) jb_nil)))) (jb_one (js_ret je_bl))))
end
theorem all_mk {P : Program} {w : World} {K : PySem.W.Frag} {h : Heap} {mg : Str → Option Value} {fa : Addr} (X : K.In h) (G : h.Ns mainGlobals mg) (hfa : mg "law" = some (.ref fa))
    (hlaw : ∀ ns : List Int, ns.length ≤ 63 → ∃ h', m_law [.rol (ns.map .int)] [] = .ok (.bl true) h')
    {od_law_cell_at an_law_cell_at : Option Addr} {sl_law_cell_at : Array (Option Value)} {oc_law_cell_at kV_law_cell_at dc_law_cell_at pm_law_cell_at cd_law_cell_at ct_law_cell_at : Value} {f_law_cell_at : Addr}
    {od_law_box an_law_box : Option Addr} {sl_law_box : Array (Option Value)} {oc_law_box kV_law_box dc_law_box pm_law_box cd_law_box ct_law_box : Value} {f_law_box : Addr}
    {od_law_take an_law_take : Option Addr} {sl_law_take : Array (Option Value)} {oc_law_take kV_law_take dc_law_take pm_law_take cd_law_take ct_law_take : Value} {f_law_take : Addr}
    {od_law_flags an_law_flags : Option Addr} {sl_law_flags : Array (Option Value)} {oc_law_flags kV_law_flags dc_law_flags pm_law_flags cd_law_flags ct_law_flags : Value} {f_law_flags : Addr}
    {od_law_one_right an_law_one_right : Option Addr} {sl_law_one_right : Array (Option Value)} {oc_law_one_right kV_law_one_right dc_law_one_right pm_law_one_right cd_law_one_right ct_law_one_right : Value} {f_law_one_right : Addr}
    {od_law_same an_law_same : Option Addr} {sl_law_same : Array (Option Value)} {oc_law_same kV_law_same dc_law_same pm_law_same cd_law_same ct_law_same : Value} {f_law_same : Addr}
    {od_law_right an_law_right : Option Addr} {sl_law_right : Array (Option Value)} {oc_law_right kV_law_right dc_law_right pm_law_right cd_law_right ct_law_right : Value} {f_law_right : Addr}
    {od_law an_law : Option Addr} {sl_law : Array (Option Value)} {oc_law kV_law dc_law pm_law cd_law ct_law : Value} {f_law : Addr}
    {odi_BadText ani_BadText : Option Addr} {sli_BadText : Array (Option Value)} {oci_BadText kVi_BadText dci_BadText pmi_BadText cdi_BadText cti_BadText : Value} {fi_BadText c_BadText : Addr}
    {odi_BadLine ani_BadLine : Option Addr} {sli_BadLine : Array (Option Value)} {oci_BadLine kVi_BadLine dci_BadLine pmi_BadLine cdi_BadLine cti_BadLine : Value} {fi_BadLine c_BadLine : Addr}
    {odi_Barred ani_Barred : Option Addr} {sli_Barred : Array (Option Value)} {oci_Barred kVi_Barred dci_Barred pmi_Barred cdi_Barred cti_Barred : Value} {fi_Barred c_Barred : Addr}
    {odi_NoPlace ani_NoPlace : Option Addr} {sli_NoPlace : Array (Option Value)} {oci_NoPlace kVi_NoPlace dci_NoPlace pmi_NoPlace cdi_NoPlace cti_NoPlace : Value} {fi_NoPlace c_NoPlace : Addr}
    {odi_NoColour ani_NoColour : Option Addr} {sli_NoColour : Array (Option Value)} {oci_NoColour kVi_NoColour dci_NoColour pmi_NoColour cdi_NoColour cti_NoColour : Value} {fi_NoColour c_NoColour : Addr}
    {odi_NoNumber ani_NoNumber : Option Addr} {sli_NoNumber : Array (Option Value)} {oci_NoNumber kVi_NoNumber dci_NoNumber pmi_NoNumber cdi_NoNumber cti_NoNumber : Value} {fi_NoNumber c_NoNumber : Addr}
    {odi_NoRow ani_NoRow : Option Addr} {sli_NoRow : Array (Option Value)} {oci_NoRow kVi_NoRow dci_NoRow pmi_NoRow cdi_NoRow cti_NoRow : Value} {fi_NoRow c_NoRow : Addr}
    {odi_NoOperation ani_NoOperation : Option Addr} {sli_NoOperation : Array (Option Value)} {oci_NoOperation kVi_NoOperation dci_NoOperation pmi_NoOperation cdi_NoOperation cti_NoOperation : Value} {fi_NoOperation c_NoOperation : Addr}
    {odi_Unlike ani_Unlike : Option Addr} {sli_Unlike : Array (Option Value)} {oci_Unlike kVi_Unlike dci_Unlike pmi_Unlike cdi_Unlike cti_Unlike : Value} {fi_Unlike c_Unlike : Addr}
    {odi_Same ani_Same : Option Addr} {sli_Same : Array (Option Value)} {oci_Same kVi_Same dci_Same pmi_Same cdi_Same cti_Same : Value} {fi_Same c_Same : Addr}
    {odi_TooMany ani_TooMany : Option Addr} {sli_TooMany : Array (Option Value)} {oci_TooMany kVi_TooMany dci_TooMany pmi_TooMany cdi_TooMany cti_TooMany : Value} {fi_TooMany c_TooMany : Addr}
    {odi_Full ani_Full : Option Addr} {sli_Full : Array (Option Value)} {oci_Full kVi_Full dci_Full pmi_Full cdi_Full cti_Full : Value} {fi_Full c_Full : Addr}
    {t_MOST : Tok}
    (a_law_cell_at : PySem.W.nsIn K mainGlobals "_law_cell_at" = some (some (.ref f_law_cell_at))) (l_law_cell_at : K.lookup f_law_cell_at = some ⟨oc_law_cell_at, od_law_cell_at, .func (PySem.W.fnOf "_law_cell_at" "_law_cell_at" (defArgs (topS 15)) (defBody (topS 15)) (defScope (topS 15)) .none kV_law_cell_at dc_law_cell_at pm_law_cell_at an_law_cell_at cd_law_cell_at ct_law_cell_at), sl_law_cell_at⟩) (c_law_cell_at : PySem.W.codeIn K cd_law_cell_at "_law_cell_at" = true) (h_law_cell_at : PySem.W.keepIn K (.ref f_law_cell_at) = true)
    (a_law_box : PySem.W.nsIn K mainGlobals "_law_box" = some (some (.ref f_law_box))) (l_law_box : K.lookup f_law_box = some ⟨oc_law_box, od_law_box, .func (PySem.W.fnOf "_law_box" "_law_box" (defArgs (topS 16)) (defBody (topS 16)) (defScope (topS 16)) .none kV_law_box dc_law_box pm_law_box an_law_box cd_law_box ct_law_box), sl_law_box⟩) (c_law_box : PySem.W.codeIn K cd_law_box "_law_box" = true) (h_law_box : PySem.W.keepIn K (.ref f_law_box) = true)
    (a_law_take : PySem.W.nsIn K mainGlobals "_law_take" = some (some (.ref f_law_take))) (l_law_take : K.lookup f_law_take = some ⟨oc_law_take, od_law_take, .func (PySem.W.fnOf "_law_take" "_law_take" (defArgs (topS 17)) (defBody (topS 17)) (defScope (topS 17)) .none kV_law_take dc_law_take pm_law_take an_law_take cd_law_take ct_law_take), sl_law_take⟩) (c_law_take : PySem.W.codeIn K cd_law_take "_law_take" = true) (h_law_take : PySem.W.keepIn K (.ref f_law_take) = true)
    (a_law_flags : PySem.W.nsIn K mainGlobals "_law_flags" = some (some (.ref f_law_flags))) (l_law_flags : K.lookup f_law_flags = some ⟨oc_law_flags, od_law_flags, .func (PySem.W.fnOf "_law_flags" "_law_flags" (defArgs (topS 19)) (defBody (topS 19)) (defScope (topS 19)) .none kV_law_flags dc_law_flags pm_law_flags an_law_flags cd_law_flags ct_law_flags), sl_law_flags⟩) (c_law_flags : PySem.W.codeIn K cd_law_flags "_law_flags" = true) (h_law_flags : PySem.W.keepIn K (.ref f_law_flags) = true)
    (a_law_one_right : PySem.W.nsIn K mainGlobals "_law_one_right" = some (some (.ref f_law_one_right))) (l_law_one_right : K.lookup f_law_one_right = some ⟨oc_law_one_right, od_law_one_right, .func (PySem.W.fnOf "_law_one_right" "_law_one_right" (defArgs (topS 20)) (defBody (topS 20)) (defScope (topS 20)) .none kV_law_one_right dc_law_one_right pm_law_one_right an_law_one_right cd_law_one_right ct_law_one_right), sl_law_one_right⟩) (c_law_one_right : PySem.W.codeIn K cd_law_one_right "_law_one_right" = true) (h_law_one_right : PySem.W.keepIn K (.ref f_law_one_right) = true)
    (a_law_same : PySem.W.nsIn K mainGlobals "_law_same" = some (some (.ref f_law_same))) (l_law_same : K.lookup f_law_same = some ⟨oc_law_same, od_law_same, .func (PySem.W.fnOf "_law_same" "_law_same" (defArgs (topS 18)) (defBody (topS 18)) (defScope (topS 18)) .none kV_law_same dc_law_same pm_law_same an_law_same cd_law_same ct_law_same), sl_law_same⟩) (c_law_same : PySem.W.codeIn K cd_law_same "_law_same" = true) (h_law_same : PySem.W.keepIn K (.ref f_law_same) = true)
    (a_law_right : PySem.W.nsIn K mainGlobals "_law_right" = some (some (.ref f_law_right))) (l_law_right : K.lookup f_law_right = some ⟨oc_law_right, od_law_right, .func (PySem.W.fnOf "_law_right" "_law_right" (defArgs (topS 21)) (defBody (topS 21)) (defScope (topS 21)) .none kV_law_right dc_law_right pm_law_right an_law_right cd_law_right ct_law_right), sl_law_right⟩) (c_law_right : PySem.W.codeIn K cd_law_right "_law_right" = true) (h_law_right : PySem.W.keepIn K (.ref f_law_right) = true)
    (a_law : PySem.W.nsIn K mainGlobals "law" = some (some (.ref f_law))) (l_law : K.lookup f_law = some ⟨oc_law, od_law, .func (PySem.W.fnOf "law" "law" (defArgs (topS 22)) (defBody (topS 22)) (defScope (topS 22)) .none kV_law dc_law pm_law an_law cd_law ct_law), sl_law⟩) (c_law : PySem.W.codeIn K cd_law "law" = true) (h_law : PySem.W.keepIn K (.ref f_law) = true)
    (ax_BadText : PySem.W.nsIn K mainGlobals "BadText" = some (some (.ref c_BadText))) (xx_BadText : xcB K "ValueError.__new__" (baseMro "ValueError") c_BadText = true) (ix_BadText : PySem.W.findIn K (.ref c_BadText) "__init__" = some (some (.ref fi_BadText))) (tx_BadText : PySem.W.typeIn K (.ref fi_BadText) = some (.type "function")) (lx_BadText : K.lookup fi_BadText = some ⟨oci_BadText, odi_BadText, .func (PySem.W.fnOf "__init__" "BadText.__init__" (defArgs (initS 1)) (defBody (initS 1)) (defScope (initS 1)) .none kVi_BadText dci_BadText pmi_BadText ani_BadText cdi_BadText cti_BadText), sli_BadText⟩) (cx_BadText : PySem.W.codeIn K cdi_BadText "BadText.__init__" = true) (hx_BadText : PySem.W.keepIn K (.ref fi_BadText) = true)
    (nx_BadText : PySem.W.findIn K (.ref c_BadText) "text" = some none)
    (ax_BadLine : PySem.W.nsIn K mainGlobals "BadLine" = some (some (.ref c_BadLine))) (xx_BadLine : xcB K "ValueError.__new__" (baseMro "ValueError") c_BadLine = true) (ix_BadLine : PySem.W.findIn K (.ref c_BadLine) "__init__" = some (some (.ref fi_BadLine))) (tx_BadLine : PySem.W.typeIn K (.ref fi_BadLine) = some (.type "function")) (lx_BadLine : K.lookup fi_BadLine = some ⟨oci_BadLine, odi_BadLine, .func (PySem.W.fnOf "__init__" "BadLine.__init__" (defArgs (initS 2)) (defBody (initS 2)) (defScope (initS 2)) .none kVi_BadLine dci_BadLine pmi_BadLine ani_BadLine cdi_BadLine cti_BadLine), sli_BadLine⟩) (cx_BadLine : PySem.W.codeIn K cdi_BadLine "BadLine.__init__" = true) (hx_BadLine : PySem.W.keepIn K (.ref fi_BadLine) = true)
    (nx_BadLine : PySem.W.findIn K (.ref c_BadLine) "number" = some none)
    (ax_Barred : PySem.W.nsIn K mainGlobals "Barred" = some (some (.ref c_Barred))) (xx_Barred : xcB K "ValueError.__new__" (baseMro "ValueError") c_Barred = true) (ix_Barred : PySem.W.findIn K (.ref c_Barred) "__init__" = some (some (.ref fi_Barred))) (tx_Barred : PySem.W.typeIn K (.ref fi_Barred) = some (.type "function")) (lx_Barred : K.lookup fi_Barred = some ⟨oci_Barred, odi_Barred, .func (PySem.W.fnOf "__init__" "Barred.__init__" (defArgs (initS 3)) (defBody (initS 3)) (defScope (initS 3)) .none kVi_Barred dci_Barred pmi_Barred ani_Barred cdi_Barred cti_Barred), sli_Barred⟩) (cx_Barred : PySem.W.codeIn K cdi_Barred "Barred.__init__" = true) (hx_Barred : PySem.W.keepIn K (.ref fi_Barred) = true)
    (nx_Barred : PySem.W.findIn K (.ref c_Barred) "reason" = some none)
    (ax_NoPlace : PySem.W.nsIn K mainGlobals "NoPlace" = some (some (.ref c_NoPlace))) (xx_NoPlace : xcB K "LookupError.__new__" (baseMro "LookupError") c_NoPlace = true) (ix_NoPlace : PySem.W.findIn K (.ref c_NoPlace) "__init__" = some (some (.ref fi_NoPlace))) (tx_NoPlace : PySem.W.typeIn K (.ref fi_NoPlace) = some (.type "function")) (lx_NoPlace : K.lookup fi_NoPlace = some ⟨oci_NoPlace, odi_NoPlace, .func (PySem.W.fnOf "__init__" "NoPlace.__init__" (defArgs (initS 4)) (defBody (initS 4)) (defScope (initS 4)) .none kVi_NoPlace dci_NoPlace pmi_NoPlace ani_NoPlace cdi_NoPlace cti_NoPlace), sli_NoPlace⟩) (cx_NoPlace : PySem.W.codeIn K cdi_NoPlace "NoPlace.__init__" = true) (hx_NoPlace : PySem.W.keepIn K (.ref fi_NoPlace) = true)
    (nx_NoPlace : PySem.W.findIn K (.ref c_NoPlace) "place" = some none)
    (ax_NoColour : PySem.W.nsIn K mainGlobals "NoColour" = some (some (.ref c_NoColour))) (xx_NoColour : xcB K "LookupError.__new__" (baseMro "LookupError") c_NoColour = true) (ix_NoColour : PySem.W.findIn K (.ref c_NoColour) "__init__" = some (some (.ref fi_NoColour))) (tx_NoColour : PySem.W.typeIn K (.ref fi_NoColour) = some (.type "function")) (lx_NoColour : K.lookup fi_NoColour = some ⟨oci_NoColour, odi_NoColour, .func (PySem.W.fnOf "__init__" "NoColour.__init__" (defArgs (initS 5)) (defBody (initS 5)) (defScope (initS 5)) .none kVi_NoColour dci_NoColour pmi_NoColour ani_NoColour cdi_NoColour cti_NoColour), sli_NoColour⟩) (cx_NoColour : PySem.W.codeIn K cdi_NoColour "NoColour.__init__" = true) (hx_NoColour : PySem.W.keepIn K (.ref fi_NoColour) = true)
    (nx_NoColour : PySem.W.findIn K (.ref c_NoColour) "colour" = some none)
    (ax_NoNumber : PySem.W.nsIn K mainGlobals "NoNumber" = some (some (.ref c_NoNumber))) (xx_NoNumber : xcB K "LookupError.__new__" (baseMro "LookupError") c_NoNumber = true) (ix_NoNumber : PySem.W.findIn K (.ref c_NoNumber) "__init__" = some (some (.ref fi_NoNumber))) (tx_NoNumber : PySem.W.typeIn K (.ref fi_NoNumber) = some (.type "function")) (lx_NoNumber : K.lookup fi_NoNumber = some ⟨oci_NoNumber, odi_NoNumber, .func (PySem.W.fnOf "__init__" "NoNumber.__init__" (defArgs (initS 6)) (defBody (initS 6)) (defScope (initS 6)) .none kVi_NoNumber dci_NoNumber pmi_NoNumber ani_NoNumber cdi_NoNumber cti_NoNumber), sli_NoNumber⟩) (cx_NoNumber : PySem.W.codeIn K cdi_NoNumber "NoNumber.__init__" = true) (hx_NoNumber : PySem.W.keepIn K (.ref fi_NoNumber) = true)
    (nx_NoNumber : PySem.W.findIn K (.ref c_NoNumber) "number" = some none)
    (ax_NoRow : PySem.W.nsIn K mainGlobals "NoRow" = some (some (.ref c_NoRow))) (xx_NoRow : xcB K "LookupError.__new__" (baseMro "LookupError") c_NoRow = true) (ix_NoRow : PySem.W.findIn K (.ref c_NoRow) "__init__" = some (some (.ref fi_NoRow))) (tx_NoRow : PySem.W.typeIn K (.ref fi_NoRow) = some (.type "function")) (lx_NoRow : K.lookup fi_NoRow = some ⟨oci_NoRow, odi_NoRow, .func (PySem.W.fnOf "__init__" "NoRow.__init__" (defArgs (initS 7)) (defBody (initS 7)) (defScope (initS 7)) .none kVi_NoRow dci_NoRow pmi_NoRow ani_NoRow cdi_NoRow cti_NoRow), sli_NoRow⟩) (cx_NoRow : PySem.W.codeIn K cdi_NoRow "NoRow.__init__" = true) (hx_NoRow : PySem.W.keepIn K (.ref fi_NoRow) = true)
    (ax_NoOperation : PySem.W.nsIn K mainGlobals "NoOperation" = some (some (.ref c_NoOperation))) (xx_NoOperation : xcB K "LookupError.__new__" (baseMro "LookupError") c_NoOperation = true) (ix_NoOperation : PySem.W.findIn K (.ref c_NoOperation) "__init__" = some (some (.ref fi_NoOperation))) (tx_NoOperation : PySem.W.typeIn K (.ref fi_NoOperation) = some (.type "function")) (lx_NoOperation : K.lookup fi_NoOperation = some ⟨oci_NoOperation, odi_NoOperation, .func (PySem.W.fnOf "__init__" "NoOperation.__init__" (defArgs (initS 8)) (defBody (initS 8)) (defScope (initS 8)) .none kVi_NoOperation dci_NoOperation pmi_NoOperation ani_NoOperation cdi_NoOperation cti_NoOperation), sli_NoOperation⟩) (cx_NoOperation : PySem.W.codeIn K cdi_NoOperation "NoOperation.__init__" = true) (hx_NoOperation : PySem.W.keepIn K (.ref fi_NoOperation) = true)
    (nx_NoOperation : PySem.W.findIn K (.ref c_NoOperation) "many" = some none)
    (ax_Unlike : PySem.W.nsIn K mainGlobals "Unlike" = some (some (.ref c_Unlike))) (xx_Unlike : xcB K "RuntimeError.__new__" (baseMro "RuntimeError") c_Unlike = true) (ix_Unlike : PySem.W.findIn K (.ref c_Unlike) "__init__" = some (some (.ref fi_Unlike))) (tx_Unlike : PySem.W.typeIn K (.ref fi_Unlike) = some (.type "function")) (lx_Unlike : K.lookup fi_Unlike = some ⟨oci_Unlike, odi_Unlike, .func (PySem.W.fnOf "__init__" "Unlike.__init__" (defArgs (initS 9)) (defBody (initS 9)) (defScope (initS 9)) .none kVi_Unlike dci_Unlike pmi_Unlike ani_Unlike cdi_Unlike cti_Unlike), sli_Unlike⟩) (cx_Unlike : PySem.W.codeIn K cdi_Unlike "Unlike.__init__" = true) (hx_Unlike : PySem.W.keepIn K (.ref fi_Unlike) = true)
    (nx_Unlike : PySem.W.findIn K (.ref c_Unlike) "place" = some none)
    (ax_Same : PySem.W.nsIn K mainGlobals "Same" = some (some (.ref c_Same))) (xx_Same : xcB K "RuntimeError.__new__" (baseMro "RuntimeError") c_Same = true) (ix_Same : PySem.W.findIn K (.ref c_Same) "__init__" = some (some (.ref fi_Same))) (tx_Same : PySem.W.typeIn K (.ref fi_Same) = some (.type "function")) (lx_Same : K.lookup fi_Same = some ⟨oci_Same, odi_Same, .func (PySem.W.fnOf "__init__" "Same.__init__" (defArgs (initS 10)) (defBody (initS 10)) (defScope (initS 10)) .none kVi_Same dci_Same pmi_Same ani_Same cdi_Same cti_Same), sli_Same⟩) (cx_Same : PySem.W.codeIn K cdi_Same "Same.__init__" = true) (hx_Same : PySem.W.keepIn K (.ref fi_Same) = true)
    (nx_Same : PySem.W.findIn K (.ref c_Same) "colour" = some none)
    (ax_TooMany : PySem.W.nsIn K mainGlobals "TooMany" = some (some (.ref c_TooMany))) (xx_TooMany : xcB K "OverflowError.__new__" (baseMro "OverflowError") c_TooMany = true) (ix_TooMany : PySem.W.findIn K (.ref c_TooMany) "__init__" = some (some (.ref fi_TooMany))) (tx_TooMany : PySem.W.typeIn K (.ref fi_TooMany) = some (.type "function")) (lx_TooMany : K.lookup fi_TooMany = some ⟨oci_TooMany, odi_TooMany, .func (PySem.W.fnOf "__init__" "TooMany.__init__" (defArgs (initS 11)) (defBody (initS 11)) (defScope (initS 11)) .none kVi_TooMany dci_TooMany pmi_TooMany ani_TooMany cdi_TooMany cti_TooMany), sli_TooMany⟩) (cx_TooMany : PySem.W.codeIn K cdi_TooMany "TooMany.__init__" = true) (hx_TooMany : PySem.W.keepIn K (.ref fi_TooMany) = true)
    (nx_TooMany : PySem.W.findIn K (.ref c_TooMany) "many" = some none)
    (ax_Full : PySem.W.nsIn K mainGlobals "Full" = some (some (.ref c_Full))) (xx_Full : xcB K "OverflowError.__new__" (baseMro "OverflowError") c_Full = true) (ix_Full : PySem.W.findIn K (.ref c_Full) "__init__" = some (some (.ref fi_Full))) (tx_Full : PySem.W.typeIn K (.ref fi_Full) = some (.type "function")) (lx_Full : K.lookup fi_Full = some ⟨oci_Full, odi_Full, .func (PySem.W.fnOf "__init__" "Full.__init__" (defArgs (initS 12)) (defBody (initS 12)) (defScope (initS 12)) .none kVi_Full dci_Full pmi_Full ani_Full cdi_Full cti_Full), sli_Full⟩) (cx_Full : PySem.W.codeIn K cdi_Full "Full.__init__" = true) (hx_Full : PySem.W.keepIn K (.ref fi_Full) = true)
    (nx_Full : PySem.W.findIn K (.ref c_Full) "many" = some none)
    (ndx : [c_BadText, c_BadLine, c_Barred, c_NoPlace, c_NoColour, c_NoNumber, c_NoRow, c_NoOperation, c_Unlike, c_Same, c_TooMany, c_Full].Nodup)
    (y_len : PySem.W.nsIn K mainGlobals "len" = some none)
    (y_abs : PySem.W.nsIn K mainGlobals "abs" = some none)
    (y_int : PySem.W.nsIn K mainGlobals "int" = some none)
    (y_isinstance : PySem.W.nsIn K mainGlobals "isinstance" = some none)
    (y_NotImplementedError : PySem.W.nsIn K mainGlobals "NotImplementedError" = some none)
    (y_KeyError : PySem.W.nsIn K mainGlobals "KeyError" = some none)
    (y_IndexError : PySem.W.nsIn K mainGlobals "IndexError" = some none)
    (y_OverflowError : PySem.W.nsIn K mainGlobals "OverflowError" = some none)
    (y_RuntimeError : PySem.W.nsIn K mainGlobals "RuntimeError" = some none)
    (y_LookupError : PySem.W.nsIn K mainGlobals "LookupError" = some none)
    (y_ValueError : PySem.W.nsIn K mainGlobals "ValueError" = some none)
    (y_bool : PySem.W.nsIn K mainGlobals "bool" = some none)
    (y_str : PySem.W.nsIn K mainGlobals "str" = some none)
    (y_tuple : PySem.W.nsIn K mainGlobals "tuple" = some none)
    (y_list : PySem.W.nsIn K mainGlobals "list" = some none)
    (y_zip : PySem.W.nsIn K mainGlobals "zip" = some none)
    (y_all : PySem.W.nsIn K mainGlobals "all" = some none)
    (y_min : PySem.W.nsIn K mainGlobals "min" = some none)
    (y_range : PySem.W.nsIn K mainGlobals "range" = some none)
    (a_MOST : PySem.W.nsIn K mainGlobals "MOST" = some (some (.int 300 t_MOST))) :
    ∃ fd : FuncData, (∀ (s : Shared) (v : Value), BindsTo s fd ⟨[v], []⟩ [("_law_script", v)]) ∧ ∀ base : Heap, K.In base → base.Ns mainGlobals mg → FnOk P w K mg base (L2.CX P w) 11 fa fd ["_law_script"] (spLaw K) := by
  have e := hfa.symm.trans (PySem.W.mg_of X G a_law)
  cases e
  have F_law_cell_at := fun_mk (st := topS 15) l_law_cell_at c_law_cell_at h_law_cell_at
  have b_law_cell_at := F_law_cell_at.binds (ps := ["_law_script", "_law_k"]) fun _ _ _ _ _ _ us hl => match us, hl with | [_, _], _ => rfl
  have g_law_cell_at := PySem.W.mg_of X G a_law_cell_at
  have F_law_box := fun_mk (st := topS 16) l_law_box c_law_box h_law_box
  have b_law_box := F_law_box.binds (ps := ["_law_script", "_law_k"]) fun _ _ _ _ _ _ us hl => match us, hl with | [_, _], _ => rfl
  have g_law_box := PySem.W.mg_of X G a_law_box
  have F_law_take := fun_mk (st := topS 17) l_law_take c_law_take h_law_take
  have b_law_take := F_law_take.binds (ps := ["_law_box_here", "_law_below"]) fun _ _ _ _ _ _ us hl => match us, hl with | [_, _], _ => rfl
  have g_law_take := PySem.W.mg_of X G a_law_take
  have F_law_flags := fun_mk (st := topS 19) l_law_flags c_law_flags h_law_flags
  have b_law_flags := F_law_flags.binds (ps := ["_law_made"]) fun _ _ _ _ _ _ us hl => match us, hl with | [_], _ => rfl
  have g_law_flags := PySem.W.mg_of X G a_law_flags
  have F_law_one_right := fun_mk (st := topS 20) l_law_one_right c_law_one_right h_law_one_right
  have b_law_one_right := F_law_one_right.binds (ps := ["_law_made", "_law_at"]) fun _ _ _ _ _ _ us hl => match us, hl with | [_, _], _ => rfl
  have g_law_one_right := PySem.W.mg_of X G a_law_one_right
  have F_law_same := fun_mk (st := topS 18) l_law_same c_law_same h_law_same
  have b_law_same := F_law_same.binds (ps := ["_law_found", "_law_due"]) fun _ _ _ _ _ _ us hl => match us, hl with | [_, _], _ => rfl
  have g_law_same := PySem.W.mg_of X G a_law_same
  have F_law_right := fun_mk (st := topS 21) l_law_right c_law_right h_law_right
  have b_law_right := F_law_right.binds (ps := ["_law_box_here"]) fun _ _ _ _ _ _ us hl => match us, hl with | [_], _ => rfl
  have g_law_right := PySem.W.mg_of X G a_law_right
  have F_law := fun_mk (st := topS 22) l_law c_law h_law
  have b_law := F_law.binds (ps := ["_law_script"]) fun _ _ _ _ _ _ us hl => match us, hl with | [_], _ => rfl
  have g_law := PySem.W.mg_of X G a_law
  have z_len := PySem.W.mg_none_of X G y_len
  have z_abs := PySem.W.mg_none_of X G y_abs
  have z_int := PySem.W.mg_none_of X G y_int
  have z_isinstance := PySem.W.mg_none_of X G y_isinstance
  have z_NotImplementedError := PySem.W.mg_none_of X G y_NotImplementedError
  have z_KeyError := PySem.W.mg_none_of X G y_KeyError
  have z_IndexError := PySem.W.mg_none_of X G y_IndexError
  have z_OverflowError := PySem.W.mg_none_of X G y_OverflowError
  have z_RuntimeError := PySem.W.mg_none_of X G y_RuntimeError
  have z_LookupError := PySem.W.mg_none_of X G y_LookupError
  have z_ValueError := PySem.W.mg_none_of X G y_ValueError
  have z_bool := PySem.W.mg_none_of X G y_bool
  have z_str := PySem.W.mg_none_of X G y_str
  have z_tuple := PySem.W.mg_none_of X G y_tuple
  have z_list := PySem.W.mg_none_of X G y_list
  have z_zip := PySem.W.mg_none_of X G y_zip
  have z_all := PySem.W.mg_none_of X G y_all
  have z_min := PySem.W.mg_none_of X G y_min
  have z_range := PySem.W.mg_none_of X G y_range
  have g_MOST := PySem.W.mg_of X G a_MOST
  have Fi_BadText := fun_mk (st := initS 1) lx_BadText cx_BadText hx_BadText
  have bi_BadText := Fi_BadText.binds (ps := ["self", "text"]) fun _ _ _ _ _ _ us hl => match us, hl with | [_, _], _ => rfl
  have gx_BadText := PySem.W.mg_of X G ax_BadText
  have xc_BadText : XC K "ValueError.__new__" (baseMro "ValueError") c_BadText := xc_of xx_BadText
  have Fi_BadLine := fun_mk (st := initS 2) lx_BadLine cx_BadLine hx_BadLine
  have bi_BadLine := Fi_BadLine.binds (ps := ["self", "number"]) fun _ _ _ _ _ _ us hl => match us, hl with | [_, _], _ => rfl
  have gx_BadLine := PySem.W.mg_of X G ax_BadLine
  have xc_BadLine : XC K "ValueError.__new__" (baseMro "ValueError") c_BadLine := xc_of xx_BadLine
  have Fi_Barred := fun_mk (st := initS 3) lx_Barred cx_Barred hx_Barred
  have bi_Barred := Fi_Barred.binds (ps := ["self", "reason"]) fun _ _ _ _ _ _ us hl => match us, hl with | [_, _], _ => rfl
  have gx_Barred := PySem.W.mg_of X G ax_Barred
  have xc_Barred : XC K "ValueError.__new__" (baseMro "ValueError") c_Barred := xc_of xx_Barred
  have Fi_NoPlace := fun_mk (st := initS 4) lx_NoPlace cx_NoPlace hx_NoPlace
  have bi_NoPlace := Fi_NoPlace.binds (ps := ["self", "place"]) fun _ _ _ _ _ _ us hl => match us, hl with | [_, _], _ => rfl
  have gx_NoPlace := PySem.W.mg_of X G ax_NoPlace
  have xc_NoPlace : XC K "LookupError.__new__" (baseMro "LookupError") c_NoPlace := xc_of xx_NoPlace
  have Fi_NoColour := fun_mk (st := initS 5) lx_NoColour cx_NoColour hx_NoColour
  have bi_NoColour := Fi_NoColour.binds (ps := ["self", "colour"]) fun _ _ _ _ _ _ us hl => match us, hl with | [_, _], _ => rfl
  have gx_NoColour := PySem.W.mg_of X G ax_NoColour
  have xc_NoColour : XC K "LookupError.__new__" (baseMro "LookupError") c_NoColour := xc_of xx_NoColour
  have Fi_NoNumber := fun_mk (st := initS 6) lx_NoNumber cx_NoNumber hx_NoNumber
  have bi_NoNumber := Fi_NoNumber.binds (ps := ["self", "number"]) fun _ _ _ _ _ _ us hl => match us, hl with | [_, _], _ => rfl
  have gx_NoNumber := PySem.W.mg_of X G ax_NoNumber
  have xc_NoNumber : XC K "LookupError.__new__" (baseMro "LookupError") c_NoNumber := xc_of xx_NoNumber
  have Fi_NoRow := fun_mk (st := initS 7) lx_NoRow cx_NoRow hx_NoRow
  have bi_NoRow := Fi_NoRow.binds (ps := ["self"]) fun _ _ _ _ _ _ us hl => match us, hl with | [_], _ => rfl
  have gx_NoRow := PySem.W.mg_of X G ax_NoRow
  have xc_NoRow : XC K "LookupError.__new__" (baseMro "LookupError") c_NoRow := xc_of xx_NoRow
  have Fi_NoOperation := fun_mk (st := initS 8) lx_NoOperation cx_NoOperation hx_NoOperation
  have bi_NoOperation := Fi_NoOperation.binds (ps := ["self", "many"]) fun _ _ _ _ _ _ us hl => match us, hl with | [_, _], _ => rfl
  have gx_NoOperation := PySem.W.mg_of X G ax_NoOperation
  have xc_NoOperation : XC K "LookupError.__new__" (baseMro "LookupError") c_NoOperation := xc_of xx_NoOperation
  have Fi_Unlike := fun_mk (st := initS 9) lx_Unlike cx_Unlike hx_Unlike
  have bi_Unlike := Fi_Unlike.binds (ps := ["self", "place"]) fun _ _ _ _ _ _ us hl => match us, hl with | [_, _], _ => rfl
  have gx_Unlike := PySem.W.mg_of X G ax_Unlike
  have xc_Unlike : XC K "RuntimeError.__new__" (baseMro "RuntimeError") c_Unlike := xc_of xx_Unlike
  have Fi_Same := fun_mk (st := initS 10) lx_Same cx_Same hx_Same
  have bi_Same := Fi_Same.binds (ps := ["self", "colour"]) fun _ _ _ _ _ _ us hl => match us, hl with | [_, _], _ => rfl
  have gx_Same := PySem.W.mg_of X G ax_Same
  have xc_Same : XC K "RuntimeError.__new__" (baseMro "RuntimeError") c_Same := xc_of xx_Same
  have Fi_TooMany := fun_mk (st := initS 11) lx_TooMany cx_TooMany hx_TooMany
  have bi_TooMany := Fi_TooMany.binds (ps := ["self", "many"]) fun _ _ _ _ _ _ us hl => match us, hl with | [_, _], _ => rfl
  have gx_TooMany := PySem.W.mg_of X G ax_TooMany
  have xc_TooMany : XC K "OverflowError.__new__" (baseMro "OverflowError") c_TooMany := xc_of xx_TooMany
  have Fi_Full := fun_mk (st := initS 12) lx_Full cx_Full hx_Full
  have bi_Full := Fi_Full.binds (ps := ["self", "many"]) fun _ _ _ _ _ _ us hl => match us, hl with | [_, _], _ => rfl
  have gx_Full := PySem.W.mg_of X G ax_Full
  have xc_Full : XC K "OverflowError.__new__" (baseMro "OverflowError") c_Full := xc_of xx_Full
  have x_tab : XTab K mg xtab := ⟨⟨[c_BadText, c_BadLine, c_Barred, c_NoPlace, c_NoColour, c_NoNumber, c_NoRow, c_NoOperation, c_Unlike, c_Same, c_TooMany, c_Full], ndx, (.cons (xis_of gx_BadText xb_value xc_BadText (fun f hf => by rw [List.mem_singleton.mp hf]; exact nx_BadText)) (.cons (xis_of gx_BadLine xb_value xc_BadLine (fun f hf => by rw [List.mem_singleton.mp hf]; exact nx_BadLine)) (.cons (xis_of gx_Barred xb_value xc_Barred (fun f hf => by rw [List.mem_singleton.mp hf]; exact nx_Barred)) (.cons (xis_of gx_NoPlace xb_lookup xc_NoPlace (fun f hf => by rw [List.mem_singleton.mp hf]; exact nx_NoPlace)) (.cons (xis_of gx_NoColour xb_lookup xc_NoColour (fun f hf => by rw [List.mem_singleton.mp hf]; exact nx_NoColour)) (.cons (xis_of gx_NoNumber xb_lookup xc_NoNumber (fun f hf => by rw [List.mem_singleton.mp hf]; exact nx_NoNumber)) (.cons (xis_of gx_NoRow xb_lookup xc_NoRow (fun _ z => nomatch z)) (.cons (xis_of gx_NoOperation xb_lookup xc_NoOperation (fun f hf => by rw [List.mem_singleton.mp hf]; exact nx_NoOperation)) (.cons (xis_of gx_Unlike xb_runtime xc_Unlike (fun f hf => by rw [List.mem_singleton.mp hf]; exact nx_Unlike)) (.cons (xis_of gx_Same xb_runtime xc_Same (fun f hf => by rw [List.mem_singleton.mp hf]; exact nx_Same)) (.cons (xis_of gx_TooMany xb_overflow xc_TooMany (fun f hf => by rw [List.mem_singleton.mp hf]; exact nx_TooMany)) (.cons (xis_of gx_Full xb_overflow xc_Full (fun f hf => by rw [List.mem_singleton.mp hf]; exact nx_Full)) .nil))))))))))))⟩⟩
  refine ⟨PySem.W.fnOf "law" "law" (defArgs (topS 22)) (defBody (topS 22)) (defScope (topS 22)) .none kV_law dc_law pm_law an_law cd_law ct_law, fun s v => .of_eq rfl, fun base _ _ => ?_⟩
  have kb_BadText := kbn_init (ns := ["text"]) (ps := ["self", "text"]) Fi_BadText fun _ _ _ _ _ _ u ws hl => match ws, hl with | [_], _ => rfl
  have xm_BadText : MkG P w K mg base "BadText" 1 ["text"] okTxt := mkG_of xb_value xc_BadText gx_BadText ix_BadText tx_BadText bi_BadText kb_BadText (ini_1G (k := 0) Fi_BadText sc_init_BadText xc_BadText nx_BadText txtT2 (fun cdv A outer s H E hr => (pss_cons (ps_expr (pe_xinit xb_value rfl z_ValueError (pa_cons (pv 0) (pa_cons (pe_joined (.cons pe_str (.cons (pe_fmtR (pv 1)) .nil))) pa_nil)))) (pss_cons (ps_xset xb_value (pv 0) (pv 1)) pss_nil)))) okGood_T goodT_lay
  have kb_BadLine := kbn_init (ns := ["number"]) (ps := ["self", "number"]) Fi_BadLine fun _ _ _ _ _ _ u ws hl => match ws, hl with | [_], _ => rfl
  have xm_BadLine : MkG P w K mg base "BadLine" 1 ["number"] okX := mkG_of xb_value xc_BadLine gx_BadLine ix_BadLine tx_BadLine bi_BadLine kb_BadLine (ini_1 (k := 0) Fi_BadLine sc_init_BadLine xc_BadLine nx_BadLine txtOk3 (fun cdv A outer s H E hr => (pss_cons (ps_expr (pe_xinit xb_value rfl z_ValueError (pa_cons (pv 0) (pa_cons (pe_joined (.cons pe_str (.cons (pe_fmtG hr (pv 1)) (.cons pe_str .nil)))) pa_nil)))) (pss_cons (ps_xset xb_value (pv 0) (pv 1)) pss_nil)))) okGood_X good_lay
  have kb_Barred := kbn_init (ns := ["reason"]) (ps := ["self", "reason"]) Fi_Barred fun _ _ _ _ _ _ u ws hl => match ws, hl with | [_], _ => rfl
  have xm_Barred : MkG P w K mg base "Barred" 1 ["reason"] okX := mkG_of xb_value xc_Barred gx_Barred ix_Barred tx_Barred bi_Barred kb_Barred (ini_1 (k := 0) Fi_Barred sc_init_Barred xc_Barred nx_Barred txtOk2 (fun cdv A outer s H E hr => (pss_cons (ps_expr (pe_xinit xb_value rfl z_ValueError (pa_cons (pv 0) (pa_cons (pe_joined (.cons pe_str (.cons (pe_fmtG hr (pv 1)) .nil))) pa_nil)))) (pss_cons (ps_xset xb_value (pv 0) (pv 1)) pss_nil)))) okGood_X good_lay
  have kb_NoPlace := kbn_init (ns := ["place"]) (ps := ["self", "place"]) Fi_NoPlace fun _ _ _ _ _ _ u ws hl => match ws, hl with | [_], _ => rfl
  have xm_NoPlace : MkG P w K mg base "NoPlace" 1 ["place"] okX := mkG_of xb_lookup xc_NoPlace gx_NoPlace ix_NoPlace tx_NoPlace bi_NoPlace kb_NoPlace (ini_1 (k := 0) Fi_NoPlace sc_init_NoPlace xc_NoPlace nx_NoPlace txtOk2 (fun cdv A outer s H E hr => (pss_cons (ps_expr (pe_xinit xb_lookup rfl z_LookupError (pa_cons (pv 0) (pa_cons (pe_joined (.cons pe_str (.cons (pe_fmtG hr (pv 1)) .nil))) pa_nil)))) (pss_cons (ps_xset xb_lookup (pv 0) (pv 1)) pss_nil)))) okGood_X good_lay
  have kb_NoColour := kbn_init (ns := ["colour"]) (ps := ["self", "colour"]) Fi_NoColour fun _ _ _ _ _ _ u ws hl => match ws, hl with | [_], _ => rfl
  have xm_NoColour : MkG P w K mg base "NoColour" 1 ["colour"] okX := mkG_of xb_lookup xc_NoColour gx_NoColour ix_NoColour tx_NoColour bi_NoColour kb_NoColour (ini_1 (k := 0) Fi_NoColour sc_init_NoColour xc_NoColour nx_NoColour txtOk2 (fun cdv A outer s H E hr => (pss_cons (ps_expr (pe_xinit xb_lookup rfl z_LookupError (pa_cons (pv 0) (pa_cons (pe_joined (.cons pe_str (.cons (pe_fmtG hr (pv 1)) .nil))) pa_nil)))) (pss_cons (ps_xset xb_lookup (pv 0) (pv 1)) pss_nil)))) okGood_X good_lay
  have kb_NoNumber := kbn_init (ns := ["number"]) (ps := ["self", "number"]) Fi_NoNumber fun _ _ _ _ _ _ u ws hl => match ws, hl with | [_], _ => rfl
  have xm_NoNumber : MkG P w K mg base "NoNumber" 1 ["number"] okX := mkG_of xb_lookup xc_NoNumber gx_NoNumber ix_NoNumber tx_NoNumber bi_NoNumber kb_NoNumber (ini_1 (k := 0) Fi_NoNumber sc_init_NoNumber xc_NoNumber nx_NoNumber txtOk2 (fun cdv A outer s H E hr => (pss_cons (ps_expr (pe_xinit xb_lookup rfl z_LookupError (pa_cons (pv 0) (pa_cons (pe_joined (.cons pe_str (.cons (pe_fmtG hr (pv 1)) .nil))) pa_nil)))) (pss_cons (ps_xset xb_lookup (pv 0) (pv 1)) pss_nil)))) okGood_X good_lay
  have kb_NoRow := kbn_init (ns := []) (ps := ["self"]) Fi_NoRow fun _ _ _ _ _ _ u ws hl => match ws, hl with | [], _ => rfl
  have xm_NoRow : MkG P w K mg base "NoRow" 1 [] okX := mkG_of xb_lookup xc_NoRow gx_NoRow ix_NoRow tx_NoRow bi_NoRow kb_NoRow (ini_0 (k := 0) Fi_NoRow sc_init_NoRow xc_NoRow (fun cdv A outer s H E => (pss_cons (ps_expr (pe_xinit xb_lookup rfl z_LookupError (pa_cons (pv 0) (pa_cons pe_str pa_nil)))) pss_nil))) okGood_X good_lay
  have kb_NoOperation := kbn_init (ns := ["many"]) (ps := ["self", "many"]) Fi_NoOperation fun _ _ _ _ _ _ u ws hl => match ws, hl with | [_], _ => rfl
  have xm_NoOperation : MkG P w K mg base "NoOperation" 1 ["many"] okX := mkG_of xb_lookup xc_NoOperation gx_NoOperation ix_NoOperation tx_NoOperation bi_NoOperation kb_NoOperation (ini_1 (k := 0) Fi_NoOperation sc_init_NoOperation xc_NoOperation nx_NoOperation txtOk3 (fun cdv A outer s H E hr => (pss_cons (ps_expr (pe_xinit xb_lookup rfl z_LookupError (pa_cons (pv 0) (pa_cons (pe_joined (.cons pe_str (.cons (pe_fmtG hr (pv 1)) (.cons pe_str .nil)))) pa_nil)))) (pss_cons (ps_xset xb_lookup (pv 0) (pv 1)) pss_nil)))) okGood_X good_lay
  have kb_Unlike := kbn_init (ns := ["place"]) (ps := ["self", "place"]) Fi_Unlike fun _ _ _ _ _ _ u ws hl => match ws, hl with | [_], _ => rfl
  have xm_Unlike : MkG P w K mg base "Unlike" 1 ["place"] okX := mkG_of xb_runtime xc_Unlike gx_Unlike ix_Unlike tx_Unlike bi_Unlike kb_Unlike (ini_1 (k := 0) Fi_Unlike sc_init_Unlike xc_Unlike nx_Unlike txtOk3 (fun cdv A outer s H E hr => (pss_cons (ps_expr (pe_xinit xb_runtime rfl z_RuntimeError (pa_cons (pv 0) (pa_cons (pe_joined (.cons pe_str (.cons (pe_fmtG hr (pv 1)) (.cons pe_str .nil)))) pa_nil)))) (pss_cons (ps_xset xb_runtime (pv 0) (pv 1)) pss_nil)))) okGood_X good_lay
  have kb_Same := kbn_init (ns := ["colour"]) (ps := ["self", "colour"]) Fi_Same fun _ _ _ _ _ _ u ws hl => match ws, hl with | [_], _ => rfl
  have xm_Same : MkG P w K mg base "Same" 1 ["colour"] okX := mkG_of xb_runtime xc_Same gx_Same ix_Same tx_Same bi_Same kb_Same (ini_1 (k := 0) Fi_Same sc_init_Same xc_Same nx_Same txtOk2 (fun cdv A outer s H E hr => (pss_cons (ps_expr (pe_xinit xb_runtime rfl z_RuntimeError (pa_cons (pv 0) (pa_cons (pe_joined (.cons pe_str (.cons (pe_fmtG hr (pv 1)) .nil))) pa_nil)))) (pss_cons (ps_xset xb_runtime (pv 0) (pv 1)) pss_nil)))) okGood_X good_lay
  have kb_TooMany := kbn_init (ns := ["many"]) (ps := ["self", "many"]) Fi_TooMany fun _ _ _ _ _ _ u ws hl => match ws, hl with | [_], _ => rfl
  have xm_TooMany : MkG P w K mg base "TooMany" 1 ["many"] okX := mkG_of xb_overflow xc_TooMany gx_TooMany ix_TooMany tx_TooMany bi_TooMany kb_TooMany (ini_1 (k := 0) Fi_TooMany sc_init_TooMany xc_TooMany nx_TooMany txtOk2 (fun cdv A outer s H E hr => (pss_cons (ps_expr (pe_xinit xb_overflow rfl z_OverflowError (pa_cons (pv 0) (pa_cons (pe_joined (.cons pe_str (.cons (pe_fmtG hr (pv 1)) .nil))) pa_nil)))) (pss_cons (ps_xset xb_overflow (pv 0) (pv 1)) pss_nil)))) okGood_X good_lay
  have kb_Full := kbn_init (ns := ["many"]) (ps := ["self", "many"]) Fi_Full fun _ _ _ _ _ _ u ws hl => match ws, hl with | [_], _ => rfl
  have xm_Full : MkG P w K mg base "Full" 1 ["many"] okX := mkG_of xb_overflow xc_Full gx_Full ix_Full tx_Full bi_Full kb_Full (ini_1 (k := 0) Fi_Full sc_init_Full xc_Full nx_Full txtOk3 (fun cdv A outer s H E hr => (pss_cons (ps_expr (pe_xinit xb_overflow rfl z_OverflowError (pa_cons (pv 0) (pa_cons (pe_joined (.cons pe_str (.cons (pe_fmtG hr (pv 1)) (.cons pe_str .nil)))) pa_nil)))) (pss_cons (ps_xset xb_overflow (pv 0) (pv 1)) pss_nil)))) okGood_X good_lay
  have o_law_cell_at := ok_law_cell_at (P := P) (w := w) (base := base) F_law_cell_at g_law_cell_at b_law_cell_at z_len
  have d_law_cell_at := o_law_cell_at.df
  have o_law_box := ok_law_box (P := P) (w := w) (base := base) F_law_box g_law_box b_law_box d_law_cell_at z_abs z_int
  have d_law_box := o_law_box.df
  have o_law_take := ok_law_take (P := P) (w := w) (base := base) F_law_take g_law_take b_law_take  8
  have d_law_take := o_law_take.df
  have o_law_flags := ok_law_flags (P := P) (w := w) (base := base) F_law_flags g_law_flags b_law_flags z_isinstance x_tab
  have d_law_flags := o_law_flags.df
  have o_law_one_right := ok_law_one_right (P := P) (w := w) (base := base) F_law_one_right g_law_one_right b_law_one_right d_law_flags z_NotImplementedError z_KeyError z_IndexError z_isinstance z_OverflowError z_RuntimeError z_LookupError z_ValueError x_tab
  have d_law_one_right := o_law_one_right.df
  have o_law_same := ok_law_same (P := P) (w := w) (base := base) F_law_same g_law_same b_law_same z_bool z_isinstance z_int z_str z_tuple z_list z_zip z_all z_len 8
  have d_law_same := o_law_same.df
  have o_law_right := ok_law_right (P := P) (w := w) (base := base) F_law_right g_law_right b_law_right d_law_one_right d_law_same d_law_take z_zip z_all ⟨_, g_MOST⟩ xm_Barred xm_NoRow xm_Full xm_TooMany xm_Same xm_Unlike xm_NoOperation xm_NoNumber xm_NoColour xm_NoPlace xm_BadLine xm_BadText x_tab
  have d_law_right := o_law_right.df
  exact law_end (ok_law (P := P) (w := w) (base := base) F_law g_law b_law d_law_right d_law_box z_len z_min z_range z_all) hlaw
end Lk15
open PySem PySem.W PyProof.Rows
set_option maxHeartbeats 0 in
theorem PySem.Challenge.cw_twintiles_k15_errors_by_hand_holds : PySem.Challenge.rw_twintiles_k15_errors_by_hand.Holds := by
  w_on; o_law; k_head; (case hw => w_witness2)
  k_fill
  refine L2.walk_of (l := PySem.Challenge.rw_twintiles_k15_errors_by_hand) (n := 63) (k := 11) (x := "_law_script") (CX := fun w => L2.CX PySem.Challenge.pw_twintiles_k15_errors_by_hand w) (sp := fun w => Tw.spLaw _) rfl (by decide) rfl ⟨rfl, by decide, by decide⟩ (fun w h Y => PySem.W.kIn_of Y) ?F (fun _ _ a ns hl ho hS => ⟨a, ns, rfl, hl, ho, hS, fun _ => rfl⟩) (fun w H s e s' z => Tw.cx_none z)
  case F =>
    intro w mg fa h KX G hmg
    refine' Lk15.all_mk KX G hmg Lk15.law_true ?a_law_cell_at ?l_law_cell_at ?c_law_cell_at ?h_law_cell_at ?a_law_box ?l_law_box ?c_law_box ?h_law_box ?a_law_take ?l_law_take ?c_law_take ?h_law_take ?a_law_flags ?l_law_flags ?c_law_flags ?h_law_flags ?a_law_one_right ?l_law_one_right ?c_law_one_right ?h_law_one_right ?a_law_same ?l_law_same ?c_law_same ?h_law_same ?a_law_right ?l_law_right ?c_law_right ?h_law_right ?a_law ?l_law ?c_law ?h_law ?ax_BadText ?xx_BadText ?ix_BadText ?tx_BadText ?lx_BadText ?cx_BadText ?hx_BadText ?nx_BadText ?ax_BadLine ?xx_BadLine ?ix_BadLine ?tx_BadLine ?lx_BadLine ?cx_BadLine ?hx_BadLine ?nx_BadLine ?ax_Barred ?xx_Barred ?ix_Barred ?tx_Barred ?lx_Barred ?cx_Barred ?hx_Barred ?nx_Barred ?ax_NoPlace ?xx_NoPlace ?ix_NoPlace ?tx_NoPlace ?lx_NoPlace ?cx_NoPlace ?hx_NoPlace ?nx_NoPlace ?ax_NoColour ?xx_NoColour ?ix_NoColour ?tx_NoColour ?lx_NoColour ?cx_NoColour ?hx_NoColour ?nx_NoColour ?ax_NoNumber ?xx_NoNumber ?ix_NoNumber ?tx_NoNumber ?lx_NoNumber ?cx_NoNumber ?hx_NoNumber ?nx_NoNumber ?ax_NoRow ?xx_NoRow ?ix_NoRow ?tx_NoRow ?lx_NoRow ?cx_NoRow ?hx_NoRow ?ax_NoOperation ?xx_NoOperation ?ix_NoOperation ?tx_NoOperation ?lx_NoOperation ?cx_NoOperation ?hx_NoOperation ?nx_NoOperation ?ax_Unlike ?xx_Unlike ?ix_Unlike ?tx_Unlike ?lx_Unlike ?cx_Unlike ?hx_Unlike ?nx_Unlike ?ax_Same ?xx_Same ?ix_Same ?tx_Same ?lx_Same ?cx_Same ?hx_Same ?nx_Same ?ax_TooMany ?xx_TooMany ?ix_TooMany ?tx_TooMany ?lx_TooMany ?cx_TooMany ?hx_TooMany ?nx_TooMany ?ax_Full ?xx_Full ?ix_Full ?tx_Full ?lx_Full ?cx_Full ?hx_Full ?nx_Full ?ndx ?y_len ?y_abs ?y_int ?y_isinstance ?y_NotImplementedError ?y_KeyError ?y_IndexError ?y_OverflowError ?y_RuntimeError ?y_LookupError ?y_ValueError ?y_bool ?y_str ?y_tuple ?y_list ?y_zip ?y_all ?y_min ?y_range ?a_MOST
    (case a_law_cell_at => k_is); (case l_law_cell_at => k_is); (case c_law_cell_at => k_is); (case h_law_cell_at => k_is); (case a_law_box => k_is); (case l_law_box => k_is); (case c_law_box => k_is); (case h_law_box => k_is); (case a_law_take => k_is); (case l_law_take => k_is); (case c_law_take => k_is); (case h_law_take => k_is); (case a_law_flags => k_is); (case l_law_flags => k_is); (case c_law_flags => k_is); (case h_law_flags => k_is); (case a_law_one_right => k_is); (case l_law_one_right => k_is); (case c_law_one_right => k_is); (case h_law_one_right => k_is); (case a_law_same => k_is); (case l_law_same => k_is); (case c_law_same => k_is); (case h_law_same => k_is); (case a_law_right => k_is); (case l_law_right => k_is); (case c_law_right => k_is); (case h_law_right => k_is); (case a_law => k_is); (case l_law => k_is); (case c_law => k_is); (case h_law => k_is); (case ax_BadText => k_is); (case xx_BadText => kernel_rfl); (case ix_BadText => k_is); (case tx_BadText => k_is); (case lx_BadText => k_is); (case cx_BadText => k_is); (case hx_BadText => k_is); (case nx_BadText => k_is); (case ax_BadLine => k_is); (case xx_BadLine => kernel_rfl); (case ix_BadLine => k_is); (case tx_BadLine => k_is); (case lx_BadLine => k_is); (case cx_BadLine => k_is); (case hx_BadLine => k_is); (case nx_BadLine => k_is); (case ax_Barred => k_is); (case xx_Barred => kernel_rfl); (case ix_Barred => k_is); (case tx_Barred => k_is); (case lx_Barred => k_is); (case cx_Barred => k_is); (case hx_Barred => k_is); (case nx_Barred => k_is); (case ax_NoPlace => k_is); (case xx_NoPlace => kernel_rfl); (case ix_NoPlace => k_is); (case tx_NoPlace => k_is); (case lx_NoPlace => k_is); (case cx_NoPlace => k_is); (case hx_NoPlace => k_is); (case nx_NoPlace => k_is); (case ax_NoColour => k_is); (case xx_NoColour => kernel_rfl); (case ix_NoColour => k_is); (case tx_NoColour => k_is); (case lx_NoColour => k_is); (case cx_NoColour => k_is); (case hx_NoColour => k_is); (case nx_NoColour => k_is); (case ax_NoNumber => k_is); (case xx_NoNumber => kernel_rfl); (case ix_NoNumber => k_is); (case tx_NoNumber => k_is); (case lx_NoNumber => k_is); (case cx_NoNumber => k_is); (case hx_NoNumber => k_is); (case nx_NoNumber => k_is); (case ax_NoRow => k_is); (case xx_NoRow => kernel_rfl); (case ix_NoRow => k_is); (case tx_NoRow => k_is); (case lx_NoRow => k_is); (case cx_NoRow => k_is); (case hx_NoRow => k_is); (case ax_NoOperation => k_is); (case xx_NoOperation => kernel_rfl); (case ix_NoOperation => k_is); (case tx_NoOperation => k_is); (case lx_NoOperation => k_is); (case cx_NoOperation => k_is); (case hx_NoOperation => k_is); (case nx_NoOperation => k_is); (case ax_Unlike => k_is); (case xx_Unlike => kernel_rfl); (case ix_Unlike => k_is); (case tx_Unlike => k_is); (case lx_Unlike => k_is); (case cx_Unlike => k_is); (case hx_Unlike => k_is); (case nx_Unlike => k_is); (case ax_Same => k_is); (case xx_Same => kernel_rfl); (case ix_Same => k_is); (case tx_Same => k_is); (case lx_Same => k_is); (case cx_Same => k_is); (case hx_Same => k_is); (case nx_Same => k_is); (case ax_TooMany => k_is); (case xx_TooMany => kernel_rfl); (case ix_TooMany => k_is); (case tx_TooMany => k_is); (case lx_TooMany => k_is); (case cx_TooMany => k_is); (case hx_TooMany => k_is); (case nx_TooMany => k_is); (case ax_Full => k_is); (case xx_Full => kernel_rfl); (case ix_Full => k_is); (case tx_Full => k_is); (case lx_Full => k_is); (case cx_Full => k_is); (case hx_Full => k_is); (case nx_Full => k_is); (case ndx => decide); (case y_len => k_is); (case y_abs => k_is); (case y_int => k_is); (case y_isinstance => k_is); (case y_NotImplementedError => k_is); (case y_KeyError => k_is); (case y_IndexError => k_is); (case y_OverflowError => k_is); (case y_RuntimeError => k_is); (case y_LookupError => k_is); (case y_ValueError => k_is); (case y_bool => k_is); (case y_str => k_is); (case y_tuple => k_is); (case y_list => k_is); (case y_zip => k_is); (case y_all => k_is); (case y_min => k_is); (case y_range => k_is); (case a_MOST => k_is)

