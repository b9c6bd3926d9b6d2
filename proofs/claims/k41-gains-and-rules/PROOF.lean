import PyProof.Rows.All
import Wide.All
import OpenK.AllK
import Wide.FinOn
import PySem.Challenge.RW_playpapers_k41_whole_gains_and_rules
import HandS.ForMost
import HandS.TupAny
import HandS.WideBits
import HandS.TupMul
import HandS.Style
import HandS.Deep
import HandS.IsInst
import HandS.RaiseMore
import HandS.SortInts
import KE.KSortedM
import HandS.Zip
import HandS.Iter
import KE.GoesEnum
import HandS.HeadHook2
import HandS.HeadEnd
import HandS.Head2
import HandS.Dict
import HandS.SetFor
import HandS.Conv
import HandS.SortRule
section
set_option Elab.async false
set_option linter.all false
namespace Pf
open PySem
/-! plain values, the store of one activation, results -/
inductive PV where
  | non
  | bl (b : Bool)
  | int (i : Int)
  | str (s : Str)
  | tup (xs : List PV)
  | lst (xs : List PV)
  | dct (kvs : List (PV × PV))
  /-- the script -/
  | scr (ns : List Int)
/-- what a name holds -/
inductive SV where
  | val (v : PV)
  | ref (n : Nat)
/-- what an expression gives: a value, a new object that nobody else has, a cell -/
inductive RV where
  | val (v : PV)
  | own (v : PV)
  | ref (n : Nat)
/-- what stands in a list of lists: a value, a cell -/
inductive NE where
  | pv (p : PV)
  | cl (n : Nat)
inductive Cell where
  | live (v : PV)
  | froz (v : PV)
  | nest (es : List NE)
abbrev Sto := List Cell
abbrev Env := List (Option SV)
inductive Res (α : Type) where
  | ok (a : α) (S : Sto)
  | exc (c : Nat) (v : PV) (S : Sto)
  | stuck
abbrev M (α : Type) := Sto → Res α
def ret {α : Type} (a : α) : M α := fun S => .ok a S
def stk {α : Type} : M α := fun _ => .stuck
def bd {α β : Type} (m : M α) (f : α → M β) : M β := fun S => match m S with
  | .ok a S' => f a S'
  | .exc c v S' => .exc c v S'
  | .stuck => .stuck
/-! equality, by the library's own data -/
mutual
def toD : PV → PyData
  | .non => .none
  | .bl b => .bool b
  | .int i => .int i
  | .str s => .str s
  | .tup xs => .tuple (toDs xs)
  | .lst xs => .list (toDs xs)
  | .dct kvs => .dict (toDk kvs)
  | .scr ns => .list (ns.map .int)
def toDs : List PV → List PyData
  | [] => []
  | x :: xs => toD x :: toDs xs
def toDk : List (PV × PV) → List (PyData × PyData)
  | [] => []
  | (k, v) :: r => (toD k, toD v) :: toDk r
end
theorem toDs_map (xs : List PV) : toDs xs = xs.map toD := by
  induction xs with
  | nil => rfl
  | cons x xs ih => rw [toDs, ih]; rfl
mutual
/-- same, to the letter -/
def same : PV → PV → Bool
  | .non, .non => true
  | .bl a, .bl b => a == b
  | .int a, .int b => a == b
  | .str a, .str b => a == b
  | .tup a, .tup b => sames a b
  | .lst a, .lst b => sames a b
  | .dct a, .dct b => samek a b
  | .scr a, .scr b => a == b
  | _, _ => false
def sames : List PV → List PV → Bool
  | [], [] => true
  | x :: xs, y :: ys => same x y && sames xs ys
  | _, _ => false
def samek : List (PV × PV) → List (PV × PV) → Bool
  | [], [] => true
  | (a, b) :: xs, (c, d) :: ys => same a c && same b d && samek xs ys
  | _, _ => false
end
mutual
theorem same_eq : ∀ a b : PV, same a b = true → a = b
  | .non, b, h => by cases b <;> simp [same] at h <;> rfl
  | .bl a, b, h => by cases b <;> simp [same] at h; rw [h]
  | .int a, b, h => by cases b <;> simp [same] at h; rw [h]
  | .str a, b, h => by cases b <;> simp [same] at h; rw [h]
  | .tup a, b, h => by cases b <;> simp [same] at h; rw [sames_eq _ _ h]
  | .lst a, b, h => by cases b <;> simp [same] at h; rw [sames_eq _ _ h]
  | .dct a, b, h => by cases b <;> simp [same] at h; rw [samek_eq _ _ h]
  | .scr a, b, h => by cases b <;> simp [same] at h; rw [h]
theorem sames_eq : ∀ a b : List PV, sames a b = true → a = b
  | [], b, h => by cases b <;> simp [sames] at h; rfl
  | x :: xs, b, h => by
    cases b <;> simp [sames] at h
    rw [same_eq _ _ h.1, sames_eq _ _ h.2]
theorem samek_eq : ∀ a b : List (PV × PV), samek a b = true → a = b
  | [], b, h => by cases b <;> simp [samek] at h; rfl
  | (x, y) :: xs, b, h => by
    cases b with
    | nil => simp [samek] at h
    | cons p q =>
      obtain ⟨c, d⟩ := p
      simp [samek] at h
      rw [same_eq _ _ h.1.1, same_eq _ _ h.1.2, samek_eq _ _ h.2]
end
mutual
theorem same_refl : ∀ a : PV, same a a = true
  | .non => by simp [same]
  | .bl a => by simp [same]
  | .int a => by simp [same]
  | .str a => by simp [same]
  | .tup a => by simp [same, sames_refl a]
  | .lst a => by simp [same, sames_refl a]
  | .dct a => by simp [same, samek_refl a]
  | .scr a => by simp [same]
theorem sames_refl : ∀ a : List PV, sames a a = true
  | [] => by simp [sames]
  | x :: xs => by simp [sames, same_refl x, sames_refl xs]
theorem samek_refl : ∀ a : List (PV × PV), samek a a = true
  | [] => by simp [samek]
  | (x, y) :: xs => by simp [samek, same_refl x, same_refl y, samek_refl xs]
end
end Pf
end
section
set_option Elab.async false
set_option linter.all false
set_option maxHeartbeats 1000000
set_option autoImplicit false
namespace Pf
open PySem PySem.Spec L2
abbrev Frag := PySem.W.Frag
/-- the script -/
def Scr (K : Frag) (H : Hp) (a : Addr) (ns : List Int) : Prop := (∃ o, H a = some (.frz o (.lst (ns.map V.int)))) ∨
    ∃ (o : Obj) (its : Array Value) (n : Nat), K.lookup a = some o ∧ o.cls = .type "list" ∧ o.dict = none ∧ o.data = .seq its n ∧ its.size ≤ sizeLine ∧ Vals (ns.map V.int) its.toList
theorem Scr.sq {K : Frag} {H : Hp} {a : Addr} {ns : List Int} : Scr K H a ns → SqL K H a (ns.map V.int)
  | .inl h => .inl (.inr h)
  | .inr h => .inr h
def toKey : PV → Option Key
  | .int i => some (.inl i)
  | .str s => some (.inr s)
  | _ => none
def toKeys : List PV → Option (List Key)
  | [] => some []
  | x :: xs => match toKey x, toKeys xs with
    | some k, some ks => some (k :: ks)
    | _, _ => none
def toKeyT : PV → Option (List Key)
  | .tup xs => toKeys xs
  | _ => none
mutual
/-- the plain value p stands at v, for good -/
def Rp (K : Frag) (H : Hp) (F : Addr → Prop) : PV → V → Prop
  | .non, v => v = .non
  | .bl b, v => v = .bl b
  | .int i, v => v = .int i
  | .str s, v => v = .str s
  | .tup xs, v => ∃ a vs, v = .ref a ∧ SqT K H a vs ∧ RpL K H F xs vs
  | .lst xs, v => ∃ a vs, v = .ref a ∧ (H a = some (.lst vs) ∧ F a) ∧ RpL K H F xs vs
  | .dct kvs, v => ∃ a, v = .ref a ∧ F a ∧ ((∃ l, H a = some (.dK l) ∧ RpK K H F kvs l) ∨ ∃ l, H a = some (.dT l) ∧ RpT K H F kvs l)
  | .scr ns, v => ∃ a, v = .ref a ∧ Scr K H a ns
def RpL (K : Frag) (H : Hp) (F : Addr → Prop) : List PV → List V → Prop
  | [], vs => vs = []
  | x :: xs, vs => ∃ v r, vs = v :: r ∧ Rp K H F x v ∧ RpL K H F xs r
def RpK (K : Frag) (H : Hp) (F : Addr → Prop) : List (PV × PV) → List (Key × V) → Prop
  | [], l => l = []
  | (k, x) :: xs, l => ∃ j v r, l = (j, v) :: r ∧ toKey k = some j ∧ Rp K H F x v ∧ RpK K H F xs r
def RpT (K : Frag) (H : Hp) (F : Addr → Prop) : List (PV × PV) → List (List Key × V) → Prop
  | [], l => l = []
  | (k, x) :: xs, l => ∃ j v r, l = (j, v) :: r ∧ toKeyT k = some j ∧ Rp K H F x v ∧ RpT K H F xs r
end
/-- the object at a holds the list or dict p -/
def At (K : Frag) (H : Hp) (F : Addr → Prop) : PV → Addr → Prop
  | .lst xs, a => ∃ vs, H a = some (.lst vs) ∧ RpL K H F xs vs
  | .dct kvs, a => (∃ l, H a = some (.dK l) ∧ RpK K H F kvs l) ∨ ∃ l, H a = some (.dT l) ∧ RpT K H F kvs l
  | _, _ => False
/-- p is to be read at v now -/
def RpW (K : Frag) (H : Hp) (F : Addr → Prop) : PV → V → Prop
  | .lst xs, v => ∃ a vs, v = .ref a ∧ H a = some (.lst vs) ∧ RpL K H F xs vs
  | .dct kvs, v => ∃ a, v = .ref a ∧ At K H F (.dct kvs) a
  | p, v => Rp K H F p v
/-- where an activation stands -/
structure G where
  S : Sto
  A : List Addr
  H : Hp
  F : Addr → Prop
def mutC : Cell → Bool
  | .froz _ => false
  | _ => true
def isN : Cell → Bool
  | .nest _ => true
  | _ => false
def Lv (g : G) (b : Addr) : Prop := ∃ (n : Nat) (c : Cell), (g.S[n]? = some c ∧ mutC c = true) ∧ g.A[n]? = some b
def NeL (K : Frag) (g : G) : List NE → List V → Prop
  | [], vs => vs = []
  | .pv p :: es, vs => ∃ v r, vs = v :: r ∧ Rp K g.H g.F p v ∧ NeL K g es r
  | .cl n :: es, vs => ∃ a r, vs = .ref a :: r ∧ g.A[n]? = some a ∧ NeL K g es r
def CellOk (K : Frag) (g : G) (a : Addr) : Cell → Prop
  | .live v => At K g.H g.F v a ∧ ¬ g.F a
  | .froz v => Rp K g.H g.F v (.ref a)
  | .nest es => (∃ vs, g.H a = some (.lst vs) ∧ NeL K g es vs) ∧ ¬ g.F a
structure SRc (K : Frag) (g : G) : Prop where
  len : g.A.length = g.S.length
  nd : g.A.Nodup
  cell : ∀ (n : Nat) (a : Addr) (c : Cell), g.A[n]? = some a → g.S[n]? = some c → CellOk K g a c
  dom : ∀ a ∈ g.A, ∃ x, g.H a = some x
  fd : ∀ a, g.F a → ∃ x, g.H a = some x
structure Stp (g g' : G) : Prop where
  keep : ∀ b x, g.H b = some x → ¬ Lv g b → g'.H b = some x
  dom : ∀ b x, g.H b = some x → ∃ y, g'.H b = some y
  fz : ∀ b, g.F b → g'.F b
  fz' : ∀ b, g'.F b → g.F b ∨ Lv g b ∨ g.H b = none
  ext : ∀ (n : Nat) (a : Addr), g.A[n]? = some a → g'.A[n]? = some a
  newA : ∀ b ∈ g'.A, b ∈ g.A ∨ g.H b = none
  new : ∀ b, Lv g' b → Lv g b ∨ g.H b = none
  pl : ∀ (n : Nat) (c c' : Cell), g.S[n]? = some c → g'.S[n]? = some c' → isN c = false → isN c' = false
  ge : g.S.length ≤ g'.S.length
theorem Lv.mem {g : G} {b : Addr} (h : Lv g b) : b ∈ g.A := let ⟨_, _, _, e⟩ := h; List.mem_of_getElem? e
theorem plS {S S' : Sto} (h : S' = S) (n : Nat) (c c' : Cell) (e : S[n]? = some c) (e' : S'[n]? = some c') (z : isN c = false) : isN c' = false := by subst h; rw [e] at e'; cases e'; exact z
theorem plSet {S : Sto} {m : Nat} {d : Cell} (hd : isN d = false) (n : Nat) (c c' : Cell) (e : S[n]? = some c) (e' : (S.set m d)[n]? = some c') (z : isN c = false) : isN c' = false := by
  have hl := (List.getElem?_eq_some_iff.mp e).1
  by_cases hm : m = n
  · subst hm; rw [List.getElem?_set_self hl] at e'; cases e'; exact hd
  · rw [List.getElem?_set_ne hm, e] at e'; cases e'; exact z
theorem plApp {S : Sto} (T : Sto) (n : Nat) (c c' : Cell) (e : S[n]? = some c) (e' : (S ++ T)[n]? = some c') (z : isN c = false) : isN c' = false := by
  have hl := (List.getElem?_eq_some_iff.mp e).1
  rw [List.getElem?_append_left hl, e] at e'; cases e'; exact z
def PlS (S S' : Sto) : Prop := ∀ (n : Nat) (c c' : Cell), S[n]? = some c → S'[n]? = some c' → isN c = false → isN c' = false
theorem PlS.trans {S0 S1 S2 : Sto} (a : PlS S0 S1) (l : S0.length ≤ S1.length) (b : PlS S1 S2) : PlS S0 S2 := fun n c c' e e' h => by
  have hl := (List.getElem?_eq_some_iff.mp e).1
  obtain ⟨c1, e1⟩ : ∃ c1, S1[n]? = some c1 := ⟨_, List.getElem?_eq_getElem (by omega)⟩
  exact b n c1 c' e1 e' (a n c c1 e e1 h)
/-- Stp.plS -/
theorem Stp.refl (g : G) : Stp g g := ⟨fun _ _ h _ => h, fun _ x h => ⟨x, h⟩, fun _ h => h, fun _ h => .inl h, fun _ _ h => h, fun _ h => .inl h, fun _ h => .inl h, fun n c c' e e' h => by rw [e] at e'; cases e'; exact h, Nat.le_refl _⟩
theorem Stp.trans {g g1 g2 : G} (a : Stp g g1) (b : Stp g1 g2) : Stp g g2 where
  keep := fun c x h n => b.keep c x (a.keep c x h n) fun z => (a.new c z).elim n fun e => by rw [h] at e; cases e
  dom := fun c x h => let ⟨y, e⟩ := a.dom c x h; b.dom c y e
  fz := fun c h => b.fz c (a.fz c h)
  fz' := fun c h => by
    rcases b.fz' c h with h | h | h
    · exact a.fz' c h
    · exact .inr (a.new c h)
    · refine .inr (.inr ?_)
      cases e : g.H c with
      | none => rfl
      | some x =>
        obtain ⟨y, e'⟩ := a.dom c x e
        rw [h] at e'; cases e'
  ext := fun n c h => b.ext n c (a.ext n c h)
  newA := fun c h => by
    rcases b.newA c h with h | h
    · exact a.newA c h
    · refine .inr ?_
      cases e : g.H c with
      | none => rfl
      | some x =>
        obtain ⟨y, e'⟩ := a.dom c x e
        rw [h] at e'; cases e'
  new := fun c h => by
    rcases b.new c h with h | h
    · exact a.new c h
    · refine .inr ?_
      cases e : g.H c with
      | none => rfl
      | some x =>
        obtain ⟨y, e'⟩ := a.dom c x e
        rw [h] at e'; cases e'
  pl := fun n c c' e e' h => by
    have hl := (List.getElem?_eq_some_iff.mp e).1
    have hl1 := a.ge
    obtain ⟨c1, e1⟩ : ∃ c1, g1.S[n]? = some c1 := ⟨_, List.getElem?_eq_getElem (by omega)⟩
    exact b.pl n c1 c' e1 e' (a.pl n c c1 e e1 h)
  ge := Nat.le_trans a.ge b.ge
theorem Stp.absent {g g' : G} (a : Stp g g') {b : Addr} (h : g'.H b = Option.none) : g.H b = Option.none := by
  cases e : g.H b with
  | none => rfl
  | some x =>
    obtain ⟨y, e'⟩ := a.dom b x e
    rw [h] at e'; cases e'
def Imm : HO → Prop
  | .tup _ => True
  | .frz _ _ => True
  | _ => False
/-- what a plain value leans on stays -/
structure Keep (g g' : G) : Prop where
  fz : ∀ b, g.F b → g'.F b
  keep : ∀ b x, g.H b = some x → g.F b ∨ Imm x → g'.H b = some x
section
variable {K : Frag} {g g' : G}
theorem CellOk.nf {a : Addr} {c : Cell} (h : CellOk K g a c) (m : mutC c = true) : ¬ g.F a := by
  cases c with
  | live v => exact h.2
  | nest es => exact h.2
  | froz v => cases m
theorem SRc.nlv (s : SRc K g) {b : Addr} (h : g.F b) : ¬ Lv g b := fun ⟨n, c, e1, e2⟩ => (s.cell n b c e2 e1.1).nf e1.2 h
theorem At.ex {H : Hp} {F : Addr → Prop} {p : PV} {a : Addr} (h : At K H F p a) : ∃ x, H a = some x := by
  cases p with
  | lst xs => obtain ⟨vs, e, _⟩ := h; exact ⟨_, e⟩
  | dct kvs => rcases h with ⟨l, e, _⟩ | ⟨l, e, _⟩ <;> exact ⟨_, e⟩
  | _ => exact False.elim h
theorem At.muta {H : Hp} {F : Addr → Prop} {p : PV} {a : Addr} (h : At K H F p a) : (∃ vs, H a = some (.lst vs)) ∨ (∃ l, H a = some (.dK l)) ∨ ∃ l, H a = some (.dT l) := by
  cases p with
  | lst xs => obtain ⟨vs, e, _⟩ := h; exact .inl ⟨_, e⟩
  | dct kvs => rcases h with ⟨l, e, _⟩ | ⟨l, e, _⟩; exact .inr (.inl ⟨_, e⟩); exact .inr (.inr ⟨_, e⟩)
  | _ => exact False.elim h
theorem CellOk.muta {a : Addr} {c : Cell} (h : CellOk K g a c) (m : mutC c = true) : (∃ vs, g.H a = some (.lst vs)) ∨ (∃ l, g.H a = some (.dK l)) ∨ ∃ l, g.H a = some (.dT l) := by
  cases c with
  | live v => exact At.muta h.1
  | nest es => obtain ⟨⟨vs, e, _⟩, _⟩ := h; exact .inl ⟨vs, e⟩
  | froz v => cases m
theorem SRc.lvMut (s : SRc K g) {b : Addr} (h : Lv g b) : (∃ vs, g.H b = some (.lst vs)) ∨ (∃ l, g.H b = some (.dK l)) ∨ ∃ l, g.H b = some (.dT l) := by
  obtain ⟨n, c, e1, e2⟩ := h
  exact (s.cell n b c e2 e1.1).muta e1.2
theorem Stp.k (s : SRc K g) (a : Stp g g') : Keep g g' := ⟨a.fz, fun b x e h => a.keep b x e fun z => by
  rcases h with h | h
  · exact s.nlv h z
  · rcases s.lvMut z with ⟨_, q⟩ | ⟨_, q⟩ | ⟨_, q⟩ <;> rw [e] at q <;> cases q <;> exact h⟩
theorem SqT.keep (k : Keep g g') {a : Addr} {vs : List V} (h : SqT K g.H a vs) : SqT K g'.H a vs := by
  rcases h with h | h
  · rcases h with h | ⟨o, h⟩
    · exact .inl (.inl (k.keep _ _ h (.inr trivial)))
    · exact .inl (.inr ⟨o, k.keep _ _ h (.inr trivial)⟩)
  · exact .inr h
theorem Scr.keep (k : Keep g g') {a : Addr} {ns : List Int} (h : Scr K g.H a ns) : Scr K g'.H a ns := by
  rcases h with ⟨o, h⟩ | h
  · exact .inl ⟨o, k.keep _ _ h (.inr trivial)⟩
  · exact .inr h
mutual
theorem Rp.keep (k : Keep g g') : ∀ (p : PV) (v : V), Rp K g.H g.F p v → Rp K g'.H g'.F p v
  | .non, v, h => h
  | .bl _, v, h => h
  | .int _, v, h => h
  | .str _, v, h => h
  | .tup xs, v, ⟨a, vs, e, q, r⟩ => ⟨a, vs, e, SqT.keep k q, RpL.keep k xs vs r⟩
  | .lst xs, v, ⟨a, vs, e, q, r⟩ => ⟨a, vs, e, ⟨k.keep _ _ q.1 (.inl q.2), k.fz _ q.2⟩, RpL.keep k xs vs r⟩
  | .scr ns, v, ⟨a, e, q⟩ => ⟨a, e, Scr.keep k q⟩
  | .dct kvs, v, ⟨a, e, f, q⟩ => ⟨a, e, k.fz _ f, q.elim (fun ⟨l, h, r⟩ => .inl ⟨l, k.keep _ _ h (.inl f), RpK.keep k kvs l r⟩) fun ⟨l, h, r⟩ => .inr ⟨l, k.keep _ _ h (.inl f), RpT.keep k kvs l r⟩⟩
theorem RpL.keep (k : Keep g g') : ∀ (ps : List PV) (vs : List V), RpL K g.H g.F ps vs → RpL K g'.H g'.F ps vs
  | [], _, h => h
  | p :: ps, _, ⟨v, r, e, a, b⟩ => ⟨v, r, e, Rp.keep k p v a, RpL.keep k ps r b⟩
theorem RpK.keep (k : Keep g g') : ∀ (ps : List (PV × PV)) (l : List (Key × V)), RpK K g.H g.F ps l → RpK K g'.H g'.F ps l
  | [], _, h => h
  | (x, p) :: ps, _, ⟨j, v, r, e, t, a, b⟩ => ⟨j, v, r, e, t, Rp.keep k p v a, RpK.keep k ps r b⟩
theorem RpT.keep (k : Keep g g') : ∀ (ps : List (PV × PV)) (l : List (List Key × V)), RpT K g.H g.F ps l → RpT K g'.H g'.F ps l
  | [], _, h => h
  | (x, p) :: ps, _, ⟨j, v, r, e, t, a, b⟩ => ⟨j, v, r, e, t, Rp.keep k p v a, RpT.keep k ps r b⟩
end
/-- a list or dict whose own object stays -/
theorem At.keep' (k : Keep g g') {p : PV} {a : Addr} (n : g'.H a = g.H a) (h : At K g.H g.F p a) : At K g'.H g'.F p a := by
  cases p with
  | lst xs => obtain ⟨vs, e, r⟩ := h; exact ⟨vs, n.trans e, RpL.keep k xs vs r⟩
  | dct kvs =>
    rcases h with ⟨l, e, r⟩ | ⟨l, e, r⟩
    · exact .inl ⟨l, n.trans e, RpK.keep k kvs l r⟩
    · exact .inr ⟨l, n.trans e, RpT.keep k kvs l r⟩
  | _ => exact False.elim h
theorem NeL.keep (k : Keep g g') (ea : ∀ (n : Nat) (a : Addr), g.A[n]? = some a → g'.A[n]? = some a) : ∀ (es : List NE) (vs : List V), NeL K g es vs → NeL K g' es vs
  | [], _, h => h
  | .pv p :: es, _, ⟨v, r, e, a, b⟩ => ⟨v, r, e, Rp.keep k p v a, NeL.keep k ea es r b⟩
  | .cl n :: es, _, ⟨a, r, e, h, b⟩ => ⟨a, r, e, ea n a h, NeL.keep k ea es r b⟩
/-- a cell whose own object stays -/
theorem CellOk.keep (k : Keep g g') (ea : ∀ (n : Nat) (a : Addr), g.A[n]? = some a → g'.A[n]? = some a) {a : Addr} {c : Cell} (hH : mutC c = true → g'.H a = g.H a) (hF : mutC c = true → g'.F a → g.F a) (h : CellOk K g a c) : CellOk K g' a c := by
  cases c with
  | live v => exact ⟨h.1.keep' k (hH rfl), fun z => h.2 (hF rfl z)⟩
  | froz v => exact Rp.keep k _ _ h
  | nest es => obtain ⟨⟨vs, e, r⟩, f⟩ := h; exact ⟨⟨vs, (hH rfl).trans e, NeL.keep k ea es vs r⟩, fun z => f (hF rfl z)⟩
theorem CellOk.ex {a : Addr} {c : Cell} (h : CellOk K g a c) (m : mutC c = true) : ∃ x, g.H a = some x := by
  rcases h.muta m with ⟨_, e⟩ | ⟨_, e⟩ | ⟨_, e⟩ <;> exact ⟨_, e⟩
end
/-- of a name, of a result -/
def Rs (K : Frag) (g : G) : SV → V → Prop
  | .val p, v => Rp K g.H g.F p v
  | .ref n, v => ∃ a, v = .ref a ∧ g.A[n]? = some a
def Rr (K : Frag) (g0 g : G) : RV → V → Prop
  | .val p, v => Rp K g.H g.F p v
  | .own p, v => ∃ a, v = .ref a ∧ At K g.H g.F p a ∧ ¬ g.F a ∧ a ∉ g.A ∧ g0.H a = none
  | .ref n, v => ∃ a, v = .ref a ∧ g.A[n]? = some a
def SRe (K : Frag) (g : G) (ρ : Env) (σ : St) : Prop := ρ.length = σ.length ∧ ∀ (i : Nat) (sv : SV), ρ[i]? = some (some sv) → ∃ v, σ[i]? = some (some v) ∧ Rs K g sv v
section
variable {K : Frag} {g g' g0 : G} {ρ : Env} {σ : St}
theorem Rs.step (s : SRc K g) (k : Stp g g') {sv : SV} {v : V} (h : Rs K g sv v) : Rs K g' sv v := by
  cases sv with
  | val p => exact Rp.keep (k.k s) p v h
  | ref n => obtain ⟨a, e, h⟩ := h; exact ⟨a, e, k.ext n a h⟩
theorem Rr.step (s : SRc K g) (k : Stp g g') {r : RV} {v : V} (h : Rr K g0 g r v) : Rr K g0 g' r v := by
  cases r with
  | val p => exact Rp.keep (k.k s) p v h
  | own p =>
    obtain ⟨a, e, h, f, n, z⟩ := h
    have nl : ¬ Lv g a := fun q => n q.mem
    obtain ⟨x, hx⟩ := h.ex
    refine ⟨a, e, h.keep' (k.k s) ((k.keep a x hx nl).trans hx.symm), fun q => ?_, fun q => ?_, z⟩
    · rcases k.fz' a q with q | q | q
      · exact f q
      · exact nl q
      · rw [hx] at q; cases q
    · rcases k.newA a q with q | q
      · exact n q
      · rw [hx] at q; cases q
  | ref n => obtain ⟨a, e, h⟩ := h; exact ⟨a, e, k.ext n a h⟩
theorem Rr.from (k : Stp g0 g) {r : RV} {v : V} (h : Rr K g g' r v) : Rr K g0 g' r v := by
  cases r with
  | val p => exact h
  | own p => obtain ⟨a, e, h, f, n, z⟩ := h; exact ⟨a, e, h, f, n, k.absent z⟩
  | ref n => exact h
theorem SRe.step (s : SRc K g) (k : Stp g g') (h : SRe K g ρ σ) : SRe K g' ρ σ := ⟨h.1, fun i sv e => let ⟨v, h1, h2⟩ := h.2 i sv e; ⟨v, h1, h2.step s k⟩⟩
end
/-- how an exception is wished for: class number, its value, where one stands -/
abbrev XW := Nat → PV → G → Prop
/-- what is wanted of a run from the store S, seen from g -/
def WG {α : Type} (K : Frag) (W : XW) (g : G) (S : Sto) (m : M α) (Q : α → G → Prop) : Prop := match m S with
  | .ok a S' => ∀ g', g'.S = S' → Stp g g' → SRc K g' → Q a g'
  | .exc c v S' => ∀ g', g'.S = S' → Stp g g' → SRc K g' → W c v g'
  | .stuck => False
section
variable {α β : Type} {K : Frag} {W : XW} {g g1 : G} {S : Sto} {m : M α} {f : α → M β} {Q Q' : α → G → Prop} {R : β → G → Prop}
theorem WG.bd (h : WG K W g g1.S (Pf.bd m f) R) (st : Stp g g1) : WG K W g1 g1.S m fun a g2 => WG K W g g2.S (f a) R := by
  unfold WG at h ⊢
  unfold Pf.bd at h
  cases e : m g1.S with
  | stuck => rw [e] at h; exact h
  | exc c v S' => rw [e] at h; exact fun g' h1 h2 h3 => h g' h1 (st.trans h2) h3
  | ok a S' =>
    rw [e] at h
    intro g2 hS st2 sr
    subst hS
    exact h
theorem WG.bd0 (h : WG K W g g.S (Pf.bd m f) R) : WG K W g g.S m fun a g2 => WG K W g g2.S (f a) R := WG.bd h (Stp.refl g)
theorem WG.mono (h : WG K W g S m Q) (q : ∀ a g', Stp g g' → SRc K g' → Q a g' → Q' a g') : WG K W g S m Q' := by
  unfold WG at h ⊢
  split
  · next e => rw [e] at h; exact fun g' h1 h2 h3 => q _ _ h2 h3 (h g' h1 h2 h3)
  · next e => rw [e] at h; exact h
  · next e => rw [e] at h; exact h
theorem WG.ret {a : α} (h : WG K W g S (ret a) Q) {g' : G} (hS : g'.S = S) (st : Stp g g') (sr : SRc K g') : Q a g' := h g' hS st sr
/-- a run that is known -/
theorem WG.at {S' : Sto} {a : α} (h : WG K W g S m Q) (e : m S = .ok a S') {g' : G} (hS : g'.S = S') (st : Stp g g') (sr : SRc K g') : Q a g' := by
  unfold WG at h
  rw [e] at h
  exact h g' hS st sr
end
end Pf
end
section
set_option Elab.async false
set_option linter.all false
set_option maxHeartbeats 1000000
set_option autoImplicit false
namespace Pf
open PySem PySem.Spec L2
abbrev Den := Env → M RV
abbrev WS := L2.St → XW
/-- what a result is now -/
def peek : RV → Sto → Option PV
  | .val p, _ => some p
  | .own p, _ => some p
  | .ref n, S => match S[n]? with
    | some (.live p) => some p
    | some (.froz p) => some p
    | _ => none
def run1 (f : PV → Option RV) (r : RV) : M RV := fun S => match peek r S with
  | some p => (match f p with | some x => .ok x S | none => .stuck)
  | none => .stuck
def run2 (f : PV → PV → Option RV) (r q : RV) : M RV := fun S => match peek r S with
  | some p => (match peek q S with
    | some p' => (match f p p' with | some x => .ok x S | none => .stuck)
    | none => .stuck)
  | none => .stuck
def peeks : List RV → Sto → Option (List PV)
  | [], _ => some []
  | r :: rs, S => match peek r S with
    | some p => (match peeks rs S with | some ps => some (p :: ps) | none => none)
    | none => none
def runN (f : List PV → Option RV) (rs : List RV) : M RV := fun S => match peeks rs S with
  | some ps => (match f ps with | some x => .ok x S | none => .stuck)
  | none => .stuck
def isOwn : RV → Bool
  | .own _ => true
  | _ => false
/-- new objects are each another one -/
def ODist : List RV → List V → Prop
  | r :: rs, v :: vs => (isOwn r = true → ∀ (i : Nat) (r' : RV), rs[i]? = some r' → isOwn r' = true → vs[i]? ≠ some v) ∧ ODist rs vs
  | _, _ => True
def RrP (K : Frag) (g0 g : G) : List RV → List V → Prop := Paired (Rr K g0 g)
def RrL (K : Frag) (g0 g : G) (rs : List RV) (vs : List V) : Prop := RrP K g0 g rs vs ∧ ODist rs vs
def RpWs (K : Frag) (H : Hp) (F : Addr → Prop) : List PV → List V → Prop := Paired (RpW K H F)
section
variable {K : Frag} {g g' g0 : G} {W : XW} {α β : Type}
theorem Rp.w {H : Hp} {F : Addr → Prop} {p : PV} {v : V} (h : Rp K H F p v) : RpW K H F p v := by
  cases p with
  | lst xs => obtain ⟨a, vs, e, q, r⟩ := h; exact ⟨a, vs, e, q.1, r⟩
  | dct kvs => obtain ⟨a, e, f, q⟩ := h; exact ⟨a, e, q⟩
  | _ => exact h
theorem At.w {H : Hp} {F : Addr → Prop} {p : PV} {a : Addr} (h : At K H F p a) : RpW K H F p (.ref a) := by
  cases p with
  | lst xs => obtain ⟨vs, e, r⟩ := h; exact ⟨a, vs, rfl, e, r⟩
  | dct kvs => exact ⟨a, rfl, h⟩
  | _ => exact False.elim h
theorem Rr.peek {r : RV} {v : V} {p : PV} (s : SRc K g) (h : Rr K g0 g r v) (e : peek r g.S = some p) : RpW K g.H g.F p v := by
  cases r with
  | val q => cases e; exact Rp.w h
  | own q => cases e; obtain ⟨a, rfl, h, _⟩ := h; exact h.w
  | ref n =>
    obtain ⟨a, rfl, h⟩ := h
    cases hq : g.S[n]? with
    | none => simp only [Pf.peek, hq] at e; cases e
    | some c =>
      have k := s.cell n a c h hq
      cases c with
      | live q => simp only [Pf.peek, hq] at e; cases e; exact At.w k.1
      | froz q => simp only [Pf.peek, hq] at e; cases e; exact Rp.w k
      | nest es => simp only [Pf.peek, hq] at e; cases e
theorem RrP.step (s : SRc K g) (k : Stp g g') : ∀ {rs : List RV} {vs : List V}, RrP K g0 g rs vs → RrP K g0 g' rs vs
  | _, _, .nil => .nil
  | _, _, .cons a b => .cons (a.step s k) (RrP.step s k b)
theorem RrP.from (k : Stp g0 g) : ∀ {rs : List RV} {vs : List V}, RrP K g g' rs vs → RrP K g0 g' rs vs
  | _, _, .nil => .nil
  | _, _, .cons a b => .cons (a.from k) (RrP.from k b)
theorem RrP.peeks (s : SRc K g) : ∀ {rs : List RV} {vs : List V} {ps : List PV}, RrP K g0 g rs vs → peeks rs g.S = some ps → RpWs K g.H g.F ps vs
  | _, _, _, .nil, e => by cases e; exact .nil
  | _, _, _, .cons a b, e => by
    unfold Pf.peeks at e
    split at e
    · next p hp =>
      split at e
      · next ps hps => cases e; exact .cons (a.peek s hp) (RrP.peeks s b hps)
      · cases e
    · cases e
theorem RrP.own : ∀ {rs : List RV} {vs : List V} {i : Nat} {r : RV} {v : V}, RrP K g0 g rs vs → rs[i]? = some r → isOwn r = true → vs[i]? = some v → ∃ a, v = .ref a ∧ g0.H a = none
  | _, _, i, r, v, .nil, h, _, _ => by simp at h
  | r0 :: _, _, 0, r, v, .cons a b, h, o, h2 => by
    simp at h h2
    subst h h2
    cases r0 with
    | own p => obtain ⟨x, e, _, _, _, z⟩ := a; exact ⟨x, e, z⟩
    | val p => simp [isOwn] at o
    | ref n => simp [isOwn] at o
  | _ :: _, _, i + 1, r, v, .cons a b, h, o, h2 => RrP.own (i := i) b (by simpa using h) o (by simpa using h2)
theorem RrL.step (s : SRc K g) (k : Stp g g') {rs : List RV} {vs : List V} (h : RrL K g0 g rs vs) : RrL K g0 g' rs vs := ⟨h.1.step s k, h.2⟩
theorem RrL.from (k : Stp g0 g) {rs : List RV} {vs : List V} (h : RrL K g g' rs vs) : RrL K g0 g' rs vs := ⟨RrP.from k h.1, h.2⟩
theorem RrL.peeks (s : SRc K g) {rs : List RV} {vs : List V} {ps : List PV} (h : RrL K g0 g rs vs) (e : peeks rs g.S = some ps) : RpWs K g.H g.F ps vs := h.1.peeks s e
theorem WG.run1 {S : Sto} {f : PV → Option RV} {r : RV} {Q : RV → G → Prop} (h : WG K W g S (run1 f r) Q) : ∃ p x, peek r S = some p ∧ f p = some x ∧ ∀ g', g'.S = S → Stp g g' → SRc K g' → Q x g' := by
  unfold WG Pf.run1 at h
  cases e : Pf.peek r S with
  | none => simp only [e] at h
  | some p =>
    cases e2 : f p with
    | none => simp only [e, e2] at h
    | some x => simp only [e, e2] at h; exact ⟨p, x, rfl, e2, h⟩
theorem WG.run2 {S : Sto} {f : PV → PV → Option RV} {r q : RV} {Q : RV → G → Prop} (h : WG K W g S (run2 f r q) Q) :
    ∃ p p' x, peek r S = some p ∧ peek q S = some p' ∧ f p p' = some x ∧ ∀ g', g'.S = S → Stp g g' → SRc K g' → Q x g' := by
  unfold WG Pf.run2 at h
  cases e : Pf.peek r S with
  | none => simp only [e] at h
  | some p =>
    cases e1 : Pf.peek q S with
    | none => simp only [e, e1] at h
    | some p' =>
      cases e2 : f p p' with
      | none => simp only [e, e1, e2] at h
      | some x => simp only [e, e1, e2] at h; exact ⟨p, p', x, rfl, rfl, e2, h⟩
theorem WG.runN {S : Sto} {f : List PV → Option RV} {rs : List RV} {Q : RV → G → Prop} (h : WG K W g S (runN f rs) Q) : ∃ ps x, peeks rs S = some ps ∧ f ps = some x ∧ ∀ g', g'.S = S → Stp g g' → SRc K g' → Q x g' := by
  unfold WG Pf.runN at h
  cases e : Pf.peeks rs S with
  | none => simp only [e] at h
  | some p =>
    cases e2 : f p with
    | none => simp only [e, e2] at h
    | some x => simp only [e, e2] at h; exact ⟨p, x, rfl, e2, h⟩
end
/-! readings -/
def tD (K : Frag) (W : WS) (d : Den) : TE := fun σ H Q => ∃ ρ g, g.H = H ∧ SRc K g ∧ SRe K g ρ σ ∧ WG K (W σ) g g.S (d ρ) fun r g' => ∀ v, Rr K g g' r v → Q v g'.H
def evAll : List Den → Env → M (List RV)
  | [], _ => ret []
  | d :: ds, ρ => bd (d ρ) fun r => bd (evAll ds ρ) fun rs => ret (r :: rs)
def tDs (K : Frag) (W : WS) (ds : List Den) : TA := fun σ H Q => ∃ ρ g, g.H = H ∧ SRc K g ∧ SRe K g ρ σ ∧ WG K (W σ) g g.S (evAll ds ρ) fun rs g' => ∀ vs, RrL K g g' rs vs → Q vs g'.H
theorem peW {X : Cx} {e : Expr} {t t' : TE} (h : PE X e t) (w : ∀ σ H Q, t' σ H Q → t σ H Q) : PE X e t' := ⟨fun pins s σ H Q I q => h.run pins s σ H Q I (w σ H Q q)⟩
theorem paW {X : Cx} {es : List Expr} {t t' : TA} (h : PA X es t) (w : ∀ σ H Q, t' σ H Q → t σ H Q) : PA X es t' := ⟨fun pos pins s σ H Q I q => h.run pos pins s σ H Q I (w σ H Q q)⟩
/-- an expression, then the rest -/
theorem tD.bd {K : Frag} {W : WS} {d : Den} {σ : L2.St} {g0 g : G} {ρ : Env} {β : Type} {f : RV → M β} {R : β → G → Prop} {Q : VK} (st0 : Stp g0 g) (sr : SRc K g) (se : SRe K g ρ σ) (h : WG K (W σ) g0 g.S (bd (d ρ) f) R)
    (q : ∀ r g1 v, Stp g g1 → Stp g0 g1 → SRc K g1 → SRe K g1 ρ σ → Rr K g0 g1 r v → WG K (W σ) g0 g1.S (f r) R → Q v g1.H) : tD K W d σ g.H Q :=
  ⟨ρ, g, rfl, sr, se, (h.bd st0).mono fun r g1 st sr1 h1 v hv => q r g1 v st (st0.trans st) sr1 (se.step sr st) (hv.from st0) h1⟩
theorem tDs.bd {K : Frag} {W : WS} {ds : List Den} {σ : L2.St} {g0 g : G} {ρ : Env} {β : Type} {f : List RV → M β} {R : β → G → Prop} {Q : List V → Hp → Prop} (st0 : Stp g0 g) (sr : SRc K g) (se : SRe K g ρ σ) (h : WG K (W σ) g0 g.S (bd (evAll ds ρ) f) R)
    (q : ∀ rs g1 vs, Stp g g1 → Stp g0 g1 → SRc K g1 → SRe K g1 ρ σ → RrL K g g1 rs vs → WG K (W σ) g0 g1.S (f rs) R → Q vs g1.H) : tDs K W ds σ g.H Q :=
  ⟨ρ, g, rfl, sr, se, (h.bd st0).mono fun rs g1 st sr1 h1 vs hv => q rs g1 vs st (st0.trans st) sr1 (se.step sr st) hv h1⟩
section
variable {X : Cx} {W : WS}
theorem pa_d0 : PA X [] (tDs X.K W []) := paW pa_nil fun σ H Q ⟨ρ, g, e, sr, se, h⟩ => by
  subst e
  exact h.ret rfl (Stp.refl g) sr [] ⟨.nil, trivial⟩
theorem pa_d1 {e : Expr} {es : List Expr} {d : Den} {ds : List Den} (h1 : PE X e (tD X.K W d)) (h2 : PA X es (tDs X.K W ds)) (hs : starEach (e :: es) X.env = (false, eval e X.env) :: starEach es X.env := by rfl) : PA X (e :: es) (tDs X.K W (d :: ds)) :=
  paW (pa_cons h1 h2 hs) fun σ H Q ⟨ρ, g, e, sr, se, h⟩ => by
    subst e
    refine tD.bd (Stp.refl g) sr se h fun r g1 v st _ sr1 se1 hv h1 => ?_
    refine tDs.bd st sr1 se1 h1 fun rs g2 vs st2 st02 sr2 se2 hvs h2 => ?_
    refine h2.ret rfl st02 sr2 (v :: vs) ⟨.cons (hv.step sr1 st2) (hvs.from st).1, fun o i r' e1 e2 e3 => ?_, hvs.2⟩
    obtain ⟨a, e4, z⟩ := hvs.1.own e1 e2 e3
    cases r <;> simp [isOwn] at o
    obtain ⟨b, e5, hb, _⟩ := hv
    obtain ⟨y, hy⟩ := hb.ex
    rw [e4] at e5
    cases e5
    rw [z] at hy; cases hy
/-! operations by values -/
def rOp (K : Frag) (f : PV → PV → Option RV) : R2 := fun x y H Q => ∃ g p q r, g.H = H ∧ SRc K g ∧ RpW K g.H g.F p x ∧ RpW K g.H g.F q y ∧ f p q = some r ∧ ∀ g' v, g'.S = g.S → Stp g g' → SRc K g' → Rr K g g' r v → Q v g'.H
def rUn (K : Frag) (f : PV → Option RV) : V → Hp → VK → Prop := fun x H Q => ∃ g p r, g.H = H ∧ SRc K g ∧ RpW K g.H g.F p x ∧ f p = some r ∧ ∀ g' v, g'.S = g.S → Stp g g' → SRc K g' → Rr K g g' r v → Q v g'.H
def rCl (K : Frag) (f : List PV → Option RV) : List V → Hp → VK → Prop := fun xs H Q => ∃ g ps r, g.H = H ∧ SRc K g ∧ RpWs K g.H g.F ps xs ∧ f ps = some r ∧ ∀ g' v, g'.S = g.S → Stp g g' → SRc K g' → Rr K g g' r v → Q v g'.H
def dBin (f : PV → PV → Option RV) (a b : Den) : Den := fun ρ => bd (a ρ) fun r => bd (b ρ) fun q => run2 f r q
def dUn (f : PV → Option RV) (a : Den) : Den := fun ρ => bd (a ρ) fun r => run1 f r
def dCl (f : List PV → Option RV) (ds : List Den) : Den := fun ρ => bd (evAll ds ρ) fun rs => runN f rs
variable {a b : Expr} {es : List Expr} {da db : Den} {ds : List Den} {pos : Pos} {f : PV → PV → Option RV} {f1 : PV → Option RV} {fn : List PV → Option RV}
theorem tOp_of {K : Frag} {σ : L2.St} {H : Hp} {Q : VK} (h : tD K W (dBin f da db) σ H Q) : tOp (rOp K f) (tD K W da) (tD K W db) σ H Q := by
  obtain ⟨ρ, g, e, sr, se, h⟩ := h
  subst e
  refine tD.bd (Stp.refl g) sr se h fun r g1 v st _ sr1 se1 hv h1 => ?_
  refine tD.bd st sr1 se1 h1 fun q g2 v2 st2 st02 sr2 se2 hv2 h2 => ?_
  obtain ⟨p, p', x, e1, e2, e3, k⟩ := h2.run2
  exact ⟨g2, p, p', x, rfl, sr2, (hv.step sr1 st2).peek sr2 e1, hv2.peek sr2 e2, e3, fun g' v' hS st' sr' hr => k g' hS (st02.trans st') sr' v' (hr.from st02)⟩
theorem tUn_of {K : Frag} {σ : L2.St} {H : Hp} {Q : VK} (h : tD K W (dUn f1 da) σ H Q) : tUn (rUn K f1) (tD K W da) σ H Q := by
  obtain ⟨ρ, g, e, sr, se, h⟩ := h
  subst e
  refine tD.bd (Stp.refl g) sr se h fun r g1 v st _ sr1 se1 hv h1 => ?_
  obtain ⟨p, x, e1, e3, k⟩ := h1.run1
  exact ⟨g1, p, x, rfl, sr1, hv.peek sr1 e1, e3, fun g' v' hS st' sr' hr => k g' hS (st.trans st') sr' v' (hr.from st)⟩
theorem tCl_of {K : Frag} {σ : L2.St} {H : Hp} {Q : VK} (h : tD K W (dCl fn ds) σ H Q) : tCB (rCl K fn) (tDs K W ds) σ H Q := by
  obtain ⟨ρ, g, e, sr, se, h⟩ := h
  subst e
  refine tDs.bd (Stp.refl g) sr se h fun rs g1 vs st _ sr1 se1 hvs h1 => ?_
  obtain ⟨ps, x, e1, e3, k⟩ := h1.runN
  exact ⟨g1, ps, x, rfl, sr1, hvs.peeks sr1 e1, e3, fun g' v' hS st' sr' hr => k g' hS (st.trans st') sr' v' (hr.from st)⟩
theorem pe_dbin {op : Operator} (ho : OpR X (binaryOp op) (rOp X.K f)) (ha : PE X a (tD X.K W da)) (hb : PE X b (tD X.K W db)) : PE X (.BinOp a op b pos) (tD X.K W (dBin f da db)) :=
  peW (pe_op ho ha hb) fun _ _ _ h => tOp_of h
theorem pe_dcmp {op : CmpOp} (ho : OpR X (compareOp op) (rOp X.K f)) (ha : PE X a (tD X.K W da)) (hb : PE X b (tD X.K W db)) (hm : behindInMarks op b = false) : PE X (.Compare a [op] [b] pos) (tD X.K W (dBin f da db)) :=
  peW (pe_cmpR ho ha hb hm) fun _ _ _ h => tOp_of h
theorem pe_dun {op : UnaryOp} (ho : UnR X (unaryOp op) (rUn X.K f1)) (ha : PE X a (tD X.K W da)) : PE X (.UnaryOp op a pos) (tD X.K W (dUn f1 da)) :=
  peW (pe_un ho ha) fun _ _ _ h => tUn_of h
end
end Pf
end
section
set_option Elab.async false
set_option linter.all false
set_option maxHeartbeats 1000000
set_option autoImplicit false
namespace Pf
open PySem PySem.Spec L2
abbrev G.put (g : G) (p : Addr) (o : HO) : G := { g with H := upd g.H p o }
section
variable {K : Frag} {g g0 : G} {p : Addr} {o : HO} {X : Cx}
theorem ne_new {b : Addr} {x : HO} (h : g.H p = none) (e : g.H b = some x) : b ≠ p := fun z => by rw [z, h] at e; cases e
theorem Stp.put (h : g.H p = none) : Stp g (g.put p o) where
  keep := fun b x e _ => by show upd _ _ _ _ = _; rw [upd_ne (ne_new h e)]; exact e
  dom := fun b x e => ⟨x, by show upd _ _ _ _ = _; rw [upd_ne (ne_new h e)]; exact e⟩
  fz := fun _ h => h
  fz' := fun _ h => .inl h
  ext := fun _ _ h => h
  newA := fun _ h => .inl h
  new := fun _ h => .inl h
  pl := plS rfl
  ge := Nat.le_refl _
theorem SRc.put (s : SRc K g) (h : g.H p = none) : SRc K (g.put p o) where
  len := s.len
  nd := s.nd
  cell := fun n a c e1 e2 => by
    have k := s.cell n a c e1 e2
    obtain ⟨x, hx⟩ := s.dom a (List.mem_of_getElem? e1)
    have e : (g.put p o).H a = g.H a := upd_ne (ne_new h hx)
    exact k.keep ((Stp.put h).k s) (fun _ _ h => h) (fun _ => e) fun _ h => h
  dom := fun a m => let ⟨x, e⟩ := s.dom a m; (Stp.put h).dom a x e
  fd := fun a m => let ⟨x, e⟩ := s.fd a m; (Stp.put h).dom a x e
theorem newTup (s : SRc K g) (h : g.H p = none) {ps : List PV} {vs : List V} (r : RpL K g.H g.F ps vs) : Rr K g (g.put p (.tup vs)) (.val (.tup ps)) (.ref p) :=
  ⟨p, vs, rfl, .inl (.inl upd_same), RpL.keep ((Stp.put h).k s) ps vs r⟩
theorem newLst (s : SRc K g) (h : g.H p = none) {ps : List PV} {vs : List V} (r : RpL K g.H g.F ps vs) : Rr K g (g.put p (.lst vs)) (.own (.lst ps)) (.ref p) := by
  refine ⟨p, rfl, ⟨vs, upd_same, RpL.keep ((Stp.put h).k s) ps vs r⟩, fun f => ?_, fun m => ?_, h⟩
  · obtain ⟨x, e⟩ := s.fd p f; rw [h] at e; cases e
  · obtain ⟨x, e⟩ := s.dom p m; rw [h] at e; cases e
theorem RpL.len {H : Hp} {F : Addr → Prop} : ∀ {ps : List PV} {vs : List V}, RpL K H F ps vs → ps.length = vs.length
  | [], _, h => by have h : _ = [] := h; subst h; rfl
  | p :: ps, _, ⟨v, r, e, _, b⟩ => by rw [e, List.length_cons, List.length_cons, RpL.len b]
theorem RpL.app {H : Hp} {F : Addr → Prop} : ∀ {ps qs : List PV} {vs ws : List V}, RpL K H F ps vs → RpL K H F qs ws → RpL K H F (ps ++ qs) (vs ++ ws)
  | [], _, _, _, h, h' => by have h : _ = [] := h; subst h; exact h'
  | p :: ps, _, _, _, ⟨v, r, e, a, b⟩, h' => by rw [e]; exact ⟨v, r ++ _, rfl, a, RpL.app b h'⟩
theorem RpL.take {H : Hp} {F : Addr → Prop} : ∀ (n : Nat) {ps : List PV} {vs : List V}, RpL K H F ps vs → RpL K H F (ps.take n) (vs.take n)
  | 0, _, _, _ => rfl
  | n + 1, [], _, h => by have h : _ = [] := h; subst h; rfl
  | n + 1, p :: ps, _, ⟨v, r, e, a, b⟩ => by rw [e]; exact ⟨v, _, rfl, a, RpL.take n b⟩
theorem RpL.drop {H : Hp} {F : Addr → Prop} : ∀ (n : Nat) {ps : List PV} {vs : List V}, RpL K H F ps vs → RpL K H F (ps.drop n) (vs.drop n)
  | 0, _, _, h => h
  | n + 1, [], _, h => by have h : _ = [] := h; subst h; rfl
  | n + 1, p :: ps, _, ⟨v, r, e, a, b⟩ => by rw [e]; exact RpL.drop n b
theorem RpL.get {H : Hp} {F : Addr → Prop} : ∀ {i : Nat} {ps : List PV} {vs : List V} {p : PV}, RpL K H F ps vs → ps[i]? = some p → ∃ v, vs[i]? = some v ∧ Rp K H F p v
  | _, [], _, _, _, e => by simp at e
  | 0, q :: ps, _, p, ⟨v, r, e, a, b⟩, h => by
    have : q = p := by simpa using h
    subst this; subst e; exact ⟨v, rfl, a⟩
  | i + 1, q :: ps, _, p, ⟨v, r, e, a, b⟩, h => by
    subst e
    obtain ⟨w, h1, h2⟩ := RpL.get (i := i) b (by simpa using h)
    exact ⟨w, by simpa using h1, h2⟩
theorem RpL.rep {H : Hp} {F : Addr → Prop} {ps : List PV} {vs : List V} (h : RpL K H F ps vs) : ∀ n : Nat, RpL K H F (List.replicate n ps).flatten (List.replicate n vs).flatten
  | 0 => rfl
  | n + 1 => by rw [List.replicate_succ, List.replicate_succ, List.flatten_cons, List.flatten_cons]; exact h.app (RpL.rep h n)
/-! ### the operations -/
def bAdd : PV → PV → Option RV
  | .int i, .int j => some (.val (.int (i + j)))
  | .str a, .str b => if a.length + b.length ≤ sizeLine then some (.val (.str (a ++ b))) else none
  | .tup xs, .tup ys => if xs.length + ys.length ≤ sizeLine then some (.val (.tup (xs ++ ys))) else none
  | .lst xs, .lst ys => if xs.length + ys.length ≤ sizeLine then some (.own (.lst (xs ++ ys))) else none
  | _, _ => none
theorem o_add : OpR X (binaryOp .Add) (rOp X.K bAdd) := by
  intro pins s σ H x y v u Q I rx ry ⟨g, p, q, r, hH, sr, hp, hq, e, k⟩
  subst hH
  cases p <;> cases q <;> simp only [bAdd] at e <;> try cases e
  · exact op_add pins s σ _ x y v u Q I rx ry ⟨_, _, hp, hq, k g _ rfl (Stp.refl g) sr rfl⟩
  · split at e
    · next h => cases e; exact op_add_str pins s σ _ x y v u Q I rx ry ⟨_, _, hp, hq, h, k g _ rfl (Stp.refl g) sr rfl⟩
    · cases e
  · split at e
    · next xs ys h =>
      cases e
      obtain ⟨a, vs, rfl, ha, ra⟩ := hp
      obtain ⟨b, ws, rfl, hb, rb⟩ := hq
      refine op_catA pins s σ _ _ _ v u Q I rx ry ⟨a, b, vs, ws, rfl, rfl, ha, hb, by rw [← ra.len, ← rb.len]; exact h, fun z => ?_, fun _ z => ?_, fun _ _ p hp => ?_⟩
      · subst z
        refine k g _ rfl (Stp.refl g) sr ⟨b, ws, rfl, hb, ?_⟩
        exact RpL.app ra rb
      · subst z
        refine k g _ rfl (Stp.refl g) sr ⟨a, vs, rfl, ha, ?_⟩
        have q := RpL.app ra rb
        rwa [List.append_nil] at q
      · exact k (g.put p _) _ rfl (Stp.put hp) (sr.put hp) (newTup sr hp (ra.app rb))
    · cases e
  · split at e
    · next xs ys h =>
      cases e
      obtain ⟨a, vs, rfl, ha, ra⟩ := hp
      obtain ⟨b, ws, rfl, hb, rb⟩ := hq
      refine op_cat pins s σ _ _ _ v u Q I rx ry ⟨a, b, vs, ws, rfl, rfl, ha, hb, by rw [← ra.len, ← rb.len]; exact h, fun p hp => ?_⟩
      exact k (g.put p _) _ rfl (Stp.put hp) (sr.put hp) (newLst sr hp (ra.app rb))
    · cases e
def bSub : PV → PV → Option RV
  | .int i, .int j => some (.val (.int (i - j)))
  | _, _ => none
theorem o_sub : OpR X (binaryOp .Sub) (rOp X.K bSub) := by
  intro pins s σ H x y v u Q I rx ry ⟨g, p, q, r, hH, sr, hp, hq, e, k⟩
  subst hH
  cases p <;> cases q <;> simp only [bSub] at e <;> try cases e
  exact op_sub pins s σ _ x y v u Q I rx ry ⟨_, _, hp, hq, k g _ rfl (Stp.refl g) sr rfl⟩
def bMul : PV → PV → Option RV
  | .int i, .int j => if i.natAbs.log2 + j.natAbs.log2 < 1000000 then some (.val (.int (i * j))) else none
  | .lst xs, .int k => if xs.length * k.toNat ≤ sizeLine ∧ -(2 ^ 63) ≤ k ∧ k < 2 ^ 63 then some (.own (.lst (List.replicate k.toNat xs).flatten)) else none
  | .tup (x :: xs), .int k => if 2 ≤ k ∧ k ≤ 1000 ∧ xs.length < 1000 then some (.val (.tup (List.replicate k.toNat (x :: xs)).flatten)) else none
  | _, _ => none
theorem o_mul : OpR X (binaryOp .Mult) (rOp X.K bMul) := by
  intro pins s σ H x y v u Q I rx ry ⟨g, p, q, r, hH, sr, hp, hq, e, k⟩
  subst hH
  cases p with
  | int i =>
    cases q <;> simp only [bMul] at e <;> try cases e
    split at e
    · next h => cases e; exact op_mulW pins s σ _ x y v u Q I rx ry ⟨_, _, hp, hq, h, k g _ rfl (Stp.refl g) sr rfl⟩
    · cases e
  | lst xs =>
    cases q <;> simp only [bMul] at e <;> try cases e
    split at e
    · next h =>
      cases e
      obtain ⟨a, vs, rfl, ha, ra⟩ := hp
      have hq : y = _ := hq
      subst hq
      refine op_rep pins s σ _ _ _ v u Q I rx ry ⟨a, _, vs, rfl, rfl, ha, h.2.1, h.2.2, by rw [← ra.len]; exact h.1, fun p hp => ?_⟩
      exact k (g.put p _) _ rfl (Stp.put hp) (sr.put hp) (newLst sr hp (ra.rep _))
    · cases e
  | tup xs =>
    cases xs with
    | nil => cases q <;> simp only [bMul] at e <;> cases e
    | cons x0 xs =>
      cases q <;> simp only [bMul] at e <;> try cases e
      split at e
      · next h =>
        cases e
        obtain ⟨a, vs, rfl, ha, ra⟩ := hp
        have hq : y = _ := hq
        subst hq
        have hl := ra.len
        rw [List.length_cons] at hl
        refine op_repT pins s σ _ _ _ v u Q I rx ry ⟨a, _, vs, rfl, rfl, ha, (fun z => by rw [z] at hl; cases hl), h.1, h.2.1, by rw [← hl]; omega, fun p hp => ?_⟩
        exact k (g.put p _) _ rfl (Stp.put hp) (sr.put hp) (newTup sr hp (ra.rep _))
      · cases e
  | _ => cases q <;> simp only [bMul] at e <;> cases e
def bDiv : PV → PV → Option RV
  | .int i, .int j => if 0 < j ∧ j.natAbs.log2 < 9000 then some (.val (.int (i / j))) else if j < 0 ∧ j.natAbs < 1073741824 then some (.val (.int (i.fdiv j))) else none
  | _, _ => none
theorem o_div : OpR X (binaryOp .FloorDiv) (rOp X.K bDiv) := by
  intro pins s σ H x y v u Q I rx ry ⟨g, p, q, r, hH, sr, hp, hq, e, k⟩
  subst hH
  cases p <;> cases q <;> simp only [bDiv] at e <;> try cases e
  split at e
  · next h => cases e; exact op_fdivW pins s σ _ x y v u Q I rx ry ⟨_, _, hp, hq, h, k g _ rfl (Stp.refl g) sr rfl⟩
  · split at e
    · next h => cases e; exact op_fdivN pins s σ _ x y v u Q I rx ry ⟨_, _, hp, hq, ⟨by omega, h.2⟩, k g _ rfl (Stp.refl g) sr rfl⟩
    · cases e
def bMod : PV → PV → Option RV
  | .int i, .int j => if 0 < j then some (.val (.int (i % j))) else if j < 0 then some (.val (.int (i.fmod j))) else none
  | _, _ => none
theorem o_mod : OpR X (binaryOp .Mod) (rOp X.K bMod) := by
  intro pins s σ H x y v u Q I rx ry ⟨g, p, q, r, hH, sr, hp, hq, e, k⟩
  subst hH
  cases p <;> cases q <;> simp only [bMod] at e <;> try cases e
  split at e
  · next h => cases e; exact op_mod pins s σ _ x y v u Q I rx ry ⟨_, _, hp, hq, h, k g _ rfl (Stp.refl g) sr rfl⟩
  · split at e
    · next h => cases e; exact op_modN pins s σ _ x y v u Q I rx ry ⟨_, _, hp, hq, by omega, k g _ rfl (Stp.refl g) sr rfl⟩
    · cases e
def bPow : PV → PV → Option RV
  | .int i, .int j => if 0 ≤ j ∧ j ≤ 1000 ∧ i.natAbs < 1000000 then some (.val (.int (i ^ j.toNat))) else none
  | _, _ => none
theorem o_pow : OpR X (binaryOp .Pow) (rOp X.K bPow) := by
  intro pins s σ H x y v u Q I rx ry ⟨g, p, q, r, hH, sr, hp, hq, e, k⟩
  subst hH
  cases p <;> cases q <;> simp only [bPow] at e <;> try cases e
  split at e
  · next h => cases e; exact op_pow pins s σ _ x y v u Q I rx ry ⟨_, _, hp, hq, ⟨h.1, by omega, by omega⟩, k g _ rfl (Stp.refl g) sr rfl⟩
  · cases e
end
end Pf
end
section
set_option Elab.async false
set_option linter.all false
set_option maxHeartbeats 1000000
set_option autoImplicit false
namespace Pf
open PySem PySem.Spec L2
/-- plain data without dicts, at most so deep -/
def dat : Nat → PV → Bool
  | _, .non | _, .bl _ | _, .int _ => true
  | _, .str s => s.cps.all (· < 0x110000)
  | n + 1, .tup xs | n + 1, .lst xs => xs.all (dat n)
  | _, _ => false
theorem dats_of : ∀ (n : Nat), (∀ p, dat n p = true → (toD p).canLay0 = true ∧ (toD p).depth ≤ n) → ∀ xs : List PV, xs.all (dat n) = true → PyData.canLayAll0 (toDs xs) = true ∧ PyData.depthAll (toDs xs) ≤ n
  | n, ih, [], _ => by simp [toDs, PyData.canLayAll0, PyData.depthAll]
  | n, ih, x :: xs, h => by
    rw [List.all_cons, Bool.and_eq_true] at h
    obtain ⟨a, b⟩ := ih x h.1
    obtain ⟨c, d⟩ := dats_of n ih xs h.2
    simp only [toDs, PyData.canLayAll0, PyData.depthAll, a, c, Bool.and_self, true_and]
    omega
theorem dat_of : ∀ (n : Nat) (p : PV), dat n p = true → (toD p).canLay0 = true ∧ (toD p).depth ≤ n
  | n, .non, _ => by simp [toD, PyData.canLay0, PyData.depth]
  | n, .bl _, _ => by simp [toD, PyData.canLay0, PyData.depth]
  | n, .int _, _ => by simp [toD, PyData.canLay0, PyData.depth]
  | n, .str s, h => by
    have h' : s.cps.all (· < 0x110000) = true := by cases n <;> exact h
    simp only [toD, PyData.canLay0, PyData.depth, Nat.zero_le, and_true]
    exact h'
  | 0, .tup _, h => by simp [dat] at h
  | 0, .lst _, h => by simp [dat] at h
  | 0, .dct _, h => by simp [dat] at h
  | 0, .scr _, h => by simp [dat] at h
  | n + 1, .dct _, h => by simp [dat] at h
  | n + 1, .scr _, h => by simp [dat] at h
  | n + 1, .tup xs, h => by
    obtain ⟨a, b⟩ := dats_of n (dat_of n) xs (by simpa [dat] using h)
    simp only [toD, PyData.canLay0, PyData.depth, a, true_and]
    omega
  | n + 1, .lst xs, h => by
    obtain ⟨a, b⟩ := dats_of n (dat_of n) xs (by simpa [dat] using h)
    simp only [toD, PyData.canLay0, PyData.depth, a, true_and]
    omega
theorem shaped_of {p : PV} (h : dat 60 p = true) : SeqAt.shaped (toD p) = true := by
  obtain ⟨a, b⟩ := dat_of 60 p h
  unfold SeqAt.shaped
  rw [a, Bool.true_and]
  exact decide_eq_true (by omega)
mutual
theorem Rp.dp {K : Frag} {H : Hp} {F : Addr → Prop} : ∀ (n : Nat) (p : PV) (v : V), dat n p = true → Rp K H F p v → Dp K H v (toD p)
  | n, .non, v, _, h => by have h : v = _ := h; subst h; exact .non
  | n, .bl b, v, _, h => by have h : v = _ := h; subst h; exact .bl b
  | n, .int i, v, _, h => by have h : v = _ := h; subst h; exact .int i
  | n, .str s, v, _, h => by have h : v = _ := h; subst h; exact .str s
  | 0, .tup _, _, h, _ => by simp [dat] at h
  | 0, .lst _, _, h, _ => by simp [dat] at h
  | 0, .dct _, _, h, _ => by simp [dat] at h
  | 0, .scr _, _, h, _ => by simp [dat] at h
  | n + 1, .dct _, _, h, _ => by simp [dat] at h
  | n + 1, .scr _, _, h, _ => by simp [dat] at h
  | n + 1, .tup xs, v, h, ⟨a, vs, e, q, r⟩ => by subst e; exact .tup q (RpL.dp n xs vs (by simpa [dat] using h) r)
  | n + 1, .lst xs, v, h, ⟨a, vs, e, q, r⟩ => by subst e; exact .lst (.inl (.inl q.1)) (RpL.dp n xs vs (by simpa [dat] using h) r)
theorem RpL.dp {K : Frag} {H : Hp} {F : Addr → Prop} : ∀ (n : Nat) (ps : List PV) (vs : List V), ps.all (dat n) = true → RpL K H F ps vs → DpAll K H vs (toDs ps)
  | n, [], vs, _, h => by have h : vs = _ := h; subst h; exact .nil
  | n, p :: ps, _, h, ⟨v, r, e, a, b⟩ => by
    subst e
    rw [List.all_cons, Bool.and_eq_true] at h
    exact .cons (Rp.dp n p v h.1 a) (RpL.dp n ps r h.2 b)
end
theorem RpW.dp {K : Frag} {H : Hp} {F : Addr → Prop} {n : Nat} {p : PV} {v : V} (d : dat n p = true) (h : RpW K H F p v) : Dp K H v (toD p) := by
  cases p with
  | lst xs =>
    obtain ⟨a, vs, rfl, e, r⟩ := h
    cases n with
    | zero => simp [dat] at d
    | succ n => exact .lst (.inl (.inl e)) (RpL.dp n xs vs (by simpa [dat] using d) r)
  | dct kvs => cases n <;> simp [dat] at d
  | _ => exact Rp.dp (F := F) n _ _ d h
/-- == of plain data -/
def eqv (p q : PV) : Bool := PyData.eqv (toD p) (toD q)
section
variable {K : Frag} {g g0 : G} {X : Cx}
def isS : PV → Bool
  | .str _ => true
  | _ => false
def bEq : PV → PV → Option RV := fun p q => if isS p && isS q then some (.val (.bl (eqv p q))) else if dat 60 p && dat 60 q then some (.val (.bl (eqv p q))) else none
def bNe : PV → PV → Option RV := fun p q => if isS p && isS q then some (.val (.bl (!eqv p q))) else if dat 60 p && dat 60 q then some (.val (.bl (!eqv p q))) else none
theorem eqv_str (a b : Str) : eqv (.str a) (.str b) = decide (V.str a = V.str b) := by
  rw [Bool.eq_iff_iff]
  simp [eqv, toD, PyData.eqv]
theorem o_eq (hu : X.A.units + 64 < cLine) : OpR X (compareOp .Eq) (rOp X.K bEq) := by
  intro pins s σ H x y v u Q I rx ry ⟨g, p, q, r, hH, sr, hp, hq, e, k⟩
  subst hH
  unfold bEq at e
  split at e
  · next h =>
    cases e
    cases p <;> cases q <;> simp only [isS, Bool.and_self, Bool.and_true, Bool.and_false, Bool.false_eq_true] at h
    next a b =>
    have hp : x = V.str a := hp
    have hq : y = V.str b := hq
    subst hp hq
    exact op_eq pins s σ _ _ _ v u Q I rx ry ⟨rfl, by rw [← eqv_str]; exact k g _ rfl (Stp.refl g) sr rfl⟩
  split at e
  · next h =>
    cases e
    rw [Bool.and_eq_true] at h
    exact op_eqD hu pins s σ _ x y v u Q I rx ry ⟨_, _, hp.dp h.1, hq.dp h.2, shaped_of h.1, shaped_of h.2, k g _ rfl (Stp.refl g) sr rfl⟩
  · cases e
theorem o_ne (hu : X.A.units + 64 < cLine) : OpR X (compareOp .NotEq) (rOp X.K bNe) := by
  intro pins s σ H x y v u Q I rx ry ⟨g, p, q, r, hH, sr, hp, hq, e, k⟩
  subst hH
  unfold bNe at e
  split at e
  · next h =>
    cases e
    cases p <;> cases q <;> simp only [isS, Bool.and_self, Bool.and_true, Bool.and_false, Bool.false_eq_true] at h
    next a b =>
    have hp : x = V.str a := hp
    have hq : y = V.str b := hq
    subst hp hq
    exact op_ne pins s σ _ _ _ v u Q I rx ry ⟨rfl, by rw [← eqv_str]; exact k g _ rfl (Stp.refl g) sr rfl⟩
  split at e
  · next h =>
    cases e
    rw [Bool.and_eq_true] at h
    exact op_neD hu pins s σ _ x y v u Q I rx ry ⟨_, _, hp.dp h.1, hq.dp h.2, shaped_of h.1, shaped_of h.2, k g _ rfl (Stp.refl g) sr rfl⟩
  · cases e
def bLt : PV → PV → Option RV
  | .int i, .int j => some (.val (.bl (decide (i < j))))
  | _, _ => none
def bLe : PV → PV → Option RV
  | .int i, .int j => some (.val (.bl (decide (i ≤ j))))
  | _, _ => none
def bGt : PV → PV → Option RV
  | .int i, .int j => some (.val (.bl (decide (j < i))))
  | _, _ => none
def bGe : PV → PV → Option RV
  | .int i, .int j => some (.val (.bl (decide (j ≤ i))))
  | _, _ => none
theorem o_lt : OpR X (compareOp .Lt) (rOp X.K bLt) := by
  intro pins s σ H x y v u Q I rx ry ⟨g, p, q, r, hH, sr, hp, hq, e, k⟩
  subst hH
  cases p <;> cases q <;> simp only [bLt] at e <;> try cases e
  exact op_lt pins s σ _ x y v u Q I rx ry ⟨_, _, hp, hq, k g _ rfl (Stp.refl g) sr rfl⟩
theorem o_le : OpR X (compareOp .LtE) (rOp X.K bLe) := by
  intro pins s σ H x y v u Q I rx ry ⟨g, p, q, r, hH, sr, hp, hq, e, k⟩
  subst hH
  cases p <;> cases q <;> simp only [bLe] at e <;> try cases e
  exact op_le pins s σ _ x y v u Q I rx ry ⟨_, _, hp, hq, k g _ rfl (Stp.refl g) sr rfl⟩
theorem o_gt : OpR X (compareOp .Gt) (rOp X.K bGt) := by
  intro pins s σ H x y v u Q I rx ry ⟨g, p, q, r, hH, sr, hp, hq, e, k⟩
  subst hH
  cases p <;> cases q <;> simp only [bGt] at e <;> try cases e
  exact op_gt pins s σ _ x y v u Q I rx ry ⟨_, _, hp, hq, k g _ rfl (Stp.refl g) sr rfl⟩
theorem o_ge : OpR X (compareOp .GtE) (rOp X.K bGe) := by
  intro pins s σ H x y v u Q I rx ry ⟨g, p, q, r, hH, sr, hp, hq, e, k⟩
  subst hH
  cases p <;> cases q <;> simp only [bGe] at e <;> try cases e
  exact op_ge pins s σ _ x y v u Q I rx ry ⟨_, _, hp, hq, k g _ rfl (Stp.refl g) sr rfl⟩
/-- is: of None, of two bools -/
def isNon : PV → Bool
  | .non => true
  | _ => false
def bIs : PV → PV → Option RV
  | p, .non => some (.val (.bl (isNon p)))
  | .bl a, .bl b => some (.val (.bl (decide (a = b))))
  | _, _ => none
def bIsN : PV → PV → Option RV
  | p, .non => some (.val (.bl (!isNon p)))
  | .bl a, .bl b => some (.val (.bl (!decide (a = b))))
  | _, _ => none
theorem isNon_of {H : Hp} {F : Addr → Prop} {p : PV} {v : V} (h : RpW K H F p v) : decide (v = .non) = isNon p := by
  cases p with
  | non => have h : v = _ := h; subst h; rfl
  | bl b => have h : v = _ := h; subst h; rfl
  | int b => have h : v = _ := h; subst h; rfl
  | str b => have h : v = _ := h; subst h; rfl
  | tup b => obtain ⟨a, vs, rfl, _⟩ := h; rfl
  | lst b => obtain ⟨a, vs, rfl, _⟩ := h; rfl
  | dct b => obtain ⟨a, rfl, _⟩ := h; rfl
  | scr b => obtain ⟨a, rfl, _⟩ := h; rfl
theorem o_is : OpR X (compareOp .Is) (rOp X.K bIs) := by
  intro pins s σ H x y v u Q I rx ry ⟨g, p, q, r, hH, sr, hp, hq, e, k⟩
  subst hH
  cases q with
  | non =>
    simp only [bIs] at e
    have hq : y = _ := hq
    subst hq
    refine op_isN pins s σ _ x _ v u Q I rx ry ⟨rfl, ?_⟩
    rw [isNon_of hp]
    cases e
    exact k g _ rfl (Stp.refl g) sr rfl
  | bl b =>
    cases p <;> simp only [bIs] at e <;> try cases e
    exact op_isBl pins s σ _ x y v u Q I rx ry ⟨_, _, hp, hq, k g _ rfl (Stp.refl g) sr rfl⟩
  | _ => cases p <;> simp only [bIs] at e <;> cases e
theorem o_isn : OpR X (compareOp .IsNot) (rOp X.K bIsN) := by
  intro pins s σ H x y v u Q I rx ry ⟨g, p, q, r, hH, sr, hp, hq, e, k⟩
  subst hH
  cases q with
  | non =>
    simp only [bIsN] at e
    have hq : y = _ := hq
    subst hq
    refine op_notN pins s σ _ x _ v u Q I rx ry ⟨rfl, ?_⟩
    rw [isNon_of hp]
    cases e
    exact k g _ rfl (Stp.refl g) sr rfl
  | bl b =>
    cases p <;> simp only [bIsN] at e <;> try cases e
    exact op_notBl pins s σ _ x y v u Q I rx ry ⟨_, _, hp, hq, k g _ rfl (Stp.refl g) sr rfl⟩
  | _ => cases p <;> simp only [bIsN] at e <;> cases e
/-- in: a list of data; a tuple of scalars; a sign or text in a text -/
def flat : PV → Bool
  | .non | .bl _ | .int _ | .str _ => true
  | _ => false
def inP (p : PV) (q : PV) : Option Bool := match q with
  | .lst xs => if flat p && xs.all flat then some (xs.any fun z => eqv z p) else if dat 50 p && xs.all (dat 50) then some (xs.any fun z => eqv z p) else none
  | .tup xs => if flat p && xs.all flat then some (xs.any fun z => eqv z p) else none
  | .str z => (match p with | .str y => some (!(Builtin.Str.occurrences z y 0 z.length 1).isEmpty) | _ => none)
  | _ => none
def bIn (p q : PV) : Option RV := (inP p q).map fun b => .val (.bl b)
def bNin (p q : PV) : Option RV := (inP p q).map fun b => .val (.bl (!b))
theorem dat_mono : ∀ (n m : Nat) (p : PV), n ≤ m → dat n p = true → dat m p = true
  | _, _, .non, _, _ => by simp [dat]
  | _, _, .bl _, _, _ => by simp [dat]
  | _, _, .int _, _, _ => by simp [dat]
  | n, m, .str s, _, h => by
    have h' : s.cps.all (· < 0x110000) = true := by cases n <;> exact h
    cases m <;> exact h'
  | 0, _, .tup _, _, h => by simp [dat] at h
  | 0, _, .lst _, _, h => by simp [dat] at h
  | 0, _, .dct _, _, h => by simp [dat] at h
  | 0, _, .scr _, _, h => by simp [dat] at h
  | n + 1, _, .dct _, _, h => by simp [dat] at h
  | n + 1, _, .scr _, _, h => by simp [dat] at h
  | n + 1, 0, _, l, _ => absurd l (by omega)
  | n + 1, m + 1, .tup xs, l, h => by
    simp only [dat, List.all_eq_true] at h ⊢
    exact fun x hx => dat_mono n m x (by omega) (h x hx)
  | n + 1, m + 1, .lst xs, l, h => by
    simp only [dat, List.all_eq_true] at h ⊢
    exact fun x hx => dat_mono n m x (by omega) (h x hx)
theorem flat_dp {H : Hp} {F : Addr → Prop} {p : PV} {v : V} (f : flat p = true) (h : RpW K H F p v) : flatV v = true := by
  cases p with
  | non => have h : v = _ := h; subst h; rfl
  | bl b => have h : v = _ := h; subst h; rfl
  | int b => have h : v = _ := h; subst h; rfl
  | str b => have h : v = _ := h; subst h; rfl
  | _ => simp [flat] at f
theorem flats_dp {H : Hp} {F : Addr → Prop} : ∀ {ps : List PV} {vs : List V}, ps.all flat = true → RpL K H F ps vs → vs.all flatV = true
  | [], _, _, h => by have h : _ = [] := h; subst h; rfl
  | p :: ps, _, f, ⟨v, r, e, a, b⟩ => by
    subst e
    rw [List.all_cons, Bool.and_eq_true] at f ⊢
    exact ⟨flat_dp f.1 a.w, flats_dp f.2 b⟩
theorem flat_eq {H : Hp} {F : Addr → Prop} {p q : PV} {v w : V} (f : flat p = true) (f' : flat q = true) (h : RpW K H F p v) (h' : RpW K H F q w) : eqV v w = eqv p q := by
  have one : ∀ {p : PV} {v : V}, flat p = true → RpW K H F p v → (p = .non ∧ v = .non) ∨ (∃ b, p = .bl b ∧ v = .bl b) ∨ (∃ b, p = .int b ∧ v = .int b) ∨ ∃ b, p = .str b ∧ v = .str b := fun {p v} f h => by
    cases p with
    | non => exact .inl ⟨rfl, h⟩
    | bl b => exact .inr (.inl ⟨b, rfl, h⟩)
    | int b => exact .inr (.inr (.inl ⟨b, rfl, h⟩))
    | str b => exact .inr (.inr (.inr ⟨b, rfl, h⟩))
    | _ => simp [flat] at f
  rcases one f h with ⟨rfl, rfl⟩ | ⟨b, rfl, rfl⟩ | ⟨b, rfl, rfl⟩ | ⟨b, rfl, rfl⟩ <;> rcases one f' h' with ⟨rfl, rfl⟩ | ⟨c, rfl, rfl⟩ | ⟨c, rfl, rfl⟩ | ⟨c, rfl, rfl⟩ <;>
    simp [eqv, toD, PyData.eqv, eqV]
theorem flat_in {H : Hp} {F : Addr → Prop} {q : PV} {w : V} (f' : flat q = true) (h' : RpW K H F q w) : ∀ {ps : List PV} {vs : List V}, ps.all flat = true → RpL K H F ps vs → inV w vs = ps.any fun z => eqv z q
  | [], _, _, h => by have h : _ = [] := h; subst h; rfl
  | p :: ps, _, f, ⟨v, r, e, a, b⟩ => by
    subst e
    rw [List.all_cons, Bool.and_eq_true] at f
    unfold inV
    rw [List.any_cons, List.any_cons, flat_eq f.1 f' a.w h']
    exact congrArg _ (flat_in f' h' f.2 b)
theorem any_toD (xs : List PV) (q : PV) : ((toDs xs).any fun z => PyData.eqv z (toD q)) = xs.any fun z => eqv z q := by
  induction xs with
  | nil => rfl
  | cons x xs ih => rw [toDs, List.any_cons, List.any_cons, ih]; rfl
theorem shapedL {xs : List PV} (h : xs.all (dat 50) = true) : SeqAt.shaped (.list (toDs xs)) = true := by
  have : dat 51 (.lst xs) = true := by simpa [dat] using h
  exact shaped_of (dat_mono 51 60 _ (by omega) this)
theorem o_in (hu : X.A.units + 65 < cLine) : OpR X (compareOp .In) (rOp X.K bIn) := by
  intro pins s σ H x y v u Q I rx ry ⟨g, p, q, r, hH, sr, hp, hq, e, k⟩
  subst hH
  unfold bIn at e
  cases eb : inP p q with
  | none => rw [eb] at e; cases e
  | some b =>
    rw [eb] at e
    cases e
    have fin : Q (.bl b) g.H := k g _ rfl (Stp.refl g) sr rfl
    cases q with
    | lst xs =>
      simp only [inP] at eb
      split at eb
      · next h =>
        cases eb
        rw [Bool.and_eq_true] at h
        obtain ⟨a, vs, rfl, ha, ra⟩ := hq
        exact op_in_seq pins s σ _ x _ v u Q I rx ry ⟨a, vs, rfl, .inl (.inl (.inl ha)), flat_dp h.1 hp, flats_dp h.2 ra, by rw [if_neg (by decide), flat_in h.1 hp h.2 ra]; exact fin⟩
      split at eb
      · next h =>
        cases eb
        rw [Bool.and_eq_true] at h
        have hd : Dp X.K g.H y (.list (toDs xs)) := RpW.dp (n := 51) (p := .lst xs) (by simpa [dat] using h.2) hq
        exact op_inD hu pins s σ _ x y v u Q I rx ry ⟨_, _, hp.dp h.1, hd, shaped_of (dat_mono 50 60 p (by omega) h.1), shapedL h.2, by rw [any_toD]; exact fin⟩
      · cases eb
    | tup xs =>
      simp only [inP] at eb
      split at eb
      · next h =>
        cases eb
        rw [Bool.and_eq_true] at h
        obtain ⟨a, vs, rfl, ha, ra⟩ := hq
        exact op_in_seq pins s σ _ x _ v u Q I rx ry ⟨a, vs, rfl, .inr ha, flat_dp h.1 hp, flats_dp h.2 ra, by rw [if_neg (by decide), flat_in h.1 hp h.2 ra]; exact fin⟩
      · cases eb
    | str z =>
      cases p <;> simp only [inP] at eb <;> cases eb
      exact op_in_str pins s σ _ x y v u Q I rx ry ⟨_, _, hp, hq, fin⟩
    | _ => simp only [inP] at eb; cases eb
theorem o_nin (hu : X.A.units + 65 < cLine) : OpR X (compareOp .NotIn) (rOp X.K bNin) := by
  intro pins s σ H x y v u Q I rx ry ⟨g, p, q, r, hH, sr, hp, hq, e, k⟩
  subst hH
  unfold bNin at e
  cases eb : inP p q with
  | none => rw [eb] at e; cases e
  | some b =>
    rw [eb] at e
    cases e
    have fin : Q (.bl (!b)) g.H := k g _ rfl (Stp.refl g) sr rfl
    cases q with
    | lst xs =>
      simp only [inP] at eb
      split at eb
      · next h =>
        cases eb
        rw [Bool.and_eq_true] at h
        obtain ⟨a, vs, rfl, ha, ra⟩ := hq
        exact op_notIn_seq pins s σ _ x _ v u Q I rx ry ⟨a, vs, rfl, .inl (.inl (.inl ha)), flat_dp h.1 hp, flats_dp h.2 ra, by rw [if_pos rfl, flat_in h.1 hp h.2 ra]; exact fin⟩
      split at eb
      · next h =>
        cases eb
        rw [Bool.and_eq_true] at h
        have hd : Dp X.K g.H y (.list (toDs xs)) := RpW.dp (n := 51) (p := .lst xs) (by simpa [dat] using h.2) hq
        exact op_notInD hu pins s σ _ x y v u Q I rx ry ⟨_, _, hp.dp h.1, hd, shaped_of (dat_mono 50 60 p (by omega) h.1), shapedL h.2, by rw [any_toD]; exact fin⟩
      · cases eb
    | tup xs =>
      simp only [inP] at eb
      split at eb
      · next h =>
        cases eb
        rw [Bool.and_eq_true] at h
        obtain ⟨a, vs, rfl, ha, ra⟩ := hq
        exact op_notIn_seq pins s σ _ x _ v u Q I rx ry ⟨a, vs, rfl, .inr ha, flat_dp h.1 hp, flats_dp h.2 ra, by rw [if_pos rfl, flat_in h.1 hp h.2 ra]; exact fin⟩
      · cases eb
    | str z =>
      cases p <;> simp only [inP] at eb <;> cases eb
      exact op_notIn_str pins s σ _ x y v u Q I rx ry ⟨_, _, hp, hq, fin⟩
    | _ => simp only [inP] at eb; cases eb
/-- - -/
def uNeg : PV → Option RV
  | .int i => some (.val (.int (-i)))
  | _ => none
theorem o_neg : UnR X (unaryOp .USub) (rUn X.K uNeg) := by
  intro pins s σ H x v Q I rx ⟨g, p, r, hH, sr, hp, e, k⟩
  subst hH
  cases p <;> simp only [uNeg] at e <;> try cases e
  exact un_neg pins s σ _ x v Q I rx ⟨_, hp, k g _ rfl (Stp.refl g) sr rfl⟩
end
end Pf
end
section
set_option Elab.async false
set_option linter.all false
set_option maxHeartbeats 1000000
set_option autoImplicit false
namespace Pf
open PySem PySem.Spec L2
section
variable {K : Frag} {g g0 : G} {X : Cx}
theorem one1 {ps : List PV} {xs : List V} {H : Hp} {F : Addr → Prop} {p : PV} (h : RpWs K H F ps xs) (e : ps = [p]) : ∃ x, xs = [x] ∧ RpW K H F p x := by
  subst e
  cases h with
  | cons a b => cases b; exact ⟨_, rfl, a⟩
theorem two2 {ps : List PV} {xs : List V} {H : Hp} {F : Addr → Prop} {p q : PV} (h : RpWs K H F ps xs) (e : ps = [p, q]) : ∃ x y, xs = [x, y] ∧ RpW K H F p x ∧ RpW K H F q y := by
  subst e
  cases h with
  | cons a b => cases b with | cons b c => cases c; exact ⟨_, _, rfl, a, b⟩
/-- a function of one value, of two -/
def n1 (f : PV → Option RV) : List PV → Option RV
  | [p] => f p
  | _ => none
def n2 (f : PV → PV → Option RV) : List PV → Option RV
  | [p, q] => f p q
  | _ => none
theorem cr1 {c : Value} {f : PV → Option RV} (h : ∀ (pins : List (Addr × Obj)) (s : Shared) (σ : L2.St) (H : Hp) (x : V) (v : Value) (Q : VK), Inv X pins σ H s → RelV x v → rUn X.K f x H Q → wpAny (model X.prog X.w) X.A (call c [v]) (EP X pins σ Q) X.xe s) : CallR X c (rCl X.K (n1 f)) := by
  intro pins s σ H xs us Q I r ⟨g, ps, y, hH, sr, hp, e, k⟩
  cases ps with
  | nil => cases e
  | cons p ps =>
    cases ps with
    | cons _ _ => cases e
    | nil =>
      obtain ⟨x, rfl, hx⟩ := one1 hp rfl
      cases r with
      | cons a b => cases b; exact h pins s σ H x _ Q I a ⟨g, p, y, hH, sr, hx, e, k⟩
theorem cr1' {c : Value} {f : PV → Option RV} {r : List V → Hp → VK → Prop} (hc : CallR X c r) (h : ∀ (H : Hp) (x : V) (Q : VK), rUn X.K f x H Q → r [x] H Q) : CallR X c (rCl X.K (n1 f)) :=
  cr1 fun pins s σ H x v Q I rx q => hc pins s σ H [x] [v] Q I (.cons rx .nil) (h H x Q q)
theorem cr2 {c : Value} {f : PV → PV → Option RV} {r : List V → Hp → VK → Prop} (hc : CallR X c r) (h : ∀ (H : Hp) (x y : V) (Q : VK), rOp X.K f x y H Q → r [x, y] H Q) : CallR X c (rCl X.K (n2 f)) := by
  intro pins s σ H xs us Q I rr ⟨g, ps, y, hH, sr, hp, e, k⟩
  cases ps with
  | nil => cases e
  | cons p ps =>
    cases ps with
    | nil => cases e
    | cons q ps =>
      cases ps with
      | cons _ _ => cases e
      | nil =>
        obtain ⟨x, z, rfl, hx, hz⟩ := two2 hp rfl
        exact hc pins s σ H _ us Q I rr (h H x z Q ⟨g, p, q, y, hH, sr, hx, hz, e, k⟩)
/-- len -/
def fLen : PV → Option RV
  | .lst xs => some (.val (.int xs.length))
  | .tup xs => some (.val (.int xs.length))
  | .str s => if s.length ≤ sizeLine then some (.val (.int s.length)) else none
  | .scr ns => some (.val (.int ns.length))
  | _ => none
theorem c_len : CallR X (.builtin "len") (rCl X.K (n1 fLen)) := cr1' call_len fun H x Q ⟨g, p, r, hH, sr, hp, e, k⟩ => by
  subst hH
  cases p <;> simp only [fLen] at e <;> try cases e
  · split at e
    · next h => cases e; have hp : x = _ := hp; subst hp; exact ⟨_, _, rfl, ⟨h, rfl⟩, k g _ rfl (Stp.refl g) sr rfl⟩
    · cases e
  · obtain ⟨a, vs, rfl, ha, ra⟩ := hp
    exact ⟨_, _, rfl, .inr ⟨vs, ha, ra.len⟩, k g _ rfl (Stp.refl g) sr rfl⟩
  · obtain ⟨a, vs, rfl, ha, ra⟩ := hp
    exact ⟨_, _, rfl, .inl ⟨vs, .inl (.inl ha), ra.len⟩, k g _ rfl (Stp.refl g) sr rfl⟩
  · obtain ⟨a, rfl, ha⟩ := hp
    exact ⟨_, _, rfl, .inl ⟨_, ha.sq, (List.length_map _).symm⟩, k g _ rfl (Stp.refl g) sr rfl⟩
def fAbs : PV → Option RV
  | .int i => some (.val (.int (if i < 0 then -i else i)))
  | _ => none
theorem c_abs : CallR X (.builtin "abs") (rCl X.K (n1 fAbs)) := cr1' call_abs fun H x Q ⟨g, p, r, hH, sr, hp, e, k⟩ => by
  subst hH
  cases p <;> simp only [fAbs] at e <;> try cases e
  have hp : x = _ := hp
  subst hp
  exact ⟨_, rfl, k g _ rfl (Stp.refl g) sr rfl⟩
def fMax2 : PV → PV → Option RV
  | .int i, .int j => some (.val (.int (if j > i then j else i)))
  | _, _ => none
theorem c_max2 (hc : X.calm = true) : CallR X (.builtin "max") (rCl X.K (n2 fMax2)) := cr2 (call_max2 hc) fun H x y Q ⟨g, p, q, r, hH, sr, hp, hq, e, k⟩ => by
  subst hH
  cases p <;> cases q <;> simp only [fMax2] at e <;> try cases e
  have hp : x = _ := hp
  have hq : y = _ := hq
  subst hp hq
  exact ⟨_, _, rfl, k g _ rfl (Stp.refl g) sr rfl⟩
def fMin2 : PV → PV → Option RV
  | .int i, .int j => some (.val (.int (if j < i then j else i)))
  | _, _ => none
theorem c_min2 (hc : X.calm = true) : CallR X (.builtin "min") (rCl X.K (n2 fMin2)) := cr2 (call_min2 hc) fun H x y Q ⟨g, p, q, r, hH, sr, hp, hq, e, k⟩ => by
  subst hH
  cases p <;> cases q <;> simp only [fMin2] at e <;> try cases e
  have hp : x = _ := hp
  have hq : y = _ := hq
  subst hp hq
  exact ⟨_, _, rfl, k g _ rfl (Stp.refl g) sr rfl⟩
def fInt : PV → Option RV
  | .int i => some (.val (.int i))
  | .bl b => some (.val (.int (if b then 1 else 0)))
  | _ => none
theorem c_int : CallR X (.type "int") (rCl X.K (n1 fInt)) := cr1' call_int1 fun H x Q ⟨g, p, r, hH, sr, hp, e, k⟩ => by
  subst hH
  cases p <;> simp only [fInt] at e <;> try cases e
  · have hp : x = _ := hp
    subst hp
    exact .inr ⟨_, rfl, k g _ rfl (Stp.refl g) sr rfl⟩
  · have hp : x = _ := hp
    subst hp
    exact .inl ⟨_, rfl, k g _ rfl (Stp.refl g) sr rfl⟩
def fDm : PV → PV → Option RV
  | .int i, .int j => if 0 < j ∧ j < 1073741824 then some (.val (.tup [.int (i / j), .int (i % j)])) else none
  | _, _ => none
theorem c_dm : CallR X (.builtin "divmod") (rCl X.K (n2 fDm)) := cr2 call_divmod fun H x y Q ⟨g, p, q, r, hH, sr, hp, hq, e, k⟩ => by
  subst hH
  cases p <;> cases q <;> simp only [fDm] at e <;> try cases e
  split at e
  · next h =>
    cases e
    have hp : x = _ := hp
    have hq : y = _ := hq
    subst hp hq
    exact ⟨_, _, rfl, h, fun p hp => k (g.put p _) _ rfl (Stp.put hp) (sr.put hp) (newTup sr hp ⟨_, _, rfl, rfl, _, _, rfl, rfl, rfl⟩)⟩
  · cases e
def fList : PV → Option RV
  | .lst xs => some (.own (.lst xs))
  | .tup xs => some (.own (.lst xs))
  | .scr ns => some (.own (.lst (ns.map PV.int)))
  | _ => none
theorem rpInts (ns : List Int) (H : Hp) (F : Addr → Prop) : RpL K H F (ns.map PV.int) (ns.map V.int) := by
  induction ns with
  | nil => rfl
  | cons n ns ih => exact ⟨_, _, rfl, rfl, ih⟩
theorem ofInts {H : Hp} {F : Addr → Prop} : ∀ {ns : List Int} {vs : List V}, RpL K H F (ns.map PV.int) vs → vs = ns.map V.int
  | [], _, h => h
  | n :: ns, _, ⟨v, r, e, a, b⟩ => by
    have a : v = _ := a
    rw [e, a, ofInts b]
    rfl
theorem c_list : CallR X (.type "list") (rCl X.K (n1 fList)) := cr1' call_list_of fun H x Q ⟨g, p, r, hH, sr, hp, e, k⟩ => by
  subst hH
  cases p <;> simp only [fList] at e <;> try cases e
  · obtain ⟨a, vs, rfl, ha, ra⟩ := hp
    exact ⟨_, vs, rfl, .inr ha, fun p hp => k (g.put p _) _ rfl (Stp.put hp) (sr.put hp) (newLst sr hp ra)⟩
  · obtain ⟨a, vs, rfl, ha, ra⟩ := hp
    exact ⟨_, vs, rfl, .inl (.inl (.inl ha)), fun p hp => k (g.put p _) _ rfl (Stp.put hp) (sr.put hp) (newLst sr hp ra)⟩
  · obtain ⟨a, rfl, ha⟩ := hp
    exact ⟨_, _, rfl, .inl ha.sq, fun p hp => k (g.put p _) _ rfl (Stp.put hp) (sr.put hp) (newLst sr hp (rpInts _ _ _))⟩
def fTuple : PV → Option RV
  | .lst xs => some (.val (.tup xs))
  | .tup xs => some (.val (.tup xs))
  | _ => none
theorem c_tuple : CallR X (.type "tuple") (rCl X.K (n1 fTuple)) := cr1' call_tuple_of fun H x Q ⟨g, p, r, hH, sr, hp, e, k⟩ => by
  subst hH
  cases p <;> simp only [fTuple] at e <;> try cases e
  · obtain ⟨a, vs, rfl, ha, ra⟩ := hp
    exact ⟨_, vs, rfl, .inr ⟨ha, k g _ rfl (Stp.refl g) sr ⟨_, vs, rfl, ha, ra⟩⟩⟩
  · obtain ⟨a, vs, rfl, ha, ra⟩ := hp
    exact ⟨_, vs, rfl, .inl ⟨.inl (.inl ha), fun p hp => k (g.put p _) _ rfl (Stp.put hp) (sr.put hp) (newTup sr hp ra)⟩⟩
/-- all items ints, bools -/
def ints? : List PV → Option (List Int)
  | [] => some []
  | .int i :: r => (ints? r).map (i :: ·)
  | _ :: _ => none
def bls? : List PV → Option (List Bool)
  | [] => some []
  | .bl i :: r => (bls? r).map (i :: ·)
  | _ :: _ => none
theorem ints_map : ∀ ns : List Int, ints? (ns.map PV.int) = some ns
  | [] => rfl
  | n :: ns => by simp only [List.map_cons, ints?, ints_map ns, Option.map_some]
theorem bls_map : ∀ ns : List Bool, bls? (ns.map PV.bl) = some ns
  | [] => rfl
  | n :: ns => by simp only [List.map_cons, bls?, bls_map ns, Option.map_some]
theorem ints_eq : ∀ {ps : List PV} {ns : List Int}, ints? ps = some ns → ps = ns.map PV.int
  | [], _, h => by cases h; rfl
  | p :: ps, ns, h => by
    cases p <;> simp only [ints?] at h <;> try cases h
    cases e : ints? ps with
    | none => rw [e] at h; cases h
    | some r => rw [e] at h; cases h; rw [ints_eq e]; rfl
theorem bls_eq : ∀ {ps : List PV} {ns : List Bool}, bls? ps = some ns → ps = ns.map PV.bl
  | [], _, h => by cases h; rfl
  | p :: ps, ns, h => by
    cases p <;> simp only [bls?] at h <;> try cases h
    cases e : bls? ps with
    | none => rw [e] at h; cases h
    | some r => rw [e] at h; cases h; rw [bls_eq e]; rfl
theorem ofBls {H : Hp} {F : Addr → Prop} : ∀ {ns : List Bool} {vs : List V}, RpL K H F (ns.map PV.bl) vs → vs = ns.map V.bl
  | [], _, h => h
  | n :: ns, _, ⟨v, r, e, a, b⟩ => by
    have a : v = _ := a
    rw [e, a, ofBls b]
    rfl
def fSum : PV → Option RV
  | .lst xs => (ints? xs).map fun ns => .val (.int ns.sum)
  | _ => none
theorem c_sum (hc : X.calm = true) : CallR X (.builtin "sum") (rCl X.K (n1 fSum)) := cr1' (cr_sum hc) fun H x Q ⟨g, p, r, hH, sr, hp, e, k⟩ => by
  subst hH
  cases p <;> simp only [fSum] at e <;> try cases e
  next xs =>
  cases e1 : ints? xs with
  | none => rw [e1] at e; cases e
  | some ns =>
    rw [e1] at e; cases e
    obtain ⟨a, vs, rfl, ha, ra⟩ := hp
    rw [ints_eq e1] at ra
    exact ⟨_, ns, rfl, .inl (.inl (by rw [ha, ofInts ra])), k g _ rfl (Stp.refl g) sr rfl⟩
def fAll : PV → Option RV
  | .lst xs => (bls? xs).map fun ns => .val (.bl (ns.all id))
  | _ => none
theorem c_all (hc : X.calm = true) : CallR X (.builtin "all") (rCl X.K (n1 fAll)) := cr1' (cr_all hc) fun H x Q ⟨g, p, r, hH, sr, hp, e, k⟩ => by
  subst hH
  cases p <;> simp only [fAll] at e <;> try cases e
  next xs =>
  cases e1 : bls? xs with
  | none => rw [e1] at e; cases e
  | some ns =>
    rw [e1] at e; cases e
    obtain ⟨a, vs, rfl, ha, ra⟩ := hp
    rw [bls_eq e1] at ra
    exact ⟨_, ns, rfl, .inl (.inl (by rw [ha, ofBls ra])), k g _ rfl (Stp.refl g) sr rfl⟩
def fAny : PV → Option RV
  | .lst xs => (bls? xs).map fun ns => .val (.bl (ns.any id))
  | _ => none
theorem c_any (hc : X.calm = true) : CallR X (.builtin "any") (rCl X.K (n1 fAny)) := cr1' (cr_any hc) fun H x Q ⟨g, p, r, hH, sr, hp, e, k⟩ => by
  subst hH
  cases p <;> simp only [fAny] at e <;> try cases e
  next xs =>
  cases e1 : bls? xs with
  | none => rw [e1] at e; cases e
  | some ns =>
    rw [e1] at e; cases e
    obtain ⟨a, vs, rfl, ha, ra⟩ := hp
    rw [bls_eq e1] at ra
    exact ⟨_, ns, rfl, .inl (.inl (by rw [ha, ofBls ra])), k g _ rfl (Stp.refl g) sr rfl⟩
def maxI (n : Int) (ns : List Int) : Int := ns.foldl (fun a b => if a < b then b else a) n
def minI (n : Int) (ns : List Int) : Int := ns.foldl (fun a b => if b < a then b else a) n
theorem maxI_mem : ∀ (ns : List Int) (n : Int), maxI n ns ∈ n :: ns ∧ ∀ y ∈ n :: ns, y ≤ maxI n ns
  | [], n => by simp [maxI]
  | m :: ns, n => by
    show maxI (if n < m then m else n) ns ∈ _ ∧ ∀ y ∈ n :: m :: ns, y ≤ maxI (if n < m then m else n) ns
    obtain ⟨h1, h2⟩ := maxI_mem ns (if n < m then m else n)
    simp only [List.mem_cons] at h1 h2 ⊢
    refine ⟨?_, fun y hy => ?_⟩
    · rcases h1 with h1 | h1
      · rw [h1]; split <;> simp
      · exact .inr (.inr h1)
    · have h3 := h2 _ (.inl rfl)
      rcases hy with rfl | rfl | hy
      · refine Int.le_trans ?_ h3; split <;> omega
      · refine Int.le_trans ?_ h3; split <;> omega
      · exact h2 y (.inr hy)
theorem minI_mem : ∀ (ns : List Int) (n : Int), minI n ns ∈ n :: ns ∧ ∀ y ∈ n :: ns, minI n ns ≤ y
  | [], n => by simp [minI]
  | m :: ns, n => by
    show minI (if m < n then m else n) ns ∈ _ ∧ ∀ y ∈ n :: m :: ns, minI (if m < n then m else n) ns ≤ y
    obtain ⟨h1, h2⟩ := minI_mem ns (if m < n then m else n)
    simp only [List.mem_cons] at h1 h2 ⊢
    refine ⟨?_, fun y hy => ?_⟩
    · rcases h1 with h1 | h1
      · rw [h1]; split <;> simp
      · exact .inr (.inr h1)
    · have h3 := h2 _ (.inl rfl)
      rcases hy with rfl | rfl | hy
      · refine Int.le_trans h3 ?_; split <;> omega
      · refine Int.le_trans h3 ?_; split <;> omega
      · exact h2 y (.inr hy)
def fMax : PV → Option RV
  | .lst xs => match ints? xs with
    | some (n :: ns) => some (.val (.int (maxI n ns)))
    | _ => none
  | _ => none
def fMin : PV → Option RV
  | .lst xs => match ints? xs with
    | some (n :: ns) => some (.val (.int (minI n ns)))
    | _ => none
  | _ => none
theorem c_max (hc : X.calm = true) : CallR X (.builtin "max") (rCl X.K (n1 fMax)) := cr1' (cr_max hc) fun H x Q ⟨g, p, r, hH, sr, hp, e, k⟩ => by
  subst hH
  cases p <;> simp only [fMax] at e <;> try cases e
  next xs =>
  cases e1 : ints? xs with
  | none => rw [e1] at e; cases e
  | some ns =>
    cases ns with
    | nil => rw [e1] at e; cases e
    | cons n ns =>
      rw [e1] at e; cases e
      obtain ⟨a, vs, rfl, ha, ra⟩ := hp
      rw [ints_eq e1] at ra
      refine ⟨_, n :: ns, rfl, .inl (.inl (by rw [ha, ofInts ra])), by simp, fun m h1 h2 => ?_⟩
      obtain ⟨k1, k2⟩ := maxI_mem ns n
      rw [show m = maxI n ns from Int.le_antisymm (k2 m h1) (h2 _ k1)]
      exact k g _ rfl (Stp.refl g) sr rfl
theorem c_min (hc : X.calm = true) : CallR X (.builtin "min") (rCl X.K (n1 fMin)) := cr1' (cr_min hc) fun H x Q ⟨g, p, r, hH, sr, hp, e, k⟩ => by
  subst hH
  cases p <;> simp only [fMin] at e <;> try cases e
  next xs =>
  cases e1 : ints? xs with
  | none => rw [e1] at e; cases e
  | some ns =>
    cases ns with
    | nil => rw [e1] at e; cases e
    | cons n ns =>
      rw [e1] at e; cases e
      obtain ⟨a, vs, rfl, ha, ra⟩ := hp
      rw [ints_eq e1] at ra
      refine ⟨_, n :: ns, rfl, .inl (.inl (by rw [ha, ofInts ra])), by simp, fun m h1 h2 => ?_⟩
      obtain ⟨k1, k2⟩ := minI_mem ns n
      rw [show m = minI n ns from Int.le_antisymm (h2 _ k1) (k2 m h1)]
      exact k g _ rfl (Stp.refl g) sr rfl
/-- sorted: ints -/
def insI (n : Int) : List Int → List Int
  | [] => [n]
  | m :: ns => if n ≤ m then n :: m :: ns else m :: insI n ns
def sortI : List Int → List Int
  | [] => []
  | n :: ns => insI n (sortI ns)
theorem insI_perm (n : Int) : ∀ ns, (insI n ns).Perm (n :: ns)
  | [] => .refl _
  | m :: ns => by
    unfold insI
    split
    · exact .refl _
    · exact ((insI_perm n ns).cons m).trans (.swap n m ns)
theorem insI_sorted (n : Int) : ∀ ns : List Int, ns.Pairwise (· ≤ ·) → (insI n ns).Pairwise (· ≤ ·)
  | [], _ => by simp [insI]
  | m :: ns, h => by
    rw [List.pairwise_cons] at h
    unfold insI
    split
    · next hle =>
      refine List.pairwise_cons.mpr ⟨fun y hy => ?_, List.pairwise_cons.mpr h⟩
      rcases List.mem_cons.mp hy with rfl | hy
      · exact hle
      · exact Int.le_trans hle (h.1 y hy)
    · next hle =>
      refine List.pairwise_cons.mpr ⟨fun y hy => ?_, insI_sorted n ns h.2⟩
      rcases List.mem_cons.mp ((insI_perm n ns).mem_iff.mp hy) with rfl | hy
      · omega
      · exact h.1 y hy
theorem sortI_perm : ∀ ns, (sortI ns).Perm ns
  | [] => .refl _
  | n :: ns => (insI_perm n _).trans ((sortI_perm ns).cons n)
theorem sortI_sorted : ∀ ns, (sortI ns).Pairwise (· ≤ ·)
  | [] => .nil
  | n :: ns => insI_sorted n _ (sortI_sorted ns)
def fSortI : PV → Option RV
  | .lst xs => (ints? xs).map fun ns => .own (.lst ((sortI ns).map PV.int))
  | _ => none
theorem c_sortI : CallR X (.builtin "sorted") (rCl X.K (n1 fSortI)) := cr1' cr_sortedI fun H x Q ⟨g, p, r, hH, sr, hp, e, k⟩ => by
  subst hH
  cases p <;> simp only [fSortI] at e <;> try cases e
  next xs =>
  cases e1 : ints? xs with
  | none => rw [e1] at e; cases e
  | some ns =>
    rw [e1] at e; cases e
    obtain ⟨a, vs, rfl, ha, ra⟩ := hp
    rw [ints_eq e1] at ra
    refine ⟨_, ns, rfl, .inl (.inl (by rw [ha, ofInts ra])), fun ns' p hp1 hp2 hp => ?_⟩
    obtain rfl := PySem.W.ksm_same (hp1.trans (sortI_perm ns).symm) hp2 (sortI_sorted ns)
    exact k (g.put p _) _ rfl (Stp.put hp) (sr.put hp) (newLst sr hp (rpInts _ _ _))
end
end Pf
end
section
set_option Elab.async false
set_option linter.all false
set_option maxHeartbeats 1000000
set_option autoImplicit false
namespace Pf
open PySem PySem.Spec L2
/-- what repr shows: data at most so deep, empty dicts too -/
def shw : Nat → PV → Bool
  | _, .non | _, .bl _ => true
  | _, .int i => decide (i.natAbs.log2 < 1920)
  | _, .str s => s.cps.all (· < 0x110000)
  | n + 1, .tup xs | n + 1, .lst xs => xs.all (shw n)
  | _ + 1, .dct [] => true
  | _, _ => false
/-- no less than the length of the shown text -/
def rsz : PV → Nat
  | .non | .bl _ => 5
  | .int i => if i.natAbs < 10 ^ 18 then 20 else 2000
  | .str s => 10 * s.length + 2
  | .tup xs => rszs xs + 4
  | .lst xs => rszs xs + 4
  | .dct _ => 2
  | .scr _ => 0
where
  rszs : List PV → Nat
  | [] => 0
  | x :: xs => rsz x + 2 + rszs xs
theorem rszs_map (xs : List PV) : rsz.rszs xs = (xs.map fun x => rsz x + 2).sum := by
  induction xs with
  | nil => rfl
  | cons x xs ih => rw [rsz.rszs, ih, List.map_cons, List.sum_cons]
theorem shw_ok : ∀ (n : Nat) (p : PV), shw n p = true → (toD p).showable = true ∧ (toD p).depth ≤ n
  | n, .non, _ => by simp [toD, PyData.showable, PyData.depth]
  | n, .bl _, _ => by simp [toD, PyData.showable, PyData.depth]
  | n, .int i, h => by
    have h' : decide (i.natAbs.log2 < 1920) = true := by cases n <;> exact h
    simp only [toD, PyData.showable, PyData.depth, Nat.zero_le, and_true]
    exact h'
  | n, .str s, h => by simp [toD, PyData.showable, PyData.depth]
  | 0, .tup _, h => by simp [shw] at h
  | 0, .lst _, h => by simp [shw] at h
  | 0, .dct [], h => by simp [shw] at h
  | 0, .dct (_ :: _), h => by simp [shw] at h
  | 0, .scr _, h => by simp [shw] at h
  | n + 1, .dct [], h => by simp [toD, toDk, PyData.showable, PyData.showableKv, PyData.depth, PyData.depthKv]
  | n + 1, .dct (_ :: _), h => by simp [shw] at h
  | n + 1, .scr _, h => by simp [shw] at h
  | n + 1, .tup xs, h => by
    have := shws_ok n xs (by simpa [shw] using h)
    simp only [toD, PyData.showable, PyData.depth]
    exact ⟨this.1, by omega⟩
  | n + 1, .lst xs, h => by
    have := shws_ok n xs (by simpa [shw] using h)
    simp only [toD, PyData.showable, PyData.depth]
    exact ⟨this.1, by omega⟩
where
  shws_ok : ∀ (n : Nat) (xs : List PV), xs.all (shw n) = true → PyData.showableAll (toDs xs) = true ∧ PyData.depthAll (toDs xs) ≤ n
  | n, [], _ => by simp [toDs, PyData.showableAll, PyData.depthAll]
  | n, x :: xs, h => by
    rw [List.all_cons, Bool.and_eq_true] at h
    obtain ⟨a, b⟩ := shw_ok n x h.1
    obtain ⟨c, d⟩ := shws_ok n xs h.2
    simp only [toDs, PyData.showableAll, PyData.depthAll, a, c, Bool.and_self, true_and]
    omega
theorem lenJoin (sep : Str) : ∀ ts : List Str, (Str.join sep ts).length ≤ (ts.map fun t => t.length + sep.length).sum
  | [] => by simp [Str.join, Str.length]; rfl
  | [x] => by simp [Str.join]
  | x :: y :: r => by
    show (x ++ sep ++ Str.join sep (y :: r)).length ≤ _
    rw [PySem.strLen_append, PySem.strLen_append, List.map_cons, List.sum_cons]
    have := lenJoin sep (y :: r)
    omega
theorem lenList (ts : List Str) : (listText ts).length ≤ (ts.map fun t => t.length + 2).sum + 4 := by
  cases ts with
  | nil => rw [listText_nil]; decide
  | cons t ts =>
    have e : (listText (t :: ts)).length = 1 + t.length + piled ts + 1 := by
      unfold listText
      rw [PySem.strLen_append]
      have : (textFrom 0 "[" (t :: ts)) = textFrom 1 (("[" : Str) ++ (if 0 > 0 then ", " else "" : String) ++ t) ts := rfl
      rw [this, textFrom_length_pos ts 1 _ (by decide), PySem.strLen_append, PySem.strLen_append]
      rfl
    have e2 : piled ts = (ts.map fun t => t.length + 2).sum := rfl
    rw [e, e2, List.map_cons, List.sum_cons]
    omega
theorem lenTup (ts : List Str) : (tupleText ts).length ≤ (ts.map fun t => t.length + 2).sum + 4 := by
  unfold tupleText
  rw [PySem.strLen_append, PySem.strLen_append]
  have h1 := lenJoin ", " ts
  have h2 : (ts.map fun t => t.length + (", " : Str).length) = ts.map fun t => t.length + 2 := rfl
  rw [h2] at h1
  have h3 : (("(" : String) : Str).length = 1 := rfl
  have h4 : ((if ts.length == 1 then ",)" else ")" : String) : Str).length ≤ 2 := by split <;> decide
  omega
theorem lenInt (i : Int) (h : i.natAbs.log2 < 1920) : (PySem.Str.ofString (toString i)).length ≤ rsz (.int i) := by
  unfold rsz
  split
  · next h2 =>
    have := PySem.int_text_length_le10 (a := i) (k := 18) (by decide) h2
    rw [PySem.ofString_length]
    omega
  · have := PyProof.Rows.int_text_len_1921 h
    omega
theorem shw_len : ∀ (n : Nat) (p : PV), shw n p = true → (toD p).shown.length ≤ rsz p
  | n, .non, _ => by simp only [toD, PyData.shown, rsz]; decide
  | n, .bl b, _ => by cases b <;> (simp only [toD, PyData.shown, rsz]; decide)
  | n, .int i, h => by
    have h' : decide (i.natAbs.log2 < 1920) = true := by cases n <;> exact h
    simp only [toD, PyData.shown]
    exact lenInt i (of_decide_eq_true h')
  | n, .str s, h => by
    have h' : s.cps.all (· < 0x110000) = true := by cases n <;> exact h
    simp only [toD, PyData.shown, rsz]
    refine PySem.StrLaws.reprText_len s fun c hc => ?_
    have h3 := Array.all_eq_true_iff_forall_mem.mp h' c (Array.mem_toList_iff.mp hc)
    have h4 : c < 0x110000 := by simpa using h3
    have e : (16 : Nat) ^ 8 = 4294967296 := by decide
    omega
  | 0, .tup _, h => by simp [shw] at h
  | 0, .lst _, h => by simp [shw] at h
  | 0, .dct [], h => by simp [shw] at h
  | 0, .dct (_ :: _), h => by simp [shw] at h
  | 0, .scr _, h => by simp [shw] at h
  | n + 1, .dct [], h => by simp only [toD, toDk, PyData.shown, PyData.shownKv, rsz]; decide
  | n + 1, .dct (_ :: _), h => by simp [shw] at h
  | n + 1, .scr _, h => by simp [shw] at h
  | n + 1, .tup xs, h => by
    have := shws_len n xs (by simpa [shw] using h)
    simp only [toD, PyData.shown, rsz]
    exact Nat.le_trans (lenTup _) (by omega)
  | n + 1, .lst xs, h => by
    have := shws_len n xs (by simpa [shw] using h)
    simp only [toD, PyData.shown, rsz]
    exact Nat.le_trans (lenList _) (by omega)
where
  shws_len : ∀ (n : Nat) (xs : List PV), xs.all (shw n) = true → ((PyData.shownAll (toDs xs)).map fun t => t.length + 2).sum ≤ rsz.rszs xs
  | n, [], _ => by simp [toDs, PyData.shownAll, rsz.rszs]
  | n, x :: xs, h => by
    rw [List.all_cons, Bool.and_eq_true] at h
    have a := shw_len n x h.1
    have c := shws_len n xs h.2
    simp only [toDs, PyData.shownAll, rsz.rszs, List.map_cons, List.sum_cons]
    omega
section
variable {K : Frag} {g g0 : G} {X : Cx} {pins : List (Addr × Obj)} {σ : L2.St} {H : Hp} {s : Shared}
mutual
theorem Rp.rd (I : Inv X pins σ H s) {F : Addr → Prop} : ∀ (n : Nat) (p : PV) (v : V) (u : Value), shw n p = true → Rp X.K H F p v → RelV v u → ∃ as, Reads s.heap u (toD p) as ∧ ∀ b ∈ as, H b ≠ none
  | n, .non, v, u, _, h, r => by have h : v = _ := h; subst h; cases r; exact ⟨_, Reads.none, by simp⟩
  | n, .bl b, v, u, _, h, r => by have h : v = _ := h; subst h; cases r; exact ⟨_, Reads.bool b, by simp⟩
  | n, .int i, v, u, _, h, r => by have h : v = _ := h; subst h; obtain ⟨t, rfl⟩ := r; exact ⟨_, Reads.int i t, by simp⟩
  | n, .str s, v, u, _, h, r => by have h : v = _ := h; subst h; obtain ⟨t, rfl⟩ := r; exact ⟨_, Reads.str s t, by simp⟩
  | 0, .tup _, _, _, h, _, _ => by simp [shw] at h
  | 0, .lst _, _, _, h, _, _ => by simp [shw] at h
  | 0, .dct [], _, _, h, _, _ => by simp [shw] at h
  | 0, .dct (_ :: _), _, _, h, _, _ => by simp [shw] at h
  | 0, .scr _, _, _, h, _, _ => by simp [shw] at h
  | n + 1, .dct (_ :: _), _, _, h, _, _ => by simp [shw] at h
  | n + 1, .scr _, _, _, h, _, _ => by simp [shw] at h
  | n + 1, .tup xs, v, u, h, ⟨a, vs, e, q, rr⟩, r => by
    subst e
    cases r
    obtain ⟨its, rv, ⟨o, ho, hc, m, hd⟩, _⟩ := I.tuple q
    obtain ⟨as, h1, h2⟩ := RpL.rd I n xs vs its (by simpa [shw] using h) rr rv
    exact ⟨_, Reads.tuple ho hc hd h1, h2⟩
  | n + 1, .lst xs, v, u, h, ⟨a, vs, e, q, rr⟩, r => by
    subst e
    cases r
    obtain ⟨its, rv, ⟨o, m, ho, hc, _, hd⟩, _⟩ := I.list (.inl (.inl q.1))
    obtain ⟨as, h1, h2⟩ := RpL.rd I n xs vs its (by simpa [shw] using h) rr rv
    refine ⟨_, Reads.list ho hc hd h1, fun b hb => ?_⟩
    rcases List.mem_cons.mp hb with rfl | hb
    · rw [q.1]; simp
    · exact h2 b hb
  | n + 1, .dct [], v, u, h, ⟨a, e, _, q⟩, r => by
    subst e
    cases r
    have fin : (∃ x, H a = some x) → (∃ o es ep, s.heap.get? a = some o ∧ o.cls = .type "dict" ∧ o.data = .dict es ep ∧ es.toList = []) → ∃ as, Reads s.heap (.ref a) (toD (.dct [])) as ∧ ∀ b ∈ as, H b ≠ none := fun ⟨x, hx⟩ ⟨o, es, ep, h1, h2, h3, h4⟩ => by
      refine ⟨_, Reads.dict h1 h2 h3 (by rw [h4]; exact .nil) (by rw [h4]; exact .nil), fun b hb => ?_⟩
      have : b = a := by simpa using hb
      subst this
      rw [hx]; simp
    rcases q with ⟨l, h1, h2⟩ | ⟨l, h1, h2⟩
    · have h2 : l = [] := h2
      subst h2
      obtain ⟨_, _, vs, kv, o, es, ep, e1, e2, e3, _, pr, _⟩ := I.hok a _ h1
      cases kv
      refine fin ⟨_, h1⟩ ⟨o, es, ep, e1, e2.1, e3, ?_⟩
      cases hes : es.toList with
      | nil => rfl
      | cons y ys => rw [hes] at pr; cases pr
    · have h2 : l = [] := h2
      subst h2
      obtain ⟨_, _, xs, kv, o, es, ep, e1, e2, e3, pr, _⟩ := I.hok a _ h1
      cases kv
      exact fin ⟨_, h1⟩ ⟨o, es, ep, e1, e2.1, e3, pr⟩
theorem RpL.rd (I : Inv X pins σ H s) {F : Addr → Prop} : ∀ (n : Nat) (ps : List PV) (vs : List V) (us : List Value), ps.all (shw n) = true → RpL X.K H F ps vs → Vals vs us → ∃ as, ReadsAll s.heap us (toDs ps) as ∧ ∀ b ∈ as, H b ≠ none
  | n, [], vs, us, _, h, r => by have h : vs = _ := h; subst h; cases r; exact ⟨_, .nil, by simp⟩
  | n, p :: ps, _, us, h, ⟨v, w, e, a, b⟩, r => by
    subst e
    cases r with
    | cons r1 r2 =>
      rw [List.all_cons, Bool.and_eq_true] at h
      obtain ⟨as, h1, h2⟩ := Rp.rd I n p v _ h.1 a r1
      obtain ⟨bs, h3, h4⟩ := RpL.rd I n ps w _ h.2 b r2
      exact ⟨_, .cons h1 h3, fun c hc => (List.mem_append.mp hc).elim (h2 c) (h4 c)⟩
end
theorem RpW.rd (I : Inv X pins σ H s) {F : Addr → Prop} {n : Nat} {p : PV} {v : V} {u : Value} (h : shw n p = true) (hp : RpW X.K H F p v) (r : RelV v u) : ∃ as, Reads s.heap u (toD p) as ∧ ∀ b ∈ as, H b ≠ none := by
  cases p with
  | lst xs =>
    obtain ⟨a, vs, rfl, q, rr⟩ := hp
    cases r
    obtain ⟨its, rv, ⟨o, m, ho, hc, _, hd⟩, _⟩ := I.list (.inl (.inl q))
    cases n with
    | zero => simp [shw] at h
    | succ n =>
      obtain ⟨as, h1, h2⟩ := RpL.rd I n xs vs its (by simpa [shw] using h) rr rv
      refine ⟨_, Reads.list ho hc hd h1, fun b hb => ?_⟩
      rcases List.mem_cons.mp hb with rfl | hb
      · rw [q]; simp
      · exact h2 b hb
  | dct kvs =>
    obtain ⟨a, rfl, q⟩ := hp
    cases kvs with
    | nil => exact Rp.rd I (F := fun _ => True) n (.dct []) (.ref a) u h ⟨a, rfl, trivial, q⟩ r
    | cons _ _ => cases n <;> simp [shw] at h
  | _ => exact Rp.rd I (F := F) n _ v u h hp r
end
section
variable {X : Cx}
def fRepr : PV → Option RV := fun p => if shw 60 p && decide (rsz p ≤ sizeLine) then some (.val (.str (toD p).shown)) else none
theorem c_repr (hg : X.A.guards = some []) (hu : X.A.units + 100 < cLine) (hs : ∃ o, X.base.get? sysModules = some o) : CallR X (.builtin "repr") (rCl X.K (n1 fRepr)) := cr1 fun pins s σ H x v Q I rx ⟨g, p, r, hH, sr, hp, e, k⟩ => by
  subst hH
  unfold fRepr at e
  split at e
  · next h =>
    cases e
    rw [Bool.and_eq_true, decide_eq_true_eq] at h
    have fin : ∀ t, EP X pins σ Q (.str (toD p).shown t) { s with toks := s.toks + 1 } := fun t => ⟨.str (toD p).shown, _, I.tok _, ⟨t, rfl⟩, k g _ rfl (Stp.refl g) sr rfl⟩
    have hsz : (toD p).shown.length ≤ sizeLine := Nat.le_trans (shw_len 60 p h.1) h.2
    obtain ⟨as, r1, r2⟩ := RpW.rd I h.1 hp rx
    obtain ⟨sh, dp⟩ := shw_ok 60 p h.1
    have gen : ∀ a, v = .ref a → wpAny (model X.prog X.w) X.A (call (.builtin "repr") [v]) (EP X pins σ Q) X.xe s := fun a e => by
      subst e
      refine repr_of_reads' r1 sh (fun _ hm => ?_) hg (by omega) (fun _ _ e => e) (fun h' u tk hk => ?_) hsz
      · obtain ⟨o, ho⟩ := hs
        exact r2 _ hm (I.bs _ _ ho).2
      · exact ⟨.str (toD p).shown, _, I.kept hk, ⟨u, rfl⟩, k g _ rfl (Stp.refl g) sr rfl⟩
    cases p with
    | non => have hp : x = _ := hp; subst hp; cases rx; exact PySem.P.repr_of_none (fin _)
    | bl b => have hp : x = _ := hp; subst hp; cases rx; exact PySem.P.repr_of_bool (by cases b <;> exact fin _)
    | int i =>
      have hp : x = _ := hp
      subst hp
      obtain ⟨t, rfl⟩ := rx
      exact PySem.P.repr_of_int (by simpa [shw] using h.1) (fin _)
    | str z =>
      have hp : x = _ := hp
      subst hp
      obtain ⟨t, rfl⟩ := rx
      exact PySem.P.repr_of_str (fin _) hsz
    | tup xs => obtain ⟨a, vs, rfl, _⟩ := hp; exact gen a rx
    | lst xs => obtain ⟨a, vs, rfl, _⟩ := hp; exact gen a rx
    | dct xs => obtain ⟨a, rfl, _⟩ := hp; exact gen a rx
    | scr xs => simp [shw] at h
  · cases e
end
end Pf
end
section
set_option Elab.async false
set_option linter.all false
set_option maxHeartbeats 1000000
set_option autoImplicit false
namespace Pf
open PySem PySem.Spec L2
/-! names, constants, displays, and or not, conditionals, chains -/
def SV.rv : SV → RV
  | .val p => .val p
  | .ref n => .ref n
def dVar (i : Nat) : Den := fun ρ S => match ρ[i]? with
  | some (some sv) => .ok sv.rv S
  | _ => .stuck
def dCst (p : PV) : Den := fun _ => ret (.val p)
/-- frozen for good -/
def force (r : RV) : M PV := fun S => match r with
  | .val p => .ok p S
  | .own p => .ok p S
  | .ref n => (match S[n]? with
    | some (.live p) => .ok p (S.set n (.froz p))
    | some (.froz p) => .ok p S
    | _ => .stuck)
def forces : List RV → M (List PV)
  | [] => ret []
  | r :: rs => bd (force r) fun p => bd (forces rs) fun ps => ret (p :: ps)
def lenOk (n : Nat) : Bool := decide (n ≤ sizeLine)
def dTup (ds : List Den) : Den := fun ρ => bd (evAll ds ρ) fun rs => bd (forces rs) fun ps => if lenOk ps.length then ret (.val (.tup ps)) else stk
def dLst (ds : List Den) : Den := fun ρ => bd (evAll ds ρ) fun rs => bd (forces rs) fun ps => if lenOk ps.length then ret (.own (.lst ps)) else stk
def asB : RV → M Bool
  | .val (.bl b) => ret b
  | _ => stk
def dAnd (a b : Den) : Den := fun ρ => bd (a ρ) fun r => bd (asB r) fun c => if c then b ρ else ret (.val (.bl false))
def dOr (a b : Den) : Den := fun ρ => bd (a ρ) fun r => bd (asB r) fun c => if c then ret (.val (.bl true)) else b ρ
def dNot (a : Den) : Den := fun ρ => bd (a ρ) fun r => bd (asB r) fun c => ret (.val (.bl (!c)))
def dIte (c a b : Den) : Den := fun ρ => bd (c ρ) fun r => bd (asB r) fun c => if c then a ρ else b ρ
/-- a < b < c -/
def dChain (f f' : PV → PV → Option RV) (a b c : Den) : Den := fun ρ => bd (a ρ) fun r => bd (b ρ) fun q => bd (run2 f r q) fun x => bd (asB x) fun k => if k then bd (c ρ) fun z => run2 f' q z else ret (.val (.bl false))
section
variable {K : Frag} {W : XW} {g g0 g1 : G} {S : Sto}
theorem asB_ok {r : RV} {Q : Bool → G → Prop} (h : WG K W g0 S (asB r) Q) : ∃ b, r = .val (.bl b) ∧ ∀ g', g'.S = S → Stp g0 g' → SRc K g' → Q b g' := by
  unfold WG at h
  cases r with
  | val p =>
    cases p with
    | bl b => exact ⟨b, rfl, h⟩
    | _ => exact False.elim h
  | _ => exact False.elim h
theorem stk_ok {α : Type} {Q : α → G → Prop} (h : WG K W g0 S (stk : M α) Q) : False := h
/-- a test, then the rest -/
theorem asB_bd {β : Type} {r : RV} {f : Bool → M β} {R : β → G → Prop} (st : Stp g0 g1) (sr : SRc K g1) (h : WG K W g0 g1.S (bd (asB r) f) R) : ∃ b, r = .val (.bl b) ∧ WG K W g0 g1.S (f b) R := by
  obtain ⟨b, e, k⟩ := asB_ok (h.bd st)
  exact ⟨b, e, k g1 rfl (Stp.refl g1) sr⟩
theorem run2_bd {β : Type} {r q : RV} {fn : PV → PV → Option RV} {f : RV → M β} {R : β → G → Prop} (st : Stp g0 g1) (h : WG K W g0 g1.S (bd (run2 fn r q) f) R) :
    ∃ p p' x, peek r g1.S = some p ∧ peek q g1.S = some p' ∧ fn p p' = some x ∧ ∀ g', g'.S = g1.S → Stp g1 g' → SRc K g' → WG K W g0 g'.S (f x) R := (h.bd st).run2
/-- freezing an object that nobody else has -/
def G.fz (g : G) (a : Addr) : G := { g with F := fun b => g.F b ∨ b = a }
theorem keepF (g : G) (a : Addr) : Keep g (g.fz a) := ⟨fun _ h => .inl h, fun _ _ e _ => e⟩
theorem Rp.ofAt {H : Hp} {F : Addr → Prop} {p : PV} {a : Addr} (h : At K H F p a) (f : F a) : Rp K H F p (.ref a) := by
  cases p with
  | lst xs => obtain ⟨vs, e, r⟩ := h; exact ⟨a, vs, rfl, ⟨e, f⟩, r⟩
  | dct kvs => exact ⟨a, rfl, f, h⟩
  | _ => exact False.elim h
theorem fzOwn (st : Stp g0 g) (s : SRc K g) {p : PV} {a : Addr} (h : At K g.H g.F p a) (n : a ∉ g.A) (z : g0.H a = none) : Stp g0 (g.fz a) ∧ SRc K (g.fz a) ∧ Rp K g.H (g.fz a).F p (.ref a) := by
  have hk : At K g.H (g.fz a).F p a := h.keep' (keepF g a) (g' := g.fz a) rfl
  refine ⟨⟨st.keep, st.dom, fun b q => .inl (st.fz b q), fun b q => ?_, st.ext, st.newA, st.new, st.pl, st.ge⟩, ⟨s.len, s.nd, fun m b c e1 e2 => ?_, s.dom, fun b q => ?_⟩, Rp.ofAt hk (.inr rfl)⟩
  · rcases q with q | q
    · exact st.fz' b q
    · rw [q]; exact .inr (.inr z)
  · have k := s.cell m b c e1 e2
    exact k.keep (keepF g a) (fun _ _ h => h) (fun _ => rfl) fun _ q => q.elim id fun q => absurd (List.mem_of_getElem? (q ▸ e1)) n
  · rcases q with q | q
    · exact s.fd b q
    · rw [q]; exact h.ex
/-- freezing a cell -/
def G.fzc (g : G) (n : Nat) (p : PV) (a : Addr) : G := { g with S := g.S.set n (.froz p), F := fun b => g.F b ∨ b = a }
theorem fzCell (st : Stp g0 g) (s : SRc K g) {p : PV} {n : Nat} {a : Addr} (hA : g.A[n]? = some a) (hS : g.S[n]? = some (.live p)) : Stp g0 (g.fzc n p a) ∧ SRc K (g.fzc n p a) ∧ Rp K g.H (g.fzc n p a).F p (.ref a) := by
  obtain ⟨h, nf⟩ := s.cell n a _ hA hS
  have hk : Keep g (g.fzc n p a) := ⟨fun _ h => .inl h, fun _ _ e _ => e⟩
  have hat : At K g.H (g.fzc n p a).F p a := h.keep' hk (g' := g.fzc n p a) rfl
  have rp : Rp K g.H (g.fzc n p a).F p (.ref a) := Rp.ofAt hat (.inr rfl)
  have uniq : ∀ m, g.A[m]? = some a → m = n := fun m e => by
    obtain ⟨h1, e1⟩ := List.getElem?_eq_some_iff.mp e
    obtain ⟨h2, e2⟩ := List.getElem?_eq_some_iff.mp hA
    exact (List.getElem_inj s.nd).mp (e1.trans e2.symm)
  have lvs : ∀ b, Lv (g.fzc n p a) b → Lv g b := fun b ⟨m, v, e1, e2⟩ => by
    obtain ⟨e1, mv⟩ := e1
    refine ⟨m, v, ⟨?_, mv⟩, e2⟩
    have e1 : (g.S.set n (.froz p))[m]? = _ := e1
    by_cases hm : n = m
    · subst hm
      have : n < g.S.length := (List.getElem?_eq_some_iff.mp hS).1
      rw [List.getElem?_set_self this] at e1
      cases e1; cases mv
    · rw [List.getElem?_set_ne hm] at e1; exact e1
  refine ⟨⟨st.keep, st.dom, fun b q => .inl (st.fz b q), fun b q => ?_, st.ext, st.newA, fun b q => st.new b (lvs b q), PlS.trans st.pl st.ge (plSet rfl), by show _ ≤ (g.S.set n (.froz p)).length; rw [List.length_set]; exact st.ge⟩, ⟨by show g.A.length = (g.S.set n (.froz p)).length; rw [s.len]; exact (List.length_set).symm, s.nd, fun m b c e1 e2 => ?_, s.dom, fun b q => ?_⟩, rp⟩
  · rcases q with q | q
    · exact st.fz' b q
    · subst q
      rcases st.new b ⟨n, _, ⟨hS, rfl⟩, hA⟩ with q | q
      · exact .inr (.inl q)
      · exact .inr (.inr q)
  · have e2 : (g.S.set n (.froz p))[m]? = _ := e2
    have e1 : g.A[m]? = some b := e1
    by_cases hm : n = m
    · subst hm
      have : n < g.S.length := (List.getElem?_eq_some_iff.mp hS).1
      rw [List.getElem?_set_self this] at e2
      cases e2
      rw [hA] at e1; cases e1
      exact rp
    · rw [List.getElem?_set_ne hm] at e2
      have k := s.cell m b c e1 e2
      exact k.keep hk (fun _ _ h => h) (fun _ => rfl) fun _ q => q.elim id fun q => absurd (by subst q; exact (uniq m e1).symm) hm
  · rcases q with q | q
    · exact s.fd b q
    · rw [q]; exact h.ex
/-- what is to be frozen -/
def Rf (K : Frag) (g0 g : G) : RV → V → Prop
  | .val p, v => Rp K g.H g.F p v
  | .own p, v => ∃ a, v = .ref a ∧ At K g.H g.F p a ∧ a ∉ g.A ∧ g0.H a = none
  | .ref n, v => ∃ a, v = .ref a ∧ g.A[n]? = some a
theorem Rr.rf {r : RV} {v : V} (h : Rr K g0 g r v) : Rf K g0 g r v := by
  cases r with
  | val p => exact h
  | own p => obtain ⟨a, e, h1, _, h2, h3⟩ := h; exact ⟨a, e, h1, h2, h3⟩
  | ref n => exact h
theorem Rf.keep {g' : G} {r : RV} {v : V} (k : Keep g g') (hH : g'.H = g.H) (hA : g'.A = g.A) (h : Rf K g0 g r v) : Rf K g0 g' r v := by
  cases r with
  | val p => exact Rp.keep k p v h
  | own p => obtain ⟨a, e, h1, h2, h3⟩ := h; exact ⟨a, e, h1.keep' k (by rw [hH]), by rw [hA]; exact h2, h3⟩
  | ref n => obtain ⟨a, e, h⟩ := h; exact ⟨a, e, by rw [hA]; exact h⟩
/-- force: the same heap, more frozen -/
theorem force_ok {r : RV} {v : V} {β : Type} {f : PV → M β} {R : β → G → Prop} (st : Stp g0 g) (s : SRc K g) (hr : Rf K g0 g r v) (h : WG K W g0 g.S (bd (force r) f) R) :
    ∃ p g', g'.H = g.H ∧ Stp g0 g' ∧ SRc K g' ∧ Rp K g'.H g'.F p v ∧ Keep g g' ∧ g'.A = g.A ∧ (∀ b, g'.F b → g.F b ∨ (v = .ref b ∧ ∀ p, r ≠ .val p)) ∧ WG K W g0 g'.S (f p) R := by
  have h1 := h.bd st
  unfold WG at h1
  cases r with
  | val p => exact ⟨p, g, rfl, st, s, hr, ⟨fun _ h => h, fun _ _ e _ => e⟩, rfl, fun _ h => .inl h, h1 g rfl (Stp.refl g) s⟩
  | own p =>
    obtain ⟨a, rfl, ha, nA, z⟩ := hr
    obtain ⟨k1, k2, k3⟩ := fzOwn st s ha nA z
    exact ⟨p, g.fz a, rfl, k1, k2, k3, keepF g a, rfl, fun b h => h.imp id fun h => ⟨by rw [h], fun _ => by simp⟩, (h.bd st).at (S' := g.S) (a := p) rfl (g' := g) rfl (Stp.refl g) s⟩
  | ref n =>
    obtain ⟨a, rfl, hA⟩ := hr
    cases hS : g.S[n]? with
    | none => simp only [force, hS] at h1
    | some c =>
      cases c with
      | nest es => simp only [force, hS] at h1
      | froz p =>
        simp only [force, hS] at h1
        exact ⟨p, g, rfl, st, s, s.cell n a _ hA hS, ⟨fun _ h => h, fun _ _ e _ => e⟩, rfl, fun _ h => .inl h, h1 g rfl (Stp.refl g) s⟩
      | live p =>
        obtain ⟨k1, k2, k3⟩ := fzCell st s hA hS
        have hk : Keep g (g.fzc n p a) := ⟨fun _ h => .inl h, fun _ _ e _ => e⟩
        have st' : Stp g (g.fzc n p a) := (fzCell (Stp.refl g) s hA hS).1
        exact ⟨p, g.fzc n p a, rfl, k1, k2, k3, hk, rfl, fun b h => h.imp id fun h => ⟨by rw [h], fun _ => by simp⟩, (h.bd st).at (S' := g.S.set n (.froz p)) (a := p) (by simp only [force, hS]) (g' := g.fzc n p a) rfl st' k2⟩
def RfL (K : Frag) (g0 g : G) : List RV → List V → Prop := Paired (Rf K g0 g)
theorem RrP.rf : ∀ {rs : List RV} {vs : List V}, RrP K g0 g rs vs → RfL K g0 g rs vs
  | _, _, .nil => .nil
  | _, _, .cons a b => .cons a.rf (RrP.rf b)
theorem RfL.keep {g' : G} (k : Keep g g') (hH : g'.H = g.H) (hA : g'.A = g.A) : ∀ {rs : List RV} {vs : List V}, RfL K g0 g rs vs → RfL K g0 g' rs vs
  | _, _, .nil => .nil
  | _, _, .cons a b => .cons (a.keep k hH hA) (RfL.keep k hH hA b)
theorem forces_ok : ∀ {rs : List RV} {vs : List V} {β : Type} {f : List PV → M β} {R : β → G → Prop} {g : G} (st : Stp g0 g) (s : SRc K g) (hr : RfL K g0 g rs vs) (h : WG K W g0 g.S (bd (forces rs) f) R),
    ∃ ps g', g'.H = g.H ∧ Stp g0 g' ∧ SRc K g' ∧ RpL K g'.H g'.F ps vs ∧ (∀ p v, Rp K g.H g.F p v → Rp K g'.H g'.F p v) ∧ g'.A = g.A ∧ WG K W g0 g'.S (f ps) R
  | _, _, β, f, R, g, st, s, .nil, h => ⟨[], g, rfl, st, s, rfl, fun _ _ h => h, rfl, by
      have h2 := h.bd st
      exact h2.at (S' := g.S) (a := []) rfl (g' := g) rfl (Stp.refl g) s⟩
  | r :: rs, v :: vs, β, f, R, g, st, s, .cons a b, h => by
    have h' : WG K W g0 g.S (bd (force r) fun p => bd (forces rs) fun ps => f (p :: ps)) R := by
      have e : bd (forces (r :: rs)) f = bd (force r) fun p => bd (forces rs) fun ps => f (p :: ps) := by
        funext S
        simp only [forces, bd, ret]
        cases force r S with
        | stuck => rfl
        | exc c v S' => rfl
        | ok p S' =>
          simp only
          cases forces rs S' <;> rfl
      rw [← e]; exact h
    obtain ⟨p, g1, e1, st1, s1, r1, k1, a1, _, h1⟩ := force_ok st s a h'
    obtain ⟨ps, g2, e2, st2, s2, r2, k2, a2, h2⟩ := forces_ok st1 s1 (RfL.keep k1 e1 a1 b) h1
    exact ⟨p :: ps, g2, e2.trans e1, st2, s2, ⟨v, vs, rfl, k2 p v r1, r2⟩, fun q w hq => k2 q w (Rp.keep k1 q w hq), a2.trans a1, h2⟩
end
section
variable {X : Cx} {W : WS} {x : Str} {pos : Pos} {a b c : Expr} {es : List Expr} {da db dc : Den} {ds : List Den} {f f' : PV → PV → Option RV}
theorem pe_dvar {i : Nat} (hN : X.N[i]? = some x) (hv : Vis X.env.scope x) (hd : (x == ("__debug__" : Str)) = false) (hcd : (x == ("__classdict__" : Str)) = false) : PE X (.Name x pos) (tD X.K W (dVar i)) :=
  peW (pe_var hN hv hd hcd) fun σ H Q ⟨ρ, g, e, sr, se, h⟩ => by
    subst e
    unfold WG dVar at h
    cases h1 : ρ[i]? with
    | none => simp only [h1] at h
    | some o =>
      cases o with
      | none => simp only [h1] at h
      | some sv =>
        simp only [h1] at h
        obtain ⟨v, e1, r⟩ := se.2 i sv h1
        refine ⟨v, e1, h g rfl (Stp.refl g) sr v ?_⟩
        cases sv with
        | val p => exact r
        | ref n => exact r
theorem tD_cst {K : Frag} {p : PV} {v : V} (hp : ∀ H F, Rp K H F p v) (σ : L2.St) (H : Hp) (Q : VK) (h : tD K W (dCst p) σ H Q) : tC v σ H Q := by
  obtain ⟨ρ, g, e, sr, se, h⟩ := h
  subst e
  exact h.ret rfl (Stp.refl g) sr v (hp _ _)
theorem pe_dint {i : Int} {j : Nat} : PE X (.Constant (.int i) j pos) (tD X.K W (dCst (.int i))) := peW pe_int (tD_cst fun _ _ => rfl)
theorem pe_dbl {i : Bool} {j : Nat} : PE X (.Constant (.bool i) j pos) (tD X.K W (dCst (.bl i))) := peW pe_bl (tD_cst fun _ _ => rfl)
theorem pe_dnon {j : Nat} : PE X (.Constant .none j pos) (tD X.K W (dCst .non)) := peW pe_non (tD_cst fun _ _ => rfl)
theorem pe_dstr {z : Str} {j : Nat} : PE X (.Constant (.str z) j pos) (tD X.K W (dCst (.str z))) := peW pe_str (tD_cst fun _ _ => rfl)
theorem pe_dglo {p : PV} {v : V} {u : Value} (hg : Gl X x) (hm : X.mg x = some u) (r : RelV v u) (hp : ∀ H F, Rp X.K H F p v) (hd : (x == ("__debug__" : Str)) = false) : PE X (.Name x pos) (tD X.K W (dCst p)) :=
  peW (pe_glob hg hm r hd) (tD_cst hp)
theorem tTup_of {K : Frag} {σ : L2.St} {H : Hp} {Q : VK} (h : tD K W (dTup ds) σ H Q) : tTup (tDs K W ds) σ H Q := by
  obtain ⟨ρ, g, e, sr, se, h⟩ := h
  subst e
  refine tDs.bd (Stp.refl g) sr se h fun rs g1 vs st _ sr1 se1 hvs h1 => ?_
  obtain ⟨ps, g2, e2, st2, s2, r2, _, _, h2⟩ := forces_ok st sr1 hvs.1.rf h1
  rw [← e2]
  split at h2
  · next hl =>
    refine ⟨by rw [← r2.len]; exact of_decide_eq_true hl, fun p hp => ?_⟩
    exact h2.ret (g' := g2.put p (.tup vs)) rfl (st2.trans (Stp.put hp)) (s2.put hp) (.ref p) ((newTup s2 hp r2).from st2)
  · exact (stk_ok h2).elim
theorem tLst_of {K : Frag} {σ : L2.St} {H : Hp} {Q : VK} (h : tD K W (dLst ds) σ H Q) : tLst (tDs K W ds) σ H Q := by
  obtain ⟨ρ, g, e, sr, se, h⟩ := h
  subst e
  refine tDs.bd (Stp.refl g) sr se h fun rs g1 vs st _ sr1 se1 hvs h1 => ?_
  obtain ⟨ps, g2, e2, st2, s2, r2, _, _, h2⟩ := forces_ok st sr1 hvs.1.rf h1
  rw [← e2]
  split at h2
  · next hl =>
    refine ⟨by rw [← r2.len]; exact of_decide_eq_true hl, fun p hp => ?_⟩
    exact h2.ret (g' := g2.put p (.lst vs)) rfl (st2.trans (Stp.put hp)) (s2.put hp) (.ref p) ((newLst s2 hp r2).from st2)
  · exact (stk_ok h2).elim
theorem pe_dtup {k : Nat} (h : PA X es (tDs X.K W ds)) : PE X (.Tuple es k pos) (tD X.K W (dTup ds)) := peW (pe_tup h) fun _ _ _ h => tTup_of h
theorem pe_dlst (h : PA X es (tDs X.K W ds)) : PE X (.List es pos) (tD X.K W (dLst ds)) := peW (pe_lst h) fun _ _ _ h => tLst_of h
theorem tD.use {K : Frag} {σ : L2.St} {g0 g : G} {ρ : Env} {R : RV → G → Prop} {Q : VK} {d : Den} (st0 : Stp g0 g) (sr : SRc K g) (se : SRe K g ρ σ) (h : WG K (W σ) g0 g.S (d ρ) R)
    (q : ∀ r g1 v, Stp g g1 → Stp g0 g1 → SRc K g1 → Rr K g0 g1 r v → R r g1 → Q v g1.H) : tD K W d σ g.H Q := by
  refine ⟨ρ, g, rfl, sr, se, ?_⟩
  unfold WG at h ⊢
  cases e : d ρ g.S with
  | stuck => rw [e] at h; exact h
  | exc c v S' => rw [e] at h; exact fun g' h1 h2 h3 => h g' h1 (st0.trans h2) h3
  | ok r S' => rw [e] at h; exact fun g' h1 h2 h3 v hv => q _ g' v h2 (st0.trans h2) h3 (hv.from st0) (h g' h1 (st0.trans h2) h3)
theorem tAndV_of {K : Frag} {σ : L2.St} {H : Hp} {Q : VK} (h : tD K W (dAnd da db) σ H Q) : tAndV (tD K W da) (tD K W db) σ H Q := by
  obtain ⟨ρ, g, e, sr, se, h⟩ := h
  subst e
  refine tD.bd (Stp.refl g) sr se h fun r g1 v st _ sr1 se1 hv h1 => ?_
  obtain ⟨c, rfl, h2⟩ := asB_bd st sr1 h1
  have hv : v = .bl c := hv
  refine ⟨c, hv, ?_⟩
  cases c with
  | true => exact tD.use st sr1 se1 h2 fun r g2 v _ _ _ hr k => k v hr
  | false => exact h2.ret rfl st sr1 (.bl false) rfl
theorem tOrV_of {K : Frag} {σ : L2.St} {H : Hp} {Q : VK} (h : tD K W (dOr da db) σ H Q) : tOrV (tD K W da) (tD K W db) σ H Q := by
  obtain ⟨ρ, g, e, sr, se, h⟩ := h
  subst e
  refine tD.bd (Stp.refl g) sr se h fun r g1 v st _ sr1 se1 hv h1 => ?_
  obtain ⟨c, rfl, h2⟩ := asB_bd st sr1 h1
  have hv : v = .bl c := hv
  refine ⟨c, hv, ?_⟩
  cases c with
  | false => exact tD.use st sr1 se1 h2 fun r g2 v _ _ _ hr k => k v hr
  | true => exact h2.ret rfl st sr1 (.bl true) rfl
theorem tNotV_of {K : Frag} {σ : L2.St} {H : Hp} {Q : VK} (h : tD K W (dNot da) σ H Q) : tNotV (tD K W da) σ H Q := by
  obtain ⟨ρ, g, e, sr, se, h⟩ := h
  subst e
  refine tD.bd (Stp.refl g) sr se h fun r g1 v st _ sr1 se1 hv h1 => ?_
  obtain ⟨c, rfl, h2⟩ := asB_bd st sr1 h1
  have hv : v = .bl c := hv
  exact ⟨c, hv, h2.ret rfl st sr1 (.bl (!c)) rfl⟩
end
end Pf
end
section
set_option Elab.async false
set_option linter.all false
set_option maxHeartbeats 1000000
set_option autoImplicit false
namespace Pf
open PySem PySem.Spec L2
def dTest (d : Den) : Env → M Bool := fun ρ => bd (d ρ) asB
def tT (K : Frag) (W : WS) (d : Den) : TT := fun σ H Q => ∃ ρ g, g.H = H ∧ SRc K g ∧ SRe K g ρ σ ∧ WG K (W σ) g g.S (dTest d ρ) fun b g' => Q b g'.H
theorem ptW {X : Cx} {e : Expr} {t t' : TT} (h : PT X e t) (w : ∀ σ H Q, t' σ H Q → t σ H Q) : PT X e t' := ⟨fun pins s σ H Q I q => h.run pins s σ H Q I (w σ H Q q)⟩
theorem pwW {X : Cx} {e : Expr} {t t' : TT} (h : PW X e t) (w : ∀ σ H Q, t' σ H Q → t σ H Q) : PW X e t' := ⟨fun wh pins s σ H Q I q => h.run wh pins s σ H Q I (w σ H Q q)⟩
section
variable {K : Frag} {W : WS} {d da db dc : Den} {σ : L2.St} {H : Hp}
theorem tT_tD {Q : Bool → Hp → Prop} (h : tT K W d σ H Q) : tD K W d σ H fun v H' => ∃ k, v = .bl k ∧ Q k H' := by
  obtain ⟨ρ, g, e, sr, se, h⟩ := h
  subst e
  refine ⟨ρ, g, rfl, sr, se, (WG.bd0 h).mono fun r g1 st sr1 h1 v hv => ?_⟩
  obtain ⟨b, rfl, k⟩ := asB_ok h1
  exact ⟨b, hv, k g1 rfl st sr1⟩
theorem tT.use {Q : Bool → Hp → Prop} {g0 g : G} {ρ : Env} {R : Bool → G → Prop} (st0 : Stp g0 g) (sr : SRc K g) (se : SRe K g ρ σ) (h : WG K (W σ) g0 g.S (dTest d ρ) R)
    (q : ∀ b g1, Stp g g1 → Stp g0 g1 → SRc K g1 → R b g1 → Q b g1.H) : tT K W d σ g.H Q := by
  refine ⟨ρ, g, rfl, sr, se, ?_⟩
  unfold WG at h ⊢
  cases e : dTest d ρ g.S with
  | stuck => rw [e] at h; exact h
  | exc c v S' => rw [e] at h; exact fun g' h1 h2 h3 => h g' h1 (st0.trans h2) h3
  | ok r S' => rw [e] at h; exact fun g' h1 h2 h3 => q _ g' h2 (st0.trans h2) h3 (h g' h1 (st0.trans h2) h3)
/-- a test, then the rest -/
theorem tT.bd {Q : Bool → Hp → Prop} {g0 g : G} {ρ : Env} {β : Type} {f : Bool → M β} {R : β → G → Prop} (st0 : Stp g0 g) (sr : SRc K g) (se : SRe K g ρ σ) (h : WG K (W σ) g0 g.S (bd (d ρ) fun r => bd (asB r) f) R)
    (q : ∀ b g1, Stp g g1 → Stp g0 g1 → SRc K g1 → SRe K g1 ρ σ → WG K (W σ) g0 g1.S (f b) R → Q b g1.H) : tT K W d σ g.H Q := by
  have e : (Pf.bd (d ρ) fun r => Pf.bd (asB r) f) = Pf.bd (dTest d ρ) f := by
    funext S
    simp only [dTest, Pf.bd]
    cases d ρ S <;> rfl
  rw [e] at h
  exact ⟨ρ, g, rfl, sr, se, (h.bd st0).mono fun b g1 st sr1 h1 => q b g1 st (st0.trans st) sr1 (se.step sr st) h1⟩
theorem tAnd_of {Q : Bool → Hp → Prop} (h : tT K W (dAnd da db) σ H Q) : tAnd (tT K W da) (tT K W db) σ H Q := by
  obtain ⟨ρ, g, e, sr, se, h⟩ := h
  subst e
  have e : dTest (dAnd da db) ρ = bd (da ρ) fun r => bd (asB r) fun c => if c then dTest db ρ else ret false := by
    funext S
    simp only [dTest, dAnd, Pf.bd]
    cases da ρ S with
    | ok r S' =>
      simp only
      cases asB r S' with
      | ok c S2 => cases c <;> simp only [Bool.false_eq_true, if_false, if_true] <;> rfl
      | exc _ _ _ => rfl
      | stuck => rfl
    | exc _ _ _ => rfl
    | stuck => rfl
  rw [e] at h
  refine tT.bd (Stp.refl g) sr se h fun b g1 st _ sr1 se1 h1 => ?_
  cases b with
  | true => exact tT.use st sr1 se1 h1 fun b g2 _ _ _ k => k
  | false => exact h1.ret rfl st sr1
theorem tOr_of {Q : Bool → Hp → Prop} (h : tT K W (dOr da db) σ H Q) : tOr (tT K W da) (tT K W db) σ H Q := by
  obtain ⟨ρ, g, e, sr, se, h⟩ := h
  subst e
  have e : dTest (dOr da db) ρ = bd (da ρ) fun r => bd (asB r) fun c => if c then ret true else dTest db ρ := by
    funext S
    simp only [dTest, dOr, Pf.bd]
    cases da ρ S with
    | ok r S' =>
      simp only
      cases asB r S' with
      | ok c S2 => cases c <;> simp only [Bool.false_eq_true, if_false, if_true] <;> rfl
      | exc _ _ _ => rfl
      | stuck => rfl
    | exc _ _ _ => rfl
    | stuck => rfl
  rw [e] at h
  refine tT.bd (Stp.refl g) sr se h fun b g1 st _ sr1 se1 h1 => ?_
  cases b with
  | false => exact tT.use st sr1 se1 h1 fun b g2 _ _ _ k => k
  | true => exact h1.ret rfl st sr1
theorem tNot_of {Q : Bool → Hp → Prop} (h : tT K W (dNot da) σ H Q) : tNot (tT K W da) σ H Q := by
  obtain ⟨ρ, g, e, sr, se, h⟩ := h
  subst e
  have e : dTest (dNot da) ρ = bd (da ρ) fun r => bd (asB r) fun c => ret (!c) := by
    funext S
    simp only [dTest, dNot, Pf.bd]
    cases da ρ S with
    | ok r S' =>
      simp only
      cases asB r S' with
      | ok c S2 => rfl
      | exc _ _ _ => rfl
      | stuck => rfl
    | exc _ _ _ => rfl
    | stuck => rfl
  rw [e] at h
  refine tT.bd (Stp.refl g) sr se h fun b g1 st _ sr1 se1 h1 => ?_
  exact h1.ret rfl st sr1
theorem tIf_of {Q : VK} (h : tD K W (dIte dc da db) σ H Q) : tIf (tT K W dc) (tD K W da) (tD K W db) σ H Q := by
  obtain ⟨ρ, g, e, sr, se, h⟩ := h
  subst e
  refine tT.bd (Stp.refl g) sr se h fun b g1 st _ sr1 se1 h1 => ?_
  cases b with
  | true => exact tD.use st sr1 se1 h1 fun r g2 v _ _ _ hr k => k v hr
  | false => exact tD.use st sr1 se1 h1 fun r g2 v _ _ _ hr k => k v hr
theorem tChain_of {f f' : PV → PV → Option RV} {Q : VK} (h : tD K W (dChain f f' da db dc) σ H Q) : tChain (rOp K f) (rOp K f') (tD K W da) (tD K W db) (tD K W dc) σ H Q := by
  obtain ⟨ρ, g, e, sr, se, h⟩ := h
  subst e
  refine tD.bd (Stp.refl g) sr se h fun r g1 v st _ sr1 se1 hv h1 => ?_
  refine tD.bd st sr1 se1 h1 fun q g2 v2 st2 st02 sr2 se2 hv2 h2 => ?_
  obtain ⟨p, p', x, e1, e2, e3, k⟩ := run2_bd st02 h2
  refine ⟨g2, p, p', x, rfl, sr2, (hv.step sr1 st2).peek sr2 e1, hv2.peek sr2 e2, e3, fun g3 v3 hS st3 sr3 hr3 => ?_⟩
  have h3 := k g3 hS st3 sr3
  obtain ⟨c, rfl, h4⟩ := asB_bd (st02.trans st3) sr3 h3
  have hr3 : v3 = .bl c := hr3
  refine ⟨c, hr3, ?_⟩
  have se3 := se2.step sr2 st3
  have hv3 := hv2.step sr2 st3
  cases c with
  | true =>
    rw [if_pos rfl] at h4 ⊢
    refine tD.bd (st02.trans st3) sr3 se3 h4 fun z g4 w st4 st04 sr4 se4 hw h5 => ?_
    obtain ⟨p, p', x, e1, e2, e3, k⟩ := h5.run2
    exact ⟨g4, p, p', x, rfl, sr4, (hv3.step sr3 st4).peek sr4 e1, hw.peek sr4 e2, e3, fun g' v' hS st' sr' hr => k g' hS (st04.trans st') sr' v' (hr.from st04)⟩
  | false =>
    rw [if_neg (by decide)] at h4 ⊢
    exact h4.ret rfl (st02.trans st3) sr3 (.bl false) rfl
end
section
variable {X : Cx} {W : WS} {x : Str} {pos p : Pos} {a b c e : Expr} {es : List Expr} {d da db dc : Den} {ds : List Den} {f f' : PV → PV → Option RV}
theorem pt_dval (h : PE X e (tD X.K W d)) (he : ∀ whole, isTrue e X.env whole = (do let v ← whole; standAt e.pos; holding [v] (truthy v))) : PT X e (tT X.K W d) :=
  ptW (pt_val h he) fun _ _ _ h => tT_tD h
theorem pt_dcmp {op : CmpOp} (ho : OpR X (compareOp op) (rOp X.K f)) (ha : PE X a (tD X.K W da)) (hb : PE X b (tD X.K W db)) (hm : behindInMarks op b = false) : PT X (.Compare a [op] [b] pos) (tT X.K W (dBin f da db)) :=
  ptW (pt_cmpR ho ha hb hm) fun _ _ _ h => tOp_of (tT_tD h)
theorem pt_dchain {op op' : CmpOp} (ho : OpR X (compareOp op) (rOp X.K f)) (ho' : OpR X (compareOp op') (rOp X.K f')) (ha : PE X a (tD X.K W da)) (hb : PE X b (tD X.K W db)) (hc : PE X c (tD X.K W dc)) (hm : lastMarks [op, op'] [b, c] = false) :
    PT X (.Compare a [op, op'] [b, c] pos) (tT X.K W (dChain f f' da db dc)) :=
  ptW (pt_chain ho ho' ha hb hc hm) fun _ _ _ h => tChain_of (tT_tD h)
theorem pe_dchain {op op' : CmpOp} (ho : OpR X (compareOp op) (rOp X.K f)) (ho' : OpR X (compareOp op') (rOp X.K f')) (ha : PE X a (tD X.K W da)) (hb : PE X b (tD X.K W db)) (hc : PE X c (tD X.K W dc)) (hm : lastMarks [op, op'] [b, c] = false) :
    PE X (.Compare a [op, op'] [b, c] pos) (tD X.K W (dChain f f' da db dc)) :=
  peW (pe_chain ho ho' ha hb hc hm) fun _ _ _ h => tChain_of h
theorem pw_d1 {op : BoolOp} (h : PT X a (tT X.K W da)) : PW X (.BoolOp op [a] pos) (tT X.K W da) := by
  cases op with
  | And => exact pw_and1 h
  | Or => exact pw_or1 h
theorem pw_dand (ha : PT X a (tT X.K W da)) (hb : PW X (.BoolOp .And (b :: es) pos) (tT X.K W db)) : PW X (.BoolOp .And (a :: b :: es) pos) (tT X.K W (dAnd da db)) := pwW (pw_and ha hb) fun _ _ _ h => tAnd_of h
theorem pw_dor (ha : PT X a (tT X.K W da)) (hb : PW X (.BoolOp .Or (b :: es) pos) (tT X.K W db)) : PW X (.BoolOp .Or (a :: b :: es) pos) (tT X.K W (dOr da db)) := pwW (pw_or ha hb) fun _ _ _ h => tOr_of h
theorem pe_d1 {op : BoolOp} (h : PE X a (tD X.K W da)) : PE X (.BoolOp op [a] pos) (tD X.K W da) := pe_one h
theorem pe_dand (ha : PE X a (tD X.K W da)) (hb : PE X (.BoolOp .And (b :: es) pos) (tD X.K W db)) : PE X (.BoolOp .And (a :: b :: es) pos) (tD X.K W (dAnd da db)) := peW (pe_and ha hb) fun _ _ _ h => tAndV_of h
theorem pe_dor (ha : PE X a (tD X.K W da)) (hb : PE X (.BoolOp .Or (b :: es) pos) (tD X.K W db)) : PE X (.BoolOp .Or (a :: b :: es) pos) (tD X.K W (dOr da db)) := peW (pe_or ha hb) fun _ _ _ h => tOrV_of h
theorem pt_dnot (ha : PT X a (tT X.K W da)) : PT X (.UnaryOp .Not a pos) (tT X.K W (dNot da)) := ptW (pt_not ha) fun _ _ _ h => tNot_of h
theorem pe_dnot (ha : PE X a (tD X.K W da)) : PE X (.UnaryOp .Not a pos) (tD X.K W (dNot da)) := peW (pe_not ha) fun _ _ _ h => tNotV_of h
theorem pe_dite (hc : PT X c (tT X.K W dc)) (ha : PE X a (tD X.K W da)) (hb : PE X b (tD X.K W db)) : PE X (.IfExp c a b pos) (tD X.K W (dIte dc da db)) := peW (pe_ifExp hc ha hb) fun _ _ _ h => tIf_of h
/-! isinstance -/
def tyN : PV → String
  | .non => "NoneType"
  | .bl _ => "bool"
  | .int _ => "int"
  | .str _ => "str"
  | .tup _ => "tuple"
  | .lst _ => "list"
  | .dct _ => "dict"
  | .scr _ => "list"
def isT (p : PV) (T : String) : Option Bool := if T = "int" then some (match p with | .int _ => true | .bl _ => true | _ => false)
  else if T = "bool" then some (match p with | .bl _ => true | _ => false)
  else if T = "tuple" then some (match p with | .tup _ => true | _ => false)
  else if T = "list" then some (match p with | .lst _ => true | .scr _ => true | _ => false)
  else if T = "str" then some (match p with | .str _ => true | _ => false)
  else if T = "dict" then some (match p with | .dct _ => true | _ => false)
  else none
theorem kits : ∀ n ∈ ["NoneType", "bool", "int", "str", "tuple", "list", "dict"], ∀ T ∈ ["int", "bool", "tuple", "list", "str", "dict"], kitB n T = some (if T = "int" then decide (n = "int" ∨ n = "bool") else decide (n = T)) := by decide +kernel
theorem isT_kit {p : PV} {T : String} {b : Bool} (h : isT p T = some b) : kitB (tyN p) T = some b := by
  have hn : tyN p ∈ ["NoneType", "bool", "int", "str", "tuple", "list", "dict"] := by cases p <;> simp [tyN]
  have key : ∀ c : Bool, (if T = "int" then decide (tyN p = "int" ∨ tyN p = "bool") else decide (tyN p = T)) = c → T ∈ ["int", "bool", "tuple", "list", "str", "dict"] → kitB (tyN p) T = some c := fun c e m => by
    rw [kits _ hn _ m, e]
  unfold isT at h
  by_cases h1 : T = "int"
  · subst h1; simp only [if_true] at h; cases h; refine key _ ?_ (by simp); cases p <;> simp [tyN]
  by_cases h2 : T = "bool"
  · subst h2; simp only [if_true, h1, if_false] at h; cases h; refine key _ ?_ (by simp); cases p <;> simp [tyN]
  by_cases h3 : T = "tuple"
  · subst h3; simp only [if_true, h1, h2, if_false] at h; cases h; refine key _ ?_ (by simp); cases p <;> simp [tyN]
  by_cases h4 : T = "list"
  · subst h4; simp only [if_true, h1, h2, h3, if_false] at h; cases h; refine key _ ?_ (by simp); cases p <;> simp [tyN]
  by_cases h5 : T = "str"
  · subst h5; simp only [if_true, h1, h2, h3, h4, if_false] at h; cases h; refine key _ ?_ (by simp); cases p <;> simp [tyN]
  by_cases h6 : T = "dict"
  · subst h6; simp only [if_true, h1, h2, h3, h4, h5, if_false] at h; cases h; refine key _ ?_ (by simp); cases p <;> simp [tyN]
  simp only [h1, h2, h3, h4, h5, h6, if_false] at h
  cases h
def isTs (p : PV) : List String → Option Bool
  | [] => some false
  | T :: Ts => match isT p T with
    | some true => some true
    | some false => isTs p Ts
    | none => none
theorem isTs_kit {K : Frag} {p : PV} : ∀ {Ts : List String} {b : Bool}, isTs p Ts = some b → PySem.W.kitAny K (.type (tyN p)) (Ts.map Value.type) = some b
  | [], b, h => by cases h; exact kitAny_nil
  | T :: Ts, b, h => by
    unfold isTs at h
    cases e : isT p T with
    | none => rw [e] at h; cases h
    | some c =>
      rw [e] at h
      refine kitAny_cons (kit_ty (isT_kit e)) (fun hc => ?_) fun hc => ?_
      · subst hc; exact isTs_kit h
      · subst hc; cases h; rfl
theorem RpW.ty {K : Frag} {H : Hp} {F : Addr → Prop} {p : PV} {v : V} (h : RpW K H F p v) : TyX K H v (.type (tyN p)) := by
  cases p with
  | non => have h : v = _ := h; subst h; exact .base .non
  | bl b => have h : v = _ := h; subst h; exact .base (.bl b)
  | int b => have h : v = _ := h; subst h; exact .base (.int b)
  | str b => have h : v = _ := h; subst h; exact .base (.str b)
  | tup xs =>
    obtain ⟨a, vs, rfl, q, _⟩ := h
    rcases q with (q | ⟨o, q⟩) | ⟨o, its, n, q, c, _⟩
    · exact .base (.tup q)
    · exact .fTuple q
    · exact .kTuple q c
  | lst xs => obtain ⟨a, vs, rfl, q, _⟩ := h; exact .base (.lst q)
  | dct kvs =>
    obtain ⟨a, rfl, q⟩ := h
    rcases q with ⟨l, q, _⟩ | ⟨l, q, _⟩
    · exact .base (.dK q)
    · exact .base (.dT q)
  | scr ns =>
    obtain ⟨a, rfl, q⟩ := h
    rcases q with ⟨o, q⟩ | ⟨o, its, n, q, c, _⟩
    · exact .base (.frz q)
    · exact .kList q c
def fIsi (Ts : List String) : PV → Option RV := fun p => (isTs p Ts).map fun b => .val (.bl b)
theorem fIsi_some {Ts : List String} {p : PV} {r : RV} (h : fIsi Ts p = some r) : ∃ b, isTs p Ts = some b ∧ r = .val (.bl b) := by
  unfold fIsi at h
  cases e : isTs p Ts with
  | none => rw [e] at h; cases h
  | some b => rw [e] at h; cases h; exact ⟨b, rfl, rfl⟩
theorem pe_disi {T : String} {y : Str} {p2 : Pos} (hg : Gl X "isinstance") (hm : X.mg "isinstance" = none) (hg2 : Gl X y) (hm2 : X.mg y = none) (hv2 : bootBuiltins y = some (.type T)) (hn2 : y ≠ "__name__") (hd2 : (y == ("__debug__" : Str)) = false)
    (ha : PE X a (tD X.K W da)) (h1 : starEach [a, .Name y p2] X.env = (false, eval a X.env) :: starEach [.Name y p2] X.env) : PE X (.Call (.Name "isinstance" p) [a, .Name y p2] [] pos) (tD X.K W (dUn (fIsi [T]) da)) :=
  peW (pe_callB call_isi hg hm (by decide +kernel) (pa_cons ha (pa_cons (pe_bltn (v := .ty T) hg2 hm2 hv2 rfl hn2 hd2) pa_nil) h1) (by decide) (by decide) h1) fun σ H Q ⟨ρ, g, e, sr, se, h⟩ => by
    subst e
    refine tD.bd (Stp.refl g) sr se h fun r g1 v st _ sr1 se1 hv h1 => ?_
    obtain ⟨p, x, e1, e3, k⟩ := h1.run1
    obtain ⟨b, e4, rfl⟩ := fIsi_some e3
    have e5 : isT p T = some b := by
      unfold isTs at e4
      cases e5 : isT p T with
      | none => rw [e5] at e4; cases e4
      | some c => rw [e5] at e4; cases c <;> simp only [isTs] at e4 <;> exact e4
    exact ⟨v, .ty T, .type (tyN p), .type T, b, rfl, .ty T, (hv.peek sr1 e1).ty, kit_ty (isT_kit e5), k g1 rfl st sr1 (.bl b) rfl⟩
theorem pe_disi2 {T1 T2 : String} {y z : Str} {k0 : Nat} {p1 p2 p3 : Pos} (hg : Gl X "isinstance") (hm : X.mg "isinstance" = none) (hg1 : Gl X y) (hm1 : X.mg y = none) (hv1 : bootBuiltins y = some (.type T1)) (hn1 : y ≠ "__name__") (hd1 : (y == ("__debug__" : Str)) = false)
    (hg2 : Gl X z) (hm2 : X.mg z = none) (hv2 : bootBuiltins z = some (.type T2)) (hn2 : z ≠ "__name__") (hd2 : (z == ("__debug__" : Str)) = false)
    (ha : PE X a (tD X.K W da)) (h1 : starEach [a, .Tuple [.Name y p1, .Name z p2] k0 p3] X.env = (false, eval a X.env) :: starEach [.Tuple [.Name y p1, .Name z p2] k0 p3] X.env) :
    PE X (.Call (.Name "isinstance" p) [a, .Tuple [.Name y p1, .Name z p2] k0 p3] [] pos) (tD X.K W (dUn (fIsi [T1, T2]) da)) :=
  peW (pe_callB call_isiT hg hm (by decide +kernel) (pa_cons ha (pa_cons (pe_tup (pa_cons (pe_bltn (v := .ty T1) hg1 hm1 hv1 rfl hn1 hd1) (pa_cons (pe_bltn (v := .ty T2) hg2 hm2 hv2 rfl hn2 hd2) pa_nil))) pa_nil) h1) (by decide) (by decide) h1) fun σ H Q ⟨ρ, g, e, sr, se, h⟩ => by
    subst e
    refine tD.bd (Stp.refl g) sr se h fun r g1 v st _ sr1 se1 hv h1 => ?_
    obtain ⟨p, x, e1, e3, k⟩ := h1.run1
    obtain ⟨b, e4, rfl⟩ := fIsi_some e3
    refine ⟨by show 2 ≤ sizeLine; decide, fun tp htp => ?_⟩
    have sr2 := sr1.put (o := .tup [.ty T1, .ty T2]) htp
    have st2 : Stp g1 (g1.put tp (.tup [.ty T1, .ty T2])) := Stp.put htp
    exact ⟨v, tp, [.ty T1, .ty T2], .type (tyN p), [.type T1, .type T2], b, rfl, upd_same, .cons (.ty T1) (.cons (.ty T2) .nil), ((hv.step sr1 st2).peek sr2 e1).ty, isTs_kit e4, k (g1.put tp _) rfl (st.trans st2) sr2 (.bl b) rfl⟩
/-! subscripts -/
def bIdx : PV → PV → Option RV
  | .lst xs, .int i => (atI xs i).map .val
  | .tup xs, .int i => (atI xs i).map .val
  | .str z, .int i => if z.length ≤ sizeLine then (atI z.cps.toList i).map fun c => .val (.str ⟨#[c]⟩) else none
  | .scr ns, .int i => (atI ns i).map fun n => .val (.int n)
  | _, _ => none
theorem RpL.atI {K : Frag} {H : Hp} {F : Addr → Prop} {ps : List PV} {vs : List V} {i : Int} {p : PV} (h : RpL K H F ps vs) (e : L2.atI ps i = some p) : ∃ v, L2.atI vs i = some v ∧ Rp K H F p v := by
  unfold L2.atI at e ⊢
  rw [← h.len]
  cases e1 : ixN ps.length i with
  | none => rw [e1] at e; cases e
  | some j => rw [e1] at e; exact h.get e
theorem ix_d : IxR X (rOp X.K bIdx) := by
  intro value slice pins s σ H x y v u Q I rx ry ⟨g, p, q, r, hH, sr, hp, hq, e, k⟩ hs
  subst hH
  cases p with
  | lst xs =>
    cases q <;> simp only [bIdx] at e <;> try cases e
    next i =>
    cases e1 : atI xs i with
    | none => rw [e1] at e; cases e
    | some z =>
      rw [e1] at e; cases e
      obtain ⟨a, vs, rfl, ha, ra⟩ := hp
      obtain ⟨w, e2, rw'⟩ := ra.atI e1
      exact ix_list value slice pins s σ _ _ y v u Q I rx ry ⟨a, vs, i, w, rfl, hq, .inl (.inl ha), e2, k g w rfl (Stp.refl g) sr rw'⟩ hs
  | tup xs =>
    cases q <;> simp only [bIdx] at e <;> try cases e
    next i =>
    cases e1 : atI xs i with
    | none => rw [e1] at e; cases e
    | some z =>
      rw [e1] at e; cases e
      obtain ⟨a, vs, rfl, ha, ra⟩ := hp
      obtain ⟨w, e2, rw'⟩ := ra.atI e1
      exact ix_tup value slice pins s σ _ _ y v u Q I rx ry ⟨a, vs, i, w, rfl, hq, ha, e2, k g w rfl (Stp.refl g) sr rw'⟩ hs
  | str z =>
    cases q <;> simp only [bIdx] at e <;> try cases e
    next i =>
    split at e
    · next hz =>
      cases e1 : atI z.cps.toList i with
      | none => rw [e1] at e; cases e
      | some c =>
        rw [e1] at e; cases e
        exact ix_str value slice pins s σ _ x y v u Q I rx ry ⟨z, i, c, hp, hq, hz, e1, k g _ rfl (Stp.refl g) sr rfl⟩ hs
    · cases e
  | scr ns =>
    cases q <;> simp only [bIdx] at e <;> try cases e
    next i =>
    cases e1 : atI ns i with
    | none => rw [e1] at e; cases e
    | some n =>
      rw [e1] at e; cases e
      obtain ⟨a, rfl, ha⟩ := hp
      have e2 : atI (ns.map V.int) i = some (.int n) := by
        unfold atI at e1 ⊢
        rw [List.length_map]
        cases e3 : ixN ns.length i with
        | none => rw [e3] at e1; cases e1
        | some j =>
          rw [e3] at e1
          have e1 : ns[j]? = some n := e1
          show (ns.map V.int)[j]? = _
          rw [List.getElem?_map, e1]
          rfl
      exact ix_list value slice pins s σ _ _ y v u Q I rx ry ⟨a, _, i, _, rfl, hq, ha.sq, e2, k g _ rfl (Stp.refl g) sr rfl⟩ hs
  | _ => cases q <;> simp only [bIdx] at e <;> cases e
theorem plainIx (h : ∀ l u s q, b ≠ .Slice l u s q) : PlainIx b := by
  intro o i
  cases b <;> first | rfl | exact absurd rfl (h _ _ _ _)
theorem pe_dix (ha : PE X a (tD X.K W da)) (hb : PE X b (tD X.K W db)) (h : ∀ l u s q, b ≠ .Slice l u s q) : PE X (.Subscript a b pos) (tD X.K W (dBin bIdx da db)) :=
  peW (pe_ix ix_d ha hb (plainIx h)) fun _ _ _ h => tOp_of h
/-! slices -/
def cutP (xs : List PV) (lo hi : Option Int) : List PV := (xs.drop (HT.sIx xs.length 0 lo)).take (HT.sIx xs.length xs.length hi - HT.sIx xs.length 0 lo)
theorem RpL.cut {K : Frag} {H : Hp} {F : Addr → Prop} {ps : List PV} {vs : List V} (h : RpL K H F ps vs) (lo hi : Option Int) : RpL K H F (cutP ps lo hi) (cutV vs lo hi) := by
  unfold cutP cutV
  rw [h.len]
  exact (h.drop _).take _
def sCut (p : PV) (lo hi : Option Int) : Option RV := match p with
  | .lst xs => some (.own (.lst (cutP xs lo hi)))
  | .tup xs => some (.val (.tup (cutP xs lo hi)))
  | .str z => if z.length ≤ sizeLine then some (.val (.str (cutS z lo hi))) else none
  | _ => none
theorem sl_d : SlR X (fun x lo hi H Q => ∃ g p r, g.H = H ∧ SRc X.K g ∧ RpW X.K g.H g.F p x ∧ sCut p lo hi = some r ∧ ∀ g' v, g'.S = g.S → Stp g g' → SRc X.K g' → Rr X.K g g' r v → Q v g'.H) := by
  intro pins s σ H x v vl vu lo hi sl Q I rx hs pl pu ⟨g, p, r, hH, sr, hp, e, k⟩
  subst hH
  cases p <;> simp only [sCut] at e <;> try cases e
  · split at e
    · next z h => cases e; have hp : x = _ := hp; subst hp; exact sl_str pins s σ _ _ v vl vu lo hi sl Q I rx hs pl pu ⟨z, rfl, h, k g _ rfl (Stp.refl g) sr rfl⟩
    · cases e
  · obtain ⟨a, vs, rfl, ha, ra⟩ := hp
    refine sl_tupA pins s σ _ _ v vl vu lo hi sl Q I rx hs pl pu ⟨a, vs, rfl, ha, fun hw => ?_, fun _ p hp => ?_⟩
    · refine k g _ rfl (Stp.refl g) sr ⟨a, cutV vs lo hi, rfl, ?_, ra.cut lo hi⟩
      have : cutV vs lo hi = vs := by unfold cutV; rw [hw.1, hw.2]; simp
      rw [this]; exact ha
    · exact k (g.put p _) _ rfl (Stp.put hp) (sr.put hp) (newTup sr hp (ra.cut lo hi))
  · obtain ⟨a, vs, rfl, ha, ra⟩ := hp
    exact sl_list pins s σ _ _ v vl vu lo hi sl Q I rx hs pl pu ⟨a, vs, rfl, .inl (.inl ha), fun p hp => k (g.put p _) _ rfl (Stp.put hp) (sr.put hp) (newLst sr hp (ra.cut lo hi))⟩
def optI : Option Den → Env → M (Option Int)
  | none, _ => ret none
  | some d, ρ => bd (d ρ) fun r => match r with
    | .val (.int i) => ret (some i)
    | _ => stk
def dSli (a : Den) (lo hi : Option Den) : Den := fun ρ => bd (a ρ) fun r => bd (optI lo ρ) fun l => bd (optI hi ρ) fun h => run1 (fun p => sCut p l h) r
def tO (K : Frag) (W : WS) (d : Option Den) : TO := match d with
  | none => tNoPart
  | some d => tPart (tD K W d)
theorem po_d0 : PO X none (tO X.K W none) := po_none
theorem po_d1 (h : PE X e (tD X.K W d)) : PO X (some e) (tO X.K W (some d)) := po_some h
theorem tO.bd {K : Frag} {σ : L2.St} {Q : Option Int → Hp → Prop} {o : Option Den} {g0 g : G} {ρ : Env} {β : Type} {f : Option Int → M β} {R : β → G → Prop} (st0 : Stp g0 g) (sr : SRc K g) (se : SRe K g ρ σ) (h : WG K (W σ) g0 g.S (Pf.bd (optI o ρ) f) R)
    (q : ∀ i g1, Stp g g1 → Stp g0 g1 → SRc K g1 → SRe K g1 ρ σ → WG K (W σ) g0 g1.S (f i) R → Q i g1.H) : tO K W o σ g.H Q := by
  cases o with
  | none => exact q none g (Stp.refl g) st0 sr se ((h.bd st0).at (S' := g.S) (a := none) rfl (g' := g) rfl (Stp.refl g) sr)
  | some d =>
    have e : Pf.bd (optI (some d) ρ) f = Pf.bd (d ρ) fun r => match r with | .val (.int i) => f (some i) | _ => stk := by
      funext S
      simp only [optI, Pf.bd]
      cases d ρ S with
      | ok r S' => cases r with
        | val p => cases p <;> rfl
        | own p => rfl
        | ref n => rfl
      | exc _ _ _ => rfl
      | stuck => rfl
    rw [e] at h
    show tPart (tD K W d) σ g.H Q
    unfold tPart
    refine tD.bd st0 sr se h fun r g1 v st st1 sr1 se1 hv h1 => ?_
    split at h1
    · next i => exact ⟨i, hv, q (some i) g1 st st1 sr1 se1 h1⟩
    · exact (stk_ok h1).elim
theorem pe_dsli {lo hi : Option Expr} {dl dh : Option Den} {p2 : Pos} (ha : PE X a (tD X.K W da)) (hl : PO X lo (tO X.K W dl)) (hh : PO X hi (tO X.K W dh)) : PE X (.Subscript a (.Slice lo hi none p2) pos) (tD X.K W (dSli da dl dh)) :=
  peW (pe_slice sl_d ha hl hh) fun σ H Q ⟨ρ, g, e, sr, se, h⟩ => by
    subst e
    refine tD.bd (Stp.refl g) sr se h fun r g1 v st _ sr1 se1 hv h1 => ?_
    refine tO.bd st sr1 se1 h1 fun l g2 st2 st02 sr2 se2 h2 => ?_
    refine tO.bd st02 sr2 se2 h2 fun u g3 st3 st03 sr3 se3 h3 => ?_
    obtain ⟨p, x, e1, e3, k⟩ := h3.run1
    exact ⟨g3, p, x, rfl, sr3, ((hv.step sr1 st2).step sr2 st3).peek sr3 e1, e3, fun g' v' hS st' sr' hr => k g' hS (st03.trans st') sr' v' (hr.from st03)⟩
end
end Pf
end
section
set_option Elab.async false
set_option linter.all false
set_option maxHeartbeats 1000000
set_option autoImplicit false
namespace Pf
open PySem PySem.Spec L2
/-! cells changed -/
def withP {α : Type} (q : RV) (f : PV → M α) : M α := fun S => match peek q S with
  | some p => f p S
  | none => .stuck
theorem WG.withP {K : Frag} {W : XW} {g : G} {S : Sto} {α : Type} {q : RV} {f : PV → M α} {Q : α → G → Prop} (h : WG K W g S (withP q f) Q) : ∃ p, peek q S = some p ∧ WG K W g S (f p) Q := by
  unfold WG Pf.withP at h
  cases e : peek q S with
  | none => simp only [e] at h
  | some p => simp only [e] at h; exact ⟨p, rfl, h⟩
/-- change the live object of a cell; give back a value -/
def updV (r : RV) (f : PV → Option (PV × PV)) : M RV := fun S => match r with
  | .ref n => (match S[n]? with
    | some (.live p) => (match f p with
      | some (p', v) => .ok (.val v) (S.set n (.live p'))
      | none => .stuck)
    | _ => .stuck)
  | _ => .stuck
/-- an object that nobody keeps is changed: the change is forgotten -/
def updO (r : RV) (f : PV → Option (PV × PV)) : M RV := fun S => match r with
  | .own p => (match f p with
    | some (_, v) => .ok (.val v) S
    | none => .stuck)
  | r => updV r f S
section
variable {K : Frag} {W : XW} {g g0 g1 : G} {S : Sto}
def G.wr (g : G) (n : Nat) (a : Addr) (p : PV) (o : HO) : G := { g with S := g.S.set n (.live p), H := upd g.H a o }
theorem wrKeep (s : SRc K g) {n : Nat} {a : Addr} {q p : PV} {o : HO} (hA : g.A[n]? = some a) (hS : g.S[n]? = some (.live q)) : Keep g (g.wr n a p o) where
  fz := fun _ h => h
  keep := fun b x e h => by
    have k := s.cell n a _ hA hS
    show upd g.H a o b = _
    rw [upd_ne (fun z => ?_)]
    · exact e
    · subst z
      rcases h with h | h
      · exact k.2 h
      · rcases At.muta k.1 with ⟨_, z⟩ | ⟨_, z⟩ | ⟨_, z⟩ <;> rw [e] at z <;> cases z <;> exact h
theorem wr_ok (st : Stp g0 g) (s : SRc K g) {n : Nat} {a : Addr} {q p : PV} {o : HO} (hA : g.A[n]? = some a) (hS : g.S[n]? = some (.live q)) (h : At K (g.wr n a p o).H g.F p a) : Stp g0 (g.wr n a p o) ∧ SRc K (g.wr n a p o) := by
  have lva : Lv g a := ⟨n, _, ⟨hS, rfl⟩, hA⟩
  have nl : n < g.S.length := (List.getElem?_eq_some_iff.mp hS).1
  have uniq : ∀ m, g.A[m]? = some a → m = n := fun m e => by
    obtain ⟨h1, e1⟩ := List.getElem?_eq_some_iff.mp e
    obtain ⟨h2, e2⟩ := List.getElem?_eq_some_iff.mp hA
    exact (List.getElem_inj s.nd).mp (e1.trans e2.symm)
  have lvs : ∀ b, Lv (g.wr n a p o) b → Lv g b := fun b ⟨m, v, ⟨e1, mv⟩, e2⟩ => by
    have e1 : (g.S.set n (.live p))[m]? = _ := e1
    have e2 : g.A[m]? = _ := e2
    by_cases hm : n = m
    · subst hm
      rw [hA] at e2; cases e2
      exact lva
    · rw [List.getElem?_set_ne hm] at e1; exact ⟨m, v, ⟨e1, mv⟩, e2⟩
  have dom : ∀ b x, g.H b = some x → ∃ y, (g.wr n a p o).H b = some y := fun b x e => by
    by_cases hb : b = a
    · subst hb; exact ⟨o, upd_same⟩
    · exact ⟨x, (upd_ne hb).trans e⟩
  refine ⟨⟨fun b x e nlv => ?_, fun b x e => ?_, st.fz, st.fz', st.ext, st.newA, fun b q => st.new b (lvs b q), PlS.trans st.pl st.ge (plSet rfl), by show _ ≤ (g.S.set n (.live p)).length; rw [List.length_set]; exact st.ge⟩, ⟨by show g.A.length = (g.S.set n (.live p)).length; rw [s.len]; exact (List.length_set).symm, s.nd, fun m b c e1 e2 => ?_, fun b m => let ⟨x, e⟩ := s.dom b m; dom b x e, fun b m => let ⟨x, e⟩ := s.fd b m; dom b x e⟩⟩
  · have hb : b ≠ a := fun z => by
      subst z
      rcases st.new b lva with q | q
      · exact nlv q
      · rw [e] at q; cases q
    exact (upd_ne hb).trans (st.keep b x e nlv)
  · obtain ⟨y, e'⟩ := st.dom b x e
    exact dom b y e'
  · have e2 : (g.S.set n (.live p))[m]? = _ := e2
    have e1 : g.A[m]? = some b := e1
    by_cases hm : n = m
    · subst hm
      rw [List.getElem?_set_self nl] at e2
      cases e2
      rw [hA] at e1; cases e1
      exact ⟨h, (s.cell n a _ hA hS).2⟩
    · rw [List.getElem?_set_ne hm] at e2
      have hb : b ≠ a := fun z => hm (by subst z; exact (uniq m e1).symm)
      have k := s.cell m b c e1 e2
      have kp := wrKeep (p := p) (o := o) s hA hS
      exact k.keep kp (fun _ _ h => h) (fun _ => upd_ne hb) fun _ h => h
theorem updV_ok {r : RV} {v : V} {f : PV → Option (PV × PV)} {Q : RV → G → Prop} (s : SRc K g) (hr : Rr K g0 g r v) (h : WG K W g0 g.S (updV r f) Q) :
    ∃ n a p p' z, r = .ref n ∧ v = .ref a ∧ g.A[n]? = some a ∧ g.S[n]? = some (.live p) ∧ At K g.H g.F p a ∧ f p = some (p', z) ∧ ∀ g', g'.S = g.S.set n (.live p') → Stp g0 g' → SRc K g' → Q (.val z) g' := by
  unfold WG updV at h
  cases r with
  | val p => simp only at h
  | own p => simp only at h
  | ref n =>
    obtain ⟨a, rfl, hA⟩ := hr
    cases hS : g.S[n]? with
    | none => simp only [hS] at h
    | some c =>
      cases c with
      | nest es => simp only [hS] at h
      | froz p => simp only [hS] at h
      | live p =>
        cases e : f p with
        | none => simp only [hS, e] at h
        | some y =>
          obtain ⟨p', z⟩ := y
          simp only [hS, e] at h
          exact ⟨n, a, p, p', z, rfl, rfl, hA, hS, (s.cell n a _ hA hS).1, e, h⟩
end
def appF (x : PV) : PV → Option (PV × PV)
  | .lst xs => if xs.length < sizeLine then some (.lst (xs ++ [x]), .non) else none
  | _ => none
def extF (x : PV) : PV → Option (PV × PV)
  | .lst xs => (match x with
    | .lst ys => if xs.length + ys.length ≤ sizeLine then some (.lst (xs ++ ys), .non) else none
    | _ => none)
  | _ => none
def pop0F : PV → Option (PV × PV)
  | .lst xs => (match xs[xs.length - 1]? with
    | some y => some (.lst xs.dropLast, y)
    | none => none)
  | _ => none
def popF (x : PV) : PV → Option (PV × PV)
  | .lst xs => (match x with
    | .int i => if -(2 ^ 63) ≤ i ∧ i < 2 ^ 63 then (match seqIndex? i xs.length with
      | some k => (match xs[k]? with | some y => some (.lst (xs.eraseIdx k), y) | none => none)
      | none => none) else none
    | _ => none)
  | _ => none
def clrF : PV → Option (PV × PV)
  | .lst _ => some (.lst [], .non)
  | _ => none
/-- the receiver is a list -/
def chkL (r : RV) : M Unit := fun S => match peek r S with
  | some (.lst _) => .ok () S
  | _ => .stuck
def dApp (o e : Den) : Den := fun ρ => bd (o ρ) fun r => bd (chkL r) fun _ => bd (e ρ) fun q => bd (force q) fun p => updV r (appF p)
def dExt (o e : Den) : Den := fun ρ => bd (o ρ) fun r => bd (chkL r) fun _ => bd (e ρ) fun q => withP q fun p => updV r (extF p)
def dPop0 (o : Den) : Den := fun ρ => bd (o ρ) fun r => bd (chkL r) fun _ => updV r pop0F
def dPop (o e : Den) : Den := fun ρ => bd (o ρ) fun r => bd (chkL r) fun _ => bd (e ρ) fun q => withP q fun p => updV r (popF p)
/-- xs.index(x) -/
def fstIx (q : PV) : List PV → Option Nat
  | [] => none
  | x :: xs => if eqv x q then some 0 else (fstIx q xs).map (· + 1)
def dClr (o : Den) : Den := fun ρ => bd (o ρ) fun r => bd (chkL r) fun _ => updV r clrF
def bIndex : PV → PV → Option RV
  | .lst xs, q => if dat 50 q && xs.all (dat 50) then (fstIx q xs).map fun n => .val (.int (n : Nat)) else none
  | _, _ => none
def dMIx (o e : Den) : Den := fun ρ => bd (o ρ) fun r => bd (chkL r) fun _ => bd (e ρ) fun q => run2 bIndex r q
theorem fstIx_ok (q : PV) : ∀ {xs : List PV} {n : Nat}, fstIx q xs = some n → (∃ z, (toDs xs)[n]? = some z ∧ PyData.eqv z (toD q) = true) ∧ ∀ (m : Nat) (z : PyData), m < n → (toDs xs)[m]? = some z → PyData.eqv z (toD q) = false
  | [], _, h => by cases h
  | x :: xs, n, h => by
    unfold fstIx at h
    split at h
    · next e => cases h; exact ⟨⟨toD x, rfl, e⟩, fun m z l => absurd l (by omega)⟩
    · next e =>
      cases e1 : fstIx q xs with
      | none => rw [e1] at h; cases h
      | some k =>
        rw [e1] at h; cases h
        obtain ⟨⟨z, h1, h2⟩, h3⟩ := fstIx_ok q e1
        refine ⟨⟨z, by rw [toDs]; simpa using h1, h2⟩, fun m z l hz => ?_⟩
        cases m with
        | zero =>
          rw [toDs] at hz
          have hz : toD x = z := by simpa using hz
          subst hz
          exact Bool.eq_false_iff.mpr e
        | succ m =>
          rw [toDs] at hz
          exact h3 m z (Nat.lt_of_succ_lt_succ l) (by simpa using hz)
section
variable {X : Cx} {W : WS} {apos cpos : Pos} {a o e : Expr} {da d dd : Den}
/-- the side facts of a method's call -/
structure MOk (X : Cx) (o : Expr) (name : Str) (es : List Expr) (apos cpos : Pos) : Prop where
  base : attributeBase o name X.env (eval o X.env) = eval o X.env
  few : ((backTo cpos (starEach es X.env)).all (fun x => !x.1) && (backToKw cpos (keywordEach [] X.env)).all (fun x => x.1.isSome)
      && decide (es.length + ([] : List Keyword).length + (if ([] : List Keyword).isEmpty then 0 else 1) < 30)) = true
  line : (apos.endLine == cpos.line) = true
theorem starOne (e : Expr) (env : PySem.Env) (h : ∀ x p, e ≠ .Starred x p) : starEach [e] env = (false, eval e env) :: starEach [] env := by
  cases e <;> first | rfl | exact absurd rfl (h _ _)
theorem lstAt {K : Frag} {H : Hp} {F : Addr → Prop} {p : PV} {a : Addr} (h : At K H F p a) (f : PV → Option (PV × PV)) (hf : ∀ kvs, f (.dct kvs) = none) {x : PV × PV} (e : f p = some x) : ∃ xs vs, p = .lst xs ∧ H a = some (.lst vs) ∧ RpL K H F xs vs := by
  cases p with
  | lst xs => obtain ⟨vs, h1, h2⟩ := h; exact ⟨xs, vs, rfl, h1, h2⟩
  | dct kvs => rw [hf] at e; cases e
  | _ => exact False.elim h
theorem chkL_bd {K : Frag} {W : XW} {g0 g1 : G} {β : Type} {r : RV} {v : V} {f : Unit → M β} {R : β → G → Prop} (st : Stp g0 g1) (sr : SRc K g1) (hr : Rr K g0 g1 r v) (h : WG K W g0 g1.S (bd (chkL r) f) R) :
    tyV K "list" v g1.H ∧ WG K W g0 g1.S (f ()) R := by
  have h1 := h.bd st
  unfold WG chkL at h1
  cases e : peek r g1.S with
  | none => simp only [e] at h1
  | some p =>
    cases p with
    | lst xs =>
      obtain ⟨a, vs, rfl, ha, _⟩ := hr.peek sr e
      refine ⟨.inl ⟨rfl, vs, .inl (.inl ha)⟩, ?_⟩
      exact (h.bd st).at (S' := g1.S) (a := ()) (by simp only [chkL, e]) (g' := g1) rfl (Stp.refl g1) sr
    | _ => simp only [e] at h1
theorem pe_dapp (m : MOk X o "append" [e] apos cpos) (hs : ∀ x p, e ≠ .Starred x p) (ho : PE X o (tD X.K W d)) (he : PE X e (tD X.K W da)) : PE X (.Call (.Attribute o "append" apos) [e] [] cpos) (tD X.K W (dApp d da)) :=
  peW (pe_bm PySem.F.plainAttrs_list PySem.F.slot_list_append PySem.F.type_list_append mt_append ho (pa_cons he pa_nil (starOne e _ hs)) m.base m.few m.line (starOne e _ hs) (by rfl)) fun σ H Q ⟨ρ, g, e, sr, se, h⟩ => by
    subst e
    refine tD.bd (Stp.refl g) sr se h fun r g1 v st _ sr1 se1 hv h1 => ?_
    obtain ⟨ty, h1⟩ := chkL_bd st sr1 hv h1
    refine ⟨ty, ?_⟩
    refine tD.bd st sr1 se1 h1 fun q g2 w st2 st02 sr2 se2 hw h2 => ?_
    obtain ⟨p, g3, e3, st3, sr3, r3, k3, a3, _, h3⟩ := force_ok st02 sr2 hw.rf h2
    have hv3 : Rr X.K g g3 r v := by
      have hv2 := hv.step sr1 st2
      cases r with
      | val x => exact Rp.keep k3 x v hv2
      | own x => exact (h3 : False).elim
      | ref n => obtain ⟨a, e, h⟩ := hv2; exact ⟨a, e, by rw [a3]; exact h⟩
    obtain ⟨n, a, p0, p', z, rfl, rfl, hA, hS, hAt, ef, k⟩ := updV_ok sr3 hv3 h3
    obtain ⟨xs, vs, rfl, hvs, rvs⟩ := lstAt hAt (appF p) (fun _ => rfl) ef
    simp only [appF] at ef
    split at ef
    · next hl =>
      cases ef
      refine ⟨a, vs, w, rfl, rfl, by rw [← e3]; exact hvs, by rw [← rvs.len]; exact hl, ?_⟩
      have kp := wrKeep (p := .lst (xs ++ [p])) (o := .lst (vs ++ [w])) sr3 hA hS
      have hn : At X.K (g3.wr n a (.lst (xs ++ [p])) (.lst (vs ++ [w]))).H g3.F (.lst (xs ++ [p])) a := ⟨_, upd_same, (RpL.keep kp xs vs rvs).app ⟨w, [], rfl, Rp.keep kp p w r3, rfl⟩⟩
      obtain ⟨st4, sr4⟩ := wr_ok st3 sr3 hA hS hn
      have := k _ rfl st4 sr4 .non rfl
      rw [← e3]
      exact this
    · cases ef
theorem pe_dext (m : MOk X o "extend" [e] apos cpos) (hs : ∀ x p, e ≠ .Starred x p) (ho : PE X o (tD X.K W d)) (he : PE X e (tD X.K W da)) : PE X (.Call (.Attribute o "extend" apos) [e] [] cpos) (tD X.K W (dExt d da)) :=
  peW (pe_bm PySem.F.plainAttrs_list PySem.F.slot_list_extend PySem.F.type_list_extend mt_extend ho (pa_cons he pa_nil (starOne e _ hs)) m.base m.few m.line (starOne e _ hs) (by rfl)) fun σ H Q ⟨ρ, g, e, sr, se, h⟩ => by
    subst e
    refine tD.bd (Stp.refl g) sr se h fun r g1 v st _ sr1 se1 hv h1 => ?_
    obtain ⟨ty, h1⟩ := chkL_bd st sr1 hv h1
    refine ⟨ty, ?_⟩
    refine tD.bd st sr1 se1 h1 fun q g2 w st2 st02 sr2 se2 hw h2 => ?_
    have hv2 := hv.step sr1 st2
    obtain ⟨p, ep, h3⟩ := h2.withP
    · have hp := hw.peek sr2 ep
      obtain ⟨n, a, p0, p', z, rfl, rfl, hA, hS, hAt, ef, k⟩ := updV_ok sr2 hv2 h3
      obtain ⟨xs, vs, rfl, hvs, rvs⟩ := lstAt hAt (extF p) (fun _ => rfl) ef
      cases p with
      | lst ys =>
        simp only [extF] at ef
        split at ef
        · next hl =>
          cases ef
          obtain ⟨b, ws, rfl, hb, rws⟩ := hp
          refine ⟨a, b, vs, ws, rfl, rfl, hvs, hb, by rw [← rvs.len, ← rws.len]; exact hl, ?_⟩
          have kp := wrKeep (p := .lst (xs ++ ys)) (o := .lst (vs ++ ws)) sr2 hA hS
          have hn : At X.K (g2.wr n a (.lst (xs ++ ys)) (.lst (vs ++ ws))).H g2.F (.lst (xs ++ ys)) a := ⟨_, upd_same, (RpL.keep kp xs vs rvs).app (RpL.keep kp ys ws rws)⟩
          obtain ⟨st4, sr4⟩ := wr_ok st02 sr2 hA hS hn
          exact k _ rfl st4 sr4 .non rfl
        · cases ef
      | _ => simp only [extF] at ef; cases ef
theorem RpL.dropLast {K : Frag} {H : Hp} {F : Addr → Prop} {ps : List PV} {vs : List V} (h : RpL K H F ps vs) : RpL K H F ps.dropLast vs.dropLast := by
  rw [List.dropLast_eq_take, List.dropLast_eq_take, h.len]
  exact h.take _
theorem RpL.erase {K : Frag} {H : Hp} {F : Addr → Prop} {ps : List PV} {vs : List V} (h : RpL K H F ps vs) (k : Nat) : RpL K H F (ps.eraseIdx k) (vs.eraseIdx k) := by
  rw [List.eraseIdx_eq_take_drop_succ, List.eraseIdx_eq_take_drop_succ]
  exact (h.take _).app (h.drop _)
theorem pe_dpop0 (m : MOk X o "pop" [] apos cpos) (ho : PE X o (tD X.K W d)) : PE X (.Call (.Attribute o "pop" apos) [] [] cpos) (tD X.K W (dPop0 d)) :=
  peW (pe_bm0 PySem.F.plainAttrs_list PySem.F.slot_list_pop PySem.F.type_list_pop mt_pop ho m.base m.line) fun σ H Q ⟨ρ, g, e, sr, se, h⟩ => by
    subst e
    refine tD.bd (Stp.refl g) sr se h fun r g1 v st _ sr1 se1 hv h1 => ?_
    obtain ⟨ty, h1⟩ := chkL_bd st sr1 hv h1
    refine ⟨ty, ?_⟩
    obtain ⟨n, a, p0, p', z, rfl, rfl, hA, hS, hAt, ef, k⟩ := updV_ok sr1 hv h1
    obtain ⟨xs, vs, rfl, hvs, rvs⟩ := lstAt hAt pop0F (fun _ => rfl) ef
    simp only [pop0F] at ef
    cases e1 : xs[xs.length - 1]? with
    | none => rw [e1] at ef; cases ef
    | some y =>
      rw [e1] at ef; cases ef
      obtain ⟨w, hw, rw'⟩ := rvs.get e1
      refine ⟨a, vs, w, rfl, rfl, hvs, by rw [← rvs.len]; exact hw, ?_⟩
      have kp := wrKeep (p := .lst xs.dropLast) (o := .lst vs.dropLast) sr1 hA hS
      have hn : At X.K (g1.wr n a (.lst xs.dropLast) (.lst vs.dropLast)).H g1.F (.lst xs.dropLast) a := ⟨_, upd_same, RpL.keep kp _ _ rvs.dropLast⟩
      obtain ⟨st4, sr4⟩ := wr_ok st sr1 hA hS hn
      exact k _ rfl st4 sr4 w (Rp.keep kp _ _ rw')
theorem pe_dpop (m : MOk X o "pop" [e] apos cpos) (hs : ∀ x p, e ≠ .Starred x p) (ho : PE X o (tD X.K W d)) (he : PE X e (tD X.K W da)) : PE X (.Call (.Attribute o "pop" apos) [e] [] cpos) (tD X.K W (dPop d da)) :=
  peW (pe_bm PySem.F.plainAttrs_list PySem.F.slot_list_pop PySem.F.type_list_pop mt_popAt ho (pa_cons he pa_nil (starOne e _ hs)) m.base m.few m.line (starOne e _ hs) (by rfl)) fun σ H Q ⟨ρ, g, e, sr, se, h⟩ => by
    subst e
    refine tD.bd (Stp.refl g) sr se h fun r g1 v st _ sr1 se1 hv h1 => ?_
    obtain ⟨ty, h1⟩ := chkL_bd st sr1 hv h1
    refine ⟨ty, ?_⟩
    refine tD.bd st sr1 se1 h1 fun q g2 w st2 st02 sr2 se2 hw h2 => ?_
    have hv2 := hv.step sr1 st2
    obtain ⟨p, ep, h3⟩ := h2.withP
    · have hp := hw.peek sr2 ep
      obtain ⟨n, a, p0, p', z, rfl, rfl, hA, hS, hAt, ef, k⟩ := updV_ok sr2 hv2 h3
      obtain ⟨xs, vs, rfl, hvs, rvs⟩ := lstAt hAt (popF p) (fun _ => rfl) ef
      cases p with
      | int i =>
        simp only [popF] at ef
        split at ef
        · next hl =>
          cases e1 : seqIndex? i xs.length with
          | none => rw [e1] at ef; cases ef
          | some j =>
            rw [e1] at ef
            cases e2 : xs[j]? with
            | none => simp only [e2] at ef; cases ef
            | some y =>
              simp only [e2] at ef; cases ef
              obtain ⟨w', hw', rw'⟩ := rvs.get e2
              have hp : w = _ := hp
              subst hp
              refine ⟨a, vs, i, j, w', rfl, rfl, hvs, hl.1, hl.2, by rw [← rvs.len]; exact e1, hw', ?_⟩
              have kp := wrKeep (p := .lst (xs.eraseIdx j)) (o := .lst (vs.eraseIdx j)) sr2 hA hS
              have hn : At X.K (g2.wr n a (.lst (xs.eraseIdx j)) (.lst (vs.eraseIdx j))).H g2.F (.lst (xs.eraseIdx j)) a := ⟨_, upd_same, RpL.keep kp _ _ (rvs.erase j)⟩
              obtain ⟨st4, sr4⟩ := wr_ok st02 sr2 hA hS hn
              exact k _ rfl st4 sr4 w' (Rp.keep kp _ _ rw')
        · cases ef
      | _ => simp only [popF] at ef; cases ef
theorem pe_dclr (m : MOk X o "clear" [] apos cpos) (ho : PE X o (tD X.K W d)) : PE X (.Call (.Attribute o "clear" apos) [] [] cpos) (tD X.K W (dClr d)) :=
  peW (pe_bm0 PySem.F.plainAttrs_list PySem.F.slot_list_clear PySem.F.type_list_clear mt_clear ho m.base m.line) fun σ H Q ⟨ρ, g, e, sr, se, h⟩ => by
    subst e
    refine tD.bd (Stp.refl g) sr se h fun r g1 v st _ sr1 se1 hv h1 => ?_
    obtain ⟨ty, h1⟩ := chkL_bd st sr1 hv h1
    refine ⟨ty, ?_⟩
    obtain ⟨n, a, p0, p', z, rfl, rfl, hA, hS, hAt, ef, k⟩ := updV_ok sr1 hv h1
    obtain ⟨xs, vs, rfl, hvs, rvs⟩ := lstAt hAt clrF (fun _ => rfl) ef
    cases ef
    refine ⟨a, vs, rfl, rfl, hvs, ?_⟩
    have hn : At X.K (g1.wr n a (.lst []) (.lst [])).H g1.F (.lst []) a := ⟨_, upd_same, rfl⟩
    obtain ⟨st4, sr4⟩ := wr_ok st sr1 hA hS hn
    exact k _ rfl st4 sr4 .non rfl
theorem pe_dindex (hu : X.A.units + 65 < cLine) (m : MOk X o "index" [e] apos cpos) (hs : ∀ x p, e ≠ .Starred x p) (ho : PE X o (tD X.K W d)) (he : PE X e (tD X.K W da)) : PE X (.Call (.Attribute o "index" apos) [e] [] cpos) (tD X.K W (dMIx d da)) :=
  peW (pe_bm PySem.F.plainAttrs_list PySem.F.slot_list_index PySem.F.type_list_index (mt_indexD hu) ho (pa_cons he pa_nil (starOne e _ hs)) m.base m.few m.line (starOne e _ hs) (by rfl)) fun σ H Q ⟨ρ, g, e, sr, se, h⟩ => by
    subst e
    refine tD.bd (Stp.refl g) sr se h fun r g1 v st _ sr1 se1 hv h1 => ?_
    obtain ⟨ty, h1⟩ := chkL_bd st sr1 hv h1
    refine ⟨ty, ?_⟩
    refine tD.bd st sr1 se1 h1 fun q g2 w st2 st02 sr2 se2 hw h2 => ?_
    obtain ⟨p, p', x, e1, e2, e3, k⟩ := h2.run2
    have hp := (hv.step sr1 st2).peek sr2 e1
    have hq := hw.peek sr2 e2
    cases p with
    | lst xs =>
      simp only [bIndex] at e3
      split at e3
      · next hd =>
        rw [Bool.and_eq_true] at hd
        cases e4 : fstIx p' xs with
        | none => rw [e4] at e3; cases e3
        | some n =>
          rw [e4] at e3; cases e3
          obtain ⟨⟨z, f1, f2⟩, f3⟩ := fstIx_ok p' e4
          obtain ⟨a, vs, rfl, ha, ra⟩ := hp
          exact ⟨a, w, toD p', toDs xs, n, z, rfl, rfl, RpW.dp (n := 51) (p := .lst xs) (by simpa [dat] using hd.2) ⟨a, vs, rfl, ha, ra⟩, hq.dp hd.1, shapedL hd.2, shaped_of (dat_mono 50 60 p' (by omega) hd.1), f1, f2, f3, k g2 rfl st02 sr2 (.int (n : Nat)) rfl⟩
      · cases e3
    | _ => simp only [bIndex] at e3; cases e3
end
end Pf
end
section
set_option Elab.async false
set_option linter.all false
set_option maxHeartbeats 1000000
set_option autoImplicit false
namespace Pf
open PySem PySem.Spec L2
/-! statements -/
inductive Fl where
  | nx
  | rt (r : RV)
  | bk
  | ct
abbrev DenS := Env → M (Env × Fl)
/-- a target: what is stored, the slots that may change -/
abbrev TgD := RV → Env → M Env
def WA (W : WS) : XW := fun c v g => ∀ σ, W σ c v g
def PostS (K : Frag) (g0 : G) (D : Ends) : Env × Fl → G → Prop := fun x g' => match x.2 with
  | .nx => ∀ σ', SRe K g' x.1 σ' → D.nx σ' g'.H
  | .bk => ∀ σ', SRe K g' x.1 σ' → D.bk σ' g'.H
  | .ct => ∀ σ', SRe K g' x.1 σ' → D.ct σ' g'.H
  | .rt r => ∀ v, Rr K g0 g' r v → D.rt v g'.H
def tS (K : Frag) (W : WS) (d : DenS) : TS := fun D σ H => ∃ ρ g, g.H = H ∧ SRc K g ∧ SRe K g ρ σ ∧ WG K (WA W) g g.S (d ρ) (PostS K g D)
/-- slots outside of is stay -/
def Off (is : List Nat) (σ σ' : L2.St) : Prop := σ'.length = σ.length ∧ ∀ j, j ∉ is → σ'[j]? = σ[j]?
def tG (K : Frag) (W : WS) (is : List Nat) (t : TgD) : TG := fun v σ H Q => ∃ ρ g0 g r, g.H = H ∧ Stp g0 g ∧ SRc K g ∧ SRe K g ρ σ ∧ Rr K g0 g r v ∧ WG K (WA W) g0 g.S (t r ρ) fun ρ' g' => ∀ σ', SRe K g' ρ' σ' → Off is σ σ' → Q σ' g'.H
theorem psW {X : Cx} {st : Stmt} {t t' : TS} (h : PS X st t) (w : ∀ D σ H, t' D σ H → t D σ H) : PS X st t' := ⟨fun pins s σ H D I q => h.run pins s σ H D I (w D σ H q)⟩
theorem pssW {X : Cx} {st : List Stmt} {t t' : TS} (h : PSs X st t) (w : ∀ D σ H, t' D σ H → t D σ H) : PSs X st t' := ⟨fun pins s σ H D I q => h.run pins s σ H D I (w D σ H q)⟩
theorem pgW {X : Cx} {e : Expr} {t t' : TG} (h : PG X e t) (w : ∀ v σ H Q, t' v σ H Q → t v σ H Q) : PG X e t' := ⟨fun pins s σ H v u Q I r q => h.run pins s σ H v u Q I r (w v σ H Q q)⟩
section
variable {K : Frag} {W : WS} {g g0 g1 : G} {α β : Type} {m : M α} {Q : α → G → Prop} {S : Sto}
theorem WG.wk (σ : L2.St) (h : WG K (WA W) g S m Q) : WG K (W σ) g S m Q := by
  unfold WG at h ⊢
  cases e : m S with
  | stuck => rw [e] at h; exact h
  | exc c v S' => rw [e] at h; exact fun g' h1 h2 h3 => h g' h1 h2 h3 σ
  | ok a S' => rw [e] at h; exact h
theorem WG.run {W : XW} {S S' : Sto} {a : α} {f : α → M β} {R : β → G → Prop} (e : m S = .ok a S') (h : WG K W g S (Pf.bd m f) R) : WG K W g S' (f a) R := by
  unfold WG Pf.bd at h
  rw [e] at h
  exact h
/-- an expression in a statement, then the rest -/
theorem tD.st {d : Den} {σ : L2.St} {ρ : Env} {f : RV → M β} {R : β → G → Prop} {Q : VK} (st0 : Stp g0 g) (sr : SRc K g) (se : SRe K g ρ σ) (h : WG K (WA W) g0 g.S (Pf.bd (d ρ) f) R)
    (q : ∀ r g1 v, Stp g g1 → Stp g0 g1 → SRc K g1 → SRe K g1 ρ σ → Rr K g g1 r v → WG K (WA W) g0 g1.S (f r) R → Q v g1.H) : tD K W d σ g.H Q :=
  ⟨ρ, g, rfl, sr, se, (WG.wk σ (h.bd st0)).mono fun r g1 st sr1 h1 v hv => q r g1 v st (st0.trans st) sr1 (se.step sr st) hv h1⟩
theorem tDs.st {ds : List Den} {σ : L2.St} {ρ : Env} {f : List RV → M β} {R : β → G → Prop} {Q : List V → Hp → Prop} (st0 : Stp g0 g) (sr : SRc K g) (se : SRe K g ρ σ) (h : WG K (WA W) g0 g.S (Pf.bd (evAll ds ρ) f) R)
    (q : ∀ rs g1 vs, Stp g g1 → Stp g0 g1 → SRc K g1 → SRe K g1 ρ σ → RrL K g g1 rs vs → WG K (WA W) g0 g1.S (f rs) R → Q vs g1.H) : tDs K W ds σ g.H Q :=
  ⟨ρ, g, rfl, sr, se, (WG.wk σ (h.bd st0)).mono fun rs g1 st sr1 h1 vs hv => q rs g1 vs st (st0.trans st) sr1 (se.step sr st) hv h1⟩
theorem tT.st {d : Den} {σ : L2.St} {Q : Bool → Hp → Prop} {ρ : Env} {f : Bool → M β} {R : β → G → Prop} (st0 : Stp g0 g) (sr : SRc K g) (se : SRe K g ρ σ) (h : WG K (WA W) g0 g.S (Pf.bd (dTest d ρ) f) R)
    (q : ∀ b g1, Stp g g1 → Stp g0 g1 → SRc K g1 → SRe K g1 ρ σ → WG K (WA W) g0 g1.S (f b) R → Q b g1.H) : tT K W d σ g.H Q :=
  ⟨ρ, g, rfl, sr, se, (WG.wk σ (h.bd st0)).mono fun b g1 st sr1 h1 => q b g1 st (st0.trans st) sr1 (se.step sr st) h1⟩
theorem SRe.set {ρ : Env} {σ : L2.St} {i : Nat} {sv : SV} {v : V} (h : SRe K g ρ σ) (r : Rs K g sv v) : SRe K g (ρ.set i (some sv)) (σ.set i (some v)) := by
  refine ⟨by rw [List.length_set, List.length_set]; exact h.1, fun j sv' e => ?_⟩
  by_cases hj : i = j
  · subst hj
    by_cases hi : i < ρ.length
    · rw [List.getElem?_set_self hi] at e
      cases e
      exact ⟨v, List.getElem?_set_self (by rw [← h.1]; exact hi), r⟩
    · rw [List.getElem?_eq_none (by rw [List.length_set]; omega)] at e; cases e
  · rw [List.getElem?_set_ne hj] at e ⊢
    exact h.2 j sv' e
theorem Off.set {σ : L2.St} {i : Nat} {o : Option V} : Off [i] σ (σ.set i o) := ⟨List.length_set, fun j hj => List.getElem?_set_ne (by simpa using fun e => hj (by simp [e]))⟩
theorem Off.refl {σ : L2.St} {is : List Nat} : Off is σ σ := ⟨rfl, fun _ _ => rfl⟩
theorem Off.trans {σ σ1 σ2 : L2.St} {is js : List Nat} (a : Off is σ σ1) (b : Off js σ1 σ2) : Off (is ++ js) σ σ2 := ⟨b.1.trans a.1, fun j hj => (b.2 j fun z => hj (List.mem_append_right _ z)).trans (a.2 j fun z => hj (List.mem_append_left _ z))⟩
/-- a result becomes a name's value: a new object is a new cell if the name is one whose object is changed -/
def bindV (mu : Bool) : RV → M SV
  | .val p => ret (.val p)
  | .own p => if mu then fun S => .ok (.ref S.length) (S ++ [.live p]) else ret (.val p)
  | .ref n => ret (.ref n)
def G.cel (g : G) (p : PV) (a : Addr) : G := { g with S := g.S ++ [.live p], A := g.A ++ [a] }
theorem cel_ok (st : Stp g0 g) (s : SRc K g) {p : PV} {a : Addr} (h : At K g.H g.F p a) (f : ¬ g.F a) (n : a ∉ g.A) (z : g0.H a = none) : Stp g0 (g.cel p a) ∧ SRc K (g.cel p a) ∧ (g.cel p a).A[g.S.length]? = some a := by
  have lvs : ∀ b, Lv (g.cel p a) b → Lv g b ∨ b = a := fun b ⟨m, v, ⟨e1, mv⟩, e2⟩ => by
    have e1 : (g.S ++ [Cell.live p])[m]? = _ := e1
    have e2 : (g.A ++ [a])[m]? = _ := e2
    by_cases hm : m < g.S.length
    · rw [List.getElem?_append_left hm] at e1
      rw [List.getElem?_append_left (by rw [s.len]; exact hm)] at e2
      exact .inl ⟨m, v, ⟨e1, mv⟩, e2⟩
    · rw [List.getElem?_append_right (by rw [s.len]; omega)] at e2
      refine .inr ?_
      have := List.mem_of_getElem? e2
      simpa using this
  refine ⟨⟨st.keep, st.dom, st.fz, st.fz', fun m b e => ?_, fun b hb => ?_, fun b q => ?_, PlS.trans st.pl st.ge (plApp _), by show _ ≤ (g.S ++ [Cell.live p]).length; rw [List.length_append]; have := st.ge; omega⟩, ⟨by show (g.A ++ [a]).length = (g.S ++ [Cell.live p]).length; rw [List.length_append, List.length_append, s.len]; rfl, ?_, fun m b c e1 e2 => ?_, fun b hb => ?_, s.fd⟩, ?_⟩
  · have := st.ext m b e
    show (g.A ++ [a])[m]? = _
    rw [List.getElem?_append_left (List.getElem?_eq_some_iff.mp this).1]
    exact this
  · rcases List.mem_append.mp hb with hb | hb
    · exact st.newA b hb
    · have : b = a := by simpa using hb
      subst this; exact .inr z
  · rcases lvs b q with q | q
    · exact st.new b q
    · subst q; exact .inr z
  · exact List.nodup_append.mpr ⟨s.nd, by simp, fun x hx y hy => by
      have : y = a := by simpa using hy
      subst this
      exact fun e => n (e ▸ hx)⟩
  · have e1 : (g.A ++ [a])[m]? = _ := e1
    have e2 : (g.S ++ [Cell.live p])[m]? = _ := e2
    by_cases hm : m < g.S.length
    · rw [List.getElem?_append_left hm] at e2
      rw [List.getElem?_append_left (by rw [s.len]; exact hm)] at e1
      exact CellOk.keep (g := g) (g' := g.cel p a) ⟨fun _ h => h, fun _ _ e _ => e⟩ (fun k d e => by show (g.A ++ [a])[k]? = _; rw [List.getElem?_append_left (List.getElem?_eq_some_iff.mp e).1]; exact e) (fun _ => rfl) (fun _ h => h) (s.cell m b c e1 e2)
    · rw [List.getElem?_append_right (by omega)] at e2
      rw [List.getElem?_append_right (by rw [s.len]; omega)] at e1
      have h1 : b = a := by simpa using List.mem_of_getElem? e1
      have h2 : c = Cell.live p := by simpa using List.mem_of_getElem? e2
      subst h1 h2
      exact ⟨h, f⟩
  · rcases List.mem_append.mp hb with hb | hb
    · exact s.dom b hb
    · have : b = a := by simpa using hb
      subst this; exact h.ex
  · show (g.A ++ [a])[g.S.length]? = _
    rw [← s.len, List.getElem?_append_right (Nat.le_refl _), Nat.sub_self]
    rfl
/-- a result bound: the same heap -/
theorem bindV_ok {mu : Bool} {r : RV} {v : V} {f : SV → M β} {R : β → G → Prop} {W : XW} (st : Stp g0 g) (s : SRc K g) (hr : Rr K g0 g r v) (h : WG K W g0 g.S (bd (bindV mu r) f) R) :
    ∃ sv g', g'.H = g.H ∧ Stp g0 g' ∧ SRc K g' ∧ Rs K g' sv v ∧ (∀ sv w, Rs K g sv w → Rs K g' sv w) ∧ (∀ q w, (isOwn r = true → isOwn q = true → w ≠ v) → Rr K g0 g q w → Rr K g0 g' q w) ∧ WG K W g0 g'.S (f sv) R := by
  cases r with
  | val p => exact ⟨.val p, g, rfl, st, s, hr, fun _ _ h => h, fun _ _ _ h => h, WG.run rfl h⟩
  | ref n => exact ⟨.ref n, g, rfl, st, s, hr, fun _ _ h => h, fun _ _ _ h => h, WG.run rfl h⟩
  | own p =>
    obtain ⟨a, rfl, ha, nf, nA, z⟩ := hr
    cases mu with
    | false =>
      obtain ⟨k1, k2, k3⟩ := fzOwn st s ha nA z
      refine ⟨.val p, g.fz a, rfl, k1, k2, k3, fun sv w h => ?_, fun q w hw h => ?_, WG.run rfl h⟩
      · cases sv with
        | val p => exact Rp.keep (keepF g a) _ _ h
        | ref n => exact h
      · cases q with
        | val q => exact Rp.keep (keepF g a) _ _ h
        | own q =>
          obtain ⟨b, rfl, hb, nb, nB, zb⟩ := h
          exact ⟨b, rfl, hb.keep' (keepF g a) (g' := g.fz a) rfl, fun q => q.elim nb fun q => hw rfl rfl (by rw [q]), nB, zb⟩
        | ref n => exact h
    | true =>
      obtain ⟨k1, k2, k3⟩ := cel_ok st s ha nf nA z
      refine ⟨.ref g.S.length, g.cel p a, rfl, k1, k2, ⟨a, rfl, k3⟩, fun sv w h => ?_, fun q w hw h => ?_, ?_⟩
      · cases sv with
        | val p => exact h
        | ref n => obtain ⟨b, e, h⟩ := h; exact ⟨b, e, by show (g.A ++ [a])[n]? = _; rw [List.getElem?_append_left (List.getElem?_eq_some_iff.mp h).1]; exact h⟩
      · cases q with
        | val q => exact h
        | own q =>
          obtain ⟨b, rfl, hb, nb, nB, zb⟩ := h
          refine ⟨b, rfl, hb, nb, fun q => ?_, zb⟩
          have q : b ∈ g.A ++ [a] := q
          rcases List.mem_append.mp q with q | q
          · exact nB q
          · have : b = a := by simpa using q
            exact hw rfl rfl (by rw [this])
        | ref n => obtain ⟨b, e, h⟩ := h; exact ⟨b, e, by show (g.A ++ [a])[n]? = _; rw [List.getElem?_append_left (List.getElem?_eq_some_iff.mp h).1]; exact h⟩
      · exact WG.run rfl h
end
end Pf
end
section
set_option Elab.async false
set_option linter.all false
set_option maxHeartbeats 1000000
set_option autoImplicit false
namespace Pf
open PySem PySem.Spec L2
def dsRet (d : Den) : DenS := fun ρ => bd (d ρ) fun r => ret (ρ, .rt r)
def dsRetN : DenS := fun ρ => ret (ρ, .rt (.val .non))
def dsNx : DenS := fun ρ => ret (ρ, .nx)
def dsBk : DenS := fun ρ => ret (ρ, .bk)
def dsCt : DenS := fun ρ => ret (ρ, .ct)
def dsExpr (d : Den) : DenS := fun ρ => bd (d ρ) fun _ => ret (ρ, .nx)
def dsIf (c : Den) (a b : DenS) : DenS := fun ρ => bd (dTest c ρ) fun k => if k then a ρ else b ρ
def dsSeq (a b : DenS) : DenS := fun ρ => bd (a ρ) fun x => match x.2 with
  | .nx => b x.1
  | _ => ret x
def dsAsg (t : TgD) (d : Den) : DenS := fun ρ => bd (d ρ) fun r => bd (t r ρ) fun ρ' => ret (ρ', .nx)
def tgName (i : Nat) (mu : Bool) : TgD := fun r ρ => bd (bindV mu r) fun sv => ret (ρ.set i (some sv))
/-- two or three names at once -/
def dsPar2 (i j : Nat) (mi mj : Bool) (ds : List Den) : DenS := fun ρ => bd (evAll ds ρ) fun rs => match rs with
  | [r, q] => bd (bindV mi r) fun s => bd (bindV mj q) fun t => ret ((ρ.set i (some s)).set j (some t), .nx)
  | _ => stk
def dsPar3 (i j k : Nat) (mi mj mk : Bool) (ds : List Den) : DenS := fun ρ => bd (evAll ds ρ) fun rs => match rs with
  | [r, q, z] => bd (bindV mi r) fun s => bd (bindV mj q) fun t => bd (bindV mk z) fun u => ret (((ρ.set i (some s)).set j (some t)).set k (some u), .nx)
  | _ => stk
def setF (i x : PV) : PV → Option (PV × PV)
  | .lst xs => (match i with
    | .int k => (match ixN xs.length k with
      | some j => some (.lst (xs.set j x), .non)
      | none => none)
    | _ => none)
  | _ => none
def tgSub (o i : Den) : TgD := fun r ρ => bd (force r) fun p => bd (o ρ) fun q => bd (i ρ) fun z => withP z fun k => bd (updV q (setF k p)) fun _ => ret ρ
def tgAll : List TgD → List PV → Env → M Env
  | [], [], ρ => ret ρ
  | t :: ts, p :: ps, ρ => bd (t (.val p) ρ) fun ρ' => tgAll ts ps ρ'
  | _, _, _ => stk
def tgTup (ts : List TgD) : TgD := fun r ρ => match r with
  | .val (.tup ps) => if ps.length = ts.length then tgAll ts ps ρ else stk
  | _ => stk
section
variable {X : Cx} {W : WS} {pos : Pos} {e o i0 c : Expr} {d da db dc : Den} {ds : List Den} {es : List Expr} {a b : DenS} {st : Stmt} {sts sts' : List Stmt} {t : TgD}
theorem ps_dret (h : PE X e (tD X.K W d)) : PS X (.Return (some e) pos) (tS X.K W (dsRet d)) := psW (ps_ret h) fun D σ H ⟨ρ, g, e, sr, se, h⟩ => by
  subst e
  exact tD.st (Stp.refl g) sr se h fun r g1 v st _ sr1 se1 hv h1 => h1.ret rfl st sr1 v hv
theorem ps_dretN : PS X (.Return none pos) (tS X.K W dsRetN) := psW ps_retN fun D σ H ⟨ρ, g, e, sr, se, h⟩ => by
  subst e
  exact h.ret rfl (Stp.refl g) sr .non rfl
theorem ps_dpass : PS X (.Pass pos) (tS X.K W dsNx) := psW ps_pass fun D σ H ⟨ρ, g, e, sr, se, h⟩ => by
  subst e
  exact h.ret rfl (Stp.refl g) sr σ se
theorem ps_dbreak : PS X (.Break pos) (tS X.K W dsBk) := psW ps_break fun D σ H ⟨ρ, g, e, sr, se, h⟩ => by
  subst e
  exact h.ret rfl (Stp.refl g) sr σ se
theorem ps_dcont : PS X (.Continue pos) (tS X.K W dsCt) := psW ps_continue fun D σ H ⟨ρ, g, e, sr, se, h⟩ => by
  subst e
  exact h.ret rfl (Stp.refl g) sr σ se
theorem ps_dexpr (h : PE X e (tD X.K W d)) (hs : swapsWith e none pos.line X.env = pure false) : PS X (.Expr e pos) (tS X.K W (dsExpr d)) := psW (ps_expr h hs) fun D σ H ⟨ρ, g, e, sr, se, h⟩ => by
  subst e
  exact tD.st (Stp.refl g) sr se h fun r g1 v st _ sr1 se1 hv h1 => h1.ret rfl st sr1 σ se1
theorem PostS.from {K : Frag} {g0 g g' : G} {D : Ends} {x : PySem.Env × Fl} : True := trivial
theorem postFrom {K : Frag} {g0 g g' : G} {D : Ends} {x : Env × Fl} (st : Stp g0 g) (h : PostS K g0 D x g') : PostS K g D x g' := by
  obtain ⟨ρ, fl⟩ := x
  cases fl with
  | rt r => exact fun v hv => h v (hv.from st)
  | _ => exact h
theorem ps_dif (hc : PT X c (tT X.K W dc)) (ha : PSs X sts (tS X.K W a)) (hb : PSs X sts' (tS X.K W b)) : PS X (.If c sts sts' pos) (tS X.K W (dsIf dc a b)) := psW (ps_if hc ha hb) fun D σ H ⟨ρ, g, e, sr, se, h⟩ => by
  subst e
  refine tT.st (Stp.refl g) sr se h fun k g1 st _ sr1 se1 h1 => ?_
  have fin : ∀ {m : DenS}, WG X.K (WA W) g g1.S (m ρ) (PostS X.K g D) → tS X.K W m D σ g1.H := fun {m} h2 => by
    refine ⟨ρ, g1, rfl, sr1, se1, ?_⟩
    unfold WG at h2 ⊢
    cases e : m ρ g1.S with
    | stuck => rw [e] at h2; exact h2
    | exc c v S' => rw [e] at h2; exact fun g' h1 h3 h4 => h2 g' h1 (st.trans h3) h4
    | ok x S' => rw [e] at h2; exact fun g' h1 h3 h4 => postFrom st (h2 g' h1 (st.trans h3) h4)
  cases k with
  | true => exact fin h1
  | false => exact fin h1
theorem pss_d0 : PSs X [] (tS X.K W dsNx) := pssW pss_nil fun D σ H ⟨ρ, g, e, sr, se, h⟩ => by
  subst e
  exact h.ret rfl (Stp.refl g) sr σ se
theorem pss_d1 (h1 : PS X st (tS X.K W a)) (h2 : PSs X sts (tS X.K W b)) : PSs X (st :: sts) (tS X.K W (dsSeq a b)) := pssW (pss_cons h1 h2) fun D σ H ⟨ρ, g, e, sr, se, h⟩ => by
  subst e
  refine ⟨ρ, g, rfl, sr, se, (WG.bd0 h).mono fun x g1 st sr1 h1 => ?_⟩
  obtain ⟨ρ1, fl⟩ := x
  cases fl with
  | nx =>
    intro σ' se1
    have h1 : WG X.K (WA W) g g1.S (b ρ1) (PostS X.K g D) := h1
    refine ⟨ρ1, g1, rfl, sr1, se1, ?_⟩
    unfold WG at h1 ⊢
    cases e : b ρ1 g1.S with
    | stuck => rw [e] at h1; exact h1
    | exc c v S' => rw [e] at h1; exact fun g' h2 h3 h4 => h1 g' h2 (st.trans h3) h4
    | ok x S' => rw [e] at h1; exact fun g' h2 h3 h4 => postFrom st (h1 g' h2 (st.trans h3) h4)
  | rt r => exact h1.ret rfl st sr1
  | bk => exact h1.ret rfl st sr1
  | ct => exact h1.ret rfl st sr1
theorem tName_of {K : Frag} {n : Nat} {mu : Bool} {v : V} {σ : L2.St} {H : Hp} {Q : L2.St → Hp → Prop} (h : tG K W [n] (tgName n mu) v σ H Q) : gName n v σ H Q := by
  obtain ⟨ρ, g0, g, r, e, st, sr, se, hv, h⟩ := h
  subst e
  obtain ⟨sv, g1, e1, st1, sr1, r1, k1, _, h1⟩ := bindV_ok st sr hv h
  show Q (σ.set n (some v)) g.H
  rw [← e1]
  have se1 : SRe K g1 ρ σ := ⟨se.1, fun i sv e => let ⟨v, h1, h2⟩ := se.2 i sv e; ⟨v, h1, k1 _ _ h2⟩⟩
  exact h1.ret rfl st1 sr1 _ (se1.set r1) Off.set
theorem pg_dname {x : Str} {n : Nat} {mu : Bool} (hN : X.N.Nodup) (hi : X.N[n]? = some x) (hx : Loc X.env.scope x) (hf : X.fn x = true ∨ X.env.scope.names.lookup x = some .local) : PG X (.Name x pos) (tG X.K W [n] (tgName n mu)) :=
  pgW (pg_name hN hi hx hf) fun _ _ _ _ h => tName_of h
theorem tAsg_of {K : Frag} {is : List Nat} {D : Ends} {σ : L2.St} {H : Hp} (h : tS K W (dsAsg t d) D σ H) : tAsg (tD K W d) (tG K W is t) D σ H := by
  obtain ⟨ρ, g, e, sr, se, h⟩ := h
  subst e
  refine tD.st (Stp.refl g) sr se h fun r g1 v st _ sr1 se1 hv h1 => ?_
  refine ⟨ρ, g, g1, r, rfl, st, sr1, se1, hv, ?_⟩
  have h2 := h1.bd st
  unfold WG at h2 ⊢
  cases e : t r ρ g1.S with
  | stuck => rw [e] at h2; exact h2
  | exc c v S' =>
    unfold WG Pf.bd at h1
    rw [e] at h1
    exact h1
  | ok x S' =>
    unfold WG Pf.bd at h1
    rw [e] at h1
    exact fun g' k1 k2 k3 σ' k4 _ => h1 g' k1 k2 k3 σ' k4
theorem ps_dset {x : Str} {n : Nat} {mu : Bool} {pos' : Pos} (hN : X.N.Nodup) (hi : X.N[n]? = some x) (hx : Loc X.env.scope x) (hf : X.fn x = true ∨ X.env.scope.names.lookup x = some .local) (he : PE X e (tD X.K W d)) (hs : swapsWith e (some (.Name x pos')) pos.line X.env = pure false) :
    PS X (.Assign [.Name x pos'] e pos) (tS X.K W (dsAsg (tgName n mu) d)) := psW (ps_set hN hi hx he hs hf) fun D σ H h => by
  have q := tAsg_of (is := [n]) h
  obtain ⟨ρ, g, e, sr, se, h⟩ := q
  exact ⟨ρ, g, e, sr, se, h.mono fun r g' _ _ k v hv => tName_of (k v hv)⟩
theorem ps_dasg {tg : Expr} {is : List Nat} (he : PE X e (tD X.K W d)) (hg : PG X tg (tG X.K W is t)) (hs : swapsWithSole [tg] e pos.line X.env = pure false) (hw : swappedStores [tg] e X.env = pure none)
    (h1 : (assignEach [tg] X.env).map (·.2) = [assign tg X.env]) : PS X (.Assign [tg] e pos) (tS X.K W (dsAsg t d)) := psW (ps_asg he hg hs hw h1) fun D σ H h => tAsg_of h
theorem ps_dpar2 {i j : Nat} {mi mj : Bool} {x y : Str} {ea eb : Expr} {px py pt : Pos} {kt k2 : Nat} {pt2 : Pos} (hc : X.calm = true) (hN : X.N.Nodup) (hi : X.N[i]? = some x) (hj : X.N[j]? = some y) (hij : i ≠ j)
    (hx : X.env.scope.names.lookup x = some .local) (hy : X.env.scope.names.lookup y = some .local) (ha : PA X [ea, eb] (tDs X.K W ds))
    (hw : swappedStores [.Tuple [.Name x px, .Name y py] kt pt] (.Tuple [ea, eb] k2 pt2) X.env = pure (some [x, y])) :
    PS X (.Assign [.Tuple [.Name x px, .Name y py] kt pt] (.Tuple [ea, eb] k2 pt2) pos) (tS X.K W (dsPar2 i j mi mj ds)) := psW (ps_par hc hN hi hj hij hx hy ha hw (by rfl)) fun D σ H ⟨ρ, g, e, sr, se, h⟩ => by
  subst e
  refine tDs.st (Stp.refl g) sr se h fun rs g1 vs st _ sr1 se1 hvs h1 => ?_
  obtain ⟨hp, hd⟩ := hvs
  cases hp with
  | nil => exact (stk_ok h1).elim
  | cons a1 b1 =>
    cases b1 with
    | nil => exact (stk_ok h1).elim
    | cons a2 b2 =>
      cases b2 with
      | cons _ _ => exact (stk_ok h1).elim
      | nil =>
        next r v q w =>
        refine ⟨v, w, rfl, ?_⟩
        have dd : isOwn r = true → isOwn q = true → w ≠ v := fun o1 o2 z => hd.1 o1 0 q rfl o2 (by rw [z]; rfl)
        obtain ⟨sv, g2, e2, st2, sr2, r2, k2, q2, h2⟩ := bindV_ok st sr1 a1 h1
        obtain ⟨sv', g3, e3, st3, sr3, r3, k3, q3, h3⟩ := bindV_ok st2 sr2 (q2 q w dd a2) h2
        have se3 : SRe X.K g3 ρ σ := ⟨se1.1, fun i sv e => let ⟨v, h1, h2⟩ := se1.2 i sv e; ⟨v, h1, k3 _ _ (k2 _ _ h2)⟩⟩
        have := h3.ret rfl st3 sr3 _ ((se3.set (i := i) (k3 _ _ r2)).set (i := j) r3)
        rw [e3, e2] at this
        exact this
theorem ps_dpar3 {i j k : Nat} {mi mj mk : Bool} {x y z : Str} {ea eb ec : Expr} {px py pz pt : Pos} {kt k2 : Nat} {pt2 : Pos} (hc : X.calm = true) (hN : X.N.Nodup) (hi : X.N[i]? = some x) (hj : X.N[j]? = some y) (hk : X.N[k]? = some z) (hij : i ≠ j) (hik : i ≠ k) (hjk : j ≠ k)
    (hx : X.env.scope.names.lookup x = some .local) (hy : X.env.scope.names.lookup y = some .local) (hz : X.env.scope.names.lookup z = some .local) (ha : PA X [ea, eb, ec] (tDs X.K W ds))
    (hw : swappedStores [.Tuple [.Name x px, .Name y py, .Name z pz] kt pt] (.Tuple [ea, eb, ec] k2 pt2) X.env = pure (some [x, y, z])) :
    PS X (.Assign [.Tuple [.Name x px, .Name y py, .Name z pz] kt pt] (.Tuple [ea, eb, ec] k2 pt2) pos) (tS X.K W (dsPar3 i j k mi mj mk ds)) := psW (ps_par3 hc hN hi hj hk hij hik hjk hx hy hz ha hw (by rfl)) fun D σ H ⟨ρ, g, e, sr, se, h⟩ => by
  subst e
  refine tDs.st (Stp.refl g) sr se h fun rs g1 vs st _ sr1 se1 hvs h1 => ?_
  obtain ⟨hp, hd⟩ := hvs
  cases hp with
  | nil => exact (stk_ok h1).elim
  | cons a1 b1 =>
    cases b1 with
    | nil => exact (stk_ok h1).elim
    | cons a2 b2 =>
      cases b2 with
      | nil => exact (stk_ok h1).elim
      | cons a3 b3 =>
        cases b3 with
        | cons _ _ => exact (stk_ok h1).elim
        | nil =>
          next r v q w y' u =>
          refine ⟨v, w, u, rfl, ?_⟩
          have d12 : isOwn r = true → isOwn q = true → w ≠ v := fun o1 o2 z => hd.1 o1 0 q rfl o2 (by rw [z]; rfl)
          have d13 : isOwn r = true → isOwn y' = true → u ≠ v := fun o1 o2 z => hd.1 o1 1 y' rfl o2 (by rw [z]; rfl)
          have d23 : isOwn q = true → isOwn y' = true → u ≠ w := fun o1 o2 z => hd.2.1 o1 0 y' rfl o2 (by rw [z]; rfl)
          obtain ⟨sv, g2, e2, st2, sr2, r2, k2, q2, h2⟩ := bindV_ok st sr1 a1 h1
          obtain ⟨sv', g3, e3, st3, sr3, r3, k3, q3, h3⟩ := bindV_ok st2 sr2 (q2 q w d12 a2) h2
          obtain ⟨sv'', g4, e4, st4, sr4, r4, k4, q4, h4⟩ := bindV_ok st3 sr3 (q3 y' u d23 (q2 y' u d13 a3)) h3
          have se3 : SRe X.K g4 ρ σ := ⟨se1.1, fun i sv e => let ⟨v, h1, h2⟩ := se1.2 i sv e; ⟨v, h1, k4 _ _ (k3 _ _ (k2 _ _ h2))⟩⟩
          have := h4.ret rfl st4 sr4 _ (((se3.set (i := i) (k4 _ _ (k3 _ _ r2))).set (i := j) (k4 _ _ r3)).set (i := k) r4)
          rw [e4, e3, e2] at this
          exact this
/-! targets that are no names -/
theorem rs_d {K : Frag} : True := trivial
theorem RpL.set {K : Frag} {H : Hp} {F : Addr → Prop} : ∀ {ps : List PV} {vs : List V} (j : Nat) {p : PV} {v : V}, RpL K H F ps vs → Rp K H F p v → RpL K H F (ps.set j p) (vs.set j v)
  | [], _, _, _, _, h, _ => by have h : _ = [] := h; subst h; exact rfl
  | q :: ps, _, 0, p, v, ⟨w, r, e, a, b⟩, h => by subst e; exact ⟨v, r, rfl, h, b⟩
  | q :: ps, _, j + 1, p, v, ⟨w, r, e, a, b⟩, h => by subst e; exact ⟨w, _, rfl, a, RpL.set j b h⟩
theorem updV_bd {K : Frag} {W : XW} {g g0 : G} {β : Type} {r : RV} {v : V} {f : PV → Option (PV × PV)} {k : RV → M β} {R : β → G → Prop} (s : SRc K g) (hr : Rr K g0 g r v) (h : WG K W g0 g.S (bd (updV r f) k) R) :
    ∃ n a p p' z, r = .ref n ∧ v = .ref a ∧ g.A[n]? = some a ∧ g.S[n]? = some (.live p) ∧ At K g.H g.F p a ∧ f p = some (p', z) ∧ WG K W g0 (g.S.set n (.live p')) (k (.val z)) R := by
  cases r with
  | val p => unfold WG Pf.bd updV at h; simp only at h
  | own p => unfold WG Pf.bd updV at h; simp only at h
  | ref n =>
    obtain ⟨a, rfl, hA⟩ := hr
    cases hS : g.S[n]? with
    | none => unfold WG Pf.bd updV at h; simp only [hS] at h
    | some c =>
      cases c with
      | nest es => unfold WG Pf.bd updV at h; simp only [hS] at h
      | froz p => unfold WG Pf.bd updV at h; simp only [hS] at h
      | live p =>
        cases e : f p with
        | none => unfold WG Pf.bd updV at h; simp only [hS, e] at h
        | some y =>
          obtain ⟨p', z⟩ := y
          exact ⟨n, a, p, p', z, rfl, rfl, hA, hS, (s.cell n a _ hA hS).1, e, WG.run (by simp only [updV, hS, e]) h⟩
theorem pg_dsub (ho : PE X o (tD X.K W da)) (hi : PE X i0 (tD X.K W db))
    (ha : ∀ v, assign (.Subscript o i0 pos) X.env v = (do
      let ov ← holding [v] (eval o X.env)
      let iv ← holding [v, ov] (eval i0 X.env)
      standAt pos
      holding [v, ov, iv] (setItem ov iv v)
      release [v, ov, iv] [])) : PG X (.Subscript o i0 pos) (tG X.K W [] (tgSub da db)) := pgW (pg_sub ho hi set_list ha) fun v σ H Q ⟨ρ, g0, g, r, e, st, sr, se, hv, h⟩ => by
  subst e
  obtain ⟨p, g1, e1, st1, sr1, r1, k1, a1, _, h1⟩ := force_ok st sr hv.rf h
  rw [← e1]
  have se1 : SRe X.K g1 ρ σ := ⟨se.1, fun i sv e => let ⟨v, h1, h2⟩ := se.2 i sv e; ⟨v, h1, by
    cases sv with
    | val p => exact Rp.keep k1 _ _ h2
    | ref n => obtain ⟨b, e, h⟩ := h2; exact ⟨b, e, by rw [a1]; exact h⟩⟩⟩
  refine tD.st st1 sr1 se1 h1 fun q g2 w st2 st02 sr2 se2 hw h2 => ?_
  refine tD.st st02 sr2 se2 h2 fun z g3 u st3 st03 sr3 se3 hu h3 => ?_
  obtain ⟨k, ek, h4⟩ := h3.withP
  have hw3 := hw.step sr2 st3
  have hv3 := Rp.keep (st3.k sr2) _ _ (Rp.keep (st2.k sr1) _ _ r1)
  obtain ⟨n, b, p0, p', z', rfl, rfl, hA, hS, hAt, ef, h5⟩ := updV_bd sr3 (hw3.from st1) h4
  obtain ⟨xs, vs, rfl, hvs, rvs⟩ := lstAt hAt (setF k p) (fun _ => rfl) ef
  have hk := hu.peek sr3 ek
  cases k with
  | int m =>
    simp only [setF] at ef
    cases e5 : ixN xs.length m with
    | none => rw [e5] at ef; cases ef
    | some j =>
      rw [e5] at ef; cases ef
      have hk : u = _ := hk
      subst hk
      refine ⟨b, vs, m, j, rfl, rfl, hvs, by rw [← rvs.len]; exact e5, ?_⟩
      have kp := wrKeep (p := .lst (xs.set j p)) (o := .lst (vs.set j v)) sr3 hA hS
      have hn : At X.K (g3.wr n b (.lst (xs.set j p)) (.lst (vs.set j v))).H g3.F (.lst (xs.set j p)) b := ⟨_, upd_same, RpL.keep kp _ _ (rvs.set j hv3)⟩
      obtain ⟨st4, sr4⟩ := wr_ok st03 sr3 hA hS hn
      have se4 : SRe X.K (g3.wr n b (.lst (xs.set j p)) (.lst (vs.set j v))) ρ σ := ⟨se3.1, fun i sv e => let ⟨v, h1, h2⟩ := se3.2 i sv e; ⟨v, h1, by
        cases sv with
        | val p => exact Rp.keep kp _ _ h2
        | ref n => exact h2⟩⟩
      exact h5.ret (g' := g3.wr n b (.lst (xs.set j p)) (.lst (vs.set j v))) rfl st4 sr4 σ se4 Off.refl
  | _ => simp only [setF] at ef; cases ef
/-- many targets -/
def tGs (K : Frag) (W : WS) (is : List Nat) (ts : List TgD) : TGs := fun vs σ H Q => ∃ ρ g0 g ps, g.H = H ∧ Stp g0 g ∧ SRc K g ∧ SRe K g ρ σ ∧ RpL K g.H g.F ps vs ∧ WG K (WA W) g0 g.S (tgAll ts ps ρ) fun ρ' g' => ∀ σ', SRe K g' ρ' σ' → Off is σ σ' → Q σ' g'.H
theorem pgsW {X : Cx} {es : List Expr} {t t' : TGs} (h : PGs X es t) (w : ∀ v σ H Q, t' v σ H Q → t v σ H Q) : PGs X es t' := ⟨fun pins s σ H v u Q I r q => h.run pins s σ H v u Q I r (w v σ H Q q)⟩
theorem pgs_d0 : PGs X [] (tGs X.K W [] []) := pgsW pgs_nil fun vs σ H Q ⟨ρ, g0, g, ps, e, st, sr, se, hv, h⟩ => by
  subst e
  cases ps with
  | nil => exact ⟨hv, h.ret rfl st sr σ se Off.refl⟩
  | cons p ps => exact (stk_ok h).elim
theorem pgs_d1 {is js : List Nat} {ts : List TgD} (h1 : PG X e (tG X.K W is t)) (h2 : PGs X es (tGs X.K W js ts)) (hs : (assignEach (e :: es) X.env).map (·.2) = assign e X.env :: (assignEach es X.env).map (·.2)) :
    PGs X (e :: es) (tGs X.K W (is ++ js) (t :: ts)) := pgsW (pgs_cons h1 h2 hs) fun vs σ H Q ⟨ρ, g0, g, ps, e, st, sr, se, hv, h⟩ => by
  subst e
  cases ps with
  | nil => exact (stk_ok h).elim
  | cons p ps =>
    obtain ⟨v, r, rfl, hv1, hv2⟩ := hv
    refine ⟨v, r, rfl, ρ, g, g, .val p, rfl, Stp.refl g, sr, se, hv1, (h.bd st).mono fun ρ1 g1 st1 sr1 h1 σ1 se1 of1 => ?_⟩
    exact ⟨ρ1, g0, g1, ps, rfl, st.trans st1, sr1, se1, RpL.keep (st1.k sr) _ _ hv2, h1.mono fun ρ2 g2 _ _ k σ2 se2 of2 => k σ2 se2 (of1.trans of2)⟩
theorem pg_dtup {is : List Nat} {ts : List TgD} {k : Nat} (hc : X.calm = true) (h : PGs X es (tGs X.K W is ts)) (hn : (assignEach es X.env).length = ts.length) (hst : (assignEach es X.env).findIdx? (·.1) = none) :
    PG X (.Tuple es k pos) (tG X.K W is (tgTup ts)) := pgW (pg_tup hc h hn hst) fun v σ H Q ⟨ρ, g0, g, r, e, st, sr, se, hv, h⟩ => by
  subst e
  cases r with
  | val p =>
    cases p with
    | tup ps =>
      obtain ⟨a, vs, rfl, q, rv⟩ := hv
      have h : WG X.K (WA W) g0 g.S (if ps.length = ts.length then tgAll ts ps ρ else stk) _ := h
      split at h
      · next hl => exact ⟨a, vs, rfl, q, by rw [← rv.len]; exact hl, ρ, g0, g, ps, rfl, st, sr, se, rv, h⟩
      · exact (stk_ok h).elim
    | _ => exact (stk_ok h).elim
  | _ => exact (stk_ok h).elim
end
end Pf
end
section
set_option Elab.async false
set_option linter.all false
set_option maxHeartbeats 1000000
set_option autoImplicit false
namespace Pf
open PySem PySem.Spec L2
/-! loops -/
/-- the lists that are walked are as they were -/
def chkG (gs : List (Nat × PV)) (S : Sto) : Bool := gs.all fun x => match S[x.1]? with
  | some (.live p) => same p x.2
  | some (.froz p) => same p x.2
  | _ => false
def chk (gs : List (Nat × PV)) : M Unit := fun S => if chkG gs S then .ok () S else .stuck
abbrev ItD := Env → M (List PV × List (Nat × PV))
def JOk (K : Frag) (g0 : G) (J : It) (xs : List PV) (gs : List (Nat × PV)) : Prop := ∀ (i : Nat) (g : G), Stp g0 g → SRc K g → chkG gs g.S = true →
  (∀ p, xs[i]? = some p → J.go i g.H ∧ ∀ x H', J.yld i g.H x H' → ∃ g', g'.S = g.S ∧ Stp g g' ∧ SRc K g' ∧ g'.H = H' ∧ Rp K g'.H g'.F p x) ∧ (i = xs.length → J.stop i g.H)
def tI (K : Frag) (W : WS) (it : ItD) : TI := fun σ H R => ∃ ρ g, g.H = H ∧ SRc K g ∧ SRe K g ρ σ ∧ WG K (W σ) g g.S (it ρ) fun x g' => ∀ J, JOk K g' J x.1 x.2 → R J g'.H
theorem piW {X : Cx} {tg e : Expr} {t t' : TI} (h : PI X tg e t) (w : ∀ σ H R, t' σ H R → t σ H R) : PI X tg e t' := ⟨fun pins s σ H R I q => h.run pins s σ H R I (w σ H R q)⟩
/-- behind a turn -/
def cont (k : Env → M (Env × Fl)) : Env × Fl → M (Env × Fl) := fun x => match x.2 with
  | .nx => k x.1
  | .ct => k x.1
  | .bk => ret (x.1, .nx)
  | .rt r => ret (x.1, .rt r)
def loop (gs : List (Nat × PV)) (t : TgD) (b : DenS) : List PV → DenS
  | [], ρ => bd (chk gs) fun _ => ret (ρ, .nx)
  | x :: xs, ρ => bd (chk gs) fun _ => bd (t (.val x) ρ) fun ρ1 => bd (b ρ1) (cont (loop gs t b xs))
def dsFor (it : ItD) (t : TgD) (b : DenS) : DenS := fun ρ => bd (it ρ) fun x => loop x.2 t b x.1 ρ
def loopW (c : Den) (b : DenS) : Nat → DenS
  | 0, _ => stk
  | n + 1, ρ => bd (dTest c ρ) fun k => if k then bd (b ρ) (cont (loopW c b n)) else ret (ρ, .nx)
def dsWhile (n : Nat) (c : Den) (b : DenS) : DenS := loopW c b n
section
variable {K : Frag} {W : WS} {g g0 g1 : G} {β : Type}
theorem chk_run {W : XW} {S : Sto} {gs : List (Nat × PV)} {f : Unit → M β} {R : β → G → Prop} (h : WG K W g S (bd (chk gs) f) R) : chkG gs S = true ∧ WG K W g S (f ()) R := by
  cases e : chkG gs S with
  | true => exact ⟨rfl, WG.run (by simp only [chk, e, if_true]) h⟩
  | false => unfold WG Pf.bd chk at h; simp only [e] at h; exact h.elim
theorem WG.base {W : XW} {S : Sto} {m : M β} {Q Q' : β → G → Prop} (st : Stp g0 g) (h : WG K W g0 S m Q) (q : ∀ a g', Stp g g' → SRc K g' → Q a g' → Q' a g') : WG K W g S m Q' := by
  unfold WG at h ⊢
  cases e : m S with
  | stuck => rw [e] at h; exact h
  | exc c v S' => rw [e] at h; exact fun g' h1 h2 h3 => h g' h1 (st.trans h2) h3
  | ok a S' => rw [e] at h; exact fun g' h1 h2 h3 => q _ _ h2 h3 (h g' h1 (st.trans h2) h3)
/-- what a body must reach, from the rest of the loop -/
theorem cont_post {k : Env → M (Env × Fl)} {D : Ends} {N : L2.St → Hp → Prop} {m : M (Env × Fl)} (st : Stp g0 g) (h : WG K (WA W) g0 g.S (bd m (cont k)) (PostS K g0 D))
    (n : ∀ ρ' g' σ', Stp g g' → SRc K g' → SRe K g' ρ' σ' → WG K (WA W) g0 g'.S (k ρ') (PostS K g0 D) → N σ' g'.H) : WG K (WA W) g g.S m (PostS K g { D with nx := N, ct := N, bk := D.nx }) := by
  refine (h.bd st).mono fun x g' st1 sr1 h1 => ?_
  obtain ⟨ρ', fl⟩ := x
  cases fl with
  | nx => exact fun σ' se => n ρ' g' σ' st1 sr1 se h1
  | ct => exact fun σ' se => n ρ' g' σ' st1 sr1 se h1
  | bk => exact fun σ' se => (h1.ret rfl (st.trans st1) sr1 : PostS K g0 D (ρ', .nx) g') σ' se
  | rt r => exact fun v hv => (h1.ret rfl (st.trans st1) sr1 : PostS K g0 D (ρ', .rt r) g') v (hv.from st)
theorem tFor_of {it : ItD} {t : TgD} {b : DenS} {is : List Nat} {D : Ends} {σ : L2.St} {H : Hp} (h : tS K W (dsFor it t b) D σ H) : tFor (tI K W it) (tG K W is t) (tS K W b) D σ H := by
  obtain ⟨ρ, g, e, sr, se, h⟩ := h
  subst e
  refine ⟨ρ, g, rfl, sr, se, (WG.wk σ (WG.bd0 h)).mono fun x g1 st1 sr1 h1 J hJ => ?_⟩
  obtain ⟨xs, gs⟩ := x
  have h1 : WG K (WA W) g g1.S (loop gs t b xs ρ) (PostS K g D) := h1
  refine ⟨fun i m σ H => m = xs.length - i ∧ i ≤ xs.length ∧ ∃ ρ g2, g2.H = H ∧ Stp g1 g2 ∧ SRc K g2 ∧ SRe K g2 ρ σ ∧ WG K (WA W) g g2.S (loop gs t b (xs.drop i) ρ) (PostS K g D), ⟨_, rfl, Nat.zero_le _, ρ, g1, rfl, Stp.refl g1, sr1, se.step sr st1, h1⟩, ?_⟩
  rintro i m σ2 H2 ⟨rfl, hi, ρ2, g2, rfl, st2, sr2, se2, h2⟩
  by_cases hlt : i < xs.length
  · have ed : xs.drop i = xs[i] :: xs.drop (i + 1) := List.drop_eq_getElem_cons hlt
    rw [ed] at h2
    obtain ⟨hc, h3⟩ := chk_run h2
    obtain ⟨hgo, hy⟩ := (hJ i g2 st2 sr2 hc).1 xs[i] (List.getElem?_eq_getElem hlt)
    refine .inr ⟨hgo, fun σ' H' => ∃ m', m' < xs.length - i ∧ (m' = xs.length - (i + 1) ∧ i + 1 ≤ xs.length ∧ ∃ ρ g2, g2.H = H' ∧ Stp g1 g2 ∧ SRc K g2 ∧ SRe K g2 ρ σ' ∧ WG K (WA W) g g2.S (loop gs t b (xs.drop (i + 1)) ρ) (PostS K g D)), fun σ' H' h => h, fun x H' hx => ?_⟩
    obtain ⟨g3, eS, st3, sr3, rfl, rp⟩ := hy x H' hx
    rw [← eS] at h3
    have st03 : Stp g g3 := (st1.trans st2).trans st3
    refine ⟨ρ2, g3, g3, .val xs[i], rfl, Stp.refl g3, sr3, se2.step sr2 st3, rp, (h3.bd st03).mono fun ρ4 g4 st4 sr4 h4 σ4 se4 of4 => ?_⟩
    refine ⟨ρ4, g4, rfl, sr4, se4, cont_post (st03.trans st4) h4 fun ρ5 g5 σ5 st5 sr5 se5 h5 => ?_⟩
    exact ⟨_, by omega, rfl, hlt, ρ5, g5, rfl, ((st2.trans st3).trans st4).trans st5, sr5, se5, h5⟩
  · have e : i = xs.length := by omega
    subst e
    rw [List.drop_length] at h2
    obtain ⟨hc, h3⟩ := chk_run h2
    exact .inl ⟨(hJ _ g2 st2 sr2 hc).2 rfl, (h3.ret rfl (st1.trans st2) sr2 : PostS K g D (ρ2, .nx) g2) σ2 se2⟩
theorem tWhile_of {c : Den} {b : DenS} {n : Nat} {D : Ends} {σ : L2.St} {H : Hp} (h : tS K W (dsWhile n c b) D σ H) : tWhile (tT K W c) (tS K W b) D σ H := by
  obtain ⟨ρ, g, e, sr, se, h⟩ := h
  subst e
  refine ⟨fun m σ H => ∃ ρ g2, g2.H = H ∧ Stp g g2 ∧ SRc K g2 ∧ SRe K g2 ρ σ ∧ WG K (WA W) g g2.S (loopW c b m ρ) (PostS K g D), ⟨n, ρ, g, rfl, Stp.refl g, sr, se, h⟩, ?_⟩
  rintro m σ2 H2 ⟨ρ2, g2, rfl, st2, sr2, se2, h2⟩
  cases m with
  | zero => exact (stk_ok h2).elim
  | succ m =>
    refine tT.st st2 sr2 se2 h2 fun k g3 st3 st03 sr3 se3 h3 => ?_
    cases k with
    | true =>
      rw [if_pos rfl]
      refine ⟨fun σ' H' => ∃ m', m' < m + 1 ∧ ∃ ρ g2, g2.H = H' ∧ Stp g g2 ∧ SRc K g2 ∧ SRe K g2 ρ σ' ∧ WG K (WA W) g g2.S (loopW c b m' ρ) (PostS K g D), fun σ' H' h => h, ?_⟩
      exact ⟨ρ2, g3, rfl, sr3, se3, cont_post st03 h3 fun ρ5 g5 σ5 st5 sr5 se5 h5 => ⟨m, by omega, ρ5, g5, rfl, st03.trans st5, sr5, se5, h5⟩⟩
    | false =>
      rw [if_neg (by decide)]
      exact (h3.ret rfl st03 sr3 : PostS K g D (ρ2, .nx) g3) σ2 se3
end
section
variable {X : Cx} {W : WS} {pos : Pos} {tg iter c e : Expr} {it : ItD} {t : TgD} {is : List Nat} {b : DenS} {dc d : Den} {sts : List Stmt}
theorem ps_dfor (hp : PassesOwn (model X.prog X.w) X.A X.env X.xe) (hc : X.calm = true) (hi : PI X tg iter (tI X.K W it)) (hg : PG X tg (tG X.K W is t)) (hb : PSs X sts (tS X.K W b)) (hs : ∀ x, foldedSetIterable iter X.env x = pure x) :
    PS X (.For tg iter sts [] pos) (tS X.K W (dsFor it t b)) := psW (ps_for hp hc hi hg hb hs) fun _ _ _ h => tFor_of h
theorem ps_dwhile {n : Nat} (hp : PassesOwn (model X.prog X.w) X.A X.env X.xe) (hc : PT X c (tT X.K W dc)) (hb : PSs X sts (tS X.K W b)) : PS X (.While c sts [] pos) (tS X.K W (dsWhile n dc b)) := psW (ps_while hp hc hb) fun _ _ _ h => tWhile_of h
end
end Pf
end
section
set_option Elab.async false
set_option linter.all false
set_option maxHeartbeats 1000000
set_option autoImplicit false
namespace Pf
open PySem PySem.Spec L2
/-! comprehensions -/
def noX {α : Type} (m : M α) : M α := fun S => match m S with
  | .ok a S' => .ok a S'
  | _ => .stuck
def wipeE (ρ : Env) : List Nat → Env
  | [] => ρ
  | v :: vs => (wipeE ρ vs).set v none
def condM : Option Den → Env → M Bool
  | none, _ => ret true
  | some d, ρ => dTest d ρ
def turnC (gs : List (Nat × PV)) (t : TgD) (c : Option Den) (e : Den) (x : PV) : Env → M (Option PV) := fun ρ =>
  bd (chk gs) fun _ => bd (t (.val x) ρ) fun ρ1 => bd (condM c ρ1) fun k => if k then bd (e ρ1) fun r => bd (force r) fun p => ret (some p) else ret none
def cl (gs : List (Nat × PV)) (t : TgD) (c : Option Den) (e : Den) : List PV → Env → M (List PV)
  | [], _ => bd (chk gs) fun _ => ret []
  | x :: xs, ρ => bd (turnC gs t c e x ρ) fun o => bd (cl gs t c e xs ρ) fun r => ret (match o with | some p => p :: r | none => r)
def dComp (it : ItD) (t : TgD) (c : Option Den) (e : Den) (vs : List Nat) : Den := fun ρ => bd (it ρ) fun x =>
  if lenOk x.1.length then bd (noX (cl x.2 t c e x.1 (wipeE ρ vs))) fun r => ret (.own (.lst r)) else stk
abbrev W0 : WS := fun _ _ _ _ => False
def tCo (K : Frag) (c : Option Den) : TT := match c with
  | none => tYes
  | some d => tT K W0 d
theorem tCo_some {K : Frag} {d : Den} : tCo K (some d) = tT K W0 d := rfl
theorem bd_assoc {α β γ : Type} (m : M α) (f : α → M β) (k : β → M γ) : bd (bd m f) k = bd m fun a => bd (f a) k := by
  funext S
  simp only [bd]
  cases m S <;> rfl
theorem wipe_get (vs : List Nat) : ∀ (τ : L2.St) (j : Nat), (wipe τ vs)[j]? = if j ∈ vs then (if j < τ.length then some none else none) else τ[j]? := by
  induction vs with
  | nil => intro τ j; simp [wipe]
  | cons v vs ih =>
    intro τ j
    unfold wipe
    by_cases hj : v = j
    · subst hj
      rw [if_pos List.mem_cons_self]
      by_cases hl : v < τ.length
      · rw [if_pos hl, List.getElem?_set_self (by rw [wipe_length]; exact hl)]
      · rw [if_neg hl, List.getElem?_eq_none (by rw [List.length_set, wipe_length]; omega)]
    · rw [List.getElem?_set_ne hj, ih]
      have : j ∈ v :: vs ↔ j ∈ vs := by simp [List.mem_cons, Ne.symm hj]
      by_cases h : j ∈ vs
      · rw [if_pos h, if_pos (this.mpr h)]
      · rw [if_neg h, if_neg (fun z => h (this.mp z))]
theorem wipe_off {vs is : List Nat} {σ σ2 : L2.St} (hs : ∀ i ∈ is, i ∈ vs) (h : Off is (wipe σ vs) σ2) : wipe σ2 vs = wipe σ vs := by
  refine List.ext_getElem? fun j => ?_
  have hl : σ2.length = σ.length := h.1.trans (wipe_length σ vs)
  rw [wipe_get, wipe_get, hl]
  by_cases hj : j ∈ vs
  · rw [if_pos hj, if_pos hj]
  · rw [if_neg hj, if_neg hj, h.2 j (fun z => hj (hs j z)), wipe_get, if_neg hj]
theorem wipeE_get (vs : List Nat) : ∀ (ρ : Env) (j : Nat) (sv : SV), (wipeE ρ vs)[j]? = some (some sv) → ρ[j]? = some (some sv) ∧ j ∉ vs := by
  induction vs with
  | nil => intro ρ j sv h; exact ⟨h, by simp⟩
  | cons v vs ih =>
    intro ρ j sv h
    unfold wipeE at h
    by_cases hj : v = j
    · subst hj
      by_cases hl : v < (wipeE ρ vs).length
      · rw [List.getElem?_set_self hl] at h; cases h
      · rw [List.getElem?_eq_none (by rw [List.length_set]; omega)] at h; cases h
    · rw [List.getElem?_set_ne hj] at h
      obtain ⟨h1, h2⟩ := ih ρ j sv h
      exact ⟨h1, by simp [List.mem_cons, Ne.symm hj, h2]⟩
theorem wipeE_length (ρ : Env) : ∀ vs : List Nat, (wipeE ρ vs).length = ρ.length
  | [] => rfl
  | v :: vs => by unfold wipeE; rw [List.length_set, wipeE_length ρ vs]
section
variable {K : Frag} {W : WS} {g g0 g1 : G} {β : Type}
theorem SRe.wipe {ρ : Env} {σ : L2.St} (h : SRe K g ρ σ) (vs : List Nat) : SRe K g (wipeE ρ vs) (L2.wipe σ vs) := by
  refine ⟨by rw [wipeE_length, wipe_length]; exact h.1, fun j sv e => ?_⟩
  obtain ⟨e1, hj⟩ := wipeE_get vs ρ j sv e
  obtain ⟨v, e2, r⟩ := h.2 j sv e1
  exact ⟨v, by rw [wipe_get, if_neg hj]; exact e2, r⟩
theorem noX_bd {α : Type} {W : XW} {m : M α} {f : α → M β} {R : β → G → Prop} (h : WG K W g g1.S (bd (noX m) f) R) : WG K (fun _ _ _ => False) g1 g1.S m fun a g2 => WG K W g g2.S (f a) R := by
  unfold WG Pf.bd noX at h
  unfold WG
  cases e : m g1.S with
  | stuck => simp only [e] at h
  | exc c v S' => simp only [e] at h
  | ok a S' =>
    simp only [e] at h
    intro g2 hS _ _
    subst hS
    exact h
/-- the new list at D, so far -/
structure Acc (K : Frag) (g : G) (D : Addr) (acc : List PV) (vs : List V) : Prop where
  at_ : g.H D = some (.lst vs)
  is : RpL K g.H g.F acc vs
  nf : ¬ g.F D
  nA : D ∉ g.A
theorem Acc.step {D : Addr} {acc : List PV} {vs : List V} (s : SRc K g) (k : Stp g g1) (h : Acc K g D acc vs) : Acc K g1 D acc vs := by
  have nl : ¬ Lv g D := fun z => h.nA z.mem
  refine ⟨k.keep _ _ h.at_ nl, RpL.keep (k.k s) _ _ h.is, fun z => ?_, fun z => ?_⟩
  · rcases k.fz' D z with z | z | z
    · exact h.nf z
    · exact nl z
    · rw [h.at_] at z; cases z
  · rcases k.newA D z with z | z
    · exact h.nA z
    · rw [h.at_] at z; cases z
theorem Acc.push {g' : G} {D : Addr} {acc : List PV} {vs : List V} {p : PV} {v : V} (b : Stp g0 g) (n0 : g0.H D = none) (s : SRc K g) (h : Acc K g D acc vs) (r : Rp K g.H g.F p v) :
    Keep g (g.put D (.lst (vs ++ [v]))) ∧ Stp g0 (g.put D (.lst (vs ++ [v]))) ∧ SRc K (g.put D (.lst (vs ++ [v]))) ∧ Acc K (g.put D (.lst (vs ++ [v]))) D (acc ++ [p]) (vs ++ [v]) := by
  have kp : Keep g (g.put D (.lst (vs ++ [v]))) := ⟨fun _ h => h, fun b x e hh => by
    show upd g.H D _ b = _
    rw [upd_ne (fun z => ?_)]
    · exact e
    · subst z
      rcases hh with hh | hh
      · exact h.nf hh
      · rw [h.at_] at e; cases e; exact hh⟩
  have dom : ∀ c x, g.H c = some x → ∃ y, (g.put D (.lst (vs ++ [v]))).H c = some y := fun c x e => by
    by_cases hb : c = D
    · subst hb; exact ⟨_, upd_same⟩
    · exact ⟨x, (upd_ne hb).trans e⟩
  refine ⟨kp, ⟨fun c x e n => ?_, fun c x e => ?_, b.fz, b.fz', b.ext, b.newA, b.new, b.pl, b.ge⟩, ⟨s.len, s.nd, fun m a c e1 e2 => ?_, fun a m => let ⟨x, e⟩ := s.dom a m; dom a x e, fun a m => let ⟨x, e⟩ := s.fd a m; dom a x e⟩, ⟨upd_same, (RpL.keep kp _ _ h.is).app ⟨v, [], rfl, Rp.keep kp _ _ r, rfl⟩, h.nf, h.nA⟩⟩
  · have hc : c ≠ D := fun z => by subst z; rw [n0] at e; cases e
    exact (upd_ne hc).trans (b.keep c x e n)
  · obtain ⟨y, e'⟩ := b.dom c x e
    exact dom c y e'
  · have k := s.cell m a c e1 e2
    have ha : a ≠ D := fun z => h.nA (z ▸ List.mem_of_getElem? e1)
    exact k.keep kp (fun _ _ h => h) (fun _ => upd_ne ha) fun _ h => h
theorem tLc_of {it : ItD} {t : TgD} {c : Option Den} {e : Den} {vs is : List Nat} {σ : L2.St} {H : Hp} {Q : VK} (hs : ∀ i ∈ is, i ∈ vs) (h : tD K W (dComp it t c e vs) σ H Q) : tLc (tI K W it) (tG K W0 is t) (tCo K c) (tD K W0 e) vs σ H Q := by
  obtain ⟨ρ, g, e0, sr, se, h⟩ := h
  subst e0
  refine ⟨ρ, g, rfl, sr, se, (WG.bd0 h).mono fun x g1 st1 sr1 h1 J hJ D hD => ?_⟩
  obtain ⟨xs, gs⟩ := x
  have h1 : WG K (W σ) g g1.S (if lenOk xs.length then bd (noX (cl gs t c e xs (wipeE ρ vs))) fun r => ret (.own (.lst r)) else stk) fun r g' => ∀ v, Rr K g g' r v → Q v g'.H := h1
  cases hl : lenOk xs.length with
  | false => rw [hl, if_neg (by decide)] at h1; exact (stk_ok h1).elim
  | true =>
  rw [hl, if_pos rfl] at h1
  have hl : xs.length ≤ sizeLine := of_decide_eq_true hl
  -- what is wanted of the list
  let R : List PV → G → Prop := fun r g2 => WG K (W σ) g g2.S (ret (.own (.lst r))) fun r g' => ∀ v, Rr K g g' r v → Q v g'.H
  have h2 : WG K (WA W0) g1 g1.S (cl gs t c e xs (wipeE ρ vs)) R := by
    have h3 := noX_bd h1
    unfold WG at h3 ⊢
    cases e9 : cl gs t c e xs (wipeE ρ vs) g1.S with
    | stuck => rw [e9] at h3; exact h3
    | exc a b c => rw [e9] at h3; exact fun g' k1 k2 k3 σ => h3 g' k1 k2 k3
    | ok a S' => rw [e9] at h3; exact h3
  let Iv : Nat → Hp → Prop := fun i H => ∃ g2 acc us, g2.H = H ∧ Stp g1 g2 ∧ SRc K g2 ∧ SRe K g2 (wipeE ρ vs) (L2.wipe σ vs) ∧ Acc K g2 D acc us ∧ acc.length ≤ i ∧ WG K (WA W0) g1 g2.S (bd (cl gs t c e (xs.drop i) (wipeE ρ vs)) fun r => ret (acc ++ r)) R
  refine ⟨fun i m H => m = xs.length - i ∧ i ≤ xs.length ∧ Iv i H, ⟨_, rfl, Nat.zero_le _, g1.put D (.lst []), [], [], rfl, Stp.put hD, sr1.put hD, ((se.step sr st1).wipe vs).step sr1 (Stp.put hD), ⟨upd_same, rfl, fun z => ?_, fun z => ?_⟩, Nat.le_refl _, ?_⟩, ?_⟩
  · obtain ⟨y, e⟩ := sr1.fd D z; rw [hD] at e; cases e
  · obtain ⟨y, e⟩ := sr1.dom D z; rw [hD] at e; cases e
  · have e9 : (bd (cl gs t c e (xs.drop 0) (wipeE ρ vs)) fun r => ret ([] ++ r)) = cl gs t c e xs (wipeE ρ vs) := by
      funext S
      simp only [bd, List.drop_zero, List.nil_append]
      cases cl gs t c e xs (wipeE ρ vs) S <;> rfl
    rw [e9]
    exact h2
  rintro i m H2 ⟨rfl, hi, g2, acc, us, rfl, st2, sr2, se2, A2, hacc, h3⟩
  by_cases hlt : i < xs.length
  · have ed : xs.drop i = xs[i] :: xs.drop (i + 1) := List.drop_eq_getElem_cons hlt
    rw [ed] at h3
    simp only [cl, turnC, bd_assoc] at h3
    obtain ⟨hc, h4⟩ := chk_run h3
    obtain ⟨hgo, hy⟩ := (hJ i g2 st2 sr2 hc).1 xs[i] (List.getElem?_eq_getElem hlt)
    refine .inr ⟨hgo, fun H' => ∃ m', m' < xs.length - i ∧ (m' = xs.length - (i + 1) ∧ i + 1 ≤ xs.length ∧ Iv (i + 1) H'), fun H' h => h, fun x H' hx => ?_⟩
    obtain ⟨g3, eS, st3, sr3, rfl, rp⟩ := hy x H' hx
    rw [← eS] at h4
    have st13 := st2.trans st3
    refine ⟨wipeE ρ vs, g3, g3, .val xs[i], rfl, Stp.refl g3, sr3, se2.step sr2 st3, rp, (h4.bd st13).mono fun ρ4 g4 st4 sr4 h5 σ4 se4 of4 => ?_⟩
    have st14 := st13.trans st4
    have st24 := st3.trans st4
    refine ⟨wipe_off hs of4, ?_⟩
    -- behind the test
    have key : ∀ (k : Bool) (g5 : G), Stp g4 g5 → SRc K g5 → SRe K g5 ρ4 σ4 → WG K (WA W0) g1 g5.S (bd (if k then bd (e ρ4) fun r => bd (force r) fun p => ret (some p) else ret none) fun o => bd (bd (cl gs t c e (xs.drop (i + 1)) (wipeE ρ vs)) fun r => ret (match o with | some p => p :: r | none => r)) fun r => ret (acc ++ r)) R →
        (if k = true then tD K W0 e σ4 g5.H fun y H4 => ∃ acc, H4 D = some (.lst acc) ∧ acc.length < sizeLine ∧ ∃ m', m' < xs.length - i ∧ (m' = xs.length - (i + 1) ∧ i + 1 ≤ xs.length ∧ Iv (i + 1) (upd H4 D (.lst (acc ++ [y])))) else ∃ m', m' < xs.length - i ∧ (m' = xs.length - (i + 1) ∧ i + 1 ≤ xs.length ∧ Iv (i + 1) g5.H)) := fun k g5 st5 sr5 se5 h6 => by
      have st25 := st24.trans st5
      have A5 := A2.step sr2 st25
      cases k with
      | false =>
        simp only [Bool.false_eq_true, if_false] at h6 ⊢
        refine ⟨_, by omega, rfl, hlt, g5, acc, us, rfl, st14.trans st5, sr5, se2.step sr2 st25, A5, by omega, ?_⟩
        have h7 := WG.run rfl h6
        simp only [bd_assoc] at h7 ⊢
        exact h7
      | true =>
        simp only [if_true, bd_assoc] at h6 ⊢
        refine tD.st (st14.trans st5) sr5 se5 h6 fun r g6 v st6 st16 sr6 se6 hv h7 => ?_
        have hv5 := hv
        have hv := hv.from (st14.trans st5)
        obtain ⟨p, g7, e7, st7, sr7, r7, k7, a7, f7, h8⟩ := force_ok st16 sr6 hv.rf h7
        have A6 := A5.step sr5 st6
        have A7 : Acc K g7 D acc us := ⟨by rw [e7]; exact A6.at_, RpL.keep k7 _ _ A6.is, fun z => ?_, by rw [a7]; exact A6.nA⟩
        · obtain ⟨k8, st8, sr8, A8⟩ := A7.push (g' := g7) st7 hD sr7 r7
          refine ⟨us, by rw [← e7]; exact A7.at_, by rw [← A7.is.len]; omega, _, by omega, rfl, hlt, g7.put D (.lst (us ++ [v])), acc ++ [p], us ++ [v], by rw [← e7], st8, sr8, ?_, A8, by rw [List.length_append]; simp; omega, ?_⟩
          · have se7 := se2.step sr2 (st25.trans st6)
            refine ⟨se7.1, fun j sv ej => ?_⟩
            obtain ⟨w, e8, r8⟩ := se7.2 j sv ej
            refine ⟨w, e8, ?_⟩
            cases sv with
            | val q => exact Rp.keep k8 _ _ (Rp.keep k7 _ _ r8)
            | ref n => obtain ⟨b, e9, r9⟩ := r8; exact ⟨b, e9, by show g7.A[n]? = _; rw [a7]; exact r9⟩
          · have h9 := WG.run rfl h8
            simp only [bd_assoc, List.append_assoc] at h9 ⊢
            exact h9
        · rcases f7 D z with z | ⟨z, z2⟩
          · exact A6.nf z
          · cases r with
            | val q => exact z2 q rfl
            | own q =>
              obtain ⟨a, e9, _, _, _, z3⟩ := hv5
              rw [z] at e9; cases e9
              rw [A5.at_] at z3; cases z3
            | ref n =>
              obtain ⟨a, e9, z3⟩ := hv
              rw [z] at e9; cases e9
              exact A6.nA (List.mem_of_getElem? z3)
    cases c with
    | none =>
      have h6 := WG.run rfl h5
      exact key true g4 (Stp.refl g4) sr4 se4 (by simp only [bd_assoc] at h6 ⊢; exact h6)
    | some d =>
      rw [tCo_some]
      refine tT.st st14 sr4 se4 h5 fun k g5 st5 st15 sr5 se5 h6 => ?_
      exact key k g5 st5 sr5 se5 (by simp only [bd_assoc] at h6 ⊢; exact h6)
  · have e1 : i = xs.length := by omega
    subst e1
    rw [List.drop_length] at h3
    simp only [cl, bd_assoc] at h3
    obtain ⟨hc, h4⟩ := chk_run h3
    have h5 := WG.run (S' := g2.S) (a := []) rfl h4
    rw [List.append_nil] at h5
    have h6 : R acc g2 := h5.ret rfl st2 sr2
    have h7 := h6.ret rfl (st1.trans st2) sr2
    exact .inl ⟨(hJ _ g2 st2 sr2 hc).2 rfl, h7 (.ref D) ⟨D, rfl, ⟨us, A2.at_, A2.is⟩, A2.nf, A2.nA, st1.absent hD⟩⟩
end
end Pf
end
section
set_option Elab.async false
set_option linter.all false
set_option maxHeartbeats 1000000
set_option autoImplicit false
namespace Pf
open PySem PySem.Spec L2 PyProof.Rows
/-! list comprehensions as rules -/
section
variable {X : Cx} {W : WS}
theorem pe_dcomp {elt tg iter : Expr} {ifs : List Expr} {scope : Scope} {own : List (Str × Nat)} {pos : Pos} {it : ItD} {t : TgD} {c : Option Den} {e : Den} {is : List Nat} (hc : X.calm = true) (hN : X.N.Nodup) (hi : PI X tg iter (tI X.K W it)) (ok : blkC X.N X.env.scope scope own = true)
    (hg : ∀ (s : Shared) (H : Hp) (C : Addr) (cl : List (Str × Addr)) (fp : List Addr), PG (X.blk s H scope (compEnvC scope cl C X.env) fp) tg (tG X.K W0 is t)) (ht : ∀ (s : Shared) (H : Hp) (C : Addr) (cl : List (Str × Addr)) (fp : List Addr), PTs (X.blk s H scope (compEnvC scope cl C X.env) fp) ifs (tCo X.K c))
    (he : ∀ (s : Shared) (H : Hp) (C : Addr) (cl : List (Str × Addr)) (fp : List Addr), PE (X.blk s H scope (compEnvC scope cl C X.env) fp) elt (tD X.K W0 e)) (hs : ∀ x, foldedSetIterable iter X.env x = pure x) (hv : is.all (fun i => (own.map (·.2)).contains i) = true) :
    PE X (.ListComp elt [⟨tg, iter, ifs, 0⟩] scope pos) (tD X.K W (dComp it t c e (own.map (·.2)))) :=
  peW (pe_lc hc hN hi (blkOk_by ok) hg ht he hs) fun σ H Q h => tLc_of (fun i hi => by simpa using List.all_eq_true.mp hv i hi) h
theorem ps_dsetLc {i : Nat} {y : Str} {py : Pos} {mu : Bool} {elt tg iter : Expr} {ifs : List Expr} {scope : Scope} {own : List (Str × Nat)} {pos spos : Pos} {it : ItD} {t : TgD} {c : Option Den} {e : Den} {is : List Nat} (hc : X.calm = true) (hN : X.N.Nodup) (hy : X.N[i]? = some y) (hyl : X.env.scope.names.lookup y = some .local)
    (hsw : swapsWith (.ListComp elt [⟨tg, iter, ifs, 0⟩] scope pos) (some (.Name y py)) spos.line X.env = pure true) (hi : PI X tg iter (tI X.K W it)) (ok : blkC X.N X.env.scope scope own = true)
    (hg : ∀ (s : Shared) (H : Hp) (C : Addr) (cl : List (Str × Addr)) (fp : List Addr), PG (X.blk s H scope (compEnvC scope cl C X.env) fp) tg (tG X.K W0 is t)) (ht : ∀ (s : Shared) (H : Hp) (C : Addr) (cl : List (Str × Addr)) (fp : List Addr), PTs (X.blk s H scope (compEnvC scope cl C X.env) fp) ifs (tCo X.K c))
    (he : ∀ (s : Shared) (H : Hp) (C : Addr) (cl : List (Str × Addr)) (fp : List Addr), PE (X.blk s H scope (compEnvC scope cl C X.env) fp) elt (tD X.K W0 e)) (hs : ∀ x, foldedSetIterable iter X.env x = pure x) (hv : is.all (fun i => (own.map (·.2)).contains i) = true) :
    PS X (.Assign [.Name y py] (.ListComp elt [⟨tg, iter, ifs, 0⟩] scope pos) spos) (tS X.K W (dsAsg (tgName i mu) (dComp it t c e (own.map (·.2))))) :=
  psW (ps_setLc hc hN hy hyl hsw hi (blkOk_by ok) hg ht he hs) fun D σ H ⟨ρ, g, eH, sr, se, h⟩ => by
    subst eH
    have hw : tD X.K W (dComp it t c e (own.map (·.2))) σ g.H fun v H1 => gName i v σ H1 D.nx := by
      refine tD.st (Stp.refl g) sr se h fun r g1 v st _ sr1 se1 hv h1 => ?_
      unfold tgName at h1
      rw [bd_assoc] at h1
      obtain ⟨sv, g2, e2, st2, sr2, r2, k2, _, h2⟩ := bindV_ok st sr1 hv h1
      have se2 : SRe X.K g2 ρ σ := ⟨se1.1, fun i sv e => let ⟨v, h1, h2⟩ := se1.2 i sv e; ⟨v, h1, k2 _ _ h2⟩⟩
      have h3 := WG.run (S' := g2.S) (a := ρ.set i (some sv)) rfl h2
      have h4 : D.nx _ g2.H := h3.ret rfl st2 sr2 _ (se2.set (i := i) r2)
      rw [e2] at h4
      exact h4
    exact tLc_of (fun i hi => by simpa using List.all_eq_true.mp hv i hi) hw
end
/-! what is walked -/
inductive Kd where
  | lst
  | tup
def SqX (k : Kd) (K : Frag) (H : Hp) (a : Addr) (xs : List V) : Prop := match k with
  | .lst => SqL K H a xs
  | .tup => SqT K H a xs
def IsX (k : Kd) (h : Heap) (a : Addr) (its : Array Value) : Prop := match k with
  | .lst => h.IsList a its
  | .tup => h.IsTuple a its
def ItrX (k : Kd) (h : Heap) (it a : Addr) (i : Nat) : Prop := match k with
  | .lst => h.IsListIter it a i
  | .tup => h.IsTupleIter it a i
def objX (k : Kd) (a : Addr) : Obj := match k with
  | .lst => { cls := .type "list_iterator", data := .fields #[.ref a, .int 0 0] }
  | .tup => { cls := .type "tuple_iterator", data := .fields #[.ref a, .int 0 0] }
theorem begX (k : Kd) (a : Addr) (its : Array Value) : Begins (.ref a) (objX k a) fun h => IsX k h a its := by
  cases k with
  | lst => exact begins_list a its
  | tup => exact begins_tuple a its
theorem drawX (k : Kd) {prog : Program} {w : World} {A : Around} (hh : A.handled = none) (it l : Addr) (hne : l ≠ it) (items : Array Value) :
    Draws prog w A it [it, l] items.size (fun i v => items[i]? = some v) (fun i h => ItrX k h it l i ∧ IsX k h l items) := by
  cases k with
  | lst => exact Draws.list hh it l hne items
  | tup => exact Draws.tuple hh it l hne items
theorem ItrX.obj {k : Kd} {h : Heap} {it a : Addr} {i : Nat} (st : ItrX k h it a i) : ∃ o, h.get? it = some o ∧ ∀ v, o.data ≠ .cell v := by
  cases k with
  | lst => obtain ⟨o, e, c, d⟩ := st; exact ⟨o, e, fun v z => by rw [d] at z; cases z⟩
  | tup => obtain ⟨o, e, c, d⟩ := st; exact ⟨o, e, fun v z => by rw [d] at z; cases z⟩
theorem ItrX.at {k : Kd} {h h' : Heap} {it a : Addr} {i : Nat} (st : ItrX k h it a i) (e : ∀ o, h.get? it = some o → h'.get? it = some o) : ItrX k h' it a i := by
  cases k with
  | lst => exact Heap.IsListIter.at st e
  | tup => exact Heap.IsTupleIter.at st e
theorem ItrX.new {k : Kd} {h : Heap} {it a : Addr} (e : h.get? it = some (objX k a)) : ItrX k h it a 0 := by
  cases k with
  | lst => exact ⟨_, e, rfl, rfl⟩
  | tup => exact ⟨_, e, rfl, rfl⟩
section
variable {X : Cx} {pins : List (Addr × Obj)} {σ : L2.St} {H : Hp} {s : Shared}
theorem SqX.get {k : Kd} {a : Addr} {xs : List V} (I : Inv X pins σ H s) (h : SqX k X.K H a xs) : ∃ its : List Value, Vals xs its ∧ IsX k s.heap a its.toArray ∧ a < s.heap.objs.size := by
  cases k with
  | lst => obtain ⟨its, rv, p, hz⟩ := I.list h; exact ⟨its, rv, p.isList, p.lt⟩
  | tup =>
    obtain ⟨its, rv, p, hz⟩ := I.tuple h
    obtain ⟨o1, ho1, _⟩ := id p
    exact ⟨its, rv, (show s.heap.IsTuple a its.toArray from p), Heap.lt_size ho1⟩
theorem SqX.inj {k : Kd} {a : Addr} {xs ys : List V} (I : Inv X pins σ H s) (h : SqX k X.K H a xs) (h' : SqX k X.K H a ys) : xs = ys := by
  cases k with
  | lst => exact I.list_inj h h'
  | tup => exact I.tuple_inj h h'
end
/-! enumerate -/
def ItE (k : Kd) (K : Frag) (a : Addr) : It :=
  ⟨fun i H => ∃ (xs : List V) (x : V), SqX k K H a xs ∧ xs[i]? = some x, fun i H v H' => ∃ T x, v = .ref T ∧ H T = none ∧ H' = upd H T (.tup [.int (i : Nat), x]) ∧ ∀ xs, SqX k K H a xs → xs[i]? = some x, fun i H => ∃ xs : List V, SqX k K H a xs ∧ xs.length = i⟩
theorem turn_enumX {P : Program} {w : World} {K : Frag} {elts : List Expr} {kk : Nat} {tpos : Pos} (k : Kd) (a e it : Addr) (hne : e ≠ it) (hai : a ≠ it) (hae : a ≠ e) :
    Turn P w K (.Tuple elts kk tpos) (ItE k K a) [e, it] e (fun i h => (∃ old, IsEnum h e it ((i : Nat) : Int) old) ∧ ItrX k h it a i) where
  mem := by simp
  obj := fun i h st b hb => by
    obtain ⟨⟨old, he⟩, hi⟩ := st
    have e' : b = e ∨ b = it := by simpa using hb
    rcases e' with z | z
    · rw [z]; exact ⟨_, he, fun v q => nomatch q⟩
    · rw [z]; exact hi.obj
  keep := fun i h h' st k => let ⟨⟨old, he⟩, hi⟩ := st; ⟨⟨old, k e (by simp) _ he⟩, hi.at fun o q => k it (by simp) o q⟩
  item := by
    intro X hP hw hK hc i pins s σ H E I hf st hg
    subst hP hw hK
    obtain ⟨⟨old, he⟩, hit⟩ := st
    obtain ⟨xs, x, hq, hx⟩ := hg
    obtain ⟨its, rv, p, hz⟩ := SqX.get I hq
    have hel : e < s.heap.objs.size := Heap.lt_size he
    have hil : it < s.heap.objs.size := by obtain ⟨_, q, _⟩ := hit.obj; exact Heap.lt_size q
    have hh : X.A.in1.handled = none := I.ok.hd hc
    have hlt : i < its.toArray.size := by
      have := (List.getElem?_eq_some_iff.mp hx).1
      have := rv.length
      simp only [List.size_toArray]; omega
    refine wpAny_pyNext_enum_itemD (drawX k hh it a hai its.toArray) he ⟨hit, p⟩ hlt hne (by simp [hne, Ne.symm hae]) fun u h' tk hu ho hit' hT hsz hk => ?_
    obtain ⟨u', hu', ru⟩ := rv.get hx
    have eu : u' = u := by
      have : its.toArray[i]? = some u' := by simpa using hu'
      rw [hu] at this; cases this; rfl
    subst eu
    refine ⟨_, rfl, wpAny_letOwnedTupleGo_enum (s := { s with heap := h', toks := tk + 1 }) ho fun h'' he' sb => ?_⟩
    have hT2 : h''.get? s.heap.objs.size = some { cls := .type "tuple", data := .seq #[.int i tk, u'] } := (sb.2 _ (Nat.ne_of_gt hel)).trans hT
    have new : ObjOk X.prog X.w (upd H s.heap.objs.size (.tup [.int (i : Nat), x])) h'' s.heap.objs.size (.tup [.int (i : Nat), x]) :=
      ⟨by show 2 ≤ sizeLine; decide, [.int i tk, u'], .cons ⟨_, rfl⟩ (.cons ru .nil), ⟨_, hT2, rfl, _, rfl⟩⟩
    have I1 : Inv X pins σ (upd H s.heap.objs.size (.tup [.int (i : Nat), x])) { s with heap := h'', toks := tk + 1 } :=
      I.turnedNew (ch := [e, it]) (fun b ob hb q => (sb.2 b (fun z => hb (by simp [z]))).trans (hk b ob (fun z => hb (by simp [z])) (fun z => hb (by simp [z])) q)) hf (Nat.le_refl _) new
    refine ⟨.ref s.heap.objs.size, _, I1, rfl, ⟨_, x, rfl, I.hok.fresh (Nat.le_refl _), rfl, fun ys hy => by rw [SqX.inj I hy hq]; exact hx⟩, ⟨⟨u', ?_⟩, hit'.1.at fun o q => (sb.2 it (Ne.symm hne)).trans q⟩, fun b hb => ?_⟩
    · have e1 : ((i + 1 : Nat) : Int) = (i : Int) + 1 := by omega
      rw [e1]; exact he'
    · have hb' : b < s.heap.objs.size := by
        have e' : b = e ∨ b = it := by simpa using hb
        rcases e' with z | z
        · rw [z]; exact hel
        · rw [z]; exact hil
      rw [upd_ne (Nat.ne_of_lt hb')]
      exact (hf b hb).1
  done := by
    intro X hP hw hK hc i pins s σ H E I hf st hg
    subst hP hw hK
    obtain ⟨⟨old, he⟩, hit⟩ := st
    obtain ⟨xs, hq, hx⟩ := hg
    obtain ⟨its, rv, p, hz⟩ := SqX.get I hq
    obtain ⟨f0, f1, f2, f3, f4, f5⟩ := hf it (by simp)
    have hh : X.A.in1.handled = none := I.ok.hd hc
    have hn : its.toArray.size = i := by
      have := rv.length
      simp only [List.size_toArray]; omega
    exact wpAny_pyNext_enum_endD (drawX k hh it a hai its.toArray) he (by rw [hn]; exact ⟨hit, p⟩) fun h' eb => ⟨rfl, I.turned (t' := s.toks) (fun b o hb q => eb b o hb q) f0 f1 f3 f4 f5⟩
  self := fun A i s Q E st h => let ⟨⟨_, he⟩, _⟩ := st; wpAny_pyIter_enum he h
set_option maxHeartbeats 4000000 in
theorem meets_enum1 {v : Value} {o : Obj} {H : Heap → Prop} (B : Begins v o H) :
    Meets (Builtin.«enumerate.__new__» ⟨[.type "enumerate", v], []⟩) (fun _ R s => H s.heap ∧
      R (.ok (.ret (.ref (s.heap.push o).objs.size))) { s with heap := (s.heap.push o).push { cls := .type "enumerate", data := .fields #[.none, .bool false, .ref s.heap.objs.size, rawInt 0, .none, .none] } }) :=
  .of_wp fun prog w A R s h => by
    obtain ⟨hp, g, d, tk, os⟩ := s; obtain ⟨h1, h⟩ := h
    have hsub := sub_enumerate
    have q1 : ∀ {A' : Around} {E : Value → Shared → Prop} {Q : Value → Shared → Prop}, Q (.ref hp.objs.size) ⟨hp.push o, g, d, tk, os⟩ → wpAny (model prog w) A' (pyIter v) Q E ⟨hp, g, d, tk, os⟩ :=
      fun q => B.iter prog w _ _ ⟨hp, g, d, tk, os⟩ _ h1 q
    wp_walk using q1
    refine wpAny_stack_any fun st => wpAny_pure ?_
    split
    · rename_i c _ _ _ _ _
      cases (c == Value.type "enumerate")
      · wp_walk using q1
        exact ⟨_, rfl, h⟩
      · wp_walk using q1
        exact ⟨_, rfl, h⟩
    · wp_walk using q1
      exact ⟨_, rfl, h⟩
theorem enum1_begins {prog : Program} {w : World} {A : Around} {E : Value → Shared → Prop} {s : Shared} {v : Value} {o : Obj} {H : Heap → Prop} {Q : Value → Shared → Prop} (B : Begins v o H) (h1 : H s.heap)
    (h : ∀ h', IsEnum h' (s.heap.objs.size + 1) s.heap.objs.size 0 .none → h'.get? s.heap.objs.size = some o → h'.objs.size = s.heap.objs.size + 2 →
      (∀ b o, s.heap.get? b = some o → h'.get? b = some o) → Q (.ref (s.heap.objs.size + 1)) { s with heap := h' }) :
    wpAny (model prog w) A (call (.type "enumerate") [v]) Q E s := by
  refine callType_new F.called_enumerate (by decide) (F.typeCall_enumerate_1 _) (F.newCall_enumerate_1 _) (fun obj => F.args_object_init_2 obj _) F.entry_enumerate_new
    (meets_enum1 B) ⟨h1, ?_⟩
  have hz : (s.heap.push o).objs.size = s.heap.objs.size + 1 := Heap.size_push ..
  show _ ∧ _
  rw [hz]
  have he : IsEnum ((s.heap.push o).push { cls := .type "enumerate", data := .fields #[.none, .bool false, .ref s.heap.objs.size, rawInt 0, .none, .none] }) (s.heap.objs.size + 1) s.heap.objs.size 0 .none := by
    have := Heap.get?_push_size (s.heap.push o) (o := { cls := .type "enumerate", data := .fields #[.none, .bool false, .ref s.heap.objs.size, rawInt 0, .none, .none] }) rfl
    rw [hz] at this; exact this
  exact ⟨⟨_, he, rfl⟩, h _ he (Heap.get?_push_of_some _ (Heap.get?_push_size _ B.free)) (by rw [Heap.size_push, hz]) fun b o x => Heap.get?_push_of_some _ (Heap.get?_push_of_some _ x)⟩
def iEnumX (K : Frag) (ta : TA) : TI := fun σ H R => ta σ H fun vs H1 => ∃ k a xs, vs = [.ref a] ∧ SqX k K H1 a xs ∧ R (ItE k K a) H1
theorem pi_enumX {X : Cx} {e : Expr} {ta : TA} {p pos tpos : Pos} {elts : List Expr} {kk : Nat} (hg : Gl X "enumerate") (hm : X.mg "enumerate" = none) (ha : PA X [e] ta) (hs : starEach [e] X.env = [(false, eval e X.env)] := by rfl) :
    PI X (.Tuple elts kk tpos) (.Call (.Name "enumerate" p) [e] [] pos) (iEnumX X.K ta) := by
  refine ⟨fun pins s σ H R I h => ?_⟩
  refine Call_ (ld_blt I hg hm boot_enumerate (PyProof.Rows.callWith_type1 (thn (ha.run pos pins s σ H _ I h) fun us s1 ⟨vs, H1, I1, r1, q1⟩ => ?_) hs rfl))
  obtain ⟨k, a, xs, ex, hq, q⟩ := q1
  subst ex
  cases r1 with
  | cons r rr =>
    cases rr
    cases r
    obtain ⟨its, rv, p', hz⟩ := SqX.get I1 hq
    refine enum1_begins (begX k a its.toArray) p' fun h' he hit hsz hk => wpAny_pyIter_enum he ?_
    have I2 : Inv X pins σ H1 { s1 with heap := h' } := I1.kept (t' := s1.toks) hk
    refine ⟨s1.heap.objs.size + 1, [s1.heap.objs.size + 1, s1.heap.objs.size], _, _, H1, rfl, I2, turn_enumX k a (s1.heap.objs.size + 1) s1.heap.objs.size (Nat.succ_ne_self _) (Nat.ne_of_lt hz) (Nat.ne_of_lt (Nat.lt_succ_of_lt hz)), ⟨⟨.none, he⟩, ItrX.new hit⟩, fun b hb => ?_, q⟩
    have e' : b = s1.heap.objs.size + 1 ∨ b = s1.heap.objs.size := by simpa using hb
    have hle : s1.heap.objs.size ≤ b := by
      rcases e' with z | z
      · rw [z]; exact Nat.le_add_right _ _
      · rw [z]; exact Nat.le_refl _
    exact I1.fpOk hle (I1.hok.fresh hle)
end Pf
end
section
set_option Elab.async false
set_option linter.all false
set_option maxHeartbeats 4000000
set_option autoImplicit false
namespace Pf
open PySem PySem.Spec L2 PyProof.Rows
/-! zip of 2 -/
def ItZ2 (k1 : Kd) (k2 : Kd) (K : Frag) (a1 a2 : Addr) : It :=
  ⟨fun i H => ∃ (xs1 xs2 : List V) (x1 x2 : V), SqX k1 K H a1 xs1 ∧ SqX k2 K H a2 xs2 ∧ xs1[i]? = some x1 ∧ xs2[i]? = some x2,
    fun i H v H' => ∃ T x1 x2, v = .ref T ∧ H T = none ∧ H' = upd H T (.tup [x1, x2]) ∧ (∀ xs, SqX k1 K H a1 xs → xs[i]? = some x1) ∧ (∀ xs, SqX k2 K H a2 xs → xs[i]? = some x2),
    fun i H => ∃ (xs1 xs2 : List V), SqX k1 K H a1 xs1 ∧ SqX k2 K H a2 xs2 ∧ i ≤ xs1.length ∧ i ≤ xs2.length ∧ (i = xs1.length ∨ i = xs2.length)⟩
structure ZAp2 (z TI TO i1 i2 a1 a2 : Nat) : Prop where
  TIz : TI ≠ z
  TOz : TO ≠ z
  TITO : TI ≠ TO
  TIi1 : TI ≠ i1
  zi1 : z ≠ i1
  Ti1 : TO ≠ i1
  za1 : z ≠ a1
  Ta1 : TO ≠ a1
  ia1 : a1 ≠ i1
  ii12 : i1 ≠ i2
  ai12 : i1 ≠ a2
  TIi2 : TI ≠ i2
  zi2 : z ≠ i2
  Ti2 : TO ≠ i2
  za2 : z ≠ a2
  Ta2 : TO ≠ a2
  ia2 : a2 ≠ i2
  ii21 : i2 ≠ i1
  ai21 : i2 ≠ a1
theorem ZAp2.sep {z TI TO i1 i2 a1 a2 : Addr} (D : ZAp2 z TI TO i1 i2 a1 a2) : ZipSep2 z TI TO i1 i2 [i1, a1] [i2, a2] where
  TIz := D.TIz
  TOz := D.TOz
  TITO := D.TITO
  TIi1 := D.TIi1
  mem1 := by simp
  zf1 := by simp [D.zi1, D.za1]
  Tf1 := by simp [D.Ti1, D.Ta1]
  TIi2 := D.TIi2
  mem2 := by simp
  zf2 := by simp [D.zi2, D.za2]
  Tf2 := by simp [D.Ti2, D.Ta2]
  sep1_2 := by simp [D.ii12, D.ai12]
  sep2_1 := by simp [D.ii21, D.ai21]
theorem zap2 (n a1 a2 : Nat) (z1 : a1 < n) (z2 : a2 < n) : ZAp2 (n + 4) (n + 2) (n + 3) n (n + 1) a1 a2 := by constructor <;> omega
theorem turn_zipX2 {P : Program} {w : World} {K : Frag} {elts : List Expr} {kk : Nat} {tpos : Pos} {k1 k2 : Kd} {a1 a2 z TI TO i1 i2 : Addr} (D : ZAp2 z TI TO i1 i2 a1 a2) :
    Turn P w K (.Tuple elts kk tpos) (ItZ2 k1 k2 K a1 a2) [z, TI, TO, i1, i2] z (fun i h => IsZip h z TI TO .none ∧ IsTupOf2 h TI (.ref i1) (.ref i2) ∧ (∃ b1 b2, IsTupOf2 h TO b1 b2) ∧ ItrX k1 h i1 a1 i ∧ ItrX k2 h i2 a2 i) where
  mem := by simp
  obj := fun i h st c hc => by
    obtain ⟨hz, hTI, ⟨b1, b2, hTO⟩, h1, h2⟩ := st
    have e' : c = z ∨ c = TI ∨ c = TO ∨ c = i1 ∨ c = i2 := by simpa using hc
    rcases e' with q | q | q | q | q
    · rw [q]; exact ⟨_, hz, fun v q => nomatch q⟩
    · rw [q]; exact ⟨_, hTI, fun v q => nomatch q⟩
    · rw [q]; exact ⟨_, hTO, fun v q => nomatch q⟩
    · rw [q]; exact h1.obj
    · rw [q]; exact h2.obj
  keep := fun i h h' st k => by
    obtain ⟨hz, hTI, ⟨b1, b2, hTO⟩, h1, h2⟩ := st
    exact ⟨k z (by simp) _ hz, k TI (by simp) _ hTI, ⟨b1, b2, k TO (by simp) _ hTO⟩, h1.at fun o q => k i1 (by simp) o q, h2.at fun o q => k i2 (by simp) o q⟩
  item := by
    intro X hP hw hK hc i pins s σ H E I hf st hg
    subst hP hw hK
    obtain ⟨hz, hTI, ⟨b1, b2, hTO⟩, h1, h2⟩ := st
    have hh : X.A.in1.handled = none := I.ok.hd hc
    obtain ⟨xs1, xs2, x1, x2, hq1, hq2, hx1, hx2⟩ := hg
    obtain ⟨its1, rv1, p1, _⟩ := SqX.get I hq1
    obtain ⟨u1, hu1, ru1⟩ := rv1.get hx1
    have lt1 : i < its1.toArray.size := by
      have := (List.getElem?_eq_some_iff.mp hu1).1
      simpa using this
    obtain ⟨its2, rv2, p2, _⟩ := SqX.get I hq2
    obtain ⟨u2, hu2, ru2⟩ := rv2.get hx2
    have lt2 : i < its2.toArray.size := by
      have := (List.getElem?_eq_some_iff.mp hu2).1
      simpa using this
    have hzl : z < s.heap.objs.size := Heap.lt_size hz
    refine wpAny_pyNext_zipD2_item D.sep (drawX k1 hh i1 a1 D.ia1 its1.toArray) (drawX k2 hh i2 a2 D.ia2 its2.toArray) hz hTI hTO ⟨h1, p1⟩ ⟨h2, p2⟩ lt1 lt2 fun w1 w2 h' tk pw1 pw2 z' TO' sw1 sw2 hT hsz hk => ?_
    have ew1 : u1 = w1 := by
      have q : its1.toArray[i]? = some u1 := by simpa using hu1
      rw [pw1] at q; cases q; rfl
    subst ew1
    have ew2 : u2 = w2 := by
      have q : its2.toArray[i]? = some u2 := by simpa using hu2
      rw [pw2] at q; cases q; rfl
    subst ew2
    refine ⟨_, rfl, wpAny_letOwnedTupleGo_zip (s := { s with heap := h', toks := tk }) z' fun h'' z'' sb => ?_⟩
    have hT2 : h''.get? s.heap.objs.size = some { cls := .type "tuple", data := .seq #[u1, u2] } := (sb.2 _ (Nat.ne_of_gt hzl)).trans hT
    have new : ObjOk X.prog X.w (upd H s.heap.objs.size (.tup [x1, x2])) h'' s.heap.objs.size (.tup [x1, x2]) :=
      ⟨by show 2 ≤ sizeLine; decide, [u1, u2], .cons ru1 (.cons ru2 .nil), ⟨_, hT2, rfl, _, rfl⟩⟩
    have I1 : Inv X pins σ (upd H s.heap.objs.size (.tup [x1, x2])) { s with heap := h'', toks := tk } :=
      I.turnedNew (t' := tk) (ch := [z, TI, TO, i1, i2]) (fun c o hb q => (sb.2 c (fun q' => hb (by simp [q']))).trans (hk c o (fun q' => hb (by simp [q'])) (fun q' => hb (by simp [q'])) (fun q' => hb (by simp [q'])) (fun q' => hb (by simp [q'])) q)) hf (Nat.le_refl _) new
    refine ⟨.ref s.heap.objs.size, _, I1, rfl, ⟨_, x1, x2, rfl, I.hok.fresh (Nat.le_refl _), rfl, fun l hl => by rw [SqX.inj I hl hq1]; exact hx1, fun l hl => by rw [SqX.inj I hl hq2]; exact hx2⟩, ⟨z'', ?_, ⟨u1, u2, ?_⟩, ?_, ?_⟩, fun c hcm => ?_⟩
    · exact (sb.2 _ D.TIz).trans (hk _ _ D.TIz D.TITO D.TIi1 D.TIi2 hTI)
    · exact (sb.2 _ D.TOz).trans TO'
    · exact sw1.1.at fun o q => (sb.2 _ (Ne.symm D.zi1)).trans q
    · exact sw2.1.at fun o q => (sb.2 _ (Ne.symm D.zi2)).trans q
    · have hlt : c < s.heap.objs.size := by
        have e' : c = z ∨ c = TI ∨ c = TO ∨ c = i1 ∨ c = i2 := by simpa using hcm
        rcases e' with q | q | q | q | q
        · rw [q]; exact hzl
        · rw [q]; exact Heap.lt_size hTI
        · rw [q]; exact Heap.lt_size hTO
        · rw [q]; obtain ⟨_, e1, _⟩ := h1.obj; exact Heap.lt_size e1
        · rw [q]; obtain ⟨_, e1, _⟩ := h2.obj; exact Heap.lt_size e1
      rw [upd_ne (Nat.ne_of_lt hlt)]
      exact (hf c hcm).1
  done := by
    intro X hP hw hK hc i pins s σ H E I hf st hg
    subst hP hw hK
    obtain ⟨hz, hTI, ⟨b1, b2, hTO⟩, h1, h2⟩ := st
    have hh : X.A.in1.handled = none := I.ok.hd hc
    obtain ⟨xs1, xs2, hq1, hq2, hl1, hl2, hend⟩ := hg
    obtain ⟨its1, rv1, p1, _⟩ := SqX.get I hq1
    have l1 := rv1.length
    obtain ⟨its2, rv2, p2, _⟩ := SqX.get I hq2
    have l2 := rv2.length
    exact wpAny_pyNext_zipD2_end D.sep (drawX k1 hh i1 a1 D.ia1 its1.toArray) (drawX k2 hh i2 a2 D.ia2 its2.toArray) hz hTI hTO ⟨h1, p1⟩ ⟨h2, p2⟩ (by simp only [List.size_toArray]; omega) (by simp only [List.size_toArray]; omega) (by simp only [List.size_toArray]; omega) fun h' tk hk => ⟨rfl, I.turnedL (t' := tk) (ch := [z, TI, TO, i1, i2]) (fun c o hb q =>
      hk c o (fun q' => hb (by simp [q'])) (fun q' => hb (by simp [q'])) (fun q' => hb (by simp [q'])) (fun q' => hb (by simp [q'])) q) hf⟩
  self := fun A i s Q E st h => wpAny_pyIter_zip st.1 h
def iZipX2 (K : Frag) (ta : TA) : TI := fun σ H R => ta σ H fun vs H1 => ∃ k1 k2 a1 a2 xs1 xs2, vs = [.ref a1, .ref a2] ∧ SqX k1 K H1 a1 xs1 ∧ SqX k2 K H1 a2 xs2 ∧ R (ItZ2 k1 k2 K a1 a2) H1
theorem pi_zipX2 {X : Cx} {e1 e2 : Expr} {ta : TA} {p pos tpos : Pos} {elts : List Expr} {kk : Nat} (hg : Gl X "zip") (hm : X.mg "zip" = none) (ha : PA X [e1, e2] ta)
    (hs : starEach [e1, e2] X.env = (false, eval e1 X.env) :: starEach [e2] X.env := by rfl) (hpl : (backTo pos (starEach [e2] X.env)).any (·.1) = false := by rfl) :
    PI X (.Tuple elts kk tpos) (.Call (.Name "zip" p) [e1, e2] [] pos) (iZipX2 X.K ta) := by
  refine ⟨fun pins s σ H R I h => ?_⟩
  refine Call_ (ld_blt I hg hm PyProof.Rows.boot_zip (PyProof.Rows.callWith_type1 (thn (ha.run pos pins s σ H _ I h) fun us s1 ⟨vs, H1, I1, r1, q1⟩ => ?_) hs hpl))
  obtain ⟨k1, k2, a1, a2, xs1, xs2, ex, hq1, hq2, q⟩ := q1
  subst ex
  cases r1 with
  | cons r1 rr1 =>
    cases rr1 with
    | cons r2 rr2 =>
      cases rr2
      cases r1
      cases r2
      obtain ⟨its1, rv1, p1, z1⟩ := SqX.get I1 hq1
      obtain ⟨its2, rv2, p2, z2⟩ := SqX.get I1 hq2
      have fresh : ∀ c, c ∈ [s1.heap.objs.size + 4, s1.heap.objs.size + 2, s1.heap.objs.size + 3, s1.heap.objs.size, s1.heap.objs.size + 1] → FpOk X pins H1 c := fun c hcm => by
        have e' : c = s1.heap.objs.size + 4 ∨ c = s1.heap.objs.size + 2 ∨ c = s1.heap.objs.size + 3 ∨ c = s1.heap.objs.size ∨ c = s1.heap.objs.size + 1 := by simpa using hcm
        have hle : s1.heap.objs.size ≤ c := by
          rcases e' with z | z | z | z | z
          · rw [z]; exact Nat.le_add_right _ _
          · rw [z]; exact Nat.le_add_right _ _
          · rw [z]; exact Nat.le_add_right _ _
          · rw [z]; exact Nat.le_refl _
          · rw [z]; exact Nat.le_add_right _ _
        exact I1.fpOk hle (I1.hok.fresh hle)
      refine zip_begins2 (begX k1 a1 its1.toArray) (begX k2 a2 its2.toArray) p1 p2 fun h' hz hTI hTO g1 g2 hsz hk => wpAny_pyIter_zip hz ?_
      have I2 : Inv X pins σ H1 { s1 with heap := h' } := I1.kept (t' := s1.toks) hk
      have D : ZAp2 (s1.heap.objs.size + 4) (s1.heap.objs.size + 2) (s1.heap.objs.size + 3) (s1.heap.objs.size) (s1.heap.objs.size + 1) a1 a2 := zap2 _ _  _ z1 z2
      exact ⟨s1.heap.objs.size + 4, [s1.heap.objs.size + 4, s1.heap.objs.size + 2, s1.heap.objs.size + 3, s1.heap.objs.size, s1.heap.objs.size + 1], _, _, H1, rfl, I2, turn_zipX2 D, ⟨hz, hTI, ⟨_, _, hTO⟩, ItrX.new g1, ItrX.new g2⟩, fresh, q⟩
/-! zip of 3 -/
def ItZ3 (k1 : Kd) (k2 : Kd) (k3 : Kd) (K : Frag) (a1 a2 a3 : Addr) : It :=
  ⟨fun i H => ∃ (xs1 xs2 xs3 : List V) (x1 x2 x3 : V), SqX k1 K H a1 xs1 ∧ SqX k2 K H a2 xs2 ∧ SqX k3 K H a3 xs3 ∧ xs1[i]? = some x1 ∧ xs2[i]? = some x2 ∧ xs3[i]? = some x3,
    fun i H v H' => ∃ T x1 x2 x3, v = .ref T ∧ H T = none ∧ H' = upd H T (.tup [x1, x2, x3]) ∧ (∀ xs, SqX k1 K H a1 xs → xs[i]? = some x1) ∧ (∀ xs, SqX k2 K H a2 xs → xs[i]? = some x2) ∧ (∀ xs, SqX k3 K H a3 xs → xs[i]? = some x3),
    fun i H => ∃ (xs1 xs2 xs3 : List V), SqX k1 K H a1 xs1 ∧ SqX k2 K H a2 xs2 ∧ SqX k3 K H a3 xs3 ∧ i ≤ xs1.length ∧ i ≤ xs2.length ∧ i ≤ xs3.length ∧ (i = xs1.length ∨ i = xs2.length ∨ i = xs3.length)⟩
structure ZAp3 (z TI TO i1 i2 i3 a1 a2 a3 : Nat) : Prop where
  TIz : TI ≠ z
  TOz : TO ≠ z
  TITO : TI ≠ TO
  TIi1 : TI ≠ i1
  zi1 : z ≠ i1
  Ti1 : TO ≠ i1
  za1 : z ≠ a1
  Ta1 : TO ≠ a1
  ia1 : a1 ≠ i1
  ii12 : i1 ≠ i2
  ai12 : i1 ≠ a2
  ii13 : i1 ≠ i3
  ai13 : i1 ≠ a3
  TIi2 : TI ≠ i2
  zi2 : z ≠ i2
  Ti2 : TO ≠ i2
  za2 : z ≠ a2
  Ta2 : TO ≠ a2
  ia2 : a2 ≠ i2
  ii21 : i2 ≠ i1
  ai21 : i2 ≠ a1
  ii23 : i2 ≠ i3
  ai23 : i2 ≠ a3
  TIi3 : TI ≠ i3
  zi3 : z ≠ i3
  Ti3 : TO ≠ i3
  za3 : z ≠ a3
  Ta3 : TO ≠ a3
  ia3 : a3 ≠ i3
  ii31 : i3 ≠ i1
  ai31 : i3 ≠ a1
  ii32 : i3 ≠ i2
  ai32 : i3 ≠ a2
theorem ZAp3.sep {z TI TO i1 i2 i3 a1 a2 a3 : Addr} (D : ZAp3 z TI TO i1 i2 i3 a1 a2 a3) : ZipSep3 z TI TO i1 i2 i3 [i1, a1] [i2, a2] [i3, a3] where
  TIz := D.TIz
  TOz := D.TOz
  TITO := D.TITO
  TIi1 := D.TIi1
  mem1 := by simp
  zf1 := by simp [D.zi1, D.za1]
  Tf1 := by simp [D.Ti1, D.Ta1]
  TIi2 := D.TIi2
  mem2 := by simp
  zf2 := by simp [D.zi2, D.za2]
  Tf2 := by simp [D.Ti2, D.Ta2]
  TIi3 := D.TIi3
  mem3 := by simp
  zf3 := by simp [D.zi3, D.za3]
  Tf3 := by simp [D.Ti3, D.Ta3]
  sep1_2 := by simp [D.ii12, D.ai12]
  sep1_3 := by simp [D.ii13, D.ai13]
  sep2_1 := by simp [D.ii21, D.ai21]
  sep2_3 := by simp [D.ii23, D.ai23]
  sep3_1 := by simp [D.ii31, D.ai31]
  sep3_2 := by simp [D.ii32, D.ai32]
theorem zap3 (n a1 a2 a3 : Nat) (z1 : a1 < n) (z2 : a2 < n) (z3 : a3 < n) : ZAp3 (n + 5) (n + 3) (n + 4) n (n + 1) (n + 2) a1 a2 a3 := by constructor <;> omega
theorem turn_zipX3 {P : Program} {w : World} {K : Frag} {elts : List Expr} {kk : Nat} {tpos : Pos} {k1 k2 k3 : Kd} {a1 a2 a3 z TI TO i1 i2 i3 : Addr} (D : ZAp3 z TI TO i1 i2 i3 a1 a2 a3) :
    Turn P w K (.Tuple elts kk tpos) (ItZ3 k1 k2 k3 K a1 a2 a3) [z, TI, TO, i1, i2, i3] z (fun i h => IsZip h z TI TO .none ∧ IsTupOf3 h TI (.ref i1) (.ref i2) (.ref i3) ∧ (∃ b1 b2 b3, IsTupOf3 h TO b1 b2 b3) ∧ ItrX k1 h i1 a1 i ∧ ItrX k2 h i2 a2 i ∧ ItrX k3 h i3 a3 i) where
  mem := by simp
  obj := fun i h st c hc => by
    obtain ⟨hz, hTI, ⟨b1, b2, b3, hTO⟩, h1, h2, h3⟩ := st
    have e' : c = z ∨ c = TI ∨ c = TO ∨ c = i1 ∨ c = i2 ∨ c = i3 := by simpa using hc
    rcases e' with q | q | q | q | q | q
    · rw [q]; exact ⟨_, hz, fun v q => nomatch q⟩
    · rw [q]; exact ⟨_, hTI, fun v q => nomatch q⟩
    · rw [q]; exact ⟨_, hTO, fun v q => nomatch q⟩
    · rw [q]; exact h1.obj
    · rw [q]; exact h2.obj
    · rw [q]; exact h3.obj
  keep := fun i h h' st k => by
    obtain ⟨hz, hTI, ⟨b1, b2, b3, hTO⟩, h1, h2, h3⟩ := st
    exact ⟨k z (by simp) _ hz, k TI (by simp) _ hTI, ⟨b1, b2, b3, k TO (by simp) _ hTO⟩, h1.at fun o q => k i1 (by simp) o q, h2.at fun o q => k i2 (by simp) o q, h3.at fun o q => k i3 (by simp) o q⟩
  item := by
    intro X hP hw hK hc i pins s σ H E I hf st hg
    subst hP hw hK
    obtain ⟨hz, hTI, ⟨b1, b2, b3, hTO⟩, h1, h2, h3⟩ := st
    have hh : X.A.in1.handled = none := I.ok.hd hc
    obtain ⟨xs1, xs2, xs3, x1, x2, x3, hq1, hq2, hq3, hx1, hx2, hx3⟩ := hg
    obtain ⟨its1, rv1, p1, _⟩ := SqX.get I hq1
    obtain ⟨u1, hu1, ru1⟩ := rv1.get hx1
    have lt1 : i < its1.toArray.size := by
      have := (List.getElem?_eq_some_iff.mp hu1).1
      simpa using this
    obtain ⟨its2, rv2, p2, _⟩ := SqX.get I hq2
    obtain ⟨u2, hu2, ru2⟩ := rv2.get hx2
    have lt2 : i < its2.toArray.size := by
      have := (List.getElem?_eq_some_iff.mp hu2).1
      simpa using this
    obtain ⟨its3, rv3, p3, _⟩ := SqX.get I hq3
    obtain ⟨u3, hu3, ru3⟩ := rv3.get hx3
    have lt3 : i < its3.toArray.size := by
      have := (List.getElem?_eq_some_iff.mp hu3).1
      simpa using this
    have hzl : z < s.heap.objs.size := Heap.lt_size hz
    refine wpAny_pyNext_zipD3_item D.sep (drawX k1 hh i1 a1 D.ia1 its1.toArray) (drawX k2 hh i2 a2 D.ia2 its2.toArray) (drawX k3 hh i3 a3 D.ia3 its3.toArray) hz hTI hTO ⟨h1, p1⟩ ⟨h2, p2⟩ ⟨h3, p3⟩ lt1 lt2 lt3 fun w1 w2 w3 h' tk pw1 pw2 pw3 z' TO' sw1 sw2 sw3 hT hsz hk => ?_
    have ew1 : u1 = w1 := by
      have q : its1.toArray[i]? = some u1 := by simpa using hu1
      rw [pw1] at q; cases q; rfl
    subst ew1
    have ew2 : u2 = w2 := by
      have q : its2.toArray[i]? = some u2 := by simpa using hu2
      rw [pw2] at q; cases q; rfl
    subst ew2
    have ew3 : u3 = w3 := by
      have q : its3.toArray[i]? = some u3 := by simpa using hu3
      rw [pw3] at q; cases q; rfl
    subst ew3
    refine ⟨_, rfl, wpAny_letOwnedTupleGo_zip (s := { s with heap := h', toks := tk }) z' fun h'' z'' sb => ?_⟩
    have hT2 : h''.get? s.heap.objs.size = some { cls := .type "tuple", data := .seq #[u1, u2, u3] } := (sb.2 _ (Nat.ne_of_gt hzl)).trans hT
    have new : ObjOk X.prog X.w (upd H s.heap.objs.size (.tup [x1, x2, x3])) h'' s.heap.objs.size (.tup [x1, x2, x3]) :=
      ⟨by show 3 ≤ sizeLine; decide, [u1, u2, u3], .cons ru1 (.cons ru2 (.cons ru3 .nil)), ⟨_, hT2, rfl, _, rfl⟩⟩
    have I1 : Inv X pins σ (upd H s.heap.objs.size (.tup [x1, x2, x3])) { s with heap := h'', toks := tk } :=
      I.turnedNew (t' := tk) (ch := [z, TI, TO, i1, i2, i3]) (fun c o hb q => (sb.2 c (fun q' => hb (by simp [q']))).trans (hk c o (fun q' => hb (by simp [q'])) (fun q' => hb (by simp [q'])) (fun q' => hb (by simp [q'])) (fun q' => hb (by simp [q'])) (fun q' => hb (by simp [q'])) q)) hf (Nat.le_refl _) new
    refine ⟨.ref s.heap.objs.size, _, I1, rfl, ⟨_, x1, x2, x3, rfl, I.hok.fresh (Nat.le_refl _), rfl, fun l hl => by rw [SqX.inj I hl hq1]; exact hx1, fun l hl => by rw [SqX.inj I hl hq2]; exact hx2, fun l hl => by rw [SqX.inj I hl hq3]; exact hx3⟩, ⟨z'', ?_, ⟨u1, u2, u3, ?_⟩, ?_, ?_, ?_⟩, fun c hcm => ?_⟩
    · exact (sb.2 _ D.TIz).trans (hk _ _ D.TIz D.TITO D.TIi1 D.TIi2 D.TIi3 hTI)
    · exact (sb.2 _ D.TOz).trans TO'
    · exact sw1.1.at fun o q => (sb.2 _ (Ne.symm D.zi1)).trans q
    · exact sw2.1.at fun o q => (sb.2 _ (Ne.symm D.zi2)).trans q
    · exact sw3.1.at fun o q => (sb.2 _ (Ne.symm D.zi3)).trans q
    · have hlt : c < s.heap.objs.size := by
        have e' : c = z ∨ c = TI ∨ c = TO ∨ c = i1 ∨ c = i2 ∨ c = i3 := by simpa using hcm
        rcases e' with q | q | q | q | q | q
        · rw [q]; exact hzl
        · rw [q]; exact Heap.lt_size hTI
        · rw [q]; exact Heap.lt_size hTO
        · rw [q]; obtain ⟨_, e1, _⟩ := h1.obj; exact Heap.lt_size e1
        · rw [q]; obtain ⟨_, e1, _⟩ := h2.obj; exact Heap.lt_size e1
        · rw [q]; obtain ⟨_, e1, _⟩ := h3.obj; exact Heap.lt_size e1
      rw [upd_ne (Nat.ne_of_lt hlt)]
      exact (hf c hcm).1
  done := by
    intro X hP hw hK hc i pins s σ H E I hf st hg
    subst hP hw hK
    obtain ⟨hz, hTI, ⟨b1, b2, b3, hTO⟩, h1, h2, h3⟩ := st
    have hh : X.A.in1.handled = none := I.ok.hd hc
    obtain ⟨xs1, xs2, xs3, hq1, hq2, hq3, hl1, hl2, hl3, hend⟩ := hg
    obtain ⟨its1, rv1, p1, _⟩ := SqX.get I hq1
    have l1 := rv1.length
    obtain ⟨its2, rv2, p2, _⟩ := SqX.get I hq2
    have l2 := rv2.length
    obtain ⟨its3, rv3, p3, _⟩ := SqX.get I hq3
    have l3 := rv3.length
    exact wpAny_pyNext_zipD3_end D.sep (drawX k1 hh i1 a1 D.ia1 its1.toArray) (drawX k2 hh i2 a2 D.ia2 its2.toArray) (drawX k3 hh i3 a3 D.ia3 its3.toArray) hz hTI hTO ⟨h1, p1⟩ ⟨h2, p2⟩ ⟨h3, p3⟩ (by simp only [List.size_toArray]; omega) (by simp only [List.size_toArray]; omega) (by simp only [List.size_toArray]; omega) (by simp only [List.size_toArray]; omega) fun h' tk hk => ⟨rfl, I.turnedL (t' := tk) (ch := [z, TI, TO, i1, i2, i3]) (fun c o hb q =>
      hk c o (fun q' => hb (by simp [q'])) (fun q' => hb (by simp [q'])) (fun q' => hb (by simp [q'])) (fun q' => hb (by simp [q'])) (fun q' => hb (by simp [q'])) q) hf⟩
  self := fun A i s Q E st h => wpAny_pyIter_zip st.1 h
def iZipX3 (K : Frag) (ta : TA) : TI := fun σ H R => ta σ H fun vs H1 => ∃ k1 k2 k3 a1 a2 a3 xs1 xs2 xs3, vs = [.ref a1, .ref a2, .ref a3] ∧ SqX k1 K H1 a1 xs1 ∧ SqX k2 K H1 a2 xs2 ∧ SqX k3 K H1 a3 xs3 ∧ R (ItZ3 k1 k2 k3 K a1 a2 a3) H1
theorem pi_zipX3 {X : Cx} {e1 e2 e3 : Expr} {ta : TA} {p pos tpos : Pos} {elts : List Expr} {kk : Nat} (hg : Gl X "zip") (hm : X.mg "zip" = none) (ha : PA X [e1, e2, e3] ta)
    (hs : starEach [e1, e2, e3] X.env = (false, eval e1 X.env) :: starEach [e2, e3] X.env := by rfl) (hpl : (backTo pos (starEach [e2, e3] X.env)).any (·.1) = false := by rfl) :
    PI X (.Tuple elts kk tpos) (.Call (.Name "zip" p) [e1, e2, e3] [] pos) (iZipX3 X.K ta) := by
  refine ⟨fun pins s σ H R I h => ?_⟩
  refine Call_ (ld_blt I hg hm PyProof.Rows.boot_zip (PyProof.Rows.callWith_type1 (thn (ha.run pos pins s σ H _ I h) fun us s1 ⟨vs, H1, I1, r1, q1⟩ => ?_) hs hpl))
  obtain ⟨k1, k2, k3, a1, a2, a3, xs1, xs2, xs3, ex, hq1, hq2, hq3, q⟩ := q1
  subst ex
  cases r1 with
  | cons r1 rr1 =>
    cases rr1 with
    | cons r2 rr2 =>
      cases rr2 with
      | cons r3 rr3 =>
        cases rr3
        cases r1
        cases r2
        cases r3
        obtain ⟨its1, rv1, p1, z1⟩ := SqX.get I1 hq1
        obtain ⟨its2, rv2, p2, z2⟩ := SqX.get I1 hq2
        obtain ⟨its3, rv3, p3, z3⟩ := SqX.get I1 hq3
        have fresh : ∀ c, c ∈ [s1.heap.objs.size + 5, s1.heap.objs.size + 3, s1.heap.objs.size + 4, s1.heap.objs.size, s1.heap.objs.size + 1, s1.heap.objs.size + 2] → FpOk X pins H1 c := fun c hcm => by
          have e' : c = s1.heap.objs.size + 5 ∨ c = s1.heap.objs.size + 3 ∨ c = s1.heap.objs.size + 4 ∨ c = s1.heap.objs.size ∨ c = s1.heap.objs.size + 1 ∨ c = s1.heap.objs.size + 2 := by simpa using hcm
          have hle : s1.heap.objs.size ≤ c := by
            rcases e' with z | z | z | z | z | z
            · rw [z]; exact Nat.le_add_right _ _
            · rw [z]; exact Nat.le_add_right _ _
            · rw [z]; exact Nat.le_add_right _ _
            · rw [z]; exact Nat.le_refl _
            · rw [z]; exact Nat.le_add_right _ _
            · rw [z]; exact Nat.le_add_right _ _
          exact I1.fpOk hle (I1.hok.fresh hle)
        refine zip_begins3 (begX k1 a1 its1.toArray) (begX k2 a2 its2.toArray) (begX k3 a3 its3.toArray) p1 p2 p3 fun h' hz hTI hTO g1 g2 g3 hsz hk => wpAny_pyIter_zip hz ?_
        have I2 : Inv X pins σ H1 { s1 with heap := h' } := I1.kept (t' := s1.toks) hk
        have D : ZAp3 (s1.heap.objs.size + 5) (s1.heap.objs.size + 3) (s1.heap.objs.size + 4) (s1.heap.objs.size) (s1.heap.objs.size + 1) (s1.heap.objs.size + 2) a1 a2 a3 := zap3 _ _  _ _ z1 z2 z3
        exact ⟨s1.heap.objs.size + 5, [s1.heap.objs.size + 5, s1.heap.objs.size + 3, s1.heap.objs.size + 4, s1.heap.objs.size, s1.heap.objs.size + 1, s1.heap.objs.size + 2], _, _, H1, rfl, I2, turn_zipX3 D, ⟨hz, hTI, ⟨_, _, _, hTO⟩, ItrX.new g1, ItrX.new g2, ItrX.new g3⟩, fresh, q⟩
end Pf
end
section
set_option Elab.async false
set_option linter.all false
set_option maxHeartbeats 1000000
set_option autoImplicit false
namespace Pf
open PySem PySem.Spec L2
/-! what a loop goes through -/
theorem bd_ret {α : Type} (m : M α) : bd m ret = m := by
  funext S
  simp only [bd, ret]
  cases m S <;> rfl
def itemsOf : PV → Option (List PV)
  | .lst xs => some xs
  | .tup xs => some xs
  | .scr ns => some (ns.map .int)
  | _ => none
def cellV : Cell → PV
  | .live p => p
  | .froz p => p
  | .nest _ => .non
def srcOf (sv : SV) : M (List PV × List (Nat × PV)) := fun S => match sv with
  | .val p => (match itemsOf p with
    | some xs => .ok (xs, []) S
    | none => .stuck)
  | .ref n => (match S[n]? with
    | some c => (match itemsOf (cellV c) with
      | some xs => .ok (xs, [(n, cellV c)]) S
      | none => .stuck)
    | none => .stuck)
def SrcOk (K : Frag) (g : G) (a : Addr) (k : Kd) (xs : List PV) (gs : List (Nat × PV)) : Prop := ∀ g2, Stp g g2 → SRc K g2 → chkG gs g2.S = true → ∃ vs, SqX k K g2.H a vs ∧ RpL K g2.H g2.F xs vs
theorem RpL.ints {K : Frag} {H : Hp} {F : Addr → Prop} : ∀ ns : List Int, RpL K H F (ns.map PV.int) (ns.map V.int)
  | [] => rfl
  | n :: ns => ⟨_, _, rfl, rfl, RpL.ints ns⟩
theorem rp_items {K : Frag} {H : Hp} {F : Addr → Prop} {p : PV} {v : V} {xs : List PV} (h : RpW K H F p v) (e : itemsOf p = some xs) : ∃ a k vs, v = .ref a ∧ SqX k K H a vs ∧ RpL K H F xs vs := by
  cases p with
  | lst ys => cases e; obtain ⟨a, vs, rfl, h1, h2⟩ := h; exact ⟨a, .lst, vs, rfl, .inl (.inl h1), h2⟩
  | tup ys => cases e; obtain ⟨a, vs, rfl, h1, h2⟩ := h; exact ⟨a, .tup, vs, rfl, h1, h2⟩
  | scr ns => cases e; obtain ⟨a, rfl, h1⟩ := h; exact ⟨a, .lst, _, rfl, h1.sq, RpL.ints ns⟩
  | _ => cases e
section
variable {K : Frag} {g g0 : G} {W : XW} {β : Type}
def kdOf : PV → Kd
  | .tup _ => .tup
  | _ => .lst
theorem rp_items' {K : Frag} {H : Hp} {F : Addr → Prop} {p : PV} {a : Addr} {xs : List PV} (h : RpW K H F p (.ref a)) (e : itemsOf p = some xs) : ∃ vs, SqX (kdOf p) K H a vs ∧ RpL K H F xs vs := by
  cases p with
  | lst ys => cases e; obtain ⟨b, vs, e, h1, h2⟩ := h; cases e; exact ⟨vs, .inl (.inl h1), h2⟩
  | tup ys => cases e; obtain ⟨b, vs, e, h1, h2⟩ := h; cases e; exact ⟨vs, h1, h2⟩
  | scr ns => cases e; obtain ⟨b, e, h1⟩ := h; cases e; exact ⟨_, h1.sq, RpL.ints ns⟩
  | _ => cases e
theorem src_ok {sv : SV} {v : V} {f : List PV × List (Nat × PV) → M β} {R : β → G → Prop} (sr : SRc K g) (hv : Rs K g sv v) (h : WG K W g0 g.S (bd (srcOf sv) f) R) :
    ∃ a k xs gs, v = .ref a ∧ SrcOk K g a k xs gs ∧ chkG gs g.S = true ∧ WG K W g0 g.S (f (xs, gs)) R := by
  cases sv with
  | val p =>
    cases e : itemsOf p with
    | none => unfold WG Pf.bd srcOf at h; simp only [e] at h
    | some xs =>
      obtain ⟨a, k, vs, rfl, h1, h2⟩ := rp_items hv.w e
      refine ⟨a, kdOf p, xs, [], rfl, fun g2 st2 sr2 _ => ?_, rfl, WG.run (by simp only [srcOf, e]) h⟩
      exact rp_items' (Rp.w (Rp.keep (st2.k sr) _ _ hv)) e
  | ref n =>
    obtain ⟨a, rfl, hA⟩ := hv
    cases eS : g.S[n]? with
    | none => unfold WG Pf.bd srcOf at h; simp only [eS] at h
    | some c =>
      cases e : itemsOf (cellV c) with
      | none => unfold WG Pf.bd srcOf at h; simp only [eS, e] at h
      | some xs =>
        refine ⟨a, kdOf (cellV c), xs, [(n, cellV c)], rfl, fun g2 st2 sr2 hc => ?_, by cases c <;> first | (cases e; done) | simp [chkG, eS, cellV, same_refl], WG.run (by simp only [srcOf, eS, e]) h⟩
        have hA2 := st2.ext n a hA
        simp only [chkG, List.all_cons, List.all_nil, Bool.and_true] at hc
        cases e2 : g2.S[n]? with
        | none => rw [e2] at hc; cases hc
        | some c2 =>
          rw [e2] at hc
          have k := sr2.cell n a c2 hA2 e2
          cases c2 with
          | live p2 => have := same_eq _ _ hc; subst this; exact rp_items' (At.w k.1) e
          | froz p2 => have := same_eq _ _ hc; subst this; exact rp_items' (Rp.w k) e
          | nest es => cases hc
theorem chkG_app {gs hs : List (Nat × PV)} {S : Sto} (h : chkG (gs ++ hs) S = true) : chkG gs S = true ∧ chkG hs S = true := by
  unfold chkG at h ⊢
  rw [List.all_append] at h
  simpa using h
theorem SrcOk.step {a : Addr} {k : Kd} {xs : List PV} {gs : List (Nat × PV)} {g1 : G} (h : SrcOk K g a k xs gs) (st : Stp g g1) : SrcOk K g1 a k xs gs := fun g2 s2 sr2 hc => h g2 (st.trans s2) sr2 hc
end
/-! one after the other -/
def itSeq (d : Den) : ItD := fun ρ => bd (d ρ) fun r => bd (bindV false r) srcOf
def ItlX (k : Kd) (K : Frag) (a : Addr) : It := match k with
  | .lst => Itl K a
  | .tup => Itt K a
def iSeq (K : Frag) (tl : TE) : TI := fun σ H R => tl σ H fun x H1 => ∃ a k, x = .ref a ∧ (∃ xs, SqX k K H1 a xs) ∧ R (ItlX k K a) H1
theorem pi_seq {X : Cx} {tg l : Expr} {tl : TE} (hl : PE X l tl) : PI X tg l (iSeq X.K tl) := by
  refine ⟨fun pins s σ H R I h => ?_⟩
  refine thn (hl.run pins s σ H _ I h) fun v s1 ⟨x, H1, I1, r1, q1⟩ => ?_
  obtain ⟨a, k, e, ⟨xs, hq⟩, q⟩ := q1
  subst e
  cases r1
  cases k with
  | lst =>
    obtain ⟨its, rv, p, hz⟩ := I1.list hq
    refine wpAny_pyIter_list p.isList ?_
    refine ⟨s1.heap.objs.size, [s1.heap.objs.size], _, _, H1, rfl, I1.kept (t' := s1.toks) fun b o e => Heap.get?_push_of_some _ e, turn_list a _, ⟨_, Heap.get?_push_size _ rfl, rfl, rfl⟩, fun b hb => ?_, q⟩
    have e : b = s1.heap.objs.size := by simpa using hb
    subst e
    exact I1.fpOk (Nat.le_refl _) (I1.hok.fresh (Nat.le_refl _))
  | tup =>
    obtain ⟨its, rv, p, hz⟩ := I1.tuple hq
    refine wpAny_pyIter_tuple (show s1.heap.IsTuple a its.toArray from p) ?_
    refine ⟨s1.heap.objs.size, [s1.heap.objs.size], _, _, H1, rfl, I1.kept (t' := s1.toks) fun b o e => Heap.get?_push_of_some _ e, turn_tuple a _, ⟨_, Heap.get?_push_size _ rfl, rfl, rfl⟩, fun b hb => ?_, q⟩
    have e : b = s1.heap.objs.size := by simpa using hb
    subst e
    exact I1.fpOk (Nat.le_refl _) (I1.hok.fresh (Nat.le_refl _))
section
variable {K : Frag} {W : WS} {g g0 : G} {β : Type}
theorem RpL.noneAt {H : Hp} {F : Addr → Prop} {ps : List PV} {vs : List V} {i : Nat} {p : PV} (h : RpL K H F ps vs) (e : ps[i]? = some p) : ∃ v, vs[i]? = some v ∧ Rp K H F p v := RpL.get h e
theorem jok_seq {a : Addr} {k : Kd} {xs : List PV} {gs : List (Nat × PV)} (h : SrcOk K g a k xs gs) : JOk K g (ItlX k K a) xs gs := fun i g2 st2 sr2 hc => by
  obtain ⟨vs, h1, h2⟩ := h g2 st2 sr2 hc
  refine ⟨fun p hp => ?_, fun e => ?_⟩
  · obtain ⟨v, e1, r⟩ := h2.get hp
    cases k with
    | lst => exact ⟨⟨vs, v, h1, e1⟩, fun x H' ⟨eH, y⟩ => ⟨g2, rfl, Stp.refl g2, sr2, eH.symm, by have := y vs h1; rw [e1] at this; cases this; exact r⟩⟩
    | tup => exact ⟨⟨vs, v, h1, e1⟩, fun x H' ⟨eH, y⟩ => ⟨g2, rfl, Stp.refl g2, sr2, eH.symm, by have := y vs h1; rw [e1] at this; cases this; exact r⟩⟩
  · have hl := h2.len
    cases k with
    | lst => exact ⟨vs, h1, by omega⟩
    | tup => exact ⟨vs, h1, by omega⟩
theorem iSeq_of {d : Den} {σ : L2.St} {H : Hp} {R : It → Hp → Prop} (h : tI K W (itSeq d) σ H R) : iSeq K (tD K W d) σ H R := by
  obtain ⟨ρ, g, e, sr, se, h⟩ := h
  subst e
  refine tD.bd (Stp.refl g) sr se h fun r g1 v st _ sr1 se1 hv h1 => ?_
  obtain ⟨sv, g2, e2, st2, sr2, r2, _, _, h2⟩ := bindV_ok st sr1 hv h1
  rw [← bd_ret (srcOf sv)] at h2
  obtain ⟨a, k, xs, gs, rfl, so, hc, h3⟩ := src_ok sr2 r2 h2
  obtain ⟨vs, q1, q2⟩ := so g2 (Stp.refl g2) sr2 hc
  refine ⟨a, k, rfl, ⟨vs, by rw [← e2]; exact q1⟩, ?_⟩
  rw [← e2]
  exact h3.ret rfl st2 sr2 (ItlX k K a) (jok_seq so)
theorem pi_dseq {X : Cx} {tg e : Expr} {d : Den} (he : PE X e (tD X.K W d)) : PI X tg e (tI X.K W (itSeq d)) := piW (pi_seq he) fun _ _ _ h => iSeq_of h
end
/-! range -/
def okI (i : Int) : Bool := decide (-(2 ^ 62) ≤ i) && decide (i < 2 ^ 62)
def rngI (lo : Int) (n : Nat) : List PV := (List.range n).map fun i => .int (lo + (i : Nat))
def rng1 : List PV → Option (List PV)
  | [.int j] => if okI j then some (rngI 0 j.toNat) else none
  | _ => none
def rng2 : List PV → Option (List PV)
  | [.int i, .int j] => if okI i && okI j then some (rngI i (j - i).toNat) else none
  | _ => none
def itRng (f : List PV → Option (List PV)) (ds : List Den) : ItD := fun ρ => bd (evAll ds ρ) fun rs => fun S => match peeks rs S with
  | some ps => (match f ps with
    | some xs => .ok (xs, []) S
    | none => .stuck)
  | none => .stuck
section
variable {K : Frag} {W : WS} {g g0 : G} {β : Type}
theorem jok_rng (lo : Int) (n : Nat) : JOk K g (Itr lo n) (rngI lo n) [] := fun i g2 st2 sr2 _ => by
  refine ⟨fun p hp => ?_, fun e => ?_⟩
  · have hi : i < n := by
      have := (List.getElem?_eq_some_iff.mp hp).1
      simpa [rngI] using this
    have hp : p = .int (lo + (i : Nat)) := by
      simp only [rngI, List.getElem?_map, List.getElem?_range hi, Option.map_some, Option.some.injEq] at hp
      exact hp.symm
    subst hp
    exact ⟨hi, fun x H' ⟨eH, y⟩ => ⟨g2, rfl, Stp.refl g2, sr2, eH.symm, y⟩⟩
  · have : n ≤ i := by rw [e]; simp [rngI]
    exact this
theorem itRng_run {f : List PV → Option (List PV)} {rs : List RV} {ws : XW} {Q : List PV × List (Nat × PV) → G → Prop} {S : Sto} (h : WG K ws g S (fun S => match peeks rs S with
  | some ps => (match f ps with
    | some xs => .ok (xs, []) S
    | none => .stuck)
  | none => .stuck) Q) : ∃ ps xs, peeks rs S = some ps ∧ f ps = some xs ∧ ∀ g', g'.S = S → Stp g g' → SRc K g' → Q (xs, []) g' := by
  unfold WG at h
  cases e : peeks rs S with
  | none => simp only [e] at h
  | some ps =>
    cases e2 : f ps with
    | none => simp only [e, e2] at h
    | some xs => simp only [e, e2] at h; exact ⟨ps, xs, rfl, e2, h⟩
theorem iRng1_of {ds : List Den} {σ : L2.St} {H : Hp} {R : It → Hp → Prop} (h : tI K W (itRng rng1 ds) σ H R) : iRng1 (tDs K W ds) σ H R := by
  obtain ⟨ρ, g, e, sr, se, h⟩ := h
  subst e
  refine tDs.bd (Stp.refl g) sr se h fun rs g1 vs st _ sr1 se1 hv h1 => ?_
  obtain ⟨ps, xs, e1, e2, k⟩ := itRng_run h1
  have hw := hv.peeks sr1 e1
  unfold rng1 at e2
  split at e2
  · next j =>
    split at e2
    · next hj =>
      cases e2
      obtain ⟨v, rfl, rv⟩ := one1 hw rfl
      cases rv
      simp only [okI, Bool.and_eq_true, decide_eq_true_eq] at hj
      exact ⟨j, rfl, hj.1, hj.2, k g1 rfl st sr1 _ (jok_rng 0 j.toNat)⟩
    · cases e2
  · cases e2
theorem iRng2_of {ds : List Den} {σ : L2.St} {H : Hp} {R : It → Hp → Prop} (h : tI K W (itRng rng2 ds) σ H R) : iRng2 (tDs K W ds) σ H R := by
  obtain ⟨ρ, g, e, sr, se, h⟩ := h
  subst e
  refine tDs.bd (Stp.refl g) sr se h fun rs g1 vs st _ sr1 se1 hv h1 => ?_
  obtain ⟨ps, xs, e1, e2, k⟩ := itRng_run h1
  have hw := hv.peeks sr1 e1
  unfold rng2 at e2
  split at e2
  · next i j =>
    split at e2
    · next hj =>
      cases e2
      obtain ⟨v, w, rfl, rv, rw'⟩ := two2 hw rfl
      cases rv; cases rw'
      simp only [okI, Bool.and_eq_true, decide_eq_true_eq] at hj
      exact ⟨i, j, rfl, ⟨hj.1.1, hj.1.2, hj.2.1, hj.2.2⟩, k g1 rfl st sr1 _ (jok_rng i (j - i).toNat)⟩
    · cases e2
  · cases e2
variable {X : Cx} {tg : Expr}
theorem pi_drng1 {a : Expr} {ds : List Den} {p pos : Pos} (hg : Gl X "range") (hm : X.mg "range" = none) (ha : PA X [a] (tDs X.K W ds)) (hs : starEach [a] X.env = [(false, eval a X.env)] := by rfl) : PI X tg (.Call (.Name "range" p) [a] [] pos) (tI X.K W (itRng rng1 ds)) :=
  piW (pi_range1 hg hm ha hs) fun _ _ _ h => iRng1_of h
theorem pi_drng2 {a b : Expr} {ds : List Den} {p pos : Pos} (hg : Gl X "range") (hm : X.mg "range" = none) (ha : PA X [a, b] (tDs X.K W ds)) (hs : starEach [a, b] X.env = [(false, eval a X.env), (false, eval b X.env)] := by rfl) (hs2 : starEach [b] X.env = [(false, eval b X.env)] := by rfl) :
    PI X tg (.Call (.Name "range" p) [a, b] [] pos) (tI X.K W (itRng rng2 ds)) := piW (pi_range2 hg hm ha hs hs2) fun _ _ _ h => iRng2_of h
end
/-! enumerate, zip -/
def numd : Nat → List PV → List PV
  | _, [] => []
  | n, x :: xs => .tup [.int (n : Nat), x] :: numd (n + 1) xs
def itEnum (d : Den) : ItD := fun ρ => bd (d ρ) fun r => bd (bindV false r) fun sv => bd (srcOf sv) fun x => ret (numd 0 x.1, x.2)
def zip2 : List PV → List PV → List PV
  | x :: xs, y :: ys => .tup [x, y] :: zip2 xs ys
  | _, _ => []
def zip3 : List PV → List PV → List PV → List PV
  | x :: xs, y :: ys, z :: zs => .tup [x, y, z] :: zip3 xs ys zs
  | _, _, _ => []
def itZip2 (ds : List Den) : ItD := fun ρ => bd (evAll ds ρ) fun rs => match rs with
  | [r, q] => bd (bindV false r) fun s => bd (bindV false q) fun t => bd (srcOf s) fun x => bd (srcOf t) fun y => ret (zip2 x.1 y.1, x.2 ++ y.2)
  | _ => stk
def itZip3 (ds : List Den) : ItD := fun ρ => bd (evAll ds ρ) fun rs => match rs with
  | [r, q, u] => bd (bindV false r) fun s => bd (bindV false q) fun t => bd (bindV false u) fun w => bd (srcOf s) fun x => bd (srcOf t) fun y => bd (srcOf w) fun z => ret (zip3 x.1 y.1 z.1, x.2 ++ (y.2 ++ z.2))
  | _ => stk
theorem numd_get : ∀ (n i : Nat) (xs : List PV), (numd n xs)[i]? = xs[i]?.map fun x => .tup [.int ((n + i : Nat) : Int), x]
  | n, i, [] => by simp [numd]
  | n, 0, x :: xs => by simp [numd]
  | n, i + 1, x :: xs => by
    have := numd_get (n + 1) i xs
    simp only [numd, List.getElem?_cons_succ, this]
    have e : n + 1 + i = n + (i + 1) := by omega
    rw [e]
theorem numd_len : ∀ (n : Nat) (xs : List PV), (numd n xs).length = xs.length
  | n, [] => rfl
  | n, x :: xs => by simp [numd, numd_len (n + 1) xs]
theorem zip2_get : ∀ (i : Nat) (xs ys : List PV) (p : PV), (zip2 xs ys)[i]? = some p → ∃ x y, xs[i]? = some x ∧ ys[i]? = some y ∧ p = .tup [x, y]
  | i, [], ys, p, h => by simp [zip2] at h
  | i, x :: xs, [], p, h => by simp [zip2] at h
  | 0, x :: xs, y :: ys, p, h => by simp [zip2] at h; exact ⟨x, y, by simp, by simp, h.symm⟩
  | i + 1, x :: xs, y :: ys, p, h => by
    simp only [zip2, List.getElem?_cons_succ] at h ⊢
    exact zip2_get i xs ys p h
theorem zip2_len : ∀ (xs ys : List PV), (zip2 xs ys).length = min xs.length ys.length
  | [], ys => by simp [zip2]
  | x :: xs, [] => by simp [zip2]
  | x :: xs, y :: ys => by simp [zip2, zip2_len xs ys]
theorem zip3_get : ∀ (i : Nat) (xs ys zs : List PV) (p : PV), (zip3 xs ys zs)[i]? = some p → ∃ x y z, xs[i]? = some x ∧ ys[i]? = some y ∧ zs[i]? = some z ∧ p = .tup [x, y, z]
  | i, [], ys, zs, p, h => by simp [zip3] at h
  | i, x :: xs, [], zs, p, h => by simp [zip3] at h
  | i, x :: xs, y :: ys, [], p, h => by simp [zip3] at h
  | 0, x :: xs, y :: ys, z :: zs, p, h => by simp [zip3] at h; exact ⟨x, y, z, by simp, by simp, by simp, h.symm⟩
  | i + 1, x :: xs, y :: ys, z :: zs, p, h => by
    simp only [zip3, List.getElem?_cons_succ] at h ⊢
    exact zip3_get i xs ys zs p h
theorem zip3_len : ∀ (xs ys zs : List PV), (zip3 xs ys zs).length = min xs.length (min ys.length zs.length)
  | [], ys, zs => by simp [zip3]
  | x :: xs, [], zs => by simp [zip3]
  | x :: xs, y :: ys, [] => by simp [zip3]
  | x :: xs, y :: ys, z :: zs => by simp [zip3, zip3_len xs ys zs]
section
variable {K : Frag} {W : WS} {g g0 : G} {β : Type}
/-- a new tuple in a turn -/
theorem turnTup {g2 : G} {T : Addr} {H' : Hp} {ps : List PV} {vs : List V} (sr2 : SRc K g2) (hT : g2.H T = none) (eH : H' = upd g2.H T (.tup vs)) (r : RpL K g2.H g2.F ps vs) :
    ∃ g', g'.S = g2.S ∧ Stp g2 g' ∧ SRc K g' ∧ g'.H = H' ∧ Rp K g'.H g'.F (.tup ps) (.ref T) := by
  subst eH
  exact ⟨g2.put T (.tup vs), rfl, Stp.put hT, sr2.put hT, rfl, newTup sr2 hT r⟩
theorem jok_enum {a : Addr} {k : Kd} {xs : List PV} {gs : List (Nat × PV)} (h : SrcOk K g a k xs gs) : JOk K g (ItE k K a) (numd 0 xs) gs := fun i g2 st2 sr2 hc => by
  obtain ⟨vs, h1, h2⟩ := h g2 st2 sr2 hc
  refine ⟨fun p hp => ?_, fun e => ⟨vs, h1, by rw [e, numd_len]; exact h2.len.symm⟩⟩
  rw [numd_get] at hp
  cases hx : xs[i]? with
  | none => rw [hx] at hp; cases hp
  | some x =>
    rw [hx] at hp; cases hp
    obtain ⟨v, e1, r⟩ := h2.get hx
    refine ⟨⟨vs, v, h1, e1⟩, fun w H' ⟨T, y, ew, hT, eH, hy⟩ => ?_⟩
    have := hy vs h1
    rw [e1] at this; cases this
    subst ew
    refine turnTup sr2 hT eH ⟨_, _, rfl, ?_, v, [], rfl, r, rfl⟩
    show V.int _ = V.int _
    rw [Nat.zero_add]
theorem jok_zip2 {a b : Addr} {k l : Kd} {xs ys : List PV} {gs hs : List (Nat × PV)} (h : SrcOk K g a k xs gs) (h' : SrcOk K g b l ys hs) : JOk K g (ItZ2 k l K a b) (zip2 xs ys) (gs ++ hs) := fun i g2 st2 sr2 hc => by
  obtain ⟨c1, c2⟩ := chkG_app hc
  obtain ⟨vs, h1, h2⟩ := h g2 st2 sr2 c1
  obtain ⟨ws, k1, k2⟩ := h' g2 st2 sr2 c2
  refine ⟨fun p hp => ?_, fun e => ⟨vs, ws, h1, k1, ?_⟩⟩
  · obtain ⟨x, y, ex, ey, rfl⟩ := zip2_get _ _ _ _ hp
    obtain ⟨v, e1, r⟩ := h2.get ex
    obtain ⟨u, e2, r'⟩ := k2.get ey
    refine ⟨⟨vs, ws, v, u, h1, k1, e1, e2⟩, fun w H' ⟨T, y1, y2, ew, hT, eH, hy, hy'⟩ => ?_⟩
    have t1 := hy vs h1
    rw [e1] at t1; cases t1
    have t2 := hy' ws k1
    rw [e2] at t2; cases t2
    subst ew
    exact turnTup sr2 hT eH ⟨v, _, rfl, r, u, [], rfl, r', rfl⟩
  · have l1 := h2.len
    have l2 := k2.len
    rw [zip2_len] at e
    refine ⟨by omega, by omega, by omega⟩
theorem jok_zip3 {a b c : Addr} {k l m : Kd} {xs ys zs : List PV} {gs hs is : List (Nat × PV)} (h : SrcOk K g a k xs gs) (h' : SrcOk K g b l ys hs) (h'' : SrcOk K g c m zs is) : JOk K g (ItZ3 k l m K a b c) (zip3 xs ys zs) (gs ++ (hs ++ is)) := fun i g2 st2 sr2 hc => by
  obtain ⟨c1, c'⟩ := chkG_app hc
  obtain ⟨c2, c3⟩ := chkG_app c'
  obtain ⟨vs, h1, h2⟩ := h g2 st2 sr2 c1
  obtain ⟨ws, k1, k2⟩ := h' g2 st2 sr2 c2
  obtain ⟨us, m1, m2⟩ := h'' g2 st2 sr2 c3
  refine ⟨fun p hp => ?_, fun e => ⟨vs, ws, us, h1, k1, m1, ?_⟩⟩
  · obtain ⟨x, y, z, ex, ey, ez, rfl⟩ := zip3_get _ _ _ _ _ hp
    obtain ⟨v, e1, r⟩ := h2.get ex
    obtain ⟨u, e2, r'⟩ := k2.get ey
    obtain ⟨t, e3, r''⟩ := m2.get ez
    refine ⟨⟨vs, ws, us, v, u, t, h1, k1, m1, e1, e2, e3⟩, fun w H' ⟨T, y1, y2, y3, ew, hT, eH, hy, hy', hy''⟩ => ?_⟩
    have t1 := hy vs h1
    rw [e1] at t1; cases t1
    have t2 := hy' ws k1
    rw [e2] at t2; cases t2
    have t3 := hy'' us m1
    rw [e3] at t3; cases t3
    subst ew
    exact turnTup sr2 hT eH ⟨v, _, rfl, r, u, _, rfl, r', t, [], rfl, r'', rfl⟩
  · have l1 := h2.len
    have l2 := k2.len
    have l3 := m2.len
    rw [zip3_len] at e
    refine ⟨by omega, by omega, by omega, by omega⟩
theorem iEnum_of {d : Den} {σ : L2.St} {H : Hp} {R : It → Hp → Prop} (h : tI K W (itEnum d) σ H R) : tD K W d σ H fun v H1 => ∃ k a xs, [v] = [V.ref a] ∧ SqX k K H1 a xs ∧ R (ItE k K a) H1 := by
  obtain ⟨ρ, g, e, sr, se, h⟩ := h
  subst e
  refine tD.bd (Stp.refl g) sr se h fun r g1 v st _ sr1 se1 hv h1 => ?_
  obtain ⟨sv, g2, e2, st2, sr2, r2, _, _, h2⟩ := bindV_ok st sr1 hv h1
  obtain ⟨a, k, xs, gs, rfl, so, hc, h3⟩ := src_ok sr2 r2 h2
  obtain ⟨vs, q1, q2⟩ := so g2 (Stp.refl g2) sr2 hc
  refine ⟨k, a, vs, rfl, by rw [← e2]; exact q1, ?_⟩
  rw [← e2]
  exact h3.ret rfl st2 sr2 (ItE k K a) (jok_enum so)
theorem iZip2_of {ds : List Den} {σ : L2.St} {H : Hp} {R : It → Hp → Prop} (h : tI K W (itZip2 ds) σ H R) : iZipX2 K (tDs K W ds) σ H R := by
  obtain ⟨ρ, g, e, sr, se, h⟩ := h
  subst e
  refine tDs.bd (Stp.refl g) sr se h fun rs g1 vs st _ sr1 se1 hv h1 => ?_
  obtain ⟨hp, hd⟩ := hv
  cases hp with
  | nil => exact (stk_ok h1).elim
  | cons a1 b1 =>
    cases b1 with
    | nil => exact (stk_ok h1).elim
    | cons a2 b2 =>
      cases b2 with
      | cons _ _ => exact (stk_ok h1).elim
      | nil =>
        next r v q w =>
        have d12 : isOwn r = true → isOwn q = true → w ≠ v := fun o1 o2 z => hd.1 o1 0 q rfl o2 (by rw [z]; rfl)
        obtain ⟨sv, g2, e2, st2, sr2, r2, k2, q2, h2⟩ := bindV_ok st sr1 (a1.from (Stp.refl g)) h1
        obtain ⟨sv', g3, e3, st3, sr3, r3, k3, q3, h3⟩ := bindV_ok st2 sr2 (q2 q w d12 a2) h2
        obtain ⟨a, k, xs, gs, rfl, so, hc, h4⟩ := src_ok sr3 (k3 _ _ r2) h3
        obtain ⟨b, l, ys, hs, rfl, so', hc', h5⟩ := src_ok sr3 r3 h4
        obtain ⟨vs1, p1, _⟩ := so g3 (Stp.refl g3) sr3 hc
        obtain ⟨vs2, p2, _⟩ := so' g3 (Stp.refl g3) sr3 hc'
        have eH : g3.H = g1.H := e3.trans e2
        refine ⟨k, l, a, b, vs1, vs2, rfl, by rw [← eH]; exact p1, by rw [← eH]; exact p2, ?_⟩
        rw [← eH]
        exact h5.ret rfl st3 sr3 (ItZ2 k l K a b) (jok_zip2 so so')
theorem iZip3_of {ds : List Den} {σ : L2.St} {H : Hp} {R : It → Hp → Prop} (h : tI K W (itZip3 ds) σ H R) : iZipX3 K (tDs K W ds) σ H R := by
  obtain ⟨ρ, g, e, sr, se, h⟩ := h
  subst e
  refine tDs.bd (Stp.refl g) sr se h fun rs g1 vs st _ sr1 se1 hv h1 => ?_
  obtain ⟨hp, hd⟩ := hv
  cases hp with
  | nil => exact (stk_ok h1).elim
  | cons a1 b1 =>
    cases b1 with
    | nil => exact (stk_ok h1).elim
    | cons a2 b2 =>
      cases b2 with
      | nil => exact (stk_ok h1).elim
      | cons a3 b3 =>
        cases b3 with
        | cons _ _ => exact (stk_ok h1).elim
        | nil =>
          next r v q w y' u =>
          have d12 : isOwn r = true → isOwn q = true → w ≠ v := fun o1 o2 z => hd.1 o1 0 q rfl o2 (by rw [z]; rfl)
          have d13 : isOwn r = true → isOwn y' = true → u ≠ v := fun o1 o2 z => hd.1 o1 1 y' rfl o2 (by rw [z]; rfl)
          have d23 : isOwn q = true → isOwn y' = true → u ≠ w := fun o1 o2 z => hd.2.1 o1 0 y' rfl o2 (by rw [z]; rfl)
          obtain ⟨sv, g2, e2, st2, sr2, r2, k2, q2, h2⟩ := bindV_ok st sr1 (a1.from (Stp.refl g)) h1
          obtain ⟨sv', g3, e3, st3, sr3, r3, k3, q3, h3⟩ := bindV_ok st2 sr2 (q2 q w d12 a2) h2
          obtain ⟨sv'', g4, e4, st4, sr4, r4, k4, q4, h4⟩ := bindV_ok st3 sr3 (q3 y' u d23 (q2 y' u d13 a3)) h3
          obtain ⟨a, k, xs, gs, rfl, so, hc, h4⟩ := src_ok sr4 (k4 _ _ (k3 _ _ r2)) h4
          obtain ⟨b, l, ys, hs, rfl, so', hc', h5⟩ := src_ok sr4 (k4 _ _ r3) h4
          obtain ⟨c, m, zs, is, rfl, so'', hc'', h6⟩ := src_ok sr4 r4 h5
          obtain ⟨vs1, p1, _⟩ := so g4 (Stp.refl g4) sr4 hc
          obtain ⟨vs2, p2, _⟩ := so' g4 (Stp.refl g4) sr4 hc'
          obtain ⟨vs3, p3, _⟩ := so'' g4 (Stp.refl g4) sr4 hc''
          have eH : g4.H = g1.H := e4.trans (e3.trans e2)
          refine ⟨k, l, m, a, b, c, vs1, vs2, vs3, rfl, by rw [← eH]; exact p1, by rw [← eH]; exact p2, by rw [← eH]; exact p3, ?_⟩
          rw [← eH]
          exact h6.ret rfl st4 sr4 (ItZ3 k l m K a b c) (jok_zip3 so so' so'')
variable {X : Cx}
theorem pi_denum {e : Expr} {d : Den} {p pos tpos : Pos} {elts : List Expr} {kk : Nat} (hg : Gl X "enumerate") (hm : X.mg "enumerate" = none) (ha : PE X e (tD X.K W d)) (hs : starEach [e] X.env = (false, eval e X.env) :: starEach [] X.env := by rfl) :
    PI X (.Tuple elts kk tpos) (.Call (.Name "enumerate" p) [e] [] pos) (tI X.K W (itEnum d)) :=
  piW (pi_enumX hg hm (pa_cons ha pa_nil hs) hs) fun _ _ _ h => iEnum_of h
theorem pi_dzip2 {e1 e2 : Expr} {ds : List Den} {p pos tpos : Pos} {elts : List Expr} {kk : Nat} (hg : Gl X "zip") (hm : X.mg "zip" = none) (ha : PA X [e1, e2] (tDs X.K W ds))
    (hs : starEach [e1, e2] X.env = (false, eval e1 X.env) :: starEach [e2] X.env := by rfl) (hpl : (backTo pos (starEach [e2] X.env)).any (·.1) = false := by rfl) :
    PI X (.Tuple elts kk tpos) (.Call (.Name "zip" p) [e1, e2] [] pos) (tI X.K W (itZip2 ds)) := piW (pi_zipX2 hg hm ha hs hpl) fun _ _ _ h => iZip2_of h
theorem pi_dzip3 {e1 e2 e3 : Expr} {ds : List Den} {p pos tpos : Pos} {elts : List Expr} {kk : Nat} (hg : Gl X "zip") (hm : X.mg "zip" = none) (ha : PA X [e1, e2, e3] (tDs X.K W ds))
    (hs : starEach [e1, e2, e3] X.env = (false, eval e1 X.env) :: starEach [e2, e3] X.env := by rfl) (hpl : (backTo pos (starEach [e2, e3] X.env)).any (·.1) = false := by rfl) :
    PI X (.Tuple elts kk tpos) (.Call (.Name "zip" p) [e1, e2, e3] [] pos) (tI X.K W (itZip3 ds)) := piW (pi_zipX3 hg hm ha hs hpl) fun _ _ _ h => iZip3_of h
end
end Pf
end
section
set_option Elab.async false
set_option linter.all false
set_option maxHeartbeats 1000000
set_option autoImplicit false
namespace Pf
open PySem PySem.Spec L2 PyProof.Rows
/-! calls -/
inductive AV where
  | val (p : PV)
  | cel (p : PV)
inductive FRes where
  | ok (r : RV) (outs : Sto)
  | exc (c : Nat) (v : PV) (outs : Sto)
  | stuck
abbrev Fn := List AV → FRes
def slots : List AV → Nat → List SV
  | [], _ => []
  | .val p :: r, n => .val p :: slots r n
  | .cel _ :: r, n => .ref n :: slots r (n + 1)
def cels : List AV → Sto
  | [] => []
  | .val _ :: r => cels r
  | .cel p :: r => .live p :: cels r
def fin (nc : Nat) (r : RV) (S : Sto) : FRes := if nc ≤ S.length then (match r with
  | .val p => .ok (.val p) (S.take nc)
  | .own p => .ok (.own p) (S.take nc)
  | .ref n => if n < nc then .stuck else (match S[n]? with
    | some (.live p) => .ok (.own p) (S.take nc)
    | some (.froz p) => .ok (.val p) (S.take nc)
    | _ => .stuck)) else .stuck
def runF (nl : Nat) (b : DenS) : Fn := fun avs => match b ((slots avs 0).map some ++ List.replicate (nl - avs.length) none) (cels avs) with
  | .ok (_, .rt r) S => fin (cels avs).length r S
  | .ok (_, .nx) S => fin (cels avs).length (.val .non) S
  | _ => .stuck
theorem slots_len : ∀ (avs : List AV) (n : Nat), (slots avs n).length = avs.length
  | [], _ => rfl
  | .val p :: r, n => by simp [slots, slots_len r n]
  | .cel p :: r, n => by simp [slots, slots_len r (n + 1)]
def spF (K : Frag) (F : Fn) : List V → Hp → VK → Prop := fun vs H Q => ∃ g avs, g.H = H ∧ SRc K g ∧ g.S = cels avs ∧ Paired (Rs K g) (slots avs 0) vs ∧ match F avs with
  | .ok r outs => ∀ g' v, g'.S = outs → Stp g g' → SRc K g' → Rr K g g' r v → Q v g'.H
  | _ => False
/-- a def's promise -/
structure FnG (P : Program) (w : World) (K : Frag) (mg : Str → Option Value) (base : Heap) (k : Nat) (f : Addr) (fd : FuncData) (ps : List Str) (sp : List V → Hp → VK → Prop) : Prop where
  run : ∀ (A : Around) (outer : List PySem.Env) (s : Shared) (H : Hp) (args : Args) (us : List Value) (vs : List V) (Q : VK), Room k A → A.guards = some [] → Env0 P w K mg base A outer s H → BindsTo s fd args (ps.zip us) → Vals vs us → vs.length = ps.length → sp vs H Q →
    codeAny (model P w) A (.call (.ref f) args) (CR CX0 outer P w H s Q E0) s
theorem FnG.mono {P : Program} {w : World} {K : Frag} {mg : Str → Option Value} {base : Heap} {j k : Nat} {f : Addr} {fd : FuncData} {ps : List Str} {sp : List V → Hp → VK → Prop} (F : FnG P w K mg base j f fd ps sp) (h : j ≤ k) : FnG P w K mg base k f fd ps sp :=
  ⟨fun A outer s H args us vs Q hr => F.run A outer s H args us vs Q (hr.mono h)⟩
theorem fnG_of {P : Program} {w : World} {K : Frag} {mg : Str → Option Value} {base : Heap} {k : Nat} {f : Addr} {name qual : Str} {params : Arguments} {body : List Stmt} {scope : Scope} {dV kV doc pm cdv ct oc : Value} {an od : Option Addr}
    {osl : Array (Option Value)} {N ps : List Str} {sp : List V → Hp → VK → Prop} (lk : K.lookup f = some ⟨oc, od, .func (PySem.W.fnOf name qual params body scope dV kV doc pm an cdv ct), osl⟩) (hcd : PySem.W.codeIn K cdv qual = true) (S : FnScope N ps scope)
    (hbody : ∀ (A : Around) (outer : List PySem.Env) (s : Shared) (H : Hp) (vs : List V) (Q : VK), Room k (A.deeper (envOfC qual scope s.heap.objs.size f cdv)) → A.guards = some [] → vs.length = ps.length → sp vs H Q →
      ∃ t, PSs (cxOf CX0 P w K mg base N qual scope f cdv A outer s H E0) body t ∧ t { nx := fun _ H' => Q .non H', rt := Q } (L2.start N vs) H) :
    FnG P w K mg base (k + 1) f (PySem.W.fnOf name qual params body scope dV kV doc pm an cdv ct) ps sp := by
  refine ⟨fun A outer s H args us vs Q hr hgd e0 hb r hl hsp => ?_⟩
  have KX : K.In s.heap := e0.mod.kin.keeps fun b o e => (e0.bs b o e).1
  have lim : s.heap.NoLimit := e0.mod.nolimit.keeps fun b o e => (e0.bs b o e).1
  have hkind : ∀ y ∈ ps.zip us, scope.names.lookup y.1 = some .local ∨ (scope.names.lookup y.1 = some .cell ∧ ((cellsFrom (s.heap.objs.size + 1) scope.names []).lookup y.1).isSome = true) := fun ⟨n, v⟩ hy => by
    rcases S.par n (List.of_mem_zip hy).1 with q | q
    · exact .inl q
    · exact .inr ⟨q, PySem.W.cellsFrom_some _ _ _ (.inl q)⟩
  refine codeAny_call_function hr.depth (KX _ _ lk) rfl S.co S.gen rfl (PySem.W.codeRec_of KX hcd) (hb _ _ _ _ ?_)
  refine wpAny_newFunctionEnv_cells S.kind hkind fun env he s1 x => ?_
  subst he
  refine ⟨lim.keeps x.toInCall.keep, codeAny_func ?_⟩
  obtain ⟨t, ht, hq⟩ := hbody A outer s H vs Q (hr.deeper _) hgd hl hsp
  have I : Inv (cxOf CX0 P w K mg base N qual scope f cdv A outer s H E0) [] (L2.start N vs) H s1 := inv_start S hr.hd e0 hl r x
  refine wpAny_mono (ht.run [] s1 (L2.start N vs) H _ I hq) (fun fl s' hs => ?_) fun e s' hs => hs
  have fin : ∀ {σ' : L2.St} {H' : Hp} {v : V} {u : Value}, Inv (cxOf CX0 P w K mg base N qual scope f cdv A outer s H E0) [] σ' H' s' → RelV v u → Q v H' → CE outer P w H s Q u s' :=
    fun {σ' H' v u} J rv q => ⟨v, H', J.os, J.bare, J.base, J.hok, rv, q⟩
  cases fl with
  | ret u =>
    obtain ⟨v, σ', H', J, rv, q⟩ := hs
    exact fin J rv q
  | next =>
    obtain ⟨σ', H', J, q⟩ := hs
    exact fin (v := V.non) (u := Value.none) J rfl q
  | brk =>
    obtain ⟨_, _, _, q⟩ := hs
    exact False.elim q
  | cont =>
    obtain ⟨_, _, _, q⟩ := hs
    exact False.elim q
section
variable {K : Frag} {g g' : G}
/-- the end of a body, the callers' cells alone -/
def G.trim (g : G) (n : Nat) : G := { g with S := g.S.take n, A := g.A.take n }
theorem take_get {α : Type} {l : List α} {n m : Nat} {x : α} (h : (l.take n)[m]? = some x) : l[m]? = some x ∧ m < n := by
  rw [List.getElem?_take] at h
  split at h
  · next hm => exact ⟨h, hm⟩
  · cases h
theorem trim_ok (sr0 : SRc K g) (hp : ∀ c ∈ g.S, isN c = false) (st : Stp g g') (sr : SRc K g') : Stp g (g'.trim g.A.length) ∧ SRc K (g'.trim g.A.length) := by
  refine ⟨⟨st.keep, st.dom, st.fz, st.fz', fun m b e => ?_, fun b hb => st.newA b (List.mem_of_mem_take hb), fun b ⟨m, v, e1, e2⟩ => st.new b ⟨m, v, ⟨(take_get e1.1).1, e1.2⟩, (take_get e2).1⟩, fun n c c' e e' z => st.pl n c c' e (take_get e').1 z, by show _ ≤ (g'.S.take _).length; rw [List.length_take, sr0.len]; have := st.ge; omega⟩,
    ⟨by show (g'.A.take _).length = (g'.S.take _).length; rw [List.length_take, List.length_take, sr.len], sr.nd.sublist (List.take_sublist _ _), fun m a c e1 e2 => ?_, fun a m => sr.dom a (List.mem_of_mem_take m), sr.fd⟩⟩
  · have := st.ext m b e
    show (g'.A.take _)[m]? = _
    rw [List.getElem?_take, if_pos (List.getElem?_eq_some_iff.mp e).1]
    exact this
  · obtain ⟨q1, q2⟩ := take_get e1
    obtain ⟨q3, _⟩ := take_get e2
    have k := sr.cell m a c q1 q3
    obtain ⟨c0, h0⟩ : ∃ c0, g.S[m]? = some c0 := ⟨_, List.getElem?_eq_getElem (by rw [← sr0.len]; exact q2)⟩
    have hn := st.pl m c0 c h0 q3 (hp c0 (List.mem_of_getElem? h0))
    cases c with
    | live v => exact k
    | froz v => exact k
    | nest es => cases hn
theorem cels_plain : ∀ {avs : List AV}, ∀ c ∈ cels avs, isN c = false
  | [], c, h => by simp [cels] at h
  | .val p :: r, c, h => cels_plain (avs := r) c h
  | .cel p :: r, c, h => by
    rcases List.mem_cons.mp h with e | h
    · subst e; rfl
    · exact cels_plain (avs := r) c h
theorem cels_A {avs : List AV} (sr : SRc K g) (e : g.S = cels avs) : g.A.length = (cels avs).length := by rw [sr.len, e]
theorem fin_ok {r r' : RV} {outs : Sto} {v : V} {n : Nat} (hp : ∀ c ∈ g.S, isN c = false) (sr0 : SRc K g) (st : Stp g g') (sr : SRc K g') (hn : g.A.length = n) (hr : Rr K g g' r v) (h : fin n r g'.S = .ok r' outs) :
    ∃ g2, g2.S = outs ∧ g2.H = g'.H ∧ Stp g g2 ∧ SRc K g2 ∧ Rr K g g2 r' v := by
  subst hn
  obtain ⟨t1, t2⟩ := trim_ok sr0 hp st sr
  unfold fin at h
  split at h
  · next hle =>
    have own : ∀ {p : PV} {a : Addr}, At K g'.H g'.F p a → ¬ g'.F a → g.H a = none → Rr K g (g'.trim g.A.length) (.own p) (.ref a) := fun {p a} h1 h2 h3 => ⟨a, rfl, h1, h2, fun (q : a ∈ g'.A.take g.A.length) => (by
      obtain ⟨m, q⟩ := List.mem_iff_getElem?.mp q
      obtain ⟨q1, q2⟩ := take_get q
      obtain ⟨b, e⟩ : ∃ b, g.A[m]? = some b := ⟨g.A[m], List.getElem?_eq_getElem q2⟩
      have := st.ext m b e
      rw [q1] at this; cases this
      obtain ⟨x, hx⟩ := sr0.dom a (List.mem_of_getElem? e)
      rw [h3] at hx; cases hx), h3⟩
    cases r with
    | val p => cases h; exact ⟨g'.trim g.A.length, rfl, rfl, t1, t2, hr⟩
    | own p =>
      cases h
      obtain ⟨a, rfl, h1, h2, h3, h4⟩ := hr
      exact ⟨g'.trim g.A.length, rfl, rfl, t1, t2, own h1 h2 h4⟩
    | ref m =>
      obtain ⟨a, rfl, hA⟩ := hr
      simp only at h
      split at h
      · cases h
      · next hm =>
        cases e : g'.S[m]? with
        | none => rw [e] at h; cases h
        | some c =>
          have k := sr.cell m a c hA e
          cases c with
          | live p =>
            rw [e] at h; cases h
            refine ⟨g'.trim g.A.length, rfl, rfl, t1, t2, own k.1 k.2 ?_⟩
            rcases st.newA a (List.mem_of_getElem? hA) with q | q
            · obtain ⟨j, q⟩ := List.mem_iff_getElem?.mp q
              have q2 := st.ext j a q
              have hj : j < g.A.length := (List.getElem?_eq_some_iff.mp q).1
              have := (List.getElem?_inj (i := j) (j := m) (List.getElem?_eq_some_iff.mp q2).1 sr.nd).mp (q2.trans hA.symm)
              omega
            · exact q
          | froz p => rw [e] at h; cases h; exact ⟨g'.trim g.A.length, rfl, rfl, t1, t2, k⟩
          | nest es => rw [e] at h; cases h
  · cases h
theorem paired_get {α β : Type} {R : α → β → Prop} : ∀ {xs : List α} {ys : List β} {i : Nat} {x : α}, Paired R xs ys → xs[i]? = some x → ∃ y, ys[i]? = some y ∧ R x y
  | _, _, _, _, .nil, e => by simp at e
  | _ :: _, _ :: _, 0, x, .cons a b, e => by simp at e; subst e; exact ⟨_, rfl, a⟩
  | _ :: _, _ :: _, i + 1, x, .cons a b, e => by
    obtain ⟨y, h1, h2⟩ := paired_get (i := i) b (by simpa using e)
    exact ⟨y, by simpa using h1, h2⟩
theorem slots_sre {avs : List AV} {vs : List V} {N : List Str} (h : Paired (Rs K g) (slots avs 0) vs) (hl : avs.length ≤ N.length) : SRe K g ((slots avs 0).map some ++ List.replicate (N.length - avs.length) none) (L2.start N vs) := by
  have l1 := slots_len avs 0
  have l2 : (slots avs 0).length = vs.length := Paired.length h
  refine ⟨by unfold L2.start; simp [l1]; omega, fun i sv e => ?_⟩
  by_cases hi : i < (slots avs 0).length
  · rw [List.getElem?_append_left (by simpa using hi), List.getElem?_map] at e
    obtain ⟨sv', e'⟩ : ∃ x, (slots avs 0)[i]? = some x := ⟨_, List.getElem?_eq_getElem hi⟩
    rw [e'] at e; cases e
    obtain ⟨v, hv, r⟩ := paired_get h e'
    exact ⟨v, by unfold L2.start; rw [List.getElem?_append_left (by rw [List.length_map]; omega), List.getElem?_map, hv]; rfl, r⟩
  · rw [List.getElem?_append_right (by simpa using hi), List.getElem?_replicate] at e
    split at e <;> cases e
end
/-- a def by its body -/
theorem fnG_body {P : Program} {w : World} {K : Frag} {mg : Str → Option Value} {base : Heap} {x qual : Str} {pr : Arguments} {body : List Stmt} {sc : Scope} {dvs : List V} {kvs : List (Str × V)} {f : Addr} {fd : FuncData} {N ps : List Str} {k : Nat} {d : DenS} (F : FunD K x qual pr body sc dvs kvs f fd) (S : FnScope N ps sc)
    (hbody : ∀ (cdv : Value) (A : Around) (outer : List PySem.Env) (s : Shared) (H : Hp), Room k (A.deeper (envOfC qual sc s.heap.objs.size f cdv)) → A.guards = some [] →
      PSs (cxOf CX0 P w K mg base N qual sc f cdv A outer s H E0).nox body (tS K W0 d)) : FnG P w K mg base (k + 1) f fd ps (spF K (runF N.length d)) := by
  obtain ⟨oc, od, dV, kV, doc, pm, an, cdv, ct, osl, rfl, lk, hcd, _⟩ := F.ex
  refine fnG_of lk hcd S fun A outer s H vs Q hr hg hl hsp => ⟨_, (hbody cdv A outer s H hr hg).nox, ?_⟩
  obtain ⟨g, avs, rfl, sr, eS, hp, h⟩ := hsp
  have l1 := slots_len avs 0
  have l2 : (slots avs 0).length = vs.length := Paired.length hp
  have hpl : ps.length ≤ N.length := by have := congrArg List.length S.pre; rw [List.length_take] at this; omega
  refine ⟨_, g, rfl, sr, slots_sre hp (by omega), ?_⟩
  unfold WG
  rw [eS]
  cases e : d ((slots avs 0).map some ++ List.replicate (N.length - avs.length) none) (cels avs) with
  | stuck => simp only [runF, e] at h
  | exc c v S' => simp only [runF, e] at h
  | ok y S' =>
    obtain ⟨ρ', fl⟩ := y
    intro g' hS st' sr'
    subst hS
    have hn := cels_A sr eS
    have key : ∀ r v, Rr K g g' r v → (match fin (cels avs).length r g'.S with
        | .ok r outs => ∀ g' v, g'.S = outs → Stp g g' → SRc K g' → Rr K g g' r v → Q v g'.H
        | _ => False) → Q v g'.H := fun r v hv h => by
      cases e2 : fin (cels avs).length r g'.S with
      | ok r' outs =>
        rw [e2] at h
        obtain ⟨g2, e3, e4, st2, sr2, r2⟩ := fin_ok (by rw [eS]; exact cels_plain) sr st' sr' hn hv e2
        rw [← e4]
        exact h g2 v e3 st2 sr2 r2
      | exc a b c => rw [e2] at h; exact h.elim
      | stuck => rw [e2] at h; exact h.elim
    cases fl with
    | rt r => simp only [runF, e] at h; exact fun v hv => key r v hv h
    | nx => simp only [runF, e] at h; exact fun σ' _ => key (.val .non) .non rfl h
    | bk => simp only [runF, e] at h
    | ct => simp only [runF, e] at h
end Pf
end
section
set_option Elab.async false
set_option linter.all false
set_option maxHeartbeats 1000000
set_option autoImplicit false
namespace Pf
open PySem PySem.Spec L2 PyProof.Rows
def bindMany : List Bool → List RV → M (List SV)
  | m :: ms, r :: rs => bd (bindV m r) fun s => bd (bindMany ms rs) fun ss => ret (s :: ss)
  | _, [] => ret []
  | [], r :: rs => bd (bindV false r) fun s => bd (bindMany [] rs) fun ss => ret (s :: ss)
def avsOf : List SV → Sto → Option (List AV × List Nat)
  | [], _ => some ([], [])
  | .val p :: r, S => match avsOf r S with
    | some (a, n) => some (.val p :: a, n)
    | none => none
  | .ref m :: r, S => match S[m]?, avsOf r S with
    | some (.live p), some (a, n) => some (.cel p :: a, m :: n)
    | some (.froz p), some (a, n) => some (.val p :: a, n)
    | _, _ => none
def setAll : Sto → List Nat → Sto → Sto
  | S, n :: ns, c :: cs => setAll (S.set n c) ns cs
  | S, _, _ => S
def noDup : List Nat → Bool
  | [] => true
  | n :: ns => !ns.contains n && noDup ns
def callF (F : Fn) (svs : List SV) : M RV := fun S => match avsOf svs S with
  | none => .stuck
  | some (avs, ns) => if noDup ns then (match F avs with
    | .ok (.ref _) _ => .stuck
    | .ok r outs => .ok r (setAll S ns outs)
    | _ => .stuck) else .stuck
def permL {α : Type} (perm : List Nat) (xs : List α) : List α := perm.filterMap (xs[·]?)
def callN (np : Nat) (F : Fn) (ss : List SV) : M RV := if ss.length = np then callF F ss else stk
def dCall (np : Nat) (F : Fn) (mus : List Bool) (ds : List Den) : Den := fun ρ => bd (evAll ds ρ) fun rs => bd (bindMany mus rs) (callN np F)
def dCallK (np : Nat) (F : Fn) (perm : List Nat) (mus : List Bool) (ds es : List Den) : Den := fun ρ => bd (evAll ds ρ) fun rs => bd (evAll es ρ) fun qs => bd (bindMany mus (rs ++ qs)) fun ss => callN np F (permL perm ss)
section
variable {K : Frag} {g g0 g1 : G} {W : XW} {β : Type}
theorem bindMany_ok : ∀ {mus : List Bool} {rs : List RV} {vs : List V} {g : G} {f : List SV → M β} {R : β → G → Prop}, Stp g0 g → SRc K g → RrL K g0 g rs vs → WG K W g0 g.S (bd (bindMany mus rs) f) R →
    ∃ ss g', g'.H = g.H ∧ Stp g0 g' ∧ SRc K g' ∧ Paired (Rs K g') ss vs ∧ (∀ sv w, Rs K g sv w → Rs K g' sv w) ∧ (∀ q w, (∀ (i : Nat) (r : RV), rs[i]? = some r → isOwn r = true → isOwn q = true → vs[i]? ≠ some w) → Rr K g0 g q w → Rr K g0 g' q w) ∧ WG K W g0 g'.S (f ss) R
  | mus, [], vs, g, f, R, st, sr, hv, h => by
    obtain ⟨hp, _⟩ := hv
    cases hp
    have h2 : WG K W g0 g.S (f []) R := by
      cases mus <;> exact WG.run (m := bindMany _ []) (S := g.S) rfl h
    exact ⟨[], g, rfl, st, sr, .nil, fun _ _ h => h, fun _ _ _ h => h, h2⟩
  | mus, r :: rs, vs, g, f, R, st, sr, hv, h => by
    obtain ⟨hp, hd⟩ := hv
    cases hp with
    | cons a b =>
      next v vs =>
      have step : ∀ (m : Bool) (ms : List Bool), WG K W g0 g.S (bd (bd (bindV m r) fun s => bd (bindMany ms rs) fun ss => ret (s :: ss)) f) R → (∃ ss g', g'.H = g.H ∧ Stp g0 g' ∧ SRc K g' ∧ Paired (Rs K g') ss (v :: vs) ∧ (∀ sv w, Rs K g sv w → Rs K g' sv w) ∧ (∀ q w, (∀ (i : Nat) (r' : RV), (r :: rs)[i]? = some r' → isOwn r' = true → isOwn q = true → (v :: vs)[i]? ≠ some w) → Rr K g0 g q w → Rr K g0 g' q w) ∧ WG K W g0 g'.S (f ss) R) := fun m ms h => by
        rw [bd_assoc] at h
        obtain ⟨s, g1, e1, st1, sr1, r1, k1, q1, h1⟩ := bindV_ok st sr a h
        rw [bd_assoc] at h1
        have hb : RrP K g0 g1 rs vs := by
          have : ∀ {rs : List RV} {vs : List V}, RrP K g0 g rs vs → (∀ (i : Nat) (q : RV), rs[i]? = some q → isOwn r = true → isOwn q = true → vs[i]? ≠ some v) → RrP K g0 g1 rs vs := fun {rs vs} hb => by
            induction hb with
            | nil => exact fun _ => .nil
            | cons x y ih =>
              intro hh
              exact .cons (q1 _ _ (fun o1 o2 z => hh 0 _ rfl o1 o2 (by rw [z]; rfl)) x) (ih fun i q e o1 o2 => hh (i + 1) q (by simpa using e) o1 o2)
          exact this b fun i q e o1 o2 => hd.1 o1 i q e o2
        obtain ⟨ss, g2, e2, st2, sr2, r2, k2, q2, h2⟩ := bindMany_ok (mus := ms) st1 sr1 ⟨hb, hd.2⟩ h1
        have h3 := WG.run (S' := g2.S) rfl h2
        exact ⟨s :: ss, g2, e2.trans e1, st2, sr2, .cons (k2 _ _ r1) r2, fun sv w h => k2 _ _ (k1 _ _ h), fun q w hw h => q2 q w (fun i r' e o1 o2 => hw (i + 1) r' (by simpa using e) o1 o2) (q1 q w (fun o1 o2 z => hw 0 r rfl o1 o2 (by rw [z]; rfl)) h), h3⟩
      cases mus with
      | nil => exact step false [] h
      | cons m ms => exact step m ms h
theorem avs_ok : ∀ {ss : List SV} {vs : List V} {avs : List AV} {ns : List Nat} (A' : List Addr), SRc K g → Paired (Rs K g) ss vs → avsOf ss g.S = some (avs, ns) →
    ∃ As : List Addr, As.length = ns.length ∧ Paired (fun (n : Nat) (a : Addr) => g.A[n]? = some a) ns As ∧ Paired (fun (n : Nat) (c : Cell) => g.S[n]? = some c) ns (cels avs) ∧
      ∀ g2 : G, (∀ p v, Rp K g.H g.F p v → Rp K g2.H g2.F p v) → (∀ (j : Nat) (a : Addr), As[j]? = some a → g2.A[A'.length + j]? = some a) → Paired (Rs K g2) (slots avs A'.length) vs
  | [], vs, avs, ns, A', sr, hp, e => by cases hp; cases e; exact ⟨[], rfl, .nil, .nil, fun _ _ _ => .nil⟩
  | .val p :: ss, vs, avs, ns, A', sr, hp, e => by
    cases hp with
    | cons a b =>
      unfold avsOf at e
      cases e2 : avsOf ss g.S with
      | none => rw [e2] at e; cases e
      | some x =>
        obtain ⟨a1, n1⟩ := x
        rw [e2] at e; cases e
        obtain ⟨As, h1, h2, h3, h4⟩ := avs_ok A' sr b e2
        exact ⟨As, h1, h2, h3, fun g2 k1 k2 => .cons (k1 _ _ a) (h4 g2 k1 k2)⟩
  | .ref m :: ss, vs, avs, ns, A', sr, hp, e => by
    cases hp with
    | cons a b =>
      unfold avsOf at e
      obtain ⟨x, rfl, hA⟩ := a
      cases e1 : g.S[m]? with
      | none => rw [e1] at e; cases e
      | some c =>
        cases e2 : avsOf ss g.S with
        | none => rw [e1, e2] at e; cases c <;> cases e
        | some y =>
          obtain ⟨a1, n1⟩ := y
          rw [e1, e2] at e
          cases c with
          | live p =>
            cases e
            obtain ⟨As, h1, h2, h3, h4⟩ := avs_ok (A' ++ [x]) sr b e2
            rw [List.length_append] at h4
            refine ⟨x :: As, by simp [h1], .cons hA h2, .cons e1 h3, fun g2 k1 k2 => .cons ⟨x, rfl, by simpa using k2 0 x rfl⟩ (h4 g2 k1 fun j a e => ?_)⟩
            have := k2 (j + 1) a (by simpa using e)
            have e3 : A'.length + [x].length + j = A'.length + (j + 1) := by simp; omega
            rw [e3]; exact this
          | nest es => cases e
          | froz p =>
            cases e
            obtain ⟨As, h1, h2, h3, h4⟩ := avs_ok A' sr b e2
            exact ⟨As, h1, h2, h3, fun g2 k1 k2 => .cons (k1 _ _ (sr.cell m x _ hA e1)) (h4 g2 k1 k2)⟩
theorem noDup_nodup : ∀ {ns : List Nat}, noDup ns = true → ns.Nodup
  | [], _ => List.nodup_nil
  | n :: ns, h => by
    unfold noDup at h
    simp only [Bool.and_eq_true, Bool.not_eq_true', List.contains_eq_mem, decide_eq_false_iff_not] at h
    exact List.nodup_cons.mpr ⟨h.1, noDup_nodup h.2⟩
theorem setAll_len : ∀ (S : Sto) (ns : List Nat) (cs : Sto), (setAll S ns cs).length = S.length
  | S, [], cs => by unfold setAll; rfl
  | S, n :: ns, [] => by unfold setAll; rfl
  | S, n :: ns, c :: cs => by unfold setAll; rw [setAll_len, List.length_set]
theorem setAll_off : ∀ (ns : List Nat) (S : Sto) (cs : Sto) (m : Nat), m ∉ ns → (setAll S ns cs)[m]? = S[m]?
  | [], S, cs, m, h => by unfold setAll; rfl
  | n :: ns, S, [], m, h => by unfold setAll; rfl
  | n :: ns, S, c :: cs, m, h => by
    have h1 := h
    simp only [List.mem_cons, not_or] at h1
    unfold setAll
    rw [setAll_off ns _ cs m h1.2, List.getElem?_set_ne (Ne.symm h1.1)]
theorem setAll_on : ∀ (ns : List Nat) (S : Sto) (cs : Sto) (j m : Nat) (c : Cell), ns.Nodup → ns[j]? = some m → cs[j]? = some c → m < S.length → (setAll S ns cs)[m]? = some c
  | [], S, cs, j, m, c, _, h, _, _ => by simp at h
  | n :: ns, S, [], j, m, c, _, _, h, _ => by simp at h
  | n :: ns, S, c0 :: cs, 0, m, c, hd, h1, h2, hm => by
    simp at h1 h2; subst h1 h2
    unfold setAll
    rw [setAll_off ns _ cs n (List.nodup_cons.mp hd).1, List.getElem?_set_self hm]
  | n :: ns, S, c0 :: cs, j + 1, m, c, hd, h1, h2, hm => by
    unfold setAll
    exact setAll_on ns _ cs j m c (List.nodup_cons.mp hd).2 (by simpa using h1) (by simpa using h2) (by rw [List.length_set]; exact hm)
/-- the callee's cells have come back -/
theorem back_ok {g' gE : G} {ns : List Nat} {As : List Addr} {cs : Sto} (sr : SRc K g) (hd : ns.Nodup) (hA : Paired (fun (n : Nat) (a : Addr) => g.A[n]? = some a) ns As) (hS : Paired (fun (n : Nat) (c : Cell) => g.S[n]? = some c) ns cs)
    (e1 : g'.H = g.H) (e2 : g'.F = g.F) (e3 : g'.A = As) (e4 : g'.S = cs) (lv : ∀ c ∈ cs, ∃ p, c = .live p) (st : Stp g' gE) (srE : SRc K gE) :
    Stp g { S := setAll g.S ns gE.S, A := g.A, H := gE.H, F := gE.F } ∧ SRc K { S := setAll g.S ns gE.S, A := g.A, H := gE.H, F := gE.F } := by
  have lA : As.length = ns.length := (Paired.length hA).symm
  -- the callee's cells are live cells here
  have lv' : ∀ b, Lv g' b → Lv g b := fun b ⟨m, v, ⟨q1, mv⟩, q2⟩ => by
    rw [e4] at q1; rw [e3] at q2
    have hm : m < ns.length := by rw [← lA]; exact (List.getElem?_eq_some_iff.mp q2).1
    obtain ⟨n, hn⟩ : ∃ n, ns[m]? = some n := ⟨_, List.getElem?_eq_getElem hm⟩
    obtain ⟨y, h1, h2⟩ := paired_get hA hn
    obtain ⟨z, h3, h4⟩ := paired_get hS hn
    rw [q2] at h1; cases h1
    rw [q1] at h3; cases h3
    exact ⟨n, v, ⟨h4, mv⟩, h2⟩
  have idx : ∀ {n j : Nat} {a : Addr}, ns[j]? = some n → g.A[n]? = some a → gE.A[j]? = some a := fun {n j a} h1 h2 => by
    obtain ⟨y, h3, h4⟩ := paired_get hA h1
    have h4 : g.A[n]? = some y := h4
    rw [h2] at h4; cases h4
    exact st.ext j _ (by rw [e3]; exact h3)
  have lvOf : ∀ {n j : Nat} {a : Addr}, ns[j]? = some n → g.A[n]? = some a → Lv g a := fun {n j a} h1 h2 => by
    obtain ⟨z, h3, h4⟩ := paired_get hS h1
    obtain ⟨p, rfl⟩ := lv z (List.mem_of_getElem? h3)
    exact ⟨n, _, ⟨h4, rfl⟩, h2⟩
  refine ⟨⟨fun c x e n => st.keep c x (by rw [e1]; exact e) fun z => n (lv' c z), fun c x e => st.dom c x (by rw [e1]; exact e), fun b h => st.fz b (by rw [e2]; exact h), fun b h => ?_, fun _ _ h => h, fun _ h => .inl h, fun b ⟨n, v, ⟨q1, mv⟩, q2⟩ => ?_, fun n c c' q q' z => ?_, by show _ ≤ (setAll g.S ns gE.S).length; rw [setAll_len]; exact Nat.le_refl _⟩,
    ⟨by show g.A.length = (setAll g.S ns gE.S).length; rw [setAll_len]; exact sr.len, sr.nd, fun n a c q1 q2 => ?_, fun a h => ?_, srE.fd⟩⟩
  · rcases st.fz' b h with z | z | z
    · rw [e2] at z; exact .inl z
    · exact .inr (.inl (lv' b z))
    · rw [e1] at z; exact .inr (.inr z)
  · by_cases hn : n ∈ ns
    · obtain ⟨j, hj⟩ := List.mem_iff_getElem?.mp hn
      exact .inl (lvOf hj q2)
    · have q1 : (setAll g.S ns gE.S)[n]? = _ := q1
      rw [setAll_off ns _ _ n hn] at q1
      exact .inl ⟨n, v, ⟨q1, mv⟩, q2⟩
  · have q' : (setAll g.S ns gE.S)[n]? = _ := q'
    by_cases hn : n ∈ ns
    · obtain ⟨j, hj⟩ := List.mem_iff_getElem?.mp hn
      have hl : n < g.S.length := (List.getElem?_eq_some_iff.mp q).1
      obtain ⟨z0, h3, h4⟩ := paired_get hS hj
      have hjl := st.ge
      rw [e4] at hjl
      obtain ⟨d, hd'⟩ : ∃ d, gE.S[j]? = some d := ⟨_, List.getElem?_eq_getElem (by have := (List.getElem?_eq_some_iff.mp h3).1; omega)⟩
      rw [setAll_on ns _ _ j n d hd hj hd' hl] at q'
      cases q'
      obtain ⟨p, hp⟩ := lv z0 (List.mem_of_getElem? h3)
      exact st.pl j z0 _ (by rw [e4]; exact h3) hd' (by rw [hp]; rfl)
    · rw [setAll_off ns _ _ n hn, q] at q'
      cases q'; exact z
  · have q1 : g.A[n]? = some a := q1
    have q2 : (setAll g.S ns gE.S)[n]? = some c := q2
    by_cases hn : n ∈ ns
    · obtain ⟨j, hj⟩ := List.mem_iff_getElem?.mp hn
      have hA2 := idx hj q1
      obtain ⟨c', hc'⟩ : ∃ c', gE.S[j]? = some c' := ⟨_, List.getElem?_eq_getElem (by rw [← srE.len]; exact (List.getElem?_eq_some_iff.mp hA2).1)⟩
      have hl : n < g.S.length := by rw [← sr.len]; exact (List.getElem?_eq_some_iff.mp q1).1
      rw [setAll_on ns _ _ j n c' hd hj hc' hl] at q2
      cases q2
      obtain ⟨z0, h3, h4⟩ := paired_get hS hj
      obtain ⟨p, hp⟩ := lv z0 (List.mem_of_getElem? h3)
      have hnn := st.pl j z0 c (by rw [e4]; exact h3) hc' (by rw [hp]; rfl)
      have kc := srE.cell j a c hA2 hc'
      cases c with
      | live v => exact kc
      | froz v => exact kc
      | nest es => cases hnn
    · rw [setAll_off ns _ _ n hn] at q2
      have k := sr.cell n a c q1 q2
      have nlv : ¬ Lv g' a := fun ⟨m, v, ⟨z1, _⟩, z2⟩ => by
        rw [e3] at z2
        have hm : m < ns.length := by rw [← lA]; exact (List.getElem?_eq_some_iff.mp z2).1
        obtain ⟨n2, hn2⟩ : ∃ n, ns[m]? = some n := ⟨_, List.getElem?_eq_getElem hm⟩
        obtain ⟨y, h1, h2⟩ := paired_get hA hn2
        rw [z2] at h1; cases h1
        have := (List.getElem?_inj (i := n) (j := n2) (List.getElem?_eq_some_iff.mp q1).1 sr.nd).mp (q1.trans h2.symm)
        exact hn (this ▸ List.mem_of_getElem? hn2)
      have kp : Keep g gE := ⟨fun b h => st.fz b (by rw [e2]; exact h), fun b x e hh => st.keep b x (by rw [e1]; exact e) fun z => by
        rcases hh with hh | hh
        · exact sr.nlv hh (lv' b z)
        · rcases sr.lvMut (lv' b z) with ⟨_, q⟩ | ⟨_, q⟩ | ⟨_, q⟩ <;> rw [e] at q <;> cases q <;> exact hh⟩
      refine CellOk.keep (g := g) (g' := { S := setAll g.S ns gE.S, A := g.A, H := gE.H, F := gE.F }) ⟨kp.fz, kp.keep⟩ (fun _ _ h => h) (fun mc => ?_) (fun mc z => ?_) k
      · obtain ⟨x, hx⟩ := k.ex mc
        exact (st.keep a x (by rw [e1]; exact hx) nlv).trans hx.symm
      · rcases st.fz' a z with z | z | z
        · rw [e2] at z; exact z
        · exact absurd z nlv
        · obtain ⟨x, hx⟩ := k.ex mc
          rw [e1, hx] at z; cases z
  · obtain ⟨x, hx⟩ := sr.dom a h
    exact st.dom a x (by rw [e1]; exact hx)
theorem cels_live : ∀ {avs : List AV}, ∀ c ∈ cels avs, ∃ p, c = .live p
  | [], c, h => by simp [cels] at h
  | .val p :: r, c, h => cels_live (avs := r) c h
  | .cel p :: r, c, h => by
    rcases List.mem_cons.mp h with e | h
    · exact ⟨p, e⟩
    · exact cels_live (avs := r) c h
/-- a call -/
theorem callF_ok {F : Fn} {ss : List SV} {vs : List V} {Q : RV → G → Prop} {Q' : VK} (st0 : Stp g0 g) (sr : SRc K g) (hv : Paired (Rs K g) ss vs) (h : WG K W g0 g.S (callF F ss) Q) (q : ∀ r g' v, Stp g g' → SRc K g' → Rr K g0 g' r v → Q r g' → Q' v g'.H) : spF K F vs g.H Q' := by
  unfold WG callF at h
  cases e : avsOf ss g.S with
  | none => simp only [e] at h
  | some x =>
    obtain ⟨avs, ns⟩ := x
    simp only [e] at h
    cases hd : noDup ns with
    | false => simp only [hd] at h; exact h.elim
    | true =>
      simp only [hd, if_true] at h
      obtain ⟨As, l1, p1, p2, p3⟩ := avs_ok [] sr hv e
      have srC : SRc K { S := cels avs, A := As, H := g.H, F := g.F } := by
        refine ⟨?_, ?_, fun m a c q1 q2 => ?_, fun a h => ?_, sr.fd⟩
        · show As.length = (cels avs).length
          rw [l1]; exact Paired.length p2
        · have : ∀ {ns : List Nat} {As : List Addr}, Paired (fun (n : Nat) (a : Addr) => g.A[n]? = some a) ns As → ns.Nodup → As.Nodup := fun {ns As} hp => by
            induction hp with
            | nil => exact fun _ => List.nodup_nil
            | @cons n a _ as x y ih =>
              intro hn
              obtain ⟨h1, h2⟩ := List.nodup_cons.mp hn
              refine List.nodup_cons.mpr ⟨fun z => ?_, ih h2⟩
              have : ∀ {ns : List Nat} {As : List Addr}, Paired (fun (n : Nat) (a : Addr) => g.A[n]? = some a) ns As → a ∈ As → n ∈ ns := fun {ns As} hp => by
                induction hp with
                | nil => exact fun z => by cases z
                | cons x' y' ih' =>
                  intro z
                  rcases List.mem_cons.mp z with z | z
                  · subst z
                    have x' : g.A[_]? = some a := x'
                    have x : g.A[n]? = some a := x
                    have := (List.getElem?_inj (List.getElem?_eq_some_iff.mp x).1 sr.nd).mp (x.trans x'.symm)
                    rw [this]; exact List.mem_cons_self
                  · exact List.mem_cons_of_mem _ (ih' z)
              exact h1 (this y z)
          exact this p1 (noDup_nodup hd)
        · have hm : m < ns.length := by rw [← l1]; exact (List.getElem?_eq_some_iff.mp q1).1
          obtain ⟨n, hn⟩ : ∃ n, ns[m]? = some n := ⟨_, List.getElem?_eq_getElem hm⟩
          obtain ⟨y, h1, h2⟩ := paired_get p1 hn
          obtain ⟨z, h3, h4⟩ := paired_get p2 hn
          have q1 : As[m]? = some a := q1
          have q2 : (cels avs)[m]? = some c := q2
          rw [q1] at h1; cases h1
          rw [q2] at h3; cases h3
          have kc := sr.cell n a c h2 h4
          obtain ⟨p, rfl⟩ := cels_live c (List.mem_of_getElem? q2)
          exact kc
        · obtain ⟨m, hm⟩ := List.mem_iff_getElem?.mp h
          have hm' : m < ns.length := by rw [← l1]; exact (List.getElem?_eq_some_iff.mp hm).1
          obtain ⟨n, hn⟩ : ∃ n, ns[m]? = some n := ⟨_, List.getElem?_eq_getElem hm'⟩
          obtain ⟨y, h1, h2⟩ := paired_get p1 hn
          have hm : As[m]? = some a := hm
          rw [hm] at h1; cases h1
          exact sr.dom a (List.mem_of_getElem? h2)
      refine ⟨{ S := cels avs, A := As, H := g.H, F := g.F }, avs, rfl, srC, rfl, p3 _ (fun _ _ h => h) (fun j a e => by simpa using e), ?_⟩
      cases e5 : F avs with
      | stuck => rw [e5] at h; exact h.elim
      | exc a b c => rw [e5] at h; exact h.elim
      | ok r outs =>
        rw [e5] at h
        intro gE v hE st srE hr
        subst hE
        obtain ⟨b1, b2⟩ := back_ok (g' := { S := cels avs, A := As, H := g.H, F := g.F }) sr (noDup_nodup hd) p1 p2 rfl rfl rfl rfl cels_live st srE
        have st1 := st0.trans b1
        cases r with
        | ref n => exact h.elim
        | val p => exact q (.val p) { S := setAll g.S ns gE.S, A := g.A, H := gE.H, F := gE.F } v b1 b2 hr (h { S := setAll g.S ns gE.S, A := g.A, H := gE.H, F := gE.F } rfl st1 b2)
        | own p =>
          obtain ⟨a, rfl, h1, h2, h3, h4⟩ := hr
          refine q (.own p) { S := setAll g.S ns gE.S, A := g.A, H := gE.H, F := gE.F } (.ref a) b1 b2 ⟨a, rfl, h1, h2, fun z => ?_, st0.absent h4⟩ (h { S := setAll g.S ns gE.S, A := g.A, H := gE.H, F := gE.F } rfl st1 b2)
          obtain ⟨x, hx⟩ := sr.dom a z
          have h4 : g.H a = none := h4
          rw [h4] at hx; cases hx
end
end Pf
end
section
set_option Elab.async false
set_option linter.all false
set_option maxHeartbeats 1000000
set_option autoImplicit false
namespace Pf
open PySem PySem.Spec L2 PyProof.Rows
structure CalG (P : Program) (w : World) (K : Frag) (mg : Str → Option Value) (base : Heap) (k : Nat) (x : Str) (D : He.DefD) (ps : List Str) (F : Fn) : Prop where
  ex : ∃ (f : Addr) (fd : FuncData), FnG P w K mg base k f fd ps (spF K F) ∧ mg x = some (.ref f) ∧ PySem.W.keepIn K (.ref f) = true ∧
    ∃ (kV doc pm : Value) (an : Option Addr) (cdv ct : Value), fd = PySem.W.fnOf D.name D.qual D.params D.body D.scope .none kV doc pm an cdv ct
theorem CalG.mono {P : Program} {w : World} {K : Frag} {mg : Str → Option Value} {base : Heap} {j k : Nat} {x : Str} {D : He.DefD} {ps : List Str} {F : Fn} (c : CalG P w K mg base j x D ps F) (h : j ≤ k) : CalG P w K mg base k x D ps F :=
  let ⟨f, fd, a, b⟩ := c.ex
  ⟨f, fd, a.mono h, b⟩
theorem calG {P : Program} {w : World} {K : Frag} {mg : Str → Option Value} {base : Heap} {D : He.DefD} {f : Addr} {fd : FuncData} {N ps : List Str} {k : Nat} {d : DenS} (F : FunD K D.name D.qual D.params D.body D.scope [] [] f fd) (hm : mg D.name = some (.ref f)) (S : FnScope N ps D.scope)
    (hbody : ∀ (cdv : Value) (A : Around) (outer : List PySem.Env) (s : Shared) (H : Hp), Room k (A.deeper (envOfC D.qual D.scope s.heap.objs.size f cdv)) → A.guards = some [] →
      PSs (cxOf CX0 P w K mg base N D.qual D.scope f cdv A outer s H E0).nox D.body (tS K W0 d)) : CalG P w K mg base (k + 1) D.name D ps (runF N.length d) := by
  refine ⟨f, fd, fnG_body F S hbody, hm, F.kp, ?_⟩
  obtain ⟨oc, od, dV, kV, doc, pm, an, cdv, ct, osl, rfl, lk, hcd, hD, _⟩ := F.ex
  have e : dV = .none := by
    rcases hD with h | h
    · exact h.2
    · exact absurd rfl h.1
  subst e
  exact ⟨kV, doc, pm, an, cdv, ct, rfl⟩
section
variable {X : Cx} {W : WS} {j k np : Nat} {x : Str} {D : He.DefD} {ps ks : List Str} {F : Fn} {p pos : Pos} {e : Expr} {es : List Expr} {ds dk : List Den} {mus : List Bool} {perm : List Nat} {kws : List Keyword}
theorem run_fnG {f : Addr} {fd : FuncData} {sp : List V → Hp → VK → Prop} {pins : List (Addr × Obj)} {σ : L2.St} {H : Hp} {s : Shared} {Q : VK} {us : List Value} {vs : List V} {args : Args} (Fk : FnG X.prog X.w X.K X.mg X.base k f fd ps sp) (hr : Room k X.A) (hgd : X.A.guards = some []) (I : Inv X pins σ H s)
    (hb : BindsTo s fd args (ps.zip us)) (r : Vals vs us) (hl : vs.length = ps.length) (h : sp vs H Q) : codeAny (model X.prog X.w) X.A (.call (.ref f) args) (fun r s' => match r with
      | .ok (.ret u) => EP X pins σ Q u s'
      | .ok _ => False
      | .error e => X.xe e s') s := by
  refine codeAny_mono (Fk.run X.A X.stack s H args us vs Q hr hgd I.env0 hb r hl h) fun r s' hq => ?_
  cases r with
  | error e => exact False.elim hq
  | ok fl =>
    cases fl with
    | ret u => exact I.after hq
    | next => exact False.elim hq
    | brk => exact False.elim hq
    | cont => exact False.elim hq
theorem callN_ok {K : Frag} {g0 g : G} {Wx : XW} {ss : List SV} {vs : List V} {Q : RV → G → Prop} {Q' : VK} (st0 : Stp g0 g) (sr : SRc K g) (hv : Paired (Rs K g) ss vs) (h : WG K Wx g0 g.S (callN np F ss) Q) (q : ∀ r g' v, Stp g g' → SRc K g' → Rr K g0 g' r v → Q r g' → Q' v g'.H) : vs.length = np ∧ spF K F vs g.H Q' := by
  unfold callN at h
  by_cases hl : ss.length = np
  · rw [if_pos hl] at h
    exact ⟨by rw [← hl]; exact (Paired.length hv).symm, callF_ok st0 sr hv h q⟩
  · rw [if_neg hl] at h
    exact (stk_ok h).elim
theorem dCall_of {K : Frag} {σ : L2.St} {H : Hp} {Q : VK} (h : tD K W (dCall np F mus ds) σ H Q) : tDs K W ds σ H fun vs H1 => vs.length = np ∧ spF K F vs H1 Q := by
  obtain ⟨ρ, g, e, sr, se, h⟩ := h
  subst e
  refine tDs.bd (Stp.refl g) sr se h fun rs g1 vs st _ sr1 se1 hv h1 => ?_
  obtain ⟨ss, g2, e2, st2, sr2, r2, _, _, h2⟩ := bindMany_ok st sr1 (hv.from (Stp.refl g)) h1
  rw [← e2]
  exact callN_ok st2 sr2 r2 h2 fun r g' v st' sr' hr hq => hq v hr
theorem pe_gcall (c : CalG X.prog X.w X.K X.mg X.base k x D ps F) (hr : Room j X.A) (hk : k ≤ j) (hgd : X.A.guards = some []) (hg : Gl X x) (hnp : ps.length = np)
    (hb : ∀ (kV doc pm : Value) (an : Option Addr) (cdv ct : Value) (us : List Value), us.length = ps.length → bindArgs (PySem.W.fnOf D.name D.qual D.params D.body D.scope .none kV doc pm an cdv ct) ⟨us, []⟩ = pure (ps.zip us))
    (ha : PA X (e :: es) (tDs X.K W ds)) (hdb : (x == ("__debug__" : Str)) = false := by decide) (he : starEach (e :: es) X.env = (false, eval e X.env) :: starEach es X.env := by rfl) (hpl : (backTo pos (starEach es X.env)).any (·.1) = false := by rfl) :
    PE X (.Call (.Name x p) (e :: es) [] pos) (tD X.K W (dCall np F mus ds)) := by
  obtain ⟨f, fd, Fk, hm, kp, kV, doc, pm, an, cdv, ct, rfl⟩ := c.ex
  refine ⟨fun pins s σ H Q I h => ?_⟩
  have h := dCall_of h
  refine wpAny_Call_Name_kw (ld_glob I hg hm ?_ hdb)
  refine PySem.W.callWith_K (h₀ := X.base) I.ok.mod.kin kp (thn (ha.run pos pins s σ H _ I h) fun us s1 ⟨vs, H1, I1, r, hl, q⟩ => ⟨I1.kIn, ?_⟩) he hpl
  have hl2 : us.length = ps.length := by rw [hnp, ← hl]; exact r.length.symm
  exact wpAny_call (codeAny_mono (run_fnG Fk (hr.mono hk) hgd I1 (.of_eq (hb kV doc pm an cdv ct us hl2)) r (hl.trans hnp.symm) q) fun r s' hq => by
    cases r with
    | error e => exact hq
    | ok fl => cases fl <;> first | exact hq | exact hq.elim)
theorem pe_gcall0 (c : CalG X.prog X.w X.K X.mg X.base k x D [] F) (hr : Room j X.A) (hk : k ≤ j) (hgd : X.A.guards = some []) (hg : Gl X x)
    (hb : ∀ (kV doc pm : Value) (an : Option Addr) (cdv ct : Value), bindArgs (PySem.W.fnOf D.name D.qual D.params D.body D.scope .none kV doc pm an cdv ct) ⟨[], []⟩ = pure [])
    (hdb : (x == ("__debug__" : Str)) = false := by decide) :
    PE X (.Call (.Name x p) [] [] pos) (tD X.K W (dCall 0 F [] [])) := by
  obtain ⟨f, fd, Fk, hm, kp, kV, doc, pm, an, cdv, ct, rfl⟩ := c.ex
  refine ⟨fun pins s σ H Q I h => ?_⟩
  have h := dCall_of h
  refine wpAny_Call_Name_kw (ld_glob I hg hm ?_ hdb)
  have h3 : 0 = 0 ∧ spF X.K F [] H Q := by
    obtain ⟨ρ, g, e, sr, se, hx⟩ := h
    subst e
    exact hx.ret rfl (Stp.refl g) sr [] ⟨.nil, trivial⟩
  exact PySem.W.callWith_K0 I.kIn kp (wpAny_call (codeAny_mono (run_fnG (us := []) (vs := []) Fk (hr.mono hk) hgd I (.of_eq (hb kV doc pm an cdv ct)) .nil rfl h3.2) fun r s' hq => by
    cases r with
    | error e => exact hq
    | ok fl => cases fl <;> first | exact hq | exact hq.elim))
/-! keywords -/
theorem pk_d0 : PK X [] (tDs X.K W []) := ⟨fun pos pins s σ H Q I ⟨ρ, g, e, sr, se, h⟩ => by
  subst e
  exact pk_nil.run pos pins s σ g.H Q I (h.ret rfl (Stp.refl g) sr [] ⟨.nil, trivial⟩)⟩
theorem pk_d1 {nm : Option Str} {kpos : Pos} {d : Den} (h1 : PE X e (tD X.K W d)) (h2 : PK X kws (tDs X.K W dk)) : PK X (⟨nm, e, kpos⟩ :: kws) (tDs X.K W (d :: dk)) :=
  ⟨fun pos pins s σ H Q I ⟨ρ, g, e, sr, se, h⟩ => by
    subst e
    refine (pk_cons h1 h2).run pos pins s σ g.H Q I ?_
    refine tD.bd (Stp.refl g) sr se h fun r g1 v st _ sr1 se1 hv h1 => ?_
    refine tDs.bd st sr1 se1 h1 fun rs g2 vs st2 st02 sr2 se2 hvs h2 => ?_
    refine h2.ret rfl st02 sr2 (v :: vs) ⟨.cons (hv.step sr1 st2) (hvs.from st).1, fun o i r' e1 e2 e3 => ?_, hvs.2⟩
    obtain ⟨a, e4, z⟩ := hvs.1.own e1 e2 e3
    cases r <;> simp [isOwn] at o
    obtain ⟨b, e5, hb, _⟩ := hv
    obtain ⟨y, hy⟩ := hb.ex
    rw [e4] at e5
    cases e5
    rw [z] at hy; cases hy⟩
theorem paired_append {α β : Type} {R : α → β → Prop} : ∀ {xs zs : List α} {ys ws : List β}, Paired R xs ys → Paired R zs ws → Paired R (xs ++ zs) (ys ++ ws)
  | _, _, _, _, .nil, h => h
  | _, _, _, _, .cons a b, h => .cons a (paired_append b h)
theorem paired_permL {α β : Type} {R : α → β → Prop} {xs : List α} {ys : List β} (h : Paired R xs ys) : ∀ perm : List Nat, Paired R (permL perm xs) (permL perm ys)
  | [] => .nil
  | n :: ns => by
    have ih := paired_permL h ns
    unfold permL at ih ⊢
    cases e : xs[n]? with
    | none =>
      have hl := Paired.length h
      have e2 : ys[n]? = none := List.getElem?_eq_none (by have := List.getElem?_eq_none_iff.mp e; omega)
      rw [List.filterMap_cons_none e, List.filterMap_cons_none e2]
      exact ih
    | some x =>
      obtain ⟨y, hy, r⟩ := paired_get h e
      rw [List.filterMap_cons_some e, List.filterMap_cons_some hy]
      exact .cons r ih
theorem vals_append {vs ws : List V} {us zs : List Value} (a : Vals vs us) (b : Vals ws zs) : Vals (vs ++ ws) (us ++ zs) := a.append b
/-- the results of two argument lists, one behind the other -/
theorem RrL.app {K : Frag} {g g1 g2 : G} {rs qs : List RV} {vs ws : List V} (sr1 : SRc K g1) (st1 : Stp g g1) (st2 : Stp g1 g2) (h1 : RrL K g g1 rs vs) (h2 : RrL K g1 g2 qs ws) : RrL K g g2 (rs ++ qs) (vs ++ ws) := by
  refine ⟨paired_append (RrP.step sr1 st2 h1.1) (RrP.from st1 h2.1), ?_⟩
  have key : ∀ {rs : List RV} {vs : List V}, RrP K g g1 rs vs → ODist rs vs → ODist (rs ++ qs) (vs ++ ws) := fun {rs vs} hp => by
    induction hp with
    | nil => exact fun _ => h2.2
    | @cons r v rs vs a b ih =>
      intro hd
      refine ⟨fun o i q e oq z => ?_, ih hd.2⟩
      have e : (rs ++ qs)[i]? = some q := e
      have z : (vs ++ ws)[i]? = some v := z
      by_cases hi : i < rs.length
      · rw [List.getElem?_append_left hi] at e
        rw [List.getElem?_append_left (by rw [← Paired.length b]; exact hi)] at z
        exact hd.1 o i q e oq z
      · rw [List.getElem?_append_right (by omega)] at e
        rw [List.getElem?_append_right (by rw [← Paired.length b]; omega), ← Paired.length b] at z
        obtain ⟨x, e4, y⟩ := h2.1.own e oq z
        cases r <;> simp [isOwn] at o
        obtain ⟨b', e5, hb, _⟩ := a
        obtain ⟨y', hy⟩ := hb.ex
        rw [e5] at e4
        cases e4
        rw [y] at hy; cases hy
  exact key h1.1 h1.2
theorem vals_permL {vs : List V} {us : List Value} (h : Vals vs us) (perm : List Nat) : Vals (permL perm vs) (permL perm us) := paired_permL h perm
theorem dCallK_of {K : Frag} {σ : L2.St} {H : Hp} {Q : VK} (h : tD K W (dCallK np F perm mus ds dk) σ H Q) : tDs K W ds σ H fun vs H1 => tDs K W dk σ H1 fun ws H2 => (permL perm (vs ++ ws)).length = np ∧ spF K F (permL perm (vs ++ ws)) H2 Q := by
  obtain ⟨ρ, g, e, sr, se, h⟩ := h
  subst e
  refine tDs.bd (Stp.refl g) sr se h fun rs g1 vs st _ sr1 se1 hv h1 => ?_
  refine tDs.bd st sr1 se1 h1 fun qs g2 ws st2 st02 sr2 se2 hws h2 => ?_
  obtain ⟨ss, g3, e3, st3, sr3, r3, _, _, h3⟩ := bindMany_ok st02 sr2 (RrL.app sr1 st st2 hv hws) h2
  rw [← e3]
  exact callN_ok st3 sr3 (paired_permL r3 perm) h3 fun r g' v st' sr' hr hq => hq v hr
theorem tDs_len {K : Frag} {ds : List Den} {σ : L2.St} {H : Hp} {Q : List V → Hp → Prop} (h : tDs K W ds σ H Q) : tDs K W ds σ H fun vs H1 => vs.length = ds.length ∧ Q vs H1 := by
  obtain ⟨ρ, g, e, sr, se, h⟩ := h
  refine ⟨ρ, g, e, sr, se, ?_⟩
  have : ∀ (ds : List Den) (S : Sto), (∀ rs S', evAll ds ρ S = .ok rs S' → rs.length = ds.length) := fun ds => by
    induction ds with
    | nil => intro S rs S' e; cases e; rfl
    | cons d ds ih =>
      intro S rs S' e
      simp only [evAll, bd] at e
      cases e1 : d ρ S with
      | stuck => rw [e1] at e; cases e
      | exc a b c => rw [e1] at e; cases e
      | ok r S1 =>
        rw [e1] at e
        simp only at e
        cases e2 : evAll ds ρ S1 with
        | stuck => rw [e2] at e; cases e
        | exc a b c => rw [e2] at e; cases e
        | ok rs1 S2 =>
          rw [e2] at e
          cases e
          simp [ih _ _ _ e2]
  unfold WG at h ⊢
  cases e2 : evAll ds ρ g.S with
  | stuck => rw [e2] at h; exact h
  | exc a b c => rw [e2] at h; exact h
  | ok rs S' =>
    rw [e2] at h
    intro g' h1 h2 h3 vs hv
    exact ⟨by rw [← Paired.length hv.1]; exact this ds g.S rs S' e2, h g' h1 h2 h3 vs hv⟩
theorem pe_gcallK (c : CalG X.prog X.w X.K X.mg X.base k x D ps F) (hr : Room j X.A) (hk : k ≤ j) (hgd : X.A.guards = some []) (hg : Gl X x) (hnp : ps.length = np) (hwd : dk.length = ks.length)
    (hb : ∀ (kV doc pm : Value) (an : Option Addr) (cdv ct : Value) (us ws : List Value), us.length = ds.length → ws.length = ks.length → bindArgs (PySem.W.fnOf D.name D.qual D.params D.body D.scope .none kV doc pm an cdv ct) ⟨us, ks.zip ws⟩ = pure (ps.zip (permL perm (us ++ ws))))
    (ha : PA X (e :: es) (tDs X.K W ds)) (hkw : PK X kws (tDs X.K W dk)) (hall : (backToKw pos (keywordEach kws X.env)).all (·.1.isSome) = true := by rfl) (hks : (backToKw pos (keywordEach kws X.env)).filterMap (·.1) = ks := by rfl)
    (hdb : (x == ("__debug__" : Str)) = false := by decide) (he : starEach (e :: es) X.env = (false, eval e X.env) :: starEach es X.env := by rfl)
    (hpl : ((backTo pos (starEach (e :: es) X.env)).any (·.1) || (backToKw pos (keywordEach kws X.env)).any (·.1.isNone)) = false := by rfl) :
    PE X (.Call (.Name x p) (e :: es) kws pos) (tD X.K W (dCallK np F perm mus ds dk)) := by
  obtain ⟨f, fd, Fk, hm, kp, kV, doc, pm, an, cdv, ct, rfl⟩ := c.ex
  refine ⟨fun pins s σ H Q I h => ?_⟩
  have h := tDs_len (dCallK_of h)
  refine wpAny_Call_Name_kw (ld_glob I hg hm ?_ hdb)
  refine PySem.W.callWith_KW (h₀ := X.base) I.ok.mod.kin kp hall (thn (ha.run pos pins s σ H _ I h) fun us s1 ⟨vs, H1, I1, r, hl0, q⟩ => ?_) hpl he
  refine thn (hkw.run pos pins s1 σ H1 _ I1 (tDs_len q)) fun ws s2 ⟨zs, H2, I2, rz, hl1, hl2, q2⟩ => ⟨I2.kIn, ?_⟩
  rw [hks]
  have r2 := vals_permL (vals_append r rz) perm
  exact wpAny_call (codeAny_mono (run_fnG Fk (hr.mono hk) hgd I2 (.of_eq (hb kV doc pm an cdv ct us ws (by rw [← hl0]; exact r.length.symm) (by rw [← hwd, ← hl1]; exact rz.length.symm))) r2 (hl2.trans hnp.symm) q2) fun r s' hq => by
    cases r with
    | error e => exact hq
    | ok fl => cases fl <;> first | exact hq | exact hq.elim)
theorem pe_gcallK0 (c : CalG X.prog X.w X.K X.mg X.base k x D ps F) (hr : Room j X.A) (hk : k ≤ j) (hgd : X.A.guards = some []) (hg : Gl X x) (hnp : ps.length = np) (hwd : dk.length = ks.length)
    (hb : ∀ (kV doc pm : Value) (an : Option Addr) (cdv ct : Value) (ws : List Value), ws.length = ks.length → bindArgs (PySem.W.fnOf D.name D.qual D.params D.body D.scope .none kV doc pm an cdv ct) ⟨[], ks.zip ws⟩ = pure (ps.zip (permL perm ws)))
    (hkw : PK X kws (tDs X.K W dk)) (hall : (backToKw pos (keywordEach kws X.env)).all (·.1.isSome) = true := by rfl) (hks : (backToKw pos (keywordEach kws X.env)).filterMap (·.1) = ks := by rfl)
    (hdb : (x == ("__debug__" : Str)) = false := by decide)
    (hpl : ((backTo pos (starEach [] X.env)).any (·.1) || (backToKw pos (keywordEach kws X.env)).any (·.1.isNone)) = false := by rfl) :
    PE X (.Call (.Name x p) [] kws pos) (tD X.K W (dCallK np F perm mus [] dk)) := by
  obtain ⟨f, fd, Fk, hm, kp, kV, doc, pm, an, cdv, ct, rfl⟩ := c.ex
  refine ⟨fun pins s σ H Q I h => ?_⟩
  have h := dCallK_of h
  refine wpAny_Call_Name_kw (ld_glob I hg hm ?_ hdb)
  have h3 : tDs X.K W dk σ H fun ws H2 => (permL perm ([] ++ ws)).length = np ∧ spF X.K F (permL perm ([] ++ ws)) H2 Q := by
    obtain ⟨ρ, g, e, sr, se, hx⟩ := h
    subst e
    exact hx.ret rfl (Stp.refl g) sr [] ⟨.nil, trivial⟩
  refine PySem.W.callWith_KW0 (h₀ := X.base) I.ok.mod.kin kp hall ?_ hpl
  refine thn (hkw.run pos pins s σ H _ I (tDs_len h3)) fun ws s2 ⟨zs, H2, I2, rz, hl1, hl2, q2⟩ => ⟨I2.kIn, ?_⟩
  rw [hks]
  have r2 := vals_permL rz perm
  exact wpAny_call (codeAny_mono (run_fnG Fk (hr.mono hk) hgd I2 (.of_eq (hb kV doc pm an cdv ct ws (by rw [← hwd, ← hl1]; exact rz.length.symm))) r2 (hl2.trans hnp.symm) q2) fun r s' hq => by
    cases r with
    | error e => exact hq
    | ok fl => cases fl <;> first | exact hq | exact hq.elim)
end
end Pf
end
section
set_option Elab.async false
set_option linter.all false
set_option maxHeartbeats 1000000
set_option autoImplicit false
namespace Pf
open PySem PySem.Spec L2 PyProof.Rows
/-! the head -/
def frS (n : Nat) (g : Addr → Option Obj) : Frag := He.frG g (sysModules :: He.asD g n)
/-- the module's tuples of whole numbers -/
abbrev Tb : Type := List (Str × List Int)
def tbB (K : Frag) (t : Str × List Int) : Bool := He.tupB K t.1 (t.2.map He.Dv.int)
def obsS (n : Nat) (fa : List He.Fa) (tb : Tb) (fn : List He.DefD) (g : Addr → Option Obj) : He.AlD := ((He.obsD fa fn (frS n g)).1 && (((frS n g).lookup sysModules).isSome && tb.all (tbB (frS n g))), (He.obsD fa fn (frS n g)).2)
structure SaysS (fa : List He.Fa) (tb : Tb) (fn : List He.DefD) (K : Frag) : Prop where
  d : He.SaysD fa fn K
  sys : ∃ o, K.lookup sysModules = some o
  tb : tb.all (tbB K) = true
def hookS (n : Nat) (fa : List He.Fa) (tb : Tb) (fn : List He.DefD) : PySem.W.Hook where
  α := He.AlD
  obs := fun s => obsS n fa tb fn s.heap.get?
  val := fun _ => He.valD fn
  says := fun _ h => ∃ K : Frag, K.In h ∧ SaysS fa tb fn K
  of := fun _ s e => by
    have e : obsS n fa tb fn s.heap.get? = He.valD fn := e
    have e1 : ((He.obsD fa fn (frS n s.heap.get?)).1 && (((frS n s.heap.get?).lookup sysModules).isSome && tb.all (tbB (frS n s.heap.get?)))) = true := congrArg (fun z : He.AlD => z.1) e
    have e2 : (obsS n fa tb fn s.heap.get?).2 = (He.valD fn).2 := congrArg (fun z : He.AlD => z.2) e
    obtain ⟨h1, h2⟩ := He.ba e1
    obtain ⟨h3, h4⟩ := He.ba h2
    exact ⟨frS n s.heap.get?, He.frG_in, Prod.ext h1 e2, Option.isSome_iff_exists.mp h3, h4⟩
  keeps := fun _ _ _ ⟨K, hK, c⟩ k => ⟨K, PySem.W.Frag.In.keeps hK k, c⟩
theorem obsS_eq {n : Nat} {fa : List He.Fa} {tb : Tb} {fn : List He.DefD} {g : Addr → Option Obj} {s : Shared} (h : ∀ a, g a = s.heap.get? a) : obsS n fa tb fn g = (hookS n fa tb fn).obs s := by
  have e : g = s.heap.get? := funext h
  rw [e] <;> rfl
theorem SaysS.tup {fa : List He.Fa} {tb : Tb} {fn : List He.DefD} {K : Frag} (c : SaysS fa tb fn K) (i : Nat) {x : Str} {ns : List Int} (h : tb[i]? = some (x, ns) := by rfl) (H : Hp) : SqT K H (He.ga K x) (ns.map V.int) := by
  have h1 := List.all_eq_true.mp c.tb _ (List.mem_of_getElem? h)
  have h2 := He.tupB_ok h1 H
  rw [List.map_map] at h2
  exact h2
theorem callG {P : Program} {w : World} {K : Frag} {mg mb : Str → Option Value} {k : Nat} {fa a : Addr} {fd : FuncData} {x : Str} {sp : List V → Hp → VK → Prop} {s₁ : Shared} {vs : List Value} {ns : List Int}
    (KX : K.In s₁.heap) (hns : s₁.heap.Ns mainGlobals mg) (hb : s₁.heap.Ns builtinsNs mb) (hbb : ∀ x : Str, x ≠ "__name__" → mb x = bootBuiltins x) (hlim : s₁.heap.NoLimit) (hg : s₁.gens = #[])
    (ha : s₁.heap.get? a = some { cls := .type "list", data := .seq vs.toArray }) (hi : IntsAre vs ns) (hl : ns.length ≤ sizeLine) (hr : Room k callerA)
    (F : ∀ base : Heap, K.In base → base.Ns mainGlobals mg → FnG P w K mg base k fa fd [x] sp) (hbind : ∀ (s : Shared) (u : Value), BindsTo s fd ⟨[u], []⟩ [(x, u)])
    (hsp : ∀ H : Hp, Only H → Scr K H a ns → sp [.ref a] H (fun v _ => v = .bl true)) :
    codeAny (model P w) callerA (.call (.ref fa) ⟨[.ref a], []⟩) (fun r s' => r = .ok (.ret (.bool true)) ∧ OldK s₁.heap s'.heap ∧ s'.os = s₁.os ∧ AllBare s'.gens) s₁ := by
  have rv := vals_ints hi
  have lenV := hi.length
  have main : ∀ H : Hp, Only H → Scr K H a ns → HOk P w H s₁.heap → (∀ b, H b ≠ none → b = a) → (H a ≠ none → K.lookup a = none) →
      codeAny (model P w) callerA (.call (.ref fa) ⟨[.ref a], []⟩) (fun r s' => r = .ok (.ret (.bool true)) ∧ OldK s₁.heap s'.heap ∧ s'.os = s₁.os ∧ AllBare s'.gens) s₁ := by
    intro H hO hS hok hA hK
    have base_of : ∀ {b : Addr} {o : Obj}, s₁.heap.get? b = some o → H b = none → (hidT s₁.heap H).get? b = some o := fun e n => hidT_get e n
    have atA : ∀ {b : Addr}, H b ≠ none → s₁.heap.get? b = some { cls := .type "list", data := .seq vs.toArray } := fun {b} q => by
      rw [hA b q]; exact ha
    have noA : ∀ {b : Addr} {o : Obj} {es : Array DictEntry} {ep : Nat}, s₁.heap.get? b = some o → o.data = .dict es ep → H b = none := fun {b o es ep} e d => by
      by_cases q : H b = none
      · exact q
      · rw [atA q] at e
        cases e
        exact Data.noConfusion d
    have nsK : ∀ {b : Addr} {m : Str → Option Value}, s₁.heap.Ns b m → (hidT s₁.heap H).Ns b m := fun {b m} ⟨o, es, ep, e, d, r⟩ => ⟨o, es, ep, base_of e (noA e d), d, r⟩
    have hKb : K.In (hidT s₁.heap H) := fun b o e => base_of (KX b o e) (by
      by_cases q : H b = none
      · exact q
      · have e' := hA b q
        subst e'
        rw [hK q] at e; cases e)
    have hM : Mod K mg (hidT s₁.heap H) := ⟨hKb, nsK hns, ⟨mb, nsK hb, hbb⟩, let ⟨mc, h1, h2⟩ := hlim; ⟨mc, nsK h1, h2⟩⟩
    have e0 : Env0 P w K mg (hidT s₁.heap H) callerA [] s₁ H := ⟨rfl, hM, fun b o e => of_hidT e, Nat.le_of_eq (hidT_size _ _), trivial, fun b hb => absurd (show b ∈ ([] : List Addr) from hb) (by simp), hok, .of_eq hg⟩
    refine codeAny_mono ((F _ hKb (nsK hns)).run callerA [] s₁ H ⟨[.ref a], []⟩ [.ref a] [.ref a] _ hr rfl e0 (hbind s₁ (.ref a)) (.cons rfl .nil) rfl (hsp H hO hS)) fun r s' h => ?_
    cases r with
    | error e => exact False.elim h
    | ok fl =>
      cases fl with
      | ret u =>
        obtain ⟨v, H', os, bare, un, hok', r', q⟩ := h
        have q' : v = .bl true := q
        subst q'
        obtain rfl : u = Value.bool true := r'
        refine ⟨rfl, OldK.of_keep fun b o e => ?_, os, bare⟩
        rcases hO b with z | ⟨ob, xs, z⟩
        · exact un.keep b o e z (by intro z; exact absurd (show b ∈ ([] : List Addr) from z) (by simp)) (by simp)
        · have z2 := un.frzs b ob _ z
          obtain ⟨e1, _⟩ := hok b _ z
          obtain ⟨e2, _⟩ := hok' b _ z2
          rw [e] at e1; cases e1
          exact e2
      | _ => exact False.elim h
  cases hk : K.lookup a with
  | some o =>
    have e := KX a o hk
    rw [ha] at e
    cases e
    refine main (fun _ => none) (fun _ => .inl rfl) (.inr ⟨_, vs.toArray, _, hk, rfl, rfl, rfl, by rw [List.size_toArray, lenV]; exact hl, by simpa using rv⟩) (fun b u z => by have z' : (none : Option HO) = some u := z; cases z') (fun b z => absurd rfl z) fun z => absurd rfl z
  | none =>
    refine main (fun b => if b = a then some (.frz { cls := .type "list", data := .seq vs.toArray } (.lst (ns.map V.int))) else none) (fun b => ?_) (.inl ⟨{ cls := .type "list", data := .seq vs.toArray }, if_pos rfl⟩) (fun b u z => ?_) (fun b z => ?_) fun _ => hk
    · by_cases hb : b = a
      · exact .inr ⟨_, _, if_pos hb⟩
      · exact .inl (if_neg hb)
    · by_cases hb : b = a
      · have z' := (if_pos hb).symm.trans z
        cases z'
        subst hb
        exact ⟨ha, by rw [List.length_map]; exact hl, vs, _, rv, ha⟩
      · have z' := (if_neg hb).symm.trans z
        cases z'
    · by_cases hb : b = a
      · exact hb
      · exact absurd (if_neg hb) z
/-- what a law's evaluation must give -/
def LawOk (F : Fn) : Prop := ∀ ns : List Int, ns.length ≤ 63 → ∃ outs, F [.val (.scr ns)] = .ok (.val (.bl true)) outs
theorem lawOk_sp {K : Frag} {F : Fn} (h : LawOk F) {H : Hp} {a : Addr} {ns : List Int} (hl : ns.length ≤ 63) (hS : Scr K H a ns) : spF K F [.ref a] H (fun v _ => v = .bl true) := by
  obtain ⟨outs, e⟩ := h ns hl
  refine ⟨{ S := [], A := [], H := H, F := fun _ => False }, [.val (.scr ns)], rfl, ⟨rfl, List.nodup_nil, fun m a c e => by simp at e, fun a h => by simp at h, fun a h => h.elim⟩, rfl, .cons ⟨a, rfl, hS⟩ .nil, ?_⟩
  rw [e]
  exact fun g' v _ _ _ hr => hr
theorem walk_ofG {l : PySem.W.OpenLaw} {k : Nat} {q : Program} {loose : List Str} {XP : (Str → Option Value) → Heap → Prop} {YP : World → Heap → Prop} {d : DefRec} {x : Str} {F : Fn} (hF : LawOk F)
    (hn : l.most = some 63) (hdf : d.params.defaults = []) (hr : Room k callerA)
    (C : ∀ (w : World) (mg : Str → Option Value) (fa : Addr) (h : Heap), YP w h → h.Ns mainGlobals mg → mg d.name = some (.ref fa) →
      ∃ (K : Frag) (fd : FuncData), K.In h ∧ (∀ (s : Shared) (u : Value), BindsTo s fd ⟨[u], []⟩ [(x, u)]) ∧
        ∀ base : Heap, K.In base → base.Ns mainGlobals mg → FnG l.prog w K mg base k fa fd [x] (spF K F)) :
    PySem.W.WalkO q loose XP YP l.row.toRowW d [] (fun f vs => PySem.call f vs) := by
  refine Att.attach_call hn hdf fun w s₀ s₁ mg mb fa o pm cd doc a vs ns G Y ho hd hcd hmg hobj hints hlen hg => ?_
  obtain ⟨K, fd, KX, hb, hc⟩ := C w mg fa _ Y G.T.g hmg
  exact callG KX G.T.g G.T.b G.T.builtins G.T.nolimit hg hobj hints (Nat.le_trans hlen (by decide)) hr hc hb fun H hO hS => lawOk_sp hF hlen hS
end Pf
end
section
set_option Elab.async false
set_option linter.all false
set_option maxHeartbeats 1000000
set_option autoImplicit false
namespace Pf
open PySem PySem.Spec L2 PyProof.Rows
/-! t[::-1] of a tuple -/
section
variable {prog : Program} {w : World} {A : Around} {E : Value → Shared → Prop} {s : Shared}
theorem adjBack (n : Nat) : Builtin.Slice.sliceAdjust none none (-1) (n : Int) = ((n : Int) - 1, -1) := by
  unfold Builtin.Slice.sliceAdjust
  simp
theorem placesBack (n : Nat) : Builtin.Slice.slicePlaces ((n : Int) - 1) (-1) (-1) = n := by
  unfold Builtin.Slice.slicePlaces
  have h1 : ¬ ((-1 : Int) > 0) := by omega
  simp only [h1, if_false]
  split <;> simp <;> omega
theorem fm_map {α β : Type} (f : α → Option β) (g : α → β) : ∀ {l : List α}, (∀ m ∈ l, f m = some (g m)) → l.filterMap f = l.map g
  | [], _ => rfl
  | a :: l, h => by rw [List.filterMap_cons_some (h a List.mem_cons_self), List.map_cons, fm_map f g fun m hm => h m (List.mem_cons_of_mem _ hm)]
theorem pickBack (xs : Array Value) : ((List.range xs.size).filterMap fun (m : Nat) => xs[(((xs.size : Int) - 1) + (m : Int) * (-1)).toNat]?).toArray = xs.toList.reverse.toArray := by
  congr 1
  refine List.ext_getElem? fun i => ?_
  have e : (List.range xs.size).filterMap (fun (m : Nat) => xs[(((xs.size : Int) - 1) + (m : Int) * (-1)).toNat]?) = (List.range xs.size).map fun m => xs[xs.size - 1 - m]?.getD .none := by
    refine fm_map _ _ fun m hm => ?_
    have hm := List.mem_range.mp hm
    have : (((xs.size : Int) - 1) + (m : Int) * (-1)).toNat = xs.size - 1 - m := by omega
    rw [this, Array.getElem?_eq_getElem (by omega)]
    rfl
  rw [e]
  by_cases hi : i < xs.size
  · rw [List.getElem?_map, List.getElem?_range hi, List.getElem?_reverse (by simpa using hi)]
    simp only [Option.map_some, Array.length_toList]
    rw [Array.getElem?_eq_getElem (by omega), Array.getElem?_toList, Array.getElem?_eq_getElem (by omega)]
    rfl
  · rw [List.getElem?_eq_none (by simp; omega), List.getElem?_eq_none (by simp; omega)]
theorem appliedBack {sl : Addr} {n : Nat} {t : Tok} {Q : Int × Int × Nat → Shared → Prop} (hs : s.heap.IsSliceOf sl .none .none (.int (-1) t)) (h : Q ((n : Int) - 1, -1, n) s) :
    wpAny (model prog w) A (Builtin.Slice.sliceApplied (.ref sl) (pure (n : Int))) Q E s := by
  obtain ⟨os, hos, hcs, hds⟩ := id hs
  unfold Builtin.Slice.sliceApplied Builtin.Slice.sliceFields
  refine wpAny_bind (wpAny_bind (wpAny_field hos hds (x := .none) rfl (wpAny_bind (wpAny_field hos hds (x := .none) rfl (wpAny_bind (wpAny_field hos hds (x := .int (-1) t) rfl (wpAny_pure ?_)))))))
  refine wpAny_bind (HT.slicePart_ (.int (-1) t) ?_)
  show wpAny _ _ (if ((-1 : Int) == 0) = true then _ else _) _ _ s
  rw [if_neg (by decide)]
  refine wpAny_bind (HT.slicePart_ .none (wpAny_bind (HT.slicePart_ .none (wpAny_bind (wpAny_pure ?_)))))
  show wpAny _ _ (match Builtin.Slice.sliceAdjust none none (-1) (n : Int) with | (lo, hi) => pure (lo, (-1 : Int), Builtin.Slice.slicePlaces lo hi (-1))) _ _ s
  rw [adjBack n]
  show wpAny _ _ (pure ((n : Int) - 1, (-1 : Int), Builtin.Slice.slicePlaces ((n : Int) - 1) (-1) (-1))) _ _ s
  rw [placesBack]
  exact wpAny_pure h
theorem tupBack {t sl : Addr} {items : Array Value} {tk : Tok} {Q : Value → Shared → Prop} (ht : IsTup s.heap t items) (hs : s.heap.IsSliceOf sl .none .none (.int (-1) tk))
    (h : Q (.ref s.heap.objs.size) { s with heap := s.heap.push { cls := .type "tuple", data := .seq items.toList.reverse.toArray } }) (hsz : items.size ≤ sizeLine) : wpAny (model prog w) A (getItem (.ref t) (.ref sl)) Q E s := by
  have hlay : sizeOk (.seq items.toList.reverse.toArray) := by
    show items.toList.reverse.toArray.size ≤ sizeLine
    rw [List.size_toArray, List.length_reverse, Array.length_toList]
    exact hsz
  obtain ⟨os, hos, hcs, hds⟩ := id hs
  have hTs : s.TypeIs (.ref sl) "slice" := ⟨os, hos, hcs⟩
  unfold getItem
  try with_reducible refine wpAny_holding ?_
  first | refine wpAny_bind (wpAny_pure ?_) | skip
  refine wpAny_bind (wpAny_sequenceKey ht.typeIs (by decide) ?_)
  refine wpAny_bind (wpAny_callSpecial?_slot (name := Str.ofString "__getitem__") ht.typeIs PyProof.Rows.slot_tuple_getitem
    (wpAny_call_entry PyProof.Rows.slot_tuple_getitem ht.typeIs entry_tuple_getitem ?_ (args_tuple_getitem _ _)))
  show wpAny _ _ (Builtin.Tuple.tupleItemsOf (.ref t) >>= _) _ _ s
  refine wpAny_bind (tupleItemsOf_ ht ?_)
  refine wpAny_bind (wpAny_typeOf hTs ?_)
  rw [if_pos (by decide)]
  refine wpAny_bind (appliedBack hs ?_)
  have hno : ¬ ((((items.size : Int) - 1) == 0 && (-1 : Int) == 1 && items.size == items.size) = true) := by
    have : ((-1 : Int) == 1) = false := by decide
    rw [this, Bool.and_false, Bool.false_and]
    exact Bool.false_ne_true
  show wpAny _ _ (if (((items.size : Int) - 1) == 0 && (-1 : Int) == 1 && items.size == items.size) = true then _ else _) _ _ s
  rw [if_neg hno, pickBack]
  first
    | exact wpAny_bind (m := Builtin.Tuple.tupleExact _) (wpAny_newObj_type (wpAny_pure ⟨_, rfl, wpAny_pure h⟩) hlay)
    | exact wpAny_bind (m := Builtin.Tuple.tupleExact _) (wpAny_newObj_type (wpAny_bind (wpAny_pure (wpAny_pure ⟨_, rfl, wpAny_pure h⟩))) hlay)
    | exact wpAny_bind (wpAny_bind (m := Builtin.Tuple.tupleExact _) (wpAny_newObj_type (wpAny_pure (wpAny_pure ⟨_, rfl, wpAny_pure h⟩)) hlay))
    | exact wpAny_bind (wpAny_bind (m := Builtin.Tuple.tupleExact _) (wpAny_newObj_type (wpAny_pure ⟨_, rfl, wpAny_pure h⟩) hlay))
end
def fRev : PV → Option RV
  | .tup xs => some (.val (.tup xs.reverse))
  | .lst xs => some (.own (.lst xs.reverse))
  | _ => none
theorem RpL.rev {K : Frag} {H : Hp} {F : Addr → Prop} : ∀ {ps : List PV} {vs : List V}, RpL K H F ps vs → RpL K H F ps.reverse vs.reverse
  | [], vs, h => by have h : vs = [] := h; subst h; exact rfl
  | p :: ps, vs, ⟨v, r, e, a, b⟩ => by
    subst e
    rw [List.reverse_cons, List.reverse_cons]
    exact (RpL.rev b).app ⟨v, [], rfl, a, rfl⟩
def tRev (K : Frag) (te : TE) : TE := fun σ H Q => te σ H fun x H1 => ∃ a k xs, x = .ref a ∧ SqX k K H1 a xs ∧ ∀ p, H1 p = none → Q (.ref p) (upd H1 p (match k with | .lst => .lst xs.reverse | .tup => .tup xs.reverse))
section
variable {X : Cx} {W : WS} {e : Expr} {es : List Expr} {d : Den} {ds : List Den} {p pos : Pos} {x : Str} {id T : String} {fn : List PV → Option RV}
theorem pe_rev {te : TE} {k : Nat} {p1 p2 p3 : Pos} (he : PE X e te) : PE X (.Subscript e (.Slice none none (some (.UnaryOp .USub (.Constant (.int 1) k p1) p2)) p3) pos) (tRev X.K te) := by
  refine ⟨fun pins s σ H Q I h => ?_⟩
  refine Subscript_ (thn (he.run pins s σ H _ I h) fun v s1 ⟨x, H1, I1, r1, q1⟩ => ?_)
  obtain ⟨a, kd, xs, ex, hx, q⟩ := q1
  subst ex
  cases r1
  have hst : PO X (some (.UnaryOp .USub (.Constant (.int 1) k p1) p2)) (tPart (tUn (rU fun i => .int (-i)) (tC (.int 1)))) := po_some (pe_un un_neg pe_int)
  refine wpAny_Slice (thn (po_none.run pins s1 σ H1 (fun o H2 => o = none ∧ H2 = H1) I1 ⟨rfl, rfl⟩) fun vl s2 ⟨l, H2, I2, pl, el, e2⟩ => ?_)
  subst el e2
  refine thn (po_none.run pins s2 σ H2 (fun o H3 => o = none ∧ H3 = H2) I2 ⟨rfl, rfl⟩) fun vu s3 ⟨u, H3, I3, pu, eu, e3⟩ => ?_
  subst eu e3
  refine thn (hst.run pins s3 σ H3 (fun o H4 => o = some (-1) ∧ H4 = H3) I3 ⟨1, rfl, -1, rfl, rfl, rfl⟩) fun vs s4 ⟨o, H4, I4, ps, eo, e4⟩ => ?_
  subst eo e4
  have I5 : Inv X pins σ H4 { s4 with heap := s4.heap.push { cls := .type "slice", data := .fields #[vl, vu, vs] } } := I4.kept (t' := s4.toks) fun b ob q => Heap.get?_push_of_some _ q
  cases kd with
  | lst =>
    obtain ⟨its, r, ht, hz⟩ := I5.list hx
    have hlen := r.length
    show wpAny (model X.prog X.w) X.A (subscriptTail e (.Slice none none (some (.UnaryOp .USub (.Constant (.int 1) k p1) p2)) p3) (.ref a) (.ref s4.heap.objs.size)) (EP X pins σ Q) X.xe { s4 with heap := s4.heap.push { cls := .type "slice", data := .fields #[vl, vu, vs] } }
    refine tail_any (ops := [.ref a, .ref s4.heap.objs.size]) ht.isList.typeIs (PySem.slot_list_getitem.lookup) ?_ (by with_unfolding_all rfl)
    refine wpAny_getItem_list_slice ht.isList (Heap.IsSliceOf.new _ vl vu vs) pl pu ps (by decide) ?_ (by rw [List.size_toArray]; omega)
    rw [PySem.W.krv_pick]
    refine ⟨.ref _, _, I5.laid (t' := s4.toks) (o := .lst xs.reverse) (fun b ob q => Heap.get?_push_of_some _ q) (Nat.le_refl _) ?_, rfl, q _ (I5.hok.fresh (Nat.le_refl _))⟩
    exact ⟨by rw [List.length_reverse]; exact hz, _, 0, r.reverse, Heap.get?_push_size _ rfl⟩
  | tup =>
    obtain ⟨its, r, ht, hz⟩ := I5.tuple hx
    have hlen := r.length
    cases pl
    cases pu
    cases ps with
    | int _ tk =>
      show wpAny (model X.prog X.w) X.A (subscriptTail e (.Slice none none (some (.UnaryOp .USub (.Constant (.int 1) k p1) p2)) p3) (.ref a) (.ref s4.heap.objs.size)) (EP X pins σ Q) X.xe { s4 with heap := s4.heap.push { cls := .type "slice", data := .fields #[.none, .none, .int (-1) tk] } }
      refine tail_any (ops := [.ref a, .ref s4.heap.objs.size]) ht.typeIs (PyProof.Rows.slot_tuple_getitem.lookup) ?_ (by with_unfolding_all rfl)
      refine tupBack ht (Heap.IsSliceOf.new _ .none .none (.int (-1) tk)) ?_ (by rw [List.size_toArray]; omega)
      refine ⟨.ref _, _, I5.laid (t' := s4.toks) (o := .tup xs.reverse) (fun b ob q => Heap.get?_push_of_some _ q) (Nat.le_refl _) ?_, rfl, q _ (I5.hok.fresh (Nat.le_refl _))⟩
      exact ⟨by rw [List.length_reverse]; exact hz, _, r.reverse, ⟨_, Heap.get?_push_size _ rfl, rfl, _, rfl⟩⟩
theorem pe_drev {k : Nat} {p1 p2 p3 : Pos} (he : PE X e (tD X.K W d)) : PE X (.Subscript e (.Slice none none (some (.UnaryOp .USub (.Constant (.int 1) k p1) p2)) p3) pos) (tD X.K W (dUn fRev d)) :=
  peW (pe_rev he) fun σ H Q h => by
    obtain ⟨ρ, g, e, sr, se, h⟩ := h
    subst e
    refine tD.bd (Stp.refl g) sr se h fun r g1 v st _ sr1 se1 hv h1 => ?_
    obtain ⟨p, x, e1, e3, k⟩ := h1.run1
    have hp := hv.peek sr1 e1
    cases p with
    | tup ps =>
      cases e3
      obtain ⟨a, vs, rfl, q, r⟩ := hp
      exact ⟨a, .tup, vs, rfl, q, fun b hb => k (g1.put b (.tup vs.reverse)) rfl (st.trans (Stp.put hb)) (sr1.put hb) _ ((newTup sr1 hb (RpL.rev r)).from st)⟩
    | lst ps =>
      cases e3
      obtain ⟨a, vs, rfl, q, r⟩ := hp
      exact ⟨a, .lst, vs, rfl, .inl (.inl q), fun b hb => k (g1.put b (.lst vs.reverse)) rfl (st.trans (Stp.put hb)) (sr1.put hb) _ ((newLst sr1 hb (RpL.rev r)).from st)⟩
    | _ => cases e3
/-! {} -/
def dDic : Den := fun _ => ret (.own (.dct []))
theorem pe_ddic : PE X (.Dict [] [] pos) (tD X.K W dDic) := peW pe_dnewK fun σ H Q ⟨ρ, g, e, sr, se, h⟩ p hp => by
  subst e
  refine h.ret (g' := g.put p (.dK [])) rfl (Stp.put hp) (sr.put hp) (.ref p) ⟨p, rfl, .inl ⟨[], upd_same, rfl⟩, fun z => ?_, fun z => ?_, hp⟩
  · obtain ⟨y, e⟩ := sr.fd p z; rw [hp] at e; cases e
  · obtain ⟨y, e⟩ := sr.dom p z; rw [hp] at e; cases e
/-! built-ins by name -/
theorem pe_dcb (hc : CallR X (.builtin id) (rCl X.K fn)) (hg : Gl X x) (hm : X.mg x = none) (hv : bootBuiltins x = some (.builtin id)) (ha : PA X (e :: es) (tDs X.K W ds)) (hn : x ≠ "__name__" := by decide) (hdb : (x == ("__debug__" : Str)) = false := by decide)
    (he : starEach (e :: es) X.env = (false, eval e X.env) :: starEach es X.env := by rfl) (hpl : (backTo pos (starEach es X.env)).any (·.1) = false := by rfl) : PE X (.Call (.Name x p) (e :: es) [] pos) (tD X.K W (dCl fn ds)) :=
  peW (pe_callB hc hg hm hv ha hn hdb he hpl) fun _ _ _ h => tCl_of h
theorem pe_dct (hc : CallR X (.type T) (rCl X.K fn)) (hg : Gl X x) (hm : X.mg x = none) (hv : bootBuiltins x = some (.type T)) (ha : PA X (e :: es) (tDs X.K W ds)) (hn : x ≠ "__name__" := by decide) (hdb : (x == ("__debug__" : Str)) = false := by decide)
    (he : starEach (e :: es) X.env = (false, eval e X.env) :: starEach es X.env := by rfl) (hpl : (backTo pos (starEach es X.env)).any (·.1) = false := by rfl) : PE X (.Call (.Name x p) (e :: es) [] pos) (tD X.K W (dCl fn ds)) :=
  peW (pe_callTy hc hg hm hv ha hn hdb he hpl) fun _ _ _ h => tCl_of h
/-! what is never reached -/
def dsNo : DenS := fun _ => stk
def dNo : Den := fun _ => stk
theorem ps_dno {st : Stmt} : PS X st (tS X.K W dsNo) := ⟨fun _ _ _ _ _ _ ⟨_, _, _, _, _, h⟩ => (stk_ok h).elim⟩
theorem pe_dno : PE X e (tD X.K W dNo) := ⟨fun _ _ _ _ _ _ ⟨_, _, _, _, _, h⟩ => (stk_ok h).elim⟩
end
theorem Room.u100 {k : Nat} {A : Around} (r : Room k A) : A.units + 100 < cLine := by have := r.un; omega
theorem Room.u65 {k : Nat} {A : Around} (r : Room k A) : A.units + 65 < cLine := by have := r.un; omega
theorem glInt {X : Cx} {W : WS} {x : Str} {pos : Pos} {i : Int} (hg : Gl X x) (hm : ∃ t, X.mg x = some (.int i t)) (hd : (x == ("__debug__" : Str)) = false := by decide) : PE X (.Name x pos) (tD X.K W (dCst (.int i))) := by
  obtain ⟨t, h⟩ := hm
  exact pe_dglo (p := .int i) (v := .int i) hg h ⟨t, rfl⟩ (fun _ _ => rfl) hd
theorem glTup {X : Cx} {W : WS} {x : Str} {pos : Pos} {ns : List Int} (hg : Gl X x) (hm : ∃ a, X.mg x = some (.ref a) ∧ ∀ H, SqT X.K H a (ns.map V.int)) (hd : (x == ("__debug__" : Str)) = false := by decide) : PE X (.Name x pos) (tD X.K W (dCst (.tup (ns.map .int)))) := by
  obtain ⟨a, h, hS⟩ := hm
  exact pe_dglo (p := .tup (ns.map .int)) (v := .ref a) hg h rfl (fun H F => ⟨a, _, rfl, hS H, rpInts ns H F⟩) hd
theorem glStr {X : Cx} {W : WS} {x : Str} {pos : Pos} {z : Str} (hg : Gl X x) (hm : ∃ t, X.mg x = some (.str z t)) (hd : (x == ("__debug__" : Str)) = false := by decide) : PE X (.Name x pos) (tD X.K W (dCst (.str z))) := by
  obtain ⟨t, h⟩ := hm
  exact pe_dglo (p := .str z) (v := .str z) hg h ⟨t, rfl⟩ (fun _ _ => rfl) hd
end Pf
end
section
set_option Elab.async false
set_option linter.all false
set_option maxHeartbeats 1000000
set_option autoImplicit false
namespace Pf
open PySem
/-! evaluation, step by step (nr: no step by definition, so that nothing is unfolded when it is checked) -/
theorem nr {α : Sort _} {a b : α} (h : a = b) : a = b := h
/-! the forms that stand in evaluated terms -/
def rb {α β : Type} (r : Res α) (f : α → M β) : Res β := match r with
  | .ok a S' => f a S'
  | .exc c v S' => .exc c v S'
  | .stuck => .stuck
@[simp] theorem rb_ok {α β : Type} {a : α} {S : Sto} {f : α → M β} : rb (.ok a S) f = f a S := nr rfl
@[simp] theorem rb_stk {α β : Type} {f : α → M β} : rb .stuck f = .stuck := nr rfl
def ob {α β : Type} (o : Option α) (f : α → Res β) : Res β := match o with
  | some a => f a
  | none => .stuck
@[simp] theorem ob_some {α β : Type} {a : α} {f : α → Res β} : ob (some a) f = f a := nr rfl
@[simp] theorem ob_none {α β : Type} {f : α → Res β} : ob none f = .stuck := nr rfl
abbrev oc {α β : Type} (o : Option α) (f : α → Res β) : Res β := ob o f
def ov (o : Option (Option SV)) (S : Sto) : Res RV := match o with
  | some (some sv) => .ok sv.rv S
  | _ => .stuck
@[simp] theorem ov_some {sv : SV} {S : Sto} : ov (some (some sv)) S = .ok sv.rv S := nr rfl
def frz (c : Cell) (n : Nat) (S : Sto) : Res PV := match c with
  | .live p => .ok p (S.set n (.froz p))
  | .froz p => .ok p S
  | .nest _ => .stuck
@[simp] theorem frz_l {p : PV} {n : Nat} {S : Sto} : frz (.live p) n S = .ok p (S.set n (.froz p)) := nr rfl
@[simp] theorem frz_f {p : PV} {n : Nat} {S : Sto} : frz (.froz p) n S = .ok p S := nr rfl
@[simp] theorem cv_l (p : PV) : cellV (.live p) = p := nr rfl
@[simp] theorem cv_f (p : PV) : cellV (.froz p) = p := nr rfl
def oi (r : RV) : M (Option Int) := match r with
  | .val (.int i) => ret (some i)
  | _ => stk
@[simp] theorem oi_i {i : Int} : oi (.val (.int i)) = ret (some i) := nr rfl
def sq (t : DenS) (x : Env × Fl) : M (Env × Fl) := match x.2 with
  | .nx => t x.1
  | _ => ret x
@[simp] theorem sq_n {t : DenS} {ρ : Env} : sq t (ρ, .nx) = t ρ := nr rfl
@[simp] theorem sq_r {t : DenS} {ρ : Env} {r : RV} : sq t (ρ, .rt r) = ret (ρ, .rt r) := nr rfl
@[simp] theorem sq_b {t : DenS} {ρ : Env} : sq t (ρ, .bk) = ret (ρ, .bk) := nr rfl
@[simp] theorem sq_c {t : DenS} {ρ : Env} : sq t (ρ, .ct) = ret (ρ, .ct) := nr rfl
def p2 (i j : Nat) (mi mj : Bool) (ρ : Env) (rs : List RV) : M (Env × Fl) := match rs with
  | [r, q] => bd (bindV mi r) fun s => bd (bindV mj q) fun t => ret ((ρ.set i (some s)).set j (some t), .nx)
  | _ => stk
@[simp] theorem p2_2 {i j : Nat} {mi mj : Bool} {ρ : Env} {r q : RV} : p2 i j mi mj ρ [r, q] = bd (bindV mi r) fun s => bd (bindV mj q) fun t => ret ((ρ.set i (some s)).set j (some t), .nx) := nr rfl
def oa {β : Type} (o : Option (List AV × List Nat)) (f : List AV → List Nat → Res β) : Res β := match o with
  | some (a, n) => f a n
  | none => .stuck
@[simp] theorem oa_some {β : Type} {a : List AV} {n : List Nat} {f : List AV → List Nat → Res β} : oa (some (a, n)) f = f a n := nr rfl
def fc (S : Sto) (ns : List Nat) (r : FRes) : Res RV := match r with
  | .ok (.ref _) _ => .stuck
  | .ok r outs => .ok r (setAll S ns outs)
  | _ => .stuck
@[simp] theorem fc_v {S outs : Sto} {ns : List Nat} {p : PV} : fc S ns (.ok (.val p) outs) = .ok (.val p) (setAll S ns outs) := nr rfl
@[simp] theorem fc_o {S outs : Sto} {ns : List Nat} {p : PV} : fc S ns (.ok (.own p) outs) = .ok (.own p) (setAll S ns outs) := nr rfl
def avC (c : Cell) (n : Nat) (x : List AV × List Nat) : Option (List AV × List Nat) := match c with
  | .live p => some (.cel p :: x.1, n :: x.2)
  | .froz p => some (.val p :: x.1, x.2)
  | .nest _ => none
@[simp] theorem avC_l {p : PV} {n : Nat} {x : List AV × List Nat} : avC (.live p) n x = some (.cel p :: x.1, n :: x.2) := nr rfl
@[simp] theorem avC_f {p : PV} {n : Nat} {x : List AV × List Nat} : avC (.froz p) n x = some (.val p :: x.1, x.2) := nr rfl
def pkC : Cell → Option PV
  | .live p => some p
  | .froz p => some p
  | .nest _ => none
@[simp] theorem pkC_l (p : PV) : pkC (.live p) = some p := nr rfl
@[simp] theorem pkC_f (p : PV) : pkC (.froz p) = some p := nr rfl
def rf (n : Nat) (r : Res (Env × Fl)) : FRes := match r with
  | .ok (_, .rt r) S => fin n r S
  | .ok (_, .nx) S => fin n (.val .non) S
  | _ => .stuck
@[simp] theorem rf_r {n : Nat} {ρ : Env} {r : RV} {S : Sto} : rf n (.ok (ρ, .rt r) S) = fin n r S := nr rfl
@[simp] theorem rf_n {n : Nat} {ρ : Env} {S : Sto} : rf n (.ok (ρ, .nx) S) = fin n (.val .non) S := nr rfl
def of (o : Option Cell) (T : Sto) : FRes := match o with
  | some (.live p) => .ok (.own p) T
  | some (.froz p) => .ok (.val p) T
  | _ => .stuck
@[simp] theorem of_l {p : PV} {T : Sto} : of (some (.live p)) T = .ok (.own p) T := nr rfl
@[simp] theorem of_f {p : PV} {T : Sto} : of (some (.froz p)) T = .ok (.val p) T := nr rfl
def ol {β : Type} (o : Option Cell) (f : PV → Res β) : Res β := match o with
  | some (.live p) => f p
  | _ => .stuck
@[simp] theorem ol_l {β : Type} {p : PV} {f : PV → Res β} : ol (some (.live p)) f = f p := nr rfl
def il (p : PV) (S : Sto) : Res Unit := match p with
  | .lst _ => .ok () S
  | _ => .stuck
@[simp] theorem il_l {xs : List PV} {S : Sto} : il (.lst xs) S = .ok () S := nr rfl
section
variable {α β : Type} {S S' : Sto} {ρ : Env} {m : M α} {f : α → M β} {a : α}
@[simp] theorem e_bd : bd m f S = rb (m S) f := nr rfl
@[simp] theorem e_ret : ret a S = .ok a S := nr rfl
@[simp] theorem e_stk : (stk : M α) S = .stuck := nr rfl
variable {i n nl np : Nat} {p : PV} {d da db dc : Den} {ds es : List Den} {r q : RV} {s t : DenS} {tg : TgD} {g : PV → Option RV} {h h' : PV → PV → Option RV} {l : List PV → Option RV}
@[simp] theorem e_var : dVar i ρ S = ov ρ[i]? S := nr rfl
@[simp] theorem e_rvv : (SV.val p).rv = .val p := nr rfl
@[simp] theorem e_rvr : (SV.ref n).rv = .ref n := nr rfl
@[simp] theorem e_cst : dCst p ρ S = .ok (.val p) S := nr rfl
@[simp] theorem e_bin : dBin h da db ρ = bd (da ρ) fun r => bd (db ρ) fun q => run2 h r q := nr rfl
@[simp] theorem e_un : dUn g d ρ = bd (d ρ) fun r => run1 g r := nr rfl
@[simp] theorem e_cl : dCl l ds ρ = bd (evAll ds ρ) fun rs => runN l rs := nr rfl
@[simp] theorem e_run1 : run1 g r S = ob (peek r S) fun p => ob (g p) fun x => .ok x S := nr (by simp only [run1]; cases peek r S with | none => rfl | some p => simp only [ob_some]; cases g p <;> rfl)
@[simp] theorem e_run2 : run2 h r q S = ob (peek r S) fun p => ob (peek q S) fun p' => ob (h p p') fun x => .ok x S := nr (by simp only [run2]; cases peek r S with | none => rfl | some p => simp only [ob_some]; cases peek q S with | none => rfl | some p' => simp only [ob_some]; cases h p p' <;> rfl)
@[simp] theorem e_runN {rs : List RV} : runN l rs S = ob (peeks rs S) fun ps => ob (l ps) fun x => .ok x S := nr (by simp only [runN]; cases peeks rs S with | none => rfl | some ps => simp only [ob_some]; cases l ps <;> rfl)
@[simp] theorem e_pkv : peek (.val p) S = some p := nr rfl
@[simp] theorem e_pko : peek (.own p) S = some p := nr rfl
@[simp] theorem e_pkr : peek (.ref n) S = S[n]?.bind pkC := nr (by simp only [peek]; cases S[n]? with | none => rfl | some c => cases c <;> rfl)
@[simp] theorem e_pk0 : peeks [] S = some [] := nr rfl
@[simp] theorem e_pk1 {rs : List RV} : peeks (r :: rs) S = (peek r S).bind fun p => (peeks rs S).map fun ps => p :: ps := nr (by rw [peeks]; cases peek r S with | none => rfl | some p => simp only [Option.bind_some]; cases peeks rs S <;> rfl)
@[simp] theorem e_ev0 : evAll [] ρ = ret [] := nr rfl
@[simp] theorem e_ev1 : evAll (d :: ds) ρ = bd (d ρ) fun r => bd (evAll ds ρ) fun rs => ret (r :: rs) := nr rfl
@[simp] theorem e_n1 : n1 g [p] = g p := nr rfl
@[simp] theorem e_n2 {q : PV} : n2 h [p, q] = h p q := nr rfl
@[simp] theorem e_fov : force (.val p) S = .ok p S := nr rfl
@[simp] theorem e_foo : force (.own p) S = .ok p S := nr rfl
@[simp] theorem e_for : force (.ref n) S = oc S[n]? fun c => frz c n S := nr (by simp only [force]; cases S[n]? with | none => rfl | some c => cases c <;> rfl)
@[simp] theorem e_fs0 : forces [] = ret [] := nr rfl
@[simp] theorem e_fs1 {rs : List RV} : forces (r :: rs) = bd (force r) fun p => bd (forces rs) fun ps => ret (p :: ps) := nr rfl
@[simp] theorem e_tup : dTup ds ρ = bd (evAll ds ρ) fun rs => bd (forces rs) fun ps => if lenOk ps.length then ret (.val (.tup ps)) else stk := nr rfl
@[simp] theorem e_lst : dLst ds ρ = bd (evAll ds ρ) fun rs => bd (forces rs) fun ps => if lenOk ps.length then ret (.own (.lst ps)) else stk := nr rfl
@[simp] theorem e_asB {b : Bool} : asB (.val (.bl b)) S = .ok b S := nr rfl
@[simp] theorem e_and : dAnd da db ρ = bd (da ρ) fun r => bd (asB r) fun c => if c then db ρ else ret (.val (.bl false)) := nr rfl
@[simp] theorem e_or : dOr da db ρ = bd (da ρ) fun r => bd (asB r) fun c => if c then ret (.val (.bl true)) else db ρ := nr rfl
@[simp] theorem e_not : dNot d ρ = bd (d ρ) fun r => bd (asB r) fun c => ret (.val (.bl (!c))) := nr rfl
@[simp] theorem e_ite : dIte dc da db ρ = bd (dc ρ) fun r => bd (asB r) fun c => if c then da ρ else db ρ := nr rfl
@[simp] theorem e_chain : dChain h h' da db dc ρ = bd (da ρ) fun r => bd (db ρ) fun q => bd (run2 h r q) fun x => bd (asB x) fun k => if k then bd (dc ρ) fun z => run2 h' q z else ret (.val (.bl false)) := nr rfl
@[simp] theorem e_test : dTest d ρ = bd (d ρ) asB := nr rfl
@[simp] theorem e_sli {lo hi : Option Den} : dSli d lo hi ρ = bd (d ρ) fun r => bd (optI lo ρ) fun l => bd (optI hi ρ) fun h => run1 (fun p => sCut p l h) r := nr rfl
@[simp] theorem e_op0 : optI none ρ = ret none := nr rfl
@[simp] theorem e_op1 : optI (some d) ρ = bd (d ρ) oi := nr rfl
@[simp] theorem e_dic : dDic ρ S = .ok (.own (.dct [])) S := nr rfl
@[simp] theorem e_sret : dsRet d ρ = bd (d ρ) fun r => ret (ρ, .rt r) := nr rfl
@[simp] theorem e_snx : dsNx ρ S = .ok (ρ, .nx) S := nr rfl
@[simp] theorem e_sexp : dsExpr d ρ = bd (d ρ) fun _ => ret (ρ, .nx) := nr rfl
@[simp] theorem e_sif : dsIf dc s t ρ = bd (dTest dc ρ) fun k => if k then s ρ else t ρ := nr rfl
@[simp] theorem e_sno : dsNo ρ S = .stuck := nr rfl
@[simp] theorem e_seq : dsSeq s t ρ = bd (s ρ) (sq t) := nr rfl
@[simp] theorem e_asg : dsAsg tg d ρ = bd (d ρ) fun r => bd (tg r ρ) fun ρ' => ret (ρ', .nx) := nr rfl
@[simp] theorem e_tgn {mu : Bool} : tgName i mu r ρ = bd (bindV mu r) fun sv => ret (ρ.set i (some sv)) := nr rfl
@[simp] theorem e_bvv {mu : Bool} : bindV mu (.val p) S = .ok (.val p) S := nr rfl
@[simp] theorem e_bvr {mu : Bool} : bindV mu (.ref n) S = .ok (.ref n) S := nr rfl
@[simp] theorem e_bvo0 : bindV false (.own p) S = .ok (.val p) S := nr rfl
@[simp] theorem e_bvo1 : bindV true (.own p) S = .ok (.ref S.length) (S ++ [.live p]) := nr rfl
@[simp] theorem e_par2 {j : Nat} {mi mj : Bool} : dsPar2 i j mi mj ds ρ = bd (evAll ds ρ) (p2 i j mi mj ρ) := nr rfl
@[simp] theorem e_bm0 {mus : List Bool} : bindMany mus [] = ret [] := by cases mus <;> rfl
@[simp] theorem e_bm1 {b : Bool} {mus : List Bool} {rs : List RV} : bindMany (b :: mus) (r :: rs) = bd (bindV b r) fun s => bd (bindMany mus rs) fun ss => ret (s :: ss) := nr rfl
@[simp] theorem e_call {F : Fn} {mus : List Bool} : dCall np F mus ds ρ = bd (evAll ds ρ) fun rs => bd (bindMany mus rs) (callN np F) := nr rfl
@[simp] theorem e_callK {F : Fn} {mus : List Bool} {perm : List Nat} : dCallK np F perm mus ds es ρ = bd (evAll ds ρ) fun rs => bd (evAll es ρ) fun qs => bd (bindMany mus (rs ++ qs)) fun ss => callN np F (permL perm ss) := nr rfl
@[simp] theorem e_callN {F : Fn} {ss : List SV} : callN np F ss = if ss.length = np then callF F ss else stk := nr rfl
@[simp] theorem e_callF {F : Fn} {ss : List SV} : callF F ss S = oa (avsOf ss S) fun avs ns => if noDup ns then fc S ns (F avs) else .stuck := nr (by simp only [callF]; cases avsOf ss S with | none => rfl | some x => cases x; rfl)
@[simp] theorem e_av0 : avsOf [] S = some ([], []) := nr rfl
@[simp] theorem e_avv {ss : List SV} : avsOf (.val p :: ss) S = (avsOf ss S).map fun x => (.val p :: x.1, x.2) := nr (by rw [avsOf]; cases avsOf ss S with | none => rfl | some x => cases x; rfl)
@[simp] theorem e_avr {ss : List SV} : avsOf (.ref n :: ss) S = S[n]?.bind fun c => (avsOf ss S).bind fun x => avC c n x := nr (by rw [avsOf]; cases S[n]? with | none => rfl | some c => simp only [Option.bind_some]; cases avsOf ss S with | none => cases c <;> rfl | some x => cases x; cases c <;> rfl)
@[simp] theorem e_sa0 {cs : Sto} : setAll S [] cs = S := by cases cs <;> rfl
@[simp] theorem e_sa1 {c : Cell} {cs : Sto} {ns : List Nat} : setAll S (n :: ns) (c :: cs) = setAll (S.set n c) ns cs := nr rfl
@[simp] theorem e_nd0 : noDup [] = true := nr rfl
@[simp] theorem e_nd1 {ns : List Nat} : noDup (n :: ns) = (!ns.contains n && noDup ns) := nr rfl
@[simp] theorem e_run {b : DenS} {avs : List AV} : runF nl b avs = rf (cels avs).length (b ((slots avs 0).map some ++ List.replicate (nl - avs.length) none) (cels avs)) := nr rfl
@[simp] theorem e_sl0 : slots [] n = [] := nr rfl
@[simp] theorem e_slv {r : List AV} : slots (.val p :: r) n = .val p :: slots r n := nr rfl
@[simp] theorem e_slc {r : List AV} : slots (.cel p :: r) n = .ref n :: slots r (n + 1) := nr rfl
@[simp] theorem e_ce0 : cels [] = [] := nr rfl
@[simp] theorem e_cev {r : List AV} : cels (.val p :: r) = cels r := nr rfl
@[simp] theorem e_cec {r : List AV} : cels (.cel p :: r) = .live p :: cels r := nr rfl
@[simp] theorem e_finv : fin n (.val p) S = if n ≤ S.length then .ok (.val p) (S.take n) else .stuck := nr rfl
@[simp] theorem e_fino : fin n (.own p) S = if n ≤ S.length then .ok (.own p) (S.take n) else .stuck := nr rfl
@[simp] theorem e_finr {k : Nat} : fin n (.ref k) S = if n ≤ S.length then (if k < n then .stuck else of (S[k]?) (S.take n)) else .stuck := nr (by simp only [fin]; cases S[k]? with | none => rfl | some c => cases c <;> rfl)
end
section
variable {S : Sto} {ρ : Env} {n : Nat} {p q z : PV} {r : RV} {ps : List PV} {t : TgD} {ts : List TgD} {da db d e : Den} {f : PV → Option (PV × PV)}
@[simp] theorem e_tgs : tgSub da db r ρ = bd (force r) fun p => bd (da ρ) fun q => bd (db ρ) fun z => withP z fun k => bd (updV q (setF k p)) fun _ => ret ρ := nr rfl
@[simp] theorem e_wip {α : Type} {g : PV → M α} : withP r g S = oc (peek r S) fun p => g p S := nr (by simp only [withP]; cases peek r S <;> rfl)
@[simp] theorem e_upv : updV (.ref n) f S = ol S[n]? fun p => oc (f p) fun x => .ok (.val x.2) (S.set n (.live x.1)) := nr (by simp only [updV]; cases S[n]? with | none => rfl | some c => cases c with | nest es => rfl | froz p => rfl | live p => simp only [ol_l]; cases f p with | none => rfl | some x => cases x; rfl)
@[simp] theorem e_set0 : setF (.int 0) z (.lst (p :: ps)) = some (.lst (z :: ps), .non) := by
  have h : L2.ixN (ps.length + 1) 0 = some 0 := by
    unfold L2.ixN
    rw [if_pos (by decide), if_pos (by omega)] <;> rfl
  simp [setF, h]
@[simp] theorem e_set1 : setF (.int 1) z (.lst (p :: q :: ps)) = some (.lst (p :: z :: ps), .non) := by
  have h : L2.ixN (ps.length + 1 + 1) 1 = some 1 := by
    unfold L2.ixN
    rw [if_pos (by decide), if_pos (by omega)] <;> rfl
  simp [setF, h]
@[simp] theorem e_tgt : tgTup ts (.val (.tup ps)) ρ = if ps.length = ts.length then tgAll ts ps ρ else stk := nr rfl
@[simp] theorem e_tga0 : tgAll [] [] ρ = ret ρ := nr rfl
@[simp] theorem e_tga1 : tgAll (t :: ts) (p :: ps) ρ = bd (t (.val p) ρ) fun ρ' => tgAll ts ps ρ' := nr rfl
@[simp] theorem e_app : dApp d e ρ = bd (d ρ) fun r => bd (chkL r) fun _ => bd (e ρ) fun q => bd (force q) fun p => updV r (appF p) := nr rfl
@[simp] theorem e_ext : dExt d e ρ = bd (d ρ) fun r => bd (chkL r) fun _ => bd (e ρ) fun q => withP q fun p => updV r (extF p) := nr rfl
@[simp] theorem e_pop : dPop d e ρ = bd (d ρ) fun r => bd (chkL r) fun _ => bd (e ρ) fun q => withP q fun p => updV r (popF p) := nr rfl
@[simp] theorem e_chkL : chkL r S = oc (peek r S) fun p => il p S := nr (by simp only [chkL]; cases peek r S with | none => rfl | some p => cases p <;> rfl)
@[simp] theorem e_mix : dMIx d e ρ = bd (d ρ) fun r => bd (chkL r) fun _ => bd (e ρ) fun q => run2 bIndex r q := nr rfl
end
/-! values -/
def isI : PV → Bool
  | .int _ => true
  | _ => false
/-- a whole number from a to b -/
def inR (a b : Int) : PV → Bool
  | .int i => decide (a ≤ i) && decide (i ≤ b)
  | _ => false
def isL : PV → Bool
  | .lst _ => true
  | .tup _ => true
  | .scr _ => true
  | _ => false
def isTu : PV → Bool
  | .tup _ => true
  | _ => false
end Pf
end
section
set_option Elab.async false
set_option linter.all false
set_option maxHeartbeats 1000000
set_option autoImplicit false
namespace Pf
open PySem
/-! plain laws of the operations -/
@[simp] theorem eqv_int (a b : Int) : eqv (.int a) (.int b) = decide (a = b) := by rw [Bool.eq_iff_iff]; simp [eqv, toD, PyData.eqv]
@[simp] theorem eqv_st (a b : Str) : eqv (.str a) (.str b) = decide (a = b) := by rw [Bool.eq_iff_iff]; simp [eqv, toD, PyData.eqv]
@[simp] theorem beq_ii (a b : Int) : bEq (.int a) (.int b) = some (.val (.bl (decide (a = b)))) := by simp [bEq, isS, dat]
@[simp] theorem bne_ii (a b : Int) : bNe (.int a) (.int b) = some (.val (.bl (!decide (a = b)))) := by simp [bNe, isS, dat]
@[simp] theorem beq_ss (a b : Str) : bEq (.str a) (.str b) = some (.val (.bl (decide (a = b)))) := by simp [bEq, isS]
@[simp] theorem bne_ss (a b : Str) : bNe (.str a) (.str b) = some (.val (.bl (!decide (a = b)))) := by simp [bNe, isS]
@[simp] theorem badd_ii (a b : Int) : bAdd (.int a) (.int b) = some (.val (.int (a + b))) := rfl
@[simp] theorem bsub_ii (a b : Int) : bSub (.int a) (.int b) = some (.val (.int (a - b))) := rfl
@[simp] theorem blt_ii (a b : Int) : bLt (.int a) (.int b) = some (.val (.bl (decide (a < b)))) := rfl
@[simp] theorem ble_ii (a b : Int) : bLe (.int a) (.int b) = some (.val (.bl (decide (a ≤ b)))) := rfl
@[simp] theorem bgt_ii (a b : Int) : bGt (.int a) (.int b) = some (.val (.bl (decide (b < a)))) := rfl
@[simp] theorem bge_ii (a b : Int) : bGe (.int a) (.int b) = some (.val (.bl (decide (b ≤ a)))) := rfl
@[simp] theorem uneg_i (a : Int) : uNeg (.int a) = some (.val (.int (-a))) := rfl
@[simp] theorem flen_l (xs : List PV) : fLen (.lst xs) = some (.val (.int xs.length)) := rfl
@[simp] theorem flen_t (xs : List PV) : fLen (.tup xs) = some (.val (.int xs.length)) := rfl
@[simp] theorem flen_c (ns : List Int) : fLen (.scr ns) = some (.val (.int ns.length)) := rfl
@[simp] theorem fint_i (i : Int) : fInt (.int i) = some (.val (.int i)) := rfl
@[simp] theorem ftup_l (xs : List PV) : fTuple (.lst xs) = some (.val (.tup xs)) := rfl
@[simp] theorem flist_l (xs : List PV) : fList (.lst xs) = some (.own (.lst xs)) := rfl
@[simp] theorem flist_t (xs : List PV) : fList (.tup xs) = some (.own (.lst xs)) := rfl
theorem log2_le {n k : Nat} (h : n < 2 ^ k) (hk : 0 < k) : n.log2 ≤ k := by
  by_cases h0 : n = 0
  · subst h0; simp
  · exact Nat.le_of_lt ((Nat.log2_lt h0).mpr h)
theorem mul_ok {i j : Int} (hi : i.natAbs < 2 ^ 100) (hj : j.natAbs < 2 ^ 100) : bMul (.int i) (.int j) = some (.val (.int (i * j))) := by
  have a := log2_le hi (by omega)
  have b := log2_le hj (by omega)
  simp only [bMul]
  rw [if_pos (by omega)]
theorem mod_ok {i j : Int} (hj : 0 < j) : bMod (.int i) (.int j) = some (.val (.int (i % j))) := by
  simp only [bMod]
  rw [if_pos hj]
theorem div_ok {i j : Int} (hj : 0 < j) (h : j < 2 ^ 60) : bDiv (.int i) (.int j) = some (.val (.int (i / j))) := by
  have a := log2_le (n := j.natAbs) (k := 60) (by omega) (by omega)
  simp only [bDiv]
  rw [if_pos ⟨hj, by omega⟩]
theorem dm_ok {i j : Int} (hj : 0 < j) (h : j < 1073741824) : fDm (.int i) (.int j) = some (.val (.tup [.int (i / j), .int (i % j)])) := by
  simp only [fDm]
  rw [if_pos ⟨hj, h⟩]
@[simp] theorem max2_ii (a b : Int) : fMax2 (.int a) (.int b) = some (.val (.int (if b > a then b else a))) := rfl
@[simp] theorem min2_ii (a b : Int) : fMin2 (.int a) (.int b) = some (.val (.int (if b < a then b else a))) := rfl
@[simp] theorem abs_i (a : Int) : fAbs (.int a) = some (.val (.int (if a < 0 then -a else a))) := rfl
/-- the drawing pot -/
def PotOk (p : PV) : Prop := ∃ a b : Int, p = .lst [.int a, .int b] ∧ 0 ≤ b ∧ b < 2147483648
theorem ixN_nat {n k : Nat} (h : k < n) : L2.ixN n (k : Int) = some k := by
  unfold L2.ixN
  rw [if_pos (by omega), if_pos (by omega)]
  simp
theorem atI_nat {α : Type} {xs : List α} {k : Nat} {x : α} (h : xs[k]? = some x) : L2.atI xs (k : Int) = some x := by
  unfold L2.atI
  rw [ixN_nat (List.getElem?_eq_some_iff.mp h).1]
  exact h
theorem idx_t {xs : List PV} {k : Nat} {x : PV} (h : xs[k]? = some x) : bIdx (.tup xs) (.int (k : Int)) = some (.val x) := by simp [bIdx, atI_nat h]
theorem idx_l {xs : List PV} {k : Nat} {x : PV} (h : xs[k]? = some x) : bIdx (.lst xs) (.int (k : Int)) = some (.val x) := by simp [bIdx, atI_nat h]
theorem idx_s {ns : List Int} {k : Nat} {x : Int} (h : ns[k]? = some x) : bIdx (.scr ns) (.int (k : Int)) = some (.val (.int x)) := by simp [bIdx, atI_nat h]
@[simp] theorem idx_t0 (x : PV) (xs : List PV) : bIdx (.tup (x :: xs)) (.int 0) = some (.val x) := idx_t (k := 0) rfl
@[simp] theorem idx_t1 (x y : PV) (xs : List PV) : bIdx (.tup (x :: y :: xs)) (.int 1) = some (.val y) := idx_t (k := 1) rfl
@[simp] theorem idx_l0 (x : PV) (xs : List PV) : bIdx (.lst (x :: xs)) (.int 0) = some (.val x) := idx_l (k := 0) rfl
@[simp] theorem idx_l1 (x y : PV) (xs : List PV) : bIdx (.lst (x :: y :: xs)) (.int 1) = some (.val y) := idx_l (k := 1) rfl
@[simp] theorem isi_int (v : PV) : fIsi ["int"] v = some (.val (.bl (match v with | .int _ => true | .bl _ => true | _ => false))) := by cases v <;> rfl
@[simp] theorem isi_bool (v : PV) : fIsi ["bool"] v = some (.val (.bl (match v with | .bl _ => true | _ => false))) := by cases v <;> rfl
@[simp] theorem isi_tup (v : PV) : fIsi ["tuple"] v = some (.val (.bl (isTu v))) := by cases v <;> rfl
@[simp] theorem isi_lt (v : PV) : fIsi ["list", "tuple"] v = some (.val (.bl (isL v))) := by cases v <;> rfl
theorem bls_ok (xs : List PV) (P : PV → Bool) : bls? (xs.map fun x => .bl (P x)) = some (xs.map P) := by
  induction xs with
  | nil => rfl
  | cons x xs ih => simp [bls?, ih]
theorem fall_ok (xs : List PV) (P : PV → Bool) : fAll (.lst (xs.map fun x => .bl (P x))) = some (.val (.bl (xs.all P))) := by
  simp [fAll, bls_ok, List.all_map, Function.comp_def]
theorem fall_of {xs : List PV} {P : PV → Bool} {b : Bool} (h : xs.all P = b) : fAll (.lst (xs.map fun x => .bl (P x))) = some (.val (.bl b)) := by rw [fall_ok, h]
/-! what is gone through -/
def z2 (rs : List RV) : M (List PV × List (Nat × PV)) := match rs with
  | [r, q] => bd (bindV false r) fun s => bd (bindV false q) fun t => bd (srcOf s) fun x => bd (srcOf t) fun y => ret (zip2 x.1 y.1, x.2 ++ y.2)
  | _ => stk
@[simp] theorem z2_2 {r q : RV} : z2 [r, q] = bd (bindV false r) fun s => bd (bindV false q) fun t => bd (srcOf s) fun x => bd (srcOf t) fun y => ret (zip2 x.1 y.1, x.2 ++ y.2) := nr rfl
section
variable {ρ : Env} {S : Sto} {d : Den} {ds : List Den} {i : Nat}
@[simp] theorem e_itseq : itSeq d ρ = bd (d ρ) fun r => bd (bindV false r) srcOf := nr rfl
@[simp] theorem e_srcv {p : PV} : srcOf (.val p) S = ob (itemsOf p) fun xs => .ok (xs, []) S := nr (by simp only [srcOf]; cases itemsOf p <;> rfl)
@[simp] theorem e_srcr {n : Nat} : srcOf (.ref n) S = ob S[n]? fun c => ob (itemsOf (cellV c)) fun xs => .ok (xs, [(n, cellV c)]) S := nr (by simp only [srcOf]; cases S[n]? with | none => rfl | some c => simp only [ob_some]; cases itemsOf (cellV c) <;> rfl)
@[simp] theorem e_itl (xs : List PV) : itemsOf (.lst xs) = some xs := nr rfl
@[simp] theorem e_itt (xs : List PV) : itemsOf (.tup xs) = some xs := nr rfl
@[simp] theorem e_rng {f : List PV → Option (List PV)} : itRng f ds ρ = bd (evAll ds ρ) fun rs => fun S => ob (peeks rs S) fun ps => ob (f ps) fun xs => .ok (xs, []) S := nr (by unfold itRng; congr 1; funext rs S; cases peeks rs S with | none => rfl | some ps => simp only [ob_some]; cases f ps <;> rfl)
@[simp] theorem e_enum : itEnum d ρ = bd (d ρ) fun r => bd (bindV false r) fun sv => bd (srcOf sv) fun x => ret (numd 0 x.1, x.2) := nr rfl
@[simp] theorem e_zip2 : itZip2 ds ρ = bd (evAll ds ρ) z2 := nr rfl
@[simp] theorem e_for' {it : ItD} {t : TgD} {b : DenS} : dsFor it t b ρ = bd (it ρ) fun x => loop x.2 t b x.1 ρ := nr rfl
theorem rng1_nat (n : Nat) (h : n < 2 ^ 62) : rng1 [.int (n : Int)] = some ((List.range n).map fun i => .int (i : Nat)) := by
  have e : okI (n : Int) = true := by
    unfold okI
    simp
    omega
  show (if okI (n : Int) then some (rngI 0 (n : Int).toNat) else none) = _
  rw [if_pos e]
  simp [rngI]
@[simp] theorem chk_nil : chkG [] S = true := rfl
theorem chk_ok {gs : List (Nat × PV)} (h : chkG gs S = true) : chk gs S = .ok () S := by simp [chk, h]
/-- a comprehension that changes nothing -/
theorem cl_map {gs : List (Nat × PV)} {e : Den} (hg : chkG gs S = true) (g : PV → PV) : ∀ xs : List PV, (∀ x ∈ xs, e (ρ.set i (some (.val x))) S = .ok (.val (g x)) S) → cl gs (tgName i false) none e xs ρ S = .ok (xs.map g) S
  | [], _ => by simp [cl, chk_ok hg]
  | x :: xs, h => by
    have h1 := h x List.mem_cons_self
    have ih := cl_map hg g xs fun y hy => h y (List.mem_cons_of_mem _ hy)
    simp [cl, turnC, condM, chk_ok hg, h1, ih]
theorem cl_mapT {t : TgD} {gs : List (Nat × PV)} {e : Den} (hg : chkG gs S = true) (g : PV → PV) : ∀ xs : List PV, (∀ x ∈ xs, ∃ ρ1, t (.val x) ρ S = .ok ρ1 S ∧ e ρ1 S = .ok (.val (g x)) S) → cl gs t none e xs ρ S = .ok (xs.map g) S
  | [], _ => by simp [cl, chk_ok hg]
  | x :: xs, h => by
    obtain ⟨ρ1, h0, h1⟩ := h x List.mem_cons_self
    have ih := cl_mapT hg g xs fun y hy => h y (List.mem_cons_of_mem _ hy)
    simp [cl, turnC, condM, chk_ok hg, h0, h1, ih]
theorem cl_filt {gs : List (Nat × PV)} {c e : Den} (hg : chkG gs S = true) (P : PV → Bool) (g : PV → PV) : ∀ xs : List PV, (∀ x ∈ xs, c (ρ.set i (some (.val x))) S = .ok (.val (.bl (P x))) S ∧ e (ρ.set i (some (.val x))) S = .ok (.val (g x)) S) →
    cl gs (tgName i false) (some c) e xs ρ S = .ok ((xs.filter P).map g) S
  | [], _ => by simp [cl, chk_ok hg]
  | x :: xs, h => by
    obtain ⟨h1, h2⟩ := h x List.mem_cons_self
    have ih := cl_filt hg P g xs fun y hy => h y (List.mem_cons_of_mem _ hy)
    cases hp : P x <;> simp [cl, turnC, condM, chk_ok hg, h1, h2, ih, hp]
theorem dComp_ok {t : TgD} {it : ItD} {c : Option Den} {e : Den} {vs : List Nat} {xs : List PV} {gs : List (Nat × PV)} {S1 S2 : Sto} {r : List PV} (h1 : it ρ S = .ok (xs, gs) S1) (hl : xs.length ≤ sizeLine) (h2 : cl gs t c e xs (wipeE ρ vs) S1 = .ok r S2) :
    dComp it t c e vs ρ S = .ok (.own (.lst r)) S2 := by
  simp [dComp, h1, lenOk, hl, noX, h2]
theorem dComp_map {it : ItD} {e : Den} {vs : List Nat} {xs : List PV} {gs : List (Nat × PV)} (g : PV → PV) (h1 : it ρ S = .ok (xs, gs) S) (hl : xs.length ≤ sizeLine) (hg : chkG gs S = true) (h2 : ∀ x ∈ xs, e ((wipeE ρ vs).set i (some (.val x))) S = .ok (.val (g x)) S) :
    dComp it (tgName i false) none e vs ρ S = .ok (.own (.lst (xs.map g))) S := dComp_ok h1 hl (cl_map hg g xs h2)
theorem dComp_mapT {t : TgD} {it : ItD} {e : Den} {vs : List Nat} {xs : List PV} {gs : List (Nat × PV)} (g : PV → PV) (h1 : it ρ S = .ok (xs, gs) S) (hl : xs.length ≤ sizeLine) (hg : chkG gs S = true) (h2 : ∀ x ∈ xs, ∃ ρ1, t (.val x) (wipeE ρ vs) S = .ok ρ1 S ∧ e ρ1 S = .ok (.val (g x)) S) :
    dComp it t none e vs ρ S = .ok (.own (.lst (xs.map g))) S := dComp_ok h1 hl (cl_mapT hg g xs h2)
theorem dComp_filt {it : ItD} {c e : Den} {vs : List Nat} {xs : List PV} {gs : List (Nat × PV)} (P : PV → Bool) (g : PV → PV) (h1 : it ρ S = .ok (xs, gs) S) (hl : xs.length ≤ sizeLine) (hg : chkG gs S = true)
    (h2 : ∀ x ∈ xs, c ((wipeE ρ vs).set i (some (.val x))) S = .ok (.val (.bl (P x))) S ∧ e ((wipeE ρ vs).set i (some (.val x))) S = .ok (.val (g x)) S) :
    dComp it (tgName i false) (some c) e vs ρ S = .ok (.own (.lst ((xs.filter P).map g))) S := dComp_ok h1 hl (cl_filt hg P g xs h2)
/-- a comprehension whose turns keep what Iv says -/
theorem cl_inv {t : TgD} {gs : List (Nat × PV)} {c : Option Den} {e : Den} (Iv : Sto → Prop) (Q : PV → PV → Prop) (hg : ∀ S, Iv S → chkG gs S = true) : ∀ xs : List PV, (∀ x ∈ xs, ∀ S, Iv S → ∃ p S', turnC gs t c e x ρ S = .ok (some p) S' ∧ Iv S' ∧ Q x p) → ∀ S, Iv S →
    ∃ ps S', cl gs t c e xs ρ S = .ok ps S' ∧ Iv S' ∧ Paired Q xs ps
  | [], _, S, hS => ⟨[], S, by simp [cl, chk_ok (hg S hS)], hS, .nil⟩
  | x :: xs, h, S, hS => by
    obtain ⟨p, S1, e1, h1, q1⟩ := h x List.mem_cons_self S hS
    obtain ⟨ps, S2, e2, h2, q2⟩ := cl_inv Iv Q hg xs (fun y hy => h y (List.mem_cons_of_mem _ hy)) S1 h1
    exact ⟨p :: ps, S2, by simp [cl, e1, e2], h2, .cons q1 q2⟩
theorem dComp_inv {t : TgD} {it : ItD} {c : Option Den} {e : Den} {vs : List Nat} {xs : List PV} {gs : List (Nat × PV)} {S1 : Sto} (Iv : Sto → Prop) (Q : PV → PV → Prop) (h1 : it ρ S = .ok (xs, gs) S1) (hl : xs.length ≤ sizeLine) (hg : ∀ S, Iv S → chkG gs S = true) (hS : Iv S1)
    (h2 : ∀ x ∈ xs, ∀ S, Iv S → ∃ p S', turnC gs t c e x (wipeE ρ vs) S = .ok (some p) S' ∧ Iv S' ∧ Q x p) : ∃ ps S', dComp it t c e vs ρ S = .ok (.own (.lst ps)) S' ∧ Iv S' ∧ Paired Q xs ps := by
  obtain ⟨ps, S2, e1, i1, q1⟩ := cl_inv Iv Q hg xs h2 S1 hS
  exact ⟨ps, S2, dComp_ok h1 hl e1, i1, q1⟩
/-- a loop whose turns keep what Iv says -/
theorem loop_inv {t : TgD} {b : DenS} {gs : List (Nat × PV)} (Iv : Nat → Env → Sto → Prop) (hg : ∀ i ρ S, Iv i ρ S → chkG gs S = true) : ∀ (xs : List PV) (k : Nat), (∀ j x, xs[j]? = some x → ∀ ρ S, Iv (k + j) ρ S → ∃ ρ' S', (bd (t (.val x) ρ) fun ρ1 => b ρ1) S = .ok (ρ', .nx) S' ∧ Iv (k + j + 1) ρ' S') →
    ∀ ρ S, Iv k ρ S → ∃ ρ' S', loop gs t b xs ρ S = .ok (ρ', .nx) S' ∧ Iv (k + xs.length) ρ' S'
  | [], k, _, ρ, S, hS => ⟨ρ, S, by simp [loop, chk_ok (hg _ _ _ hS)], hS⟩
  | x :: xs, k, h, ρ, S, hS => by
    obtain ⟨ρ1, S1, e1, h1⟩ := h 0 x rfl ρ S hS
    obtain ⟨ρ2, S2, e2, h2⟩ := loop_inv Iv hg xs (k + 1) (fun j y hj ρ S hS => by
      have e0 : k + 1 + j = k + (j + 1) := by omega
      rw [e0] at hS ⊢
      exact h (j + 1) y (by simpa using hj) ρ S hS) ρ1 S1 h1
    refine ⟨ρ2, S2, ?_, by have e0 : k + (x :: xs).length = k + 1 + xs.length := by simp; omega
                           rw [e0]; exact h2⟩
    have e3 : (bd (bd (t (.val x) ρ) fun ρ1 => b ρ1) (cont (loop gs t b xs))) S = .ok (ρ2, .nx) S2 := by
      rw [e_bd, e1]
      exact e2
    rw [bd_assoc] at e3
    rw [loop, e_bd, chk_ok (hg _ _ _ hS)]
    exact e3
end
@[simp] theorem e_w0 (ρ : Env) : wipeE ρ [] = ρ := nr rfl
@[simp] theorem e_w1 (ρ : Env) (v : Nat) (vs : List Nat) : wipeE ρ (v :: vs) = (wipeE ρ vs).set v none := nr rfl
theorem while_done {c : Den} {b : DenS} {n : Nat} {ρ : Env} {S S' : Sto} (h : dTest c ρ S = .ok false S') : dsWhile (n + 1) c b ρ S = .ok (ρ, .nx) S' := by
  show (bd (dTest c ρ) fun k => if k then bd (b ρ) (cont (loopW c b n)) else ret (ρ, .nx)) S = _
  rw [e_bd, h]
  rfl
theorem while_more {c : Den} {b : DenS} {n : Nat} {ρ ρ' : Env} {S S1 S2 : Sto} (h : dTest c ρ S = .ok true S1) (h2 : b ρ S1 = .ok (ρ', .nx) S2) : dsWhile (n + 1) c b ρ S = dsWhile n c b ρ' S2 := by
  show (bd (dTest c ρ) fun k => if k then bd (b ρ) (cont (loopW c b n)) else ret (ρ, .nx)) S = _
  rw [e_bd, h]
  show (bd (b ρ) (cont (loopW c b n))) S1 = _
  rw [e_bd, h2]
  rfl
/-! whole numbers in a row -/
def tupN (ns : List Nat) : PV := .tup (ns.map fun n => .int (n : Nat))
@[simp] theorem flen_N (ns : List Nat) : fLen (tupN ns) = some (.val (.int ns.length)) := by simp [tupN]
@[simp] theorem items_N (ns : List Nat) : itemsOf (tupN ns) = some (ns.map fun n => .int (n : Nat)) := rfl
@[simp] theorem isTu_N (ns : List Nat) : isTu (tupN ns) = true := rfl
theorem idx_N {ns : List Nat} {k n : Nat} (h : ns[k]? = some n) : bIdx (tupN ns) (.int (k : Int)) = some (.val (.int (n : Nat))) := idx_t (by simp [h])
end Pf
end
section
set_option Elab.async false
set_option linter.all false
set_option maxHeartbeats 1000000
set_option autoImplicit false
namespace Pf
open PySem
/-! Euclid's loop, whatever its text: E a l is the names' state -/
theorem mod_half {l r : Nat} (h0 : 0 < r) (h : r < l) : 2 * (l % r) < l := by
  have h1 := Nat.mod_lt l h0
  have h2 := Nat.div_add_mod l r
  have h3 : 1 ≤ l / r := (Nat.one_le_div_iff h0).mpr (Nat.le_of_lt h)
  have h4 : r * 1 ≤ r * (l / r) := Nat.mul_le_mul_left r h3
  omega
theorem euclid {c : Den} {b : DenS} {E : Nat → Nat → Env} {S : Sto} (hc0 : ∀ a, dTest c (E a 0) S = .ok false S) (hc : ∀ a l, 0 < l → dTest c (E a l) S = .ok true S) (hb : ∀ a l, 0 < l → b (E a l) S = .ok (E l (a % l), .nx) S) :
    ∀ (k : Nat) (n a l : Nat), l < 2 ^ k → 2 * k + 1 ≤ n → dsWhile n c b (E a l) S = .ok (E (Nat.gcd l a) 0, .nx) S
  | 0, n, a, l, hl, hn => by
    have h0 : l = 0 := by simpa using hl
    subst h0
    obtain ⟨m, rfl⟩ : ∃ m, n = m + 1 := ⟨n - 1, by omega⟩
    rw [Nat.gcd_zero_left]
    exact while_done (hc0 a)
  | k + 1, n, a, l, hl, hn => by
    obtain ⟨m, rfl⟩ : ∃ m, n = m + 1 := ⟨n - 1, by omega⟩
    by_cases h0 : l = 0
    · subst h0
      rw [Nat.gcd_zero_left]
      exact while_done (hc0 a)
    · have h0 : 0 < l := Nat.pos_of_ne_zero h0
      rw [while_more (hc a l h0) (hb a l h0)]
      obtain ⟨m, rfl⟩ : ∃ m', m = m' + 1 := ⟨m - 1, by omega⟩
      by_cases h1 : a % l = 0
      · rw [h1, Nat.gcd_rec l a, h1, Nat.gcd_zero_left]
        exact while_done (hc0 l)
      · have h1 : 0 < a % l := Nat.pos_of_ne_zero h1
        rw [while_more (hc l _ h1) (hb l _ h1), Nat.gcd_rec l a, Nat.gcd_rec (a % l) l]
        have h2 := mod_half h1 (Nat.mod_lt a h0)
        exact euclid hc0 hc hb k m (a % l) (l % (a % l)) (by rw [Nat.pow_succ] at hl; omega) (by omega)
/-! reduced fractions -/
def frac (q : Rat) : PV := .tup [.int q.num, .int (q.den : Nat)]
theorem frac_inj {p q : Rat} (h : frac p = frac q) : p = q := by
  simp only [frac, PV.tup.injEq, List.cons.injEq, PV.int.injEq, and_true] at h
  exact Rat.ext h.1 (by omega)
/-- top and bottom divided by their greatest common divisor -/
theorem frac_mk {t : Int} {b : Nat} (hb : 0 < b) : frac (mkRat t b) = .tup [.int (t / (Nat.gcd t.natAbs b : Nat)), .int ((b : Int) / (Nat.gcd t.natAbs b : Nat))] := by
  have e : mkRat t b = Rat.normalize t b (by omega) := by
    unfold mkRat
    rw [dif_neg (by omega)]
  rw [e, Rat.normalize_eq]
  simp [frac]
@[simp] theorem frac_0 : frac 0 = .tup [.int 0, .int 1] := rfl
@[simp] theorem frac_1 : frac 1 = .tup [.int 1, .int 1] := rfl
theorem rat_add_mk (p q : Rat) : mkRat (p.num * q.den + q.num * p.den) (p.den * q.den) = p + q := by
  rw [Rat.add_def, Rat.normalize_eq_mkRat]
theorem rat_mul_mk (p q : Rat) : mkRat (p.num * q.num) (p.den * q.den) = p * q := by
  rw [Rat.mul_def, Rat.normalize_eq_mkRat]
theorem rat_sub_mk (p q : Rat) : mkRat (p.num * q.den - q.num * p.den) (p.den * q.den) = p - q := by
  rw [Rat.sub_def, Rat.normalize_eq_mkRat]
theorem rat_lt_mk (p q : Rat) : decide (p.num * (q.den : Int) < q.num * (p.den : Int)) = decide (p < q) := by
  rw [Bool.eq_iff_iff]
  simp [Rat.lt_iff]
end Pf
end
section
set_option Elab.async false
set_option linter.all false
set_option maxHeartbeats 1000000
set_option autoImplicit false
namespace Pf
open PySem PySem.Spec L2 PyProof.Rows
/-! len(set(xs)), xs a list or a tuple of whole numbers -/
/-- each number once -/
def onces (ns : List Int) : List Int := ns.foldl (fun σ k => if σ.any (· == k) then σ else σ ++ [k]) []
theorem firstMet_onces (ns : List Int) : firstMet (fun i => ns.getD i 0) ns.length = onces ns := by
  unfold firstMet onces
  have e : (List.range ns.length).map (fun i => ns.getD i 0) = ns := by
    refine List.ext_getElem (by simp) fun i h1 h2 => ?_
    simp [List.getD_eq_getElem?_getD, List.getElem?_eq_getElem h2]
  rw [e]
  rfl
theorem onces_fold : ∀ (ns σ : List Int), σ.Nodup → (ns.foldl (fun σ k => if σ.any (· == k) then σ else σ ++ [k]) σ).Nodup ∧ ∀ x, x ∈ ns.foldl (fun σ k => if σ.any (· == k) then σ else σ ++ [k]) σ ↔ x ∈ σ ∨ x ∈ ns
  | [], σ, h => ⟨h, fun x => by simp⟩
  | n :: ns, σ, h => by
    rw [List.foldl_cons]
    by_cases hm : n ∈ σ
    · have e : (σ.any (· == n)) = true := by simpa using hm
      rw [e, if_pos rfl]
      obtain ⟨h1, h2⟩ := onces_fold ns σ h
      refine ⟨h1, fun x => (h2 x).trans ⟨fun z => z.elim .inl fun z => .inr (List.mem_cons_of_mem _ z), fun z => ?_⟩⟩
      rcases z with z | z
      · exact .inl z
      · rcases List.mem_cons.mp z with z | z
        · subst z; exact .inl hm
        · exact .inr z
    · have e : (σ.any (· == n)) = false := by
        cases hb : σ.any (· == n) with
        | false => rfl
        | true => exact absurd (by simpa using hb) hm
      rw [e, if_neg (by decide)]
      obtain ⟨h1, h2⟩ := onces_fold ns (σ ++ [n]) (List.nodup_append.mpr ⟨h, by simp, fun a ha b hb => by
        have : b = n := by simpa using hb
        subst this
        exact fun z => hm (z ▸ ha)⟩)
      refine ⟨h1, fun x => (h2 x).trans ⟨fun z => ?_, fun z => ?_⟩⟩
      · rcases z with z | z
        · rcases List.mem_append.mp z with z | z
          · exact .inl z
          · exact .inr (List.mem_cons.mpr (.inl (by simpa using z)))
        · exact .inr (List.mem_cons_of_mem _ z)
      · rcases z with z | z
        · exact .inl (List.mem_append_left _ z)
        · rcases List.mem_cons.mp z with z | z
          · subst z; exact .inl (by simp)
          · exact .inr z
theorem onces_nd (ns : List Int) : (onces ns).Nodup := (onces_fold ns [] List.nodup_nil).1
theorem onces_mem (ns : List Int) (x : Int) : x ∈ onces ns ↔ x ∈ ns := by
  have := (onces_fold ns [] List.nodup_nil).2 x
  simpa [onces] using this
theorem onces_len {ns l : List Int} (h1 : l.Nodup) (h2 : ∀ x, x ∈ l ↔ x ∈ ns) : l.length = (onces ns).length :=
  ((List.perm_ext_iff_of_nodup h1 (onces_nd ns)).mpr fun x => (h2 x).trans (onces_mem ns x).symm).length_eq
theorem onces_le (ns : List Int) : (onces ns).length ≤ ns.length := by
  have : ∀ (ns σ : List Int), (ns.foldl (fun σ k => if σ.any (· == k) then σ else σ ++ [k]) σ).length ≤ σ.length + ns.length := fun ns => by
    induction ns with
    | nil => intro σ; simp
    | cons n ns ih =>
      intro σ
      rw [List.foldl_cons, List.length_cons]
      by_cases h : (σ.any (· == n)) = true
      · rw [if_pos h]
        have := ih σ
        omega
      · rw [if_neg h]
        have := ih (σ ++ [n])
        rw [List.length_append, List.length_singleton] at this
        omega
  simpa [onces] using this ns []
def tLenSet (K : Frag) (ta : TE) : TE := fun σ H Q => ta σ H fun x H1 => ∃ (k : Kd) (l : Addr) (ns : List Int), x = V.ref l ∧ SqX k K H1 l (ns.map V.int) ∧ ns.length ≤ 4000 ∧ Q (.int ((onces ns).length : Nat)) H1
theorem ints_vals : ∀ {ns : List Int} {us : List Value}, Vals (ns.map V.int) us → IntsAre us ns
  | [], _, .nil => .nil
  | n :: ns, _, .cons r t => by
    obtain ⟨k, rfl⟩ := r
    exact .cons n k (ints_vals t)
section
variable {X : Cx} {W : WS} {a : Expr} {d : Den} {p p2 q pos : Pos}
theorem pe_lenSet {ta : TE} (hc : X.calm = true) (hg : Gl X "len") (hm : X.mg "len" = none) (hg2 : Gl X "set") (hm2 : X.mg "set" = none) (ha : PE X a ta)
    (na : starEach [a] X.env = (false, eval a X.env) :: starEach [] X.env := by rfl) : PE X (.Call (.Name "len" p) [.Call (.Name "set" p2) [a] [] q] [] pos) (tLenSet X.K ta) := by
  refine ⟨fun pins s σ H Q I h => ?_⟩
  refine Call_ (ld_blt I hg hm boot_len ?_)
  refine callWith_builtin1 (args_cons ?_ rfl) rfl rfl
  refine Call_ (ld_blt I hg2 hm2 boot_set ?_)
  refine callWith_type1 (args_cons (thn (ha.run pins s σ H _ I h) fun v s1 ⟨x, H1, I1, r1, q1⟩ => args_nil ?_) na) na rfl
  obtain ⟨k, l, ns, rfl, hq, hl, q1⟩ := q1
  cases r1
  have ole := onces_le ns
  cases k with
  | lst =>
    obtain ⟨its, r, pl, hz⟩ := I1.list hq
    have hlen : its.toArray.size = ns.length := by rw [List.size_toArray, ← r.length, List.length_map]
    refine call_set_list (I1.ok.hd hc) pl.isList (by simpa using ints_vals r) (by rw [hlen]; unfold scanBound; omega) fun h' tk hS hk => ?_
    refine args_nil ?_
    rw [hlen, firstMet_onces] at hS
    obtain ⟨o, es, ep, t, ho, hex, hd, _, _, _, hf, hn⟩ := hS
    have I2 : Inv X pins σ H1 { s1 with heap := h', toks := tk } := I1.kept fun b o e => hk b o (Heap.lt_size e) e
    exact call_len_set ho hex hd hf (by rw [hn]; omega) ⟨.int ((onces ns).length : Nat), H1, I2.tok _, ⟨_, by rw [hn]⟩, q1⟩
  | tup =>
    obtain ⟨its, r, pt, hz⟩ := I1.tuple hq
    refine call_set_tupI ns (I1.ok.hd hc) (show s1.heap.IsTuple l its.toArray from pt) (by simpa using ints_vals r) (by unfold scanBound; omega) fun h' tk c R1 hcn kk => ?_
    refine args_nil ?_
    obtain ⟨o, es, ep, t, ho, hex, hd, g, nd, hm2, hb, hf, hn, hr, hl2⟩ := R1
    have hcnt : es.size = (onces ns).length := by
      have h1 := onces_len (ns := ns) nd fun x => by rw [← hm2 x]; simp
      rw [List.length_map, Array.length_toList] at h1
      exact h1
    have I2 : Inv X pins σ H1 { s1 with heap := h', toks := tk } := I1.kept fun b o e => kk b o e
    exact call_len_set ho hex hd hf (by rw [hcnt]; omega) ⟨.int ((onces ns).length : Nat), H1, I2.tok _, ⟨_, by rw [hcnt]⟩, q1⟩
def fLenSet (p : PV) : Option RV := match itemsOf p with
  | some xs => (match ints? xs with
    | some ns => if ns.length ≤ 4000 then some (.val (.int ((onces ns).length : Nat))) else none
    | none => none)
  | none => none
theorem pe_dlenSet (hc : X.calm = true) (hg : Gl X "len") (hm : X.mg "len" = none) (hg2 : Gl X "set") (hm2 : X.mg "set" = none) (ha : PE X a (tD X.K W d))
    (na : starEach [a] X.env = (false, eval a X.env) :: starEach [] X.env := by rfl) : PE X (.Call (.Name "len" p) [.Call (.Name "set" p2) [a] [] q] [] pos) (tD X.K W (dUn fLenSet d)) :=
  peW (pe_lenSet hc hg hm hg2 hm2 ha na) fun σ H Q h => by
    obtain ⟨ρ, g, e, sr, se, h⟩ := h
    subst e
    refine tD.bd (Stp.refl g) sr se h fun r g1 v st _ sr1 se1 hv h1 => ?_
    obtain ⟨p, x, e1, e3, k⟩ := h1.run1
    have hp := hv.peek sr1 e1
    unfold fLenSet at e3
    cases e4 : itemsOf p with
    | none => rw [e4] at e3; cases e3
    | some xs =>
      rw [e4] at e3
      simp only at e3
      cases e5 : ints? xs with
      | none => rw [e5] at e3; cases e3
      | some ns =>
        rw [e5] at e3
        simp only at e3
        split at e3
        · next hl =>
          cases e3
          obtain ⟨b, kd, vs, rfl, h2, h3⟩ := rp_items hp e4
          have hvs : vs = ns.map V.int := by
            have : ∀ {xs : List PV} {ns : List Int} {vs : List V}, ints? xs = some ns → RpL X.K g1.H g1.F xs vs → vs = ns.map V.int := fun {xs} => by
              induction xs with
              | nil => intro ns vs e h; cases e; have h : vs = [] := h; subst h; rfl
              | cons x xs ih =>
                intro ns vs e h
                obtain ⟨v, r, rfl, h1, h2⟩ := h
                cases x with
                | int i =>
                  simp only [ints?, Option.map_eq_some_iff] at e
                  obtain ⟨ms, e1, rfl⟩ := e
                  have h1 : v = _ := h1
                  rw [h1, ih e1 h2]
                  rfl
                | _ => simp [ints?] at e
            exact this e5 h3
          subst hvs
          exact ⟨kd, b, ns, rfl, h2, hl, k g1 rfl st sr1 (.int ((onces ns).length : Nat)) rfl⟩
        · cases e3
end
end Pf
end
section
set_option Elab.async false
set_option linter.all false
set_option maxHeartbeats 1000000
set_option maxRecDepth 100000
set_option autoImplicit false
namespace Pf
open PySem
/-! what repr shows -/
theorem shw_mono : ∀ (n m : Nat) (p : PV), n ≤ m → shw n p = true → shw m p = true
  | _, _, .non, _, _ => by simp [shw]
  | _, _, .bl _, _, _ => by simp [shw]
  | n, m, .int i, _, h => by
    have h' : decide (i.natAbs.log2 < 1920) = true := by cases n <;> exact h
    cases m <;> exact h'
  | n, m, .str s, _, h => by
    have h' : s.cps.all (· < 0x110000) = true := by cases n <;> exact h
    cases m <;> exact h'
  | 0, _, .tup _, _, h => by simp [shw] at h
  | 0, _, .lst _, _, h => by simp [shw] at h
  | 0, _, .dct [], _, h => by simp [shw] at h
  | _, _, .dct (_ :: _), _, h => by simp [shw] at h
  | _, _, .scr _, _, h => by simp [shw] at h
  | n + 1, m, .dct [], hl, h => by
    obtain ⟨m', rfl⟩ : ∃ m', m = m' + 1 := ⟨m - 1, by omega⟩
    simp [shw]
  | n + 1, m, .tup xs, hl, h => by
    obtain ⟨m', rfl⟩ : ∃ m', m = m' + 1 := ⟨m - 1, by omega⟩
    have h : xs.all (shw n) = true := by simpa [shw] using h
    show (xs.all (shw m')) = true
    exact List.all_eq_true.mpr fun x hx => shw_mono n m' x (by omega) (List.all_eq_true.mp h x hx)
  | n + 1, m, .lst xs, hl, h => by
    obtain ⟨m', rfl⟩ : ∃ m', m = m' + 1 := ⟨m - 1, by omega⟩
    have h : xs.all (shw n) = true := by simpa [shw] using h
    show (xs.all (shw m')) = true
    exact List.all_eq_true.mpr fun x hx => shw_mono n m' x (by omega) (List.all_eq_true.mp h x hx)
def Bd (n k : Nat) (v : PV) : Prop := shw n v = true ∧ rsz v ≤ k
theorem Bd.mono {n k m l : Nat} {v : PV} (h : Bd n k v) (h1 : n ≤ m) (h2 : k ≤ l) : Bd m l v := ⟨shw_mono n m v h1 h.1, Nat.le_trans h.2 h2⟩
theorem rszs_le {k : Nat} : ∀ {xs : List PV}, (∀ x ∈ xs, rsz x ≤ k) → rsz.rszs xs ≤ xs.length * (k + 2)
  | [], _ => by simp [rsz.rszs]
  | x :: xs, h => by
    have h1 := h x List.mem_cons_self
    have ih := rszs_le (xs := xs) fun y hy => h y (List.mem_cons_of_mem _ hy)
    rw [rsz.rszs, List.length_cons, Nat.succ_mul]
    omega
theorem bd_tup {n k m : Nat} {xs : List PV} (h : ∀ x ∈ xs, Bd n k x) (hl : xs.length ≤ m) : Bd (n + 1) (m * (k + 2) + 4) (.tup xs) := by
  refine ⟨?_, ?_⟩
  · show (xs.all (shw n)) = true
    exact List.all_eq_true.mpr fun x hx => (h x hx).1
  · have := rszs_le fun x hx => (h x hx).2
    have h2 : xs.length * (k + 2) ≤ m * (k + 2) := Nat.mul_le_mul_right _ hl
    rw [rsz]
    omega
theorem bd_lst {n k m : Nat} {xs : List PV} (h : ∀ x ∈ xs, Bd n k x) (hl : xs.length ≤ m) : Bd (n + 1) (m * (k + 2) + 4) (.lst xs) := by
  refine ⟨?_, ?_⟩
  · show (xs.all (shw n)) = true
    exact List.all_eq_true.mpr fun x hx => (h x hx).1
  · have := rszs_le fun x hx => (h x hx).2
    have h2 : xs.length * (k + 2) ≤ m * (k + 2) := Nat.mul_le_mul_right _ hl
    rw [rsz]
    omega
theorem bd_int {i : Int} (h : i.natAbs < 1000) : Bd 0 20 (.int i) := by
  refine ⟨?_, ?_⟩
  · have := log2_le (n := i.natAbs) (k := 10) (by omega) (by omega)
    show decide (i.natAbs.log2 < 1920) = true
    exact decide_eq_true (by omega)
  · rw [rsz, if_pos (by omega)]
    omega
theorem repr_ok {v : PV} (h : Bd 60 sizeLine v) : fRepr v = some (.val (.str (toD v).shown)) := by
  unfold fRepr
  rw [if_pos]
  rw [h.1, Bool.true_and]
  exact decide_eq_true h.2
theorem cutP_sub {xs : List PV} {lo hi : Option Int} : ∀ x ∈ cutP xs lo hi, x ∈ xs := fun x hx => List.mem_of_mem_drop (List.mem_of_mem_take hx)
theorem cutP_len {xs : List PV} {lo hi : Option Int} : (cutP xs lo hi).length ≤ xs.length := by
  unfold cutP
  rw [List.length_take, List.length_drop]
  omega
theorem add_tt {xs ys : List PV} (h : xs.length + ys.length ≤ 1000) : bAdd (.tup xs) (.tup ys) = some (.val (.tup (xs ++ ys))) := by
  simp only [bAdd]
  rw [if_pos (by unfold sizeLine; omega)]
theorem add_ll {xs ys : List PV} (h : xs.length + ys.length ≤ 1000) : bAdd (.lst xs) (.lst ys) = some (.own (.lst (xs ++ ys))) := by
  simp only [bAdd]
  rw [if_pos (by unfold sizeLine; omega)]
theorem cut_t {xs : List PV} {lo hi : Option Int} : sCut (.tup xs) lo hi = some (.val (.tup (cutP xs lo hi))) := nr rfl
theorem cut_l {xs : List PV} {lo hi : Option Int} : sCut (.lst xs) lo hi = some (.own (.lst (cutP xs lo hi))) := nr rfl
theorem rev_t {xs : List PV} : fRev (.tup xs) = some (.val (.tup xs.reverse)) := nr rfl
theorem bd_app {n k : Nat} {xs ys : List PV} (h1 : ∀ x ∈ xs, Bd n k x) (h2 : ∀ x ∈ ys, Bd n k x) : ∀ x ∈ xs ++ ys, Bd n k x := fun x hx => by
  rcases List.mem_append.mp hx with h | h
  · exact h1 x h
  · exact h2 x h
theorem bd_cons {n k : Nat} {y : PV} {ys : List PV} (h1 : Bd n k y) (h2 : ∀ x ∈ ys, Bd n k x) : ∀ x ∈ y :: ys, Bd n k x := fun x hx => by
  rcases List.mem_cons.mp hx with h | h
  · subst h; exact h1
  · exact h2 x h
theorem bd_nil {n k : Nat} : ∀ x ∈ ([] : List PV), Bd n k x := fun x hx => by cases hx
/-- the pot alone -/
def IvP (S : Sto) : Prop := ∃ p, S = [.live p] ∧ PotOk p
theorem paired_len {α β : Type} {R : α → β → Prop} {xs : List α} {ys : List β} (h : Paired R xs ys) : xs.length = ys.length := Paired.length h
theorem paired_all {α β : Type} {R : α → β → Prop} {Q : β → Prop} : ∀ {xs : List α} {ys : List β}, Paired R xs ys → (∀ x y, R x y → Q y) → ∀ y ∈ ys, Q y
  | _, _, .nil, _, y, h => by cases h
  | _, _, .cons a b, q, y, h => by
    rcases List.mem_cons.mp h with e | h
    · subst e; exact q _ _ a
    · exact paired_all b q y h
/-- many small whole numbers -/
theorem ints_of {lo hi : Int} : ∀ {ps : List PV}, (∀ p ∈ ps, ∃ i : Int, p = .int i ∧ lo ≤ i ∧ i ≤ hi) → ∃ r : List Int, ps = r.map .int ∧ ∀ i ∈ r, lo ≤ i ∧ i ≤ hi
  | [], _ => ⟨[], rfl, fun i h => by cases h⟩
  | p :: ps, h => by
    obtain ⟨i, rfl, h1⟩ := h p List.mem_cons_self
    obtain ⟨r, rfl, h2⟩ := ints_of (ps := ps) fun q hq => h q (List.mem_cons_of_mem _ hq)
    exact ⟨i :: r, rfl, fun j hj => by
      rcases List.mem_cons.mp hj with e | hj
      · subst e; exact h1
      · exact h2 j hj⟩
theorem int_eq_nat (a b : Nat) : decide ((a : Int) = (b : Int)) = decide (a = b) := by
  rw [Bool.eq_iff_iff]; simp; omega
theorem all_and' {α : Type} (P Q : α → Bool) (xs : List α) : (xs.all fun x => P x && Q x) = (xs.all P && xs.all Q) := by
  induction xs with
  | nil => rfl
  | cons x xs ih =>
    simp only [List.all_cons, ih]
    cases P x <;> cases Q x <;> simp
theorem bin_str {α : Type} (s : Str) (ys : List α) (f : α → Str) : bIn (.str s) (.lst (ys.map fun y => .str (f y))) = some (.val (.bl (ys.any fun y => decide (f y = s)))) := by
  have h2 : (ys.map fun y => PV.str (f y)).all flat = true := by rw [List.all_map, List.all_eq_true]; exact fun x _ => rfl
  have h3 : flat (.str s) = true := rfl
  simp only [bIn, inP, h3, h2, Bool.and_self, if_true, Option.map_some]
  congr 3
  rw [List.any_map]
  congr 1 <;> (funext y; exact eqv_st (f y) s)
def shT (x : PV) : Str := (toD x).shown
theorem reprB (b c : Bool) : fRepr (.lst [.bl b, .bl c]) = some (.val (.str (shT (.lst [.bl b, .bl c])))) := repr_ok (by cases b <;> cases c <;> exact ⟨by decide +kernel, by decide +kernel⟩)
theorem set_last {α : Type} (l : List α) (a b : α) : (l ++ [a]).set l.length b = l ++ [b] := by
  rw [List.set_append_right _ _ (Nat.le_refl _), Nat.sub_self]
  rfl
theorem get_last {α : Type} (l : List α) (a : α) : (l ++ [a])[l.length]? = some a := by simp
theorem mul_l {xs : List PV} {k : Nat} (h : xs.length * k ≤ 1000) (hk : k < 1000) : bMul (.lst xs) (.int (k : Nat)) = some (.own (.lst (List.replicate k xs).flatten)) := by
  simp only [bMul]
  rw [if_pos ⟨by simp only [Int.toNat_natCast]; unfold sizeLine; omega, by omega, by omega⟩]
  simp
def rowsOf (b : PV) : List PV := (itemsOf b).getD []
theorem isL_items {b : PV} (h : isL b = true) : ∃ ys, itemsOf b = some ys ∧ fLen b = some (.val (.int ys.length)) ∧ rowsOf b = ys := by
  cases b with
  | lst ys => exact ⟨ys, rfl, rfl, rfl⟩
  | tup ys => exact ⟨ys, rfl, rfl, rfl⟩
  | scr ns => exact ⟨ns.map .int, rfl, by simp, rfl⟩
  | _ => cases h
end Pf
end
section
set_option Elab.async false
set_option linter.all false
set_option maxHeartbeats 1000000
set_option autoImplicit false
namespace Pf
open PySem
/-! sizes of whole numbers and of fractions -/
def Sz (k : Nat) (i : Int) : Prop := i.natAbs < 2 ^ k
theorem Sz.mono {a b : Nat} {i : Int} (h : Sz a i) (hab : a ≤ b) : Sz b i := Nat.lt_of_lt_of_le h (Nat.pow_le_pow_right (by omega) hab)
theorem Sz.mul {a b : Nat} {i j : Int} (h : Sz a i) (g : Sz b j) : Sz (a + b) (i * j) := by
  unfold Sz at *
  rw [Int.natAbs_mul, Nat.pow_add]
  have h1 : i.natAbs ≤ 2 ^ a - 1 := by omega
  exact Nat.lt_of_le_of_lt (Nat.mul_le_mul_right _ (Nat.le_of_lt h)) (Nat.mul_lt_mul_of_pos_left g (Nat.pos_of_ne_zero (by have := Nat.one_le_two_pow (n := a); omega)))
theorem Sz.add {a : Nat} {i j : Int} (h : Sz a i) (g : Sz a j) : Sz (a + 1) (i + j) := by
  unfold Sz at *
  rw [Nat.pow_succ]
  omega
theorem Sz.sub {a : Nat} {i j : Int} (h : Sz a i) (g : Sz a j) : Sz (a + 1) (i - j) := by
  unfold Sz at *
  rw [Nat.pow_succ]
  omega
theorem Sz.neg {a : Nat} {i : Int} (h : Sz a i) : Sz a (-i) := by
  unfold Sz at *
  omega
theorem sz_of {k : Nat} {i : Int} (n : Nat) (h : i.natAbs ≤ n) (hn : n < 2 ^ k) : Sz k i := Nat.lt_of_le_of_lt h hn
theorem log2_leS {k : Nat} {i : Int} (h : Sz k i) : i.natAbs.log2 ≤ k := by
  by_cases h0 : i.natAbs = 0
  · rw [h0]; simp
  · exact Nat.le_of_lt ((Nat.log2_lt h0).mpr h)
theorem mul_sz {a b : Nat} {i j : Int} (hi : Sz a i) (hj : Sz b j) (h : a + b < 1000000) : bMul (.int i) (.int j) = some (.val (.int (i * j))) := by
  have a1 := log2_leS hi
  have b1 := log2_leS hj
  simp only [bMul]
  rw [if_pos (by omega)]
theorem div_sz {a : Nat} {i j : Int} (h0 : 0 < j) (hj : Sz a j) (h : a < 9000) : bDiv (.int i) (.int j) = some (.val (.int (i / j))) := by
  have b1 := log2_leS hj
  simp only [bDiv]
  rw [if_pos ⟨h0, by omega⟩]
def FS (k : Nat) (q : Rat) : Prop := Sz k q.num ∧ Sz k (q.den : Nat)
theorem FS.mono {a b : Nat} {q : Rat} (h : FS a q) (hab : a ≤ b) : FS b q := ⟨h.1.mono hab, h.2.mono hab⟩
/-- cutting makes it no greater -/
theorem fs_mk {k : Nat} {t : Int} {b : Nat} (hb : 0 < b) (ht : Sz k t) (hbs : Sz k (b : Nat)) : FS k (mkRat t b) := by
  have e : mkRat t b = Rat.normalize t b (by omega) := by
    unfold mkRat
    rw [dif_neg (by omega)]
  rw [e, Rat.normalize_eq]
  constructor
  · show (t / (Nat.gcd t.natAbs b : Nat)).natAbs < 2 ^ k
    refine Nat.lt_of_le_of_lt ?_ ht
    exact Int.natAbs_ediv_le_natAbs _ _
  · show ((b / Nat.gcd t.natAbs b : Nat) : Int).natAbs < 2 ^ k
    refine Nat.lt_of_le_of_lt ?_ hbs
    exact Nat.div_le_self _ _
theorem FS.add {a : Nat} {p q : Rat} (h : FS a p) (g : FS a q) : FS (2 * a + 1) (p + q) := by
  rw [← rat_add_mk]
  refine fs_mk (Nat.mul_pos p.den_pos q.den_pos) ?_ ?_
  · have := Sz.add (h.1.mul g.2) (g.1.mul h.2)
    exact this.mono (by omega)
  · have := h.2.mul g.2
    rw [← Int.natCast_mul] at this
    exact this.mono (by omega)
theorem FS.mul {a : Nat} {p q : Rat} (h : FS a p) (g : FS a q) : FS (2 * a) (p * q) := by
  rw [← rat_mul_mk]
  refine fs_mk (Nat.mul_pos p.den_pos q.den_pos) ?_ ?_
  · exact (h.1.mul g.1).mono (by omega)
  · have := h.2.mul g.2
    rw [← Int.natCast_mul] at this
    exact this.mono (by omega)
end Pf
end
section
set_option Elab.async false
set_option linter.all false
set_option maxHeartbeats 1000000
set_option autoImplicit false
namespace Pf
open PySem
/-- a loop that looks at each thing and leaves with r at the first that fails -/
theorem loop_look {t : TgD} {b : DenS} {gs : List (Nat × PV)} {S : Sto} {r : RV} (Iv : Env → Prop) (hg : chkG gs S = true) (P : PV → Bool) : ∀ (xs : List PV), (∀ x ∈ xs, ∀ ρ, Iv ρ → ∃ ρ', (bd (t (.val x) ρ) fun ρ1 => b ρ1) S = .ok (ρ', if P x then .nx else .rt r) S ∧ Iv ρ') →
    ∀ ρ, Iv ρ → ∃ ρ', loop gs t b xs ρ S = .ok (ρ', if xs.all P then .nx else .rt r) S ∧ Iv ρ'
  | [], _, ρ, hI => ⟨ρ, by simp [loop, chk_ok hg], hI⟩
  | x :: xs, h, ρ, hI => by
    obtain ⟨ρ1, e1, h1⟩ := h x List.mem_cons_self ρ hI
    cases hp : P x with
    | false =>
      refine ⟨ρ1, ?_, h1⟩
      rw [hp] at e1
      have e3 : (bd (bd (t (.val x) ρ) fun ρ1 => b ρ1) (cont (loop gs t b xs))) S = .ok (ρ1, .rt r) S := by
        rw [e_bd, e1]
        rfl
      rw [bd_assoc] at e3
      rw [loop, e_bd, chk_ok hg]
      simp only [List.all_cons, hp, Bool.false_and]
      exact e3
    | true =>
      obtain ⟨ρ2, e2, h2⟩ := loop_look Iv hg P xs (fun y hy => h y (List.mem_cons_of_mem _ hy)) ρ1 h1
      refine ⟨ρ2, ?_, h2⟩
      rw [hp] at e1
      have e3 : (bd (bd (t (.val x) ρ) fun ρ1 => b ρ1) (cont (loop gs t b xs))) S = .ok (ρ2, if xs.all P then .nx else .rt r) S := by
        rw [e_bd, e1]
        exact e2
      rw [bd_assoc] at e3
      rw [loop, e_bd, chk_ok hg]
      simp only [List.all_cons, hp, Bool.true_and]
      exact e3
end Pf
end
section
set_option Elab.async false
set_option linter.all false
set_option maxHeartbeats 1000000
set_option autoImplicit false
namespace Pf
open PySem
/-! loops and comprehensions that stand in a goal (generalize hx : loop _ _ _ _ _ _ = x) -/
/-- a turn looks, and leaves with r where p fails -/
def LkOk (res : Res (Env × Fl)) (p : Bool) (r : RV) (S : Sto) (Iv : Env → Prop) : Prop := ∃ ρ', res = .ok (ρ', if p then .nx else .rt r) S ∧ Iv ρ'
theorem LkOk.nx {p : Bool} {r : RV} {S : Sto} {Iv : Env → Prop} {ρ : Env} (h : p = true) (hI : Iv ρ) : LkOk (.ok (ρ, .nx) S) p r S Iv := ⟨ρ, by rw [h]; rfl, hI⟩
theorem LkOk.ct {p : Bool} {r : RV} {S : Sto} {Iv : Env → Prop} {ρ : Env} (h : p = false) (hI : Iv ρ) : LkOk (.ok (ρ, .rt r) S) p r S Iv := ⟨ρ, by rw [h]; rfl, hI⟩
section
variable {α : Type} {t : TgD} {b : DenS} {gs : List (Nat × PV)} {S : Sto} {r : RV} {x : Res (Env × Fl)} {ρ : Env}
theorem loop_mapG (Iv : Env → Prop) (hg : chkG gs S = true) (P : α → Bool) (g : α → PV) : ∀ (ys : List α), (∀ y ∈ ys, ∀ ρ, Iv ρ → LkOk ((bd (t (.val (g y)) ρ) fun ρ1 => b ρ1) S) (P y) r S Iv) →
    ∀ ρ, Iv ρ → LkOk (loop gs t b (ys.map g) ρ S) (ys.all P) r S Iv
  | [], _, ρ, hI => ⟨ρ, by simp [loop, chk_ok hg], hI⟩
  | y :: ys, h, ρ, hI => by
    obtain ⟨ρ1, e1, h1⟩ := h y List.mem_cons_self ρ hI
    cases hp : P y with
    | false =>
      refine ⟨ρ1, ?_, h1⟩
      rw [hp] at e1
      have e3 : (bd (bd (t (.val (g y)) ρ) fun ρ1 => b ρ1) (cont (loop gs t b (ys.map g)))) S = .ok (ρ1, .rt r) S := by
        rw [e_bd, e1]
        rfl
      rw [bd_assoc] at e3
      rw [List.map_cons, loop, e_bd, chk_ok hg]
      simp only [List.all_cons, hp, Bool.false_and]
      exact e3
    | true =>
      obtain ⟨ρ2, e2, h2⟩ := loop_mapG Iv hg P g ys (fun y hy => h y (List.mem_cons_of_mem _ hy)) ρ1 h1
      refine ⟨ρ2, ?_, h2⟩
      rw [hp] at e1
      have e3 : (bd (bd (t (.val (g y)) ρ) fun ρ1 => b ρ1) (cont (loop gs t b (ys.map g)))) S = .ok (ρ2, if ys.all P then .nx else .rt r) S := by
        rw [e_bd, e1]
        exact e2
      rw [bd_assoc] at e3
      rw [List.map_cons, loop, e_bd, chk_ok hg]
      simp only [List.all_cons, hp, Bool.true_and]
      exact e3
theorem loop_map_of {g : α → PV} {ys : List α} (hx : loop gs t b (ys.map g) ρ S = x) (Iv : Env → Prop) (P : α → Bool) (r : RV) (hg : chkG gs S = true) (hI : Iv ρ)
    (h : ∀ y ∈ ys, ∀ ρ, Iv ρ → LkOk ((bd (t (.val (g y)) ρ) fun ρ1 => b ρ1) S) (P y) r S Iv) : LkOk x (ys.all P) r S Iv := hx ▸ loop_mapG Iv hg P g ys h ρ hI
theorem loop_rng_of {n : Nat} (hx : loop gs t b ((List.range n).map fun i => PV.int (i : Nat)) ρ S = x) (Iv : Env → Prop) (P : Nat → Bool) (r : RV) (hg : chkG gs S = true) (hI : Iv ρ)
    (h : ∀ i, i < n → ∀ ρ, Iv ρ → LkOk ((bd (t (.val (.int (i : Nat))) ρ) fun ρ1 => b ρ1) S) (P i) r S Iv) : LkOk x ((List.range n).all P) r S Iv :=
  loop_map_of hx Iv P r hg hI fun i hi => h i (List.mem_range.mp hi)
end
/-! the turns of a loop that goes on to the end -/
def InOk (res : Res (Env × Fl)) (Iv : Env → Sto → Prop) : Prop := ∃ ρ' S', res = .ok (ρ', .nx) S' ∧ Iv ρ' S'
theorem InOk.mk {Iv : Env → Sto → Prop} {ρ : Env} {S : Sto} (h : Iv ρ S) : InOk (.ok (ρ, .nx) S) Iv := ⟨ρ, S, rfl, h⟩
theorem loop_inv_of {t : TgD} {b : DenS} {gs : List (Nat × PV)} {xs : List PV} {ρ : Env} {S : Sto} {x : Res (Env × Fl)} (hx : loop gs t b xs ρ S = x) (Iv : Nat → Env → Sto → Prop) (hg : ∀ i ρ S, Iv i ρ S → chkG gs S = true) (h0 : Iv 0 ρ S)
    (h : ∀ j y, xs[j]? = some y → ∀ ρ S, Iv j ρ S → InOk ((bd (t (.val y) ρ) fun ρ1 => b ρ1) S) (Iv (j + 1))) : InOk x (Iv xs.length) := by
  obtain ⟨ρ', S', e, hI⟩ := loop_inv Iv hg xs 0 (fun j y hj ρ S hI => by
    rw [Nat.zero_add] at hI ⊢
    exact h j y hj ρ S hI) ρ S h0
  rw [Nat.zero_add] at hI
  exact ⟨ρ', S', hx ▸ e, hI⟩
/-- the same of turns that keep one and the same -/
theorem loop_keep_of {t : TgD} {b : DenS} {gs : List (Nat × PV)} {xs : List PV} {ρ : Env} {S : Sto} {x : Res (Env × Fl)} (hx : loop gs t b xs ρ S = x) (Iv : Env → Sto → Prop) (hg : ∀ ρ S, Iv ρ S → chkG gs S = true) (h0 : Iv ρ S)
    (h : ∀ y ∈ xs, ∀ ρ S, Iv ρ S → InOk ((bd (t (.val y) ρ) fun ρ1 => b ρ1) S) Iv) : InOk x Iv :=
  loop_inv_of hx (fun _ => Iv) (fun _ => hg) h0 fun j y hj => h y (List.mem_of_getElem? hj)
/-! comprehensions -/
section
variable {α : Type} {t : TgD} {it : ItD} {c : Option Den} {e : Den} {vs : List Nat} {S S1 : Sto} {ρ : Env} {x : Res RV} {gs : List (Nat × PV)}
theorem cl_mapG (hg : chkG gs S = true) (g h : α → PV) : ∀ ys : List α, (∀ y ∈ ys, ∃ ρ1, t (.val (g y)) ρ S = .ok ρ1 S ∧ e ρ1 S = .ok (.val (h y)) S) → cl gs t none e (ys.map g) ρ S = .ok (ys.map h) S
  | [], _ => by simp [cl, chk_ok hg]
  | y :: ys, k => by
    obtain ⟨ρ1, h0, h1⟩ := k y List.mem_cons_self
    have ih := cl_mapG hg g h ys fun z hz => k z (List.mem_cons_of_mem _ hz)
    simp [cl, turnC, condM, chk_ok hg, h0, h1, ih]
theorem dComp_mapG {g : α → PV} {ys : List α} (h : α → PV) (h1 : it ρ S = .ok (ys.map g, gs) S) (hl : ys.length ≤ sizeLine) (hg : chkG gs S = true) (k : ∀ y ∈ ys, ∃ ρ1, t (.val (g y)) (wipeE ρ vs) S = .ok ρ1 S ∧ e ρ1 S = .ok (.val (h y)) S) :
    dComp it t none e vs ρ S = .ok (.own (.lst (ys.map h))) S := dComp_ok h1 (by rwa [List.length_map]) (cl_mapG hg g h ys k)
end
/-! lists side by side -/
theorem zip2_map {α β : Type} (f : α → PV) (g : β → PV) : ∀ (xs : List α) (ys : List β), zip2 (xs.map f) (ys.map g) = (xs.zip ys).map fun p => .tup [f p.1, g p.2]
  | [], ys => by cases ys <;> rfl
  | x :: xs, [] => rfl
  | x :: xs, y :: ys => by simp only [List.map_cons, zip2, List.zip_cons_cons, zip2_map f g xs ys]
theorem zip3_map {α β γ : Type} (f : α → PV) (g : β → PV) (h : γ → PV) : ∀ (xs : List α) (ys : List β) (zs : List γ), zip3 (xs.map f) (ys.map g) (zs.map h) = (xs.zip (ys.zip zs)).map fun p => .tup [f p.1, g p.2.1, h p.2.2]
  | [], ys, zs => by cases ys <;> cases zs <;> rfl
  | x :: xs, [], zs => by cases zs <;> rfl
  | x :: xs, y :: ys, [] => rfl
  | x :: xs, y :: ys, z :: zs => by simp only [List.map_cons, zip3, List.zip_cons_cons, zip3_map f g h xs ys zs]
theorem numd_map {α : Type} (f : α → PV) : ∀ (n : Nat) (xs : List α), numd n (xs.map f) = (xs.zipIdx n).map fun p => .tup [.int (p.2 : Nat), f p.1]
  | n, [] => rfl
  | n, x :: xs => by simp only [List.map_cons, numd, List.zipIdx_cons, numd_map f (n + 1) xs]
theorem ints_mapG {α : Type} (h : α → Int) : ∀ ys : List α, ints? (ys.map fun y => PV.int (h y)) = some (ys.map h)
  | [] => rfl
  | y :: ys => by simp only [List.map_cons, ints?, ints_mapG h ys, Option.map_some]
theorem fsum_mapG {α : Type} (h : α → Int) (ys : List α) : fSum (.lst (ys.map fun y => .int (h y))) = some (.val (.int (ys.map h).sum)) := by simp only [fSum, ints_mapG, Option.map_some]
theorem fsum_int (ys : List Int) : fSum (.lst (ys.map .int)) = some (.val (.int ys.sum)) := by simp only [fSum, ints_map, Option.map_some]
theorem fmax_mapG {α : Type} (h : α → Int) (y : α) (ys : List α) : fMax (.lst ((y :: ys).map fun y => .int (h y))) = some (.val (.int (maxI (h y) (ys.map h)))) := by
  have e := ints_mapG h (y :: ys)
  unfold fMax
  simp only
  rw [e] <;> rfl
theorem fmin_mapG {α : Type} (h : α → Int) (y : α) (ys : List α) : fMin (.lst ((y :: ys).map fun y => .int (h y))) = some (.val (.int (minI (h y) (ys.map h)))) := by
  have e := ints_mapG h (y :: ys)
  unfold fMin
  simp only
  rw [e] <;> rfl
theorem bls_mapG {α : Type} (h : α → Bool) : ∀ ys : List α, bls? (ys.map fun y => PV.bl (h y)) = some (ys.map h)
  | [] => rfl
  | y :: ys => by simp only [List.map_cons, bls?, bls_mapG h ys, Option.map_some]
theorem fall_mapG {α : Type} (h : α → Bool) (ys : List α) : fAll (.lst (ys.map fun y => .bl (h y))) = some (.val (.bl (ys.all h))) := by
  simp only [fAll, bls_mapG, Option.map_some, List.all_map] <;> rfl
theorem fany_mapG {α : Type} (h : α → Bool) (ys : List α) : fAny (.lst (ys.map fun y => .bl (h y))) = some (.val (.bl (ys.any h))) := by
  simp only [fAny, bls_mapG, Option.map_some, List.any_map] <;> rfl
theorem cut_take (xs : List PV) (k : Nat) : cutP xs none (some (k : Int)) = xs.take k := by
  unfold cutP
  rw [HT.sIx_none, HT.sIx_nat, List.drop_zero, Nat.sub_zero]
  by_cases h : k ≤ xs.length
  · rw [Nat.min_eq_left h]
  · rw [Nat.min_eq_right (by omega), List.take_of_length_le (Nat.le_refl _), List.take_of_length_le (by omega)]
theorem cut_drop (xs : List PV) (k : Nat) : cutP xs (some (k : Int)) none = xs.drop k := by
  unfold cutP
  rw [HT.sIx_none, HT.sIx_nat]
  by_cases h : k ≤ xs.length
  · rw [Nat.min_eq_left h, List.take_of_length_le (by rw [List.length_drop]; omega)]
  · rw [Nat.min_eq_right (by omega), List.drop_of_length_le (by omega), List.drop_of_length_le (by omega), List.take_nil]
@[simp] theorem cut_take1 (xs : List PV) : cutP xs none (some 1) = xs.take 1 := cut_take xs 1
@[simp] theorem cut_drop1 (xs : List PV) : cutP xs (some 1) none = xs.tail := by rw [← List.drop_one]; exact cut_drop xs 1
@[simp] theorem e_zip3 {ρ : Env} {ds : List Den} : itZip3 ds ρ = bd (evAll ds ρ) (fun rs => match rs with
  | [r, q, u] => bd (bindV false r) fun s => bd (bindV false q) fun t => bd (bindV false u) fun w => bd (srcOf s) fun x => bd (srcOf t) fun y => bd (srcOf w) fun z => ret (zip3 x.1 y.1 z.1, x.2 ++ (y.2 ++ z.2))
  | _ => stk) := nr rfl
/-- a whole number in a list of such -/
theorem bin_int (i : Int) (ns : List Int) : bIn (.int i) (.lst (ns.map .int)) = some (.val (.bl (ns.contains i))) := by
  have h2 : (ns.map PV.int).all flat = true := by rw [List.all_map, List.all_eq_true]; exact fun x _ => rfl
  have h3 : flat (.int i) = true := rfl
  simp only [bIn, inP, h3, h2, Bool.and_self, if_true, Option.map_some]
  congr 3
  rw [List.any_map, Bool.eq_iff_iff]
  simp
theorem bin_intT (i : Int) (ns : List Int) : bIn (.int i) (.tup (ns.map .int)) = some (.val (.bl (ns.contains i))) := by
  have h2 : (ns.map PV.int).all flat = true := by rw [List.all_map, List.all_eq_true]; exact fun x _ => rfl
  have h3 : flat (.int i) = true := rfl
  simp only [bIn, inP, h3, h2, Bool.and_self, if_true, Option.map_some]
  congr 3
  rw [List.any_map, Bool.eq_iff_iff]
  simp
theorem bnin_int (i : Int) (ns : List Int) : bNin (.int i) (.lst (ns.map .int)) = some (.val (.bl (!ns.contains i))) := by
  have h := bin_int i ns
  unfold bIn at h
  unfold bNin
  cases e : inP (.int i) (.lst (ns.map .int)) with
  | none => rw [e] at h; cases h
  | some b => rw [e] at h; simp only [Option.map_some, Option.some.injEq, RV.val.injEq, PV.bl.injEq] at h ⊢; rw [h]
theorem map_rng {α β : Type} (f : α → β) (xs : List α) (d : α) : xs.map f = (List.range xs.length).map fun i => f (xs.getD i d) := by
  refine List.ext_getElem (by simp) fun i h1 h2 => ?_
  rw [List.length_map] at h1
  simp [h1]
theorem zip2_same {α : Type} (f g : α → PV) (xs : List α) : zip2 (xs.map f) (xs.map g) = xs.map fun x => .tup [f x, g x] := by
  induction xs with
  | nil => rfl
  | cons x xs ih => simp only [List.map_cons, zip2, ih]
theorem zip3_same {α : Type} (f g h : α → PV) (xs : List α) : zip3 (xs.map f) (xs.map g) (xs.map h) = xs.map fun x => .tup [f x, g x, h x] := by
  induction xs with
  | nil => rfl
  | cons x xs ih => simp only [List.map_cons, zip3, ih]
theorem numd_rng (f : Nat → PV) (n : Nat) : numd 0 ((List.range n).map f) = (List.range n).map fun i => .tup [.int (i : Nat), f i] := by
  refine List.ext_getElem? fun i => ?_
  rw [numd_get]
  by_cases h : i < n
  · simp [h]
  · simp [h]
theorem inP_tl (p : PV) (xs : List PV) (h1 : flat p = true) (h2 : xs.all flat = true) : bIn p (.lst xs) = some (.val (.bl (xs.any fun z => eqv z p))) ∧ bIn p (.tup xs) = some (.val (.bl (xs.any fun z => eqv z p))) := by
  simp [bIn, inP, h1, h2]
/-- a loop that leaves at the first that fails, with what belongs to it -/
theorem loop_first_of {α : Type} {t : TgD} {b : DenS} {gs : List (Nat × PV)} {S : Sto} {x : Res (Env × Fl)} {g : α → PV} (Iv : Env → Prop) (P : α → Bool) (r : α → RV) (hg : chkG gs S = true) : ∀ {ys : List α} {ρ : Env} (hx : loop gs t b (ys.map g) ρ S = x) (hI : Iv ρ)
    (h : ∀ y ∈ ys, ∀ ρ, Iv ρ → ∃ ρ', (bd (t (.val (g y)) ρ) fun ρ1 => b ρ1) S = .ok (ρ', if P y then .nx else .rt (r y)) S ∧ Iv ρ'), ∃ ρ', Iv ρ' ∧ (x = .ok (ρ', .nx) S ∨ ∃ y ∈ ys, x = .ok (ρ', .rt (r y)) S)
  | [], ρ, hx, hI, _ => ⟨ρ, hI, .inl (by rw [← hx]; simp [loop, chk_ok hg])⟩
  | y :: ys, ρ, hx, hI, h => by
    obtain ⟨ρ1, e1, h1⟩ := h y List.mem_cons_self ρ hI
    cases hp : P y with
    | false =>
      refine ⟨ρ1, h1, .inr ⟨y, List.mem_cons_self, ?_⟩⟩
      rw [hp] at e1
      have e3 : (bd (bd (t (.val (g y)) ρ) fun ρ1 => b ρ1) (cont (loop gs t b (ys.map g)))) S = .ok (ρ1, .rt (r y)) S := by
        rw [e_bd, e1]
        rfl
      rw [bd_assoc] at e3
      rw [← hx, List.map_cons, loop, e_bd, chk_ok hg]
      exact e3
    | true =>
      obtain ⟨ρ2, h2, e2⟩ := loop_first_of Iv P r hg (ys := ys) rfl h1 (fun y hy => h y (List.mem_cons_of_mem _ hy))
      rw [hp] at e1
      have e3 : loop gs t b ((y :: ys).map g) ρ S = loop gs t b (ys.map g) ρ1 S := by
        have e4 : (bd (bd (t (.val (g y)) ρ) fun ρ1 => b ρ1) (cont (loop gs t b (ys.map g)))) S = loop gs t b (ys.map g) ρ1 S := by
          rw [e_bd, e1]
          rfl
        rw [bd_assoc] at e4
        rw [List.map_cons, loop, e_bd, chk_ok hg]
        exact e4
      rw [e3] at hx
      rw [hx] at e2
      refine ⟨ρ2, h2, ?_⟩
      rcases e2 with e | ⟨z, hz, e⟩
      · exact .inl e
      · exact .inr ⟨z, List.mem_cons_of_mem _ hz, e⟩
theorem cl_filtG {α : Type} {i : Nat} {ρ : Env} {S : Sto} {gs : List (Nat × PV)} {c e : Den} (hg : chkG gs S = true) (P : α → Bool) (g h : α → PV) : ∀ ys : List α, (∀ y ∈ ys, c (ρ.set i (some (.val (g y)))) S = .ok (.val (.bl (P y))) S ∧ e (ρ.set i (some (.val (g y)))) S = .ok (.val (h y)) S) →
    cl gs (tgName i false) (some c) e (ys.map g) ρ S = .ok ((ys.filter P).map h) S
  | [], _ => by simp [cl, chk_ok hg]
  | y :: ys, k => by
    obtain ⟨h1, h2⟩ := k y List.mem_cons_self
    have ih := cl_filtG hg P g h ys fun z hz => k z (List.mem_cons_of_mem _ hz)
    cases hp : P y <;> simp [cl, turnC, condM, chk_ok hg, h1, h2, ih, hp]
theorem dComp_filtG {α : Type} {i : Nat} {it : ItD} {ρ : Env} {S : Sto} {c e : Den} {vs : List Nat} {gs : List (Nat × PV)} {g : α → PV} {ys : List α} (P : α → Bool) (h : α → PV) (h1 : it ρ S = .ok (ys.map g, gs) S) (hl : ys.length ≤ sizeLine) (hg : chkG gs S = true)
    (k : ∀ y ∈ ys, c ((wipeE ρ vs).set i (some (.val (g y)))) S = .ok (.val (.bl (P y))) S ∧ e ((wipeE ρ vs).set i (some (.val (g y)))) S = .ok (.val (h y)) S) :
    dComp it (tgName i false) (some c) e vs ρ S = .ok (.own (.lst ((ys.filter P).map h))) S := dComp_ok h1 (by rwa [List.length_map]) (cl_filtG hg P g h ys k)
end Pf
end
section
set_option Elab.async false
set_option linter.all false
set_option maxHeartbeats 1000000
set_option maxRecDepth 100000
set_option autoImplicit false
namespace Pf
open PySem
/-! drawing: the pot is the first cell -/
section
variable {i : Nat} {it : ItD} {e : Den} {vs : List Nat} {xs : List PV} {ρ : Env} {T : Sto} {p : PV}
/-- a comprehension whose turns draw -/
theorem dComp_pot (Q : PV → PV → Prop) (h1 : it ρ (.live p :: T) = .ok (xs, []) (.live p :: T)) (hl : xs.length ≤ sizeLine) (hp : PotOk p)
    (h2 : ∀ x ∈ xs, ∀ q, PotOk q → ∃ q' r y, e ((wipeE ρ vs).set i (some (.val x))) (.live q :: T) = .ok r (.live q' :: T) ∧ (r = .val y ∨ r = .own y) ∧ PotOk q' ∧ Q x y) :
    ∃ ps p', dComp it (tgName i false) none e vs ρ (.live p :: T) = .ok (.own (.lst ps)) (.live p' :: T) ∧ PotOk p' ∧ Paired Q xs ps := by
  obtain ⟨ps, S2, e2, ⟨p2, rfl, hp2⟩, q2⟩ := dComp_inv (ρ := ρ) (t := tgName i false) (c := none) (e := e) (vs := vs) (fun S => ∃ q, S = .live q :: T ∧ PotOk q) Q h1 hl (fun _ _ => rfl) ⟨p, rfl, hp⟩ (fun x hx S hS => by
    obtain ⟨q, rfl, hq⟩ := hS
    obtain ⟨q', r, y, e1, hr, hq', hQ⟩ := h2 x hx q hq
    refine ⟨y, .live q' :: T, ?_, ⟨q', rfl, hq'⟩, hQ⟩
    rcases hr with rfl | rfl <;> simp [turnC, condM, chk, e1])
  exact ⟨ps, p2, e2, hp2, q2⟩
end
theorem dComp_pot_of {i : Nat} {it : ItD} {e : Den} {vs : List Nat} {ρ : Env} {T : Sto} {p : PV} {x : Res RV} (hx : dComp it (tgName i false) none e vs ρ (.live p :: T) = x) (xs : List PV) (Q : PV → PV → Prop) (h1 : it ρ (.live p :: T) = .ok (xs, []) (.live p :: T)) (hl : xs.length ≤ sizeLine) (hp : PotOk p)
    (h2 : ∀ x ∈ xs, ∀ q, PotOk q → ∃ q' r y, e ((wipeE ρ vs).set i (some (.val x))) (.live q :: T) = .ok r (.live q' :: T) ∧ (r = .val y ∨ r = .own y) ∧ PotOk q' ∧ Q x y) :
    ∃ ps p', x = .ok (.own (.lst ps)) (.live p' :: T) ∧ PotOk p' ∧ Paired Q xs ps := hx ▸ dComp_pot Q h1 hl hp h2
def Tr (r : FRes) : Prop := ∃ outs, r = .ok (.val (.bl true)) outs
theorem Tr.mk {outs : Sto} : Tr (.ok (.val (.bl true)) outs) := ⟨outs, rfl⟩
/-! values that are shown, with whole numbers that are not too great -/
mutual
def smI : PV → Bool
  | .int i => decide (i.natAbs ≤ 10 ^ 40)
  | .tup xs => smIs xs
  | .lst xs => smIs xs
  | _ => true
def smIs : List PV → Bool
  | [] => true
  | x :: xs => smI x && smIs xs
end
theorem smIs_all (xs : List PV) : smIs xs = xs.all smI := by
  induction xs with
  | nil => rfl
  | cons x xs ih => rw [smIs, ih]; rfl
structure Gd (n k : Nat) (v : PV) : Prop where
  b : Bd n k v
  s : smI v = true
theorem Gd.mono {n k m l : Nat} {v : PV} (h : Gd n k v) (h1 : n ≤ m) (h2 : k ≤ l) : Gd m l v := ⟨h.b.mono h1 h2, h.s⟩
theorem gd_tup {n k m : Nat} {xs : List PV} (h : ∀ x ∈ xs, Gd n k x) (hl : xs.length ≤ m) : Gd (n + 1) (m * (k + 2) + 4) (.tup xs) :=
  ⟨bd_tup (fun x hx => (h x hx).b) hl, by rw [smI, smIs_all]; exact List.all_eq_true.mpr fun x hx => (h x hx).s⟩
theorem gd_lst {n k m : Nat} {xs : List PV} (h : ∀ x ∈ xs, Gd n k x) (hl : xs.length ≤ m) : Gd (n + 1) (m * (k + 2) + 4) (.lst xs) :=
  ⟨bd_lst (fun x hx => (h x hx).b) hl, by rw [smI, smIs_all]; exact List.all_eq_true.mpr fun x hx => (h x hx).s⟩
theorem gd_int {i : Int} (h : i.natAbs ≤ 10 ^ 40) : Gd 0 2000 (.int i) := by
  refine ⟨⟨?_, ?_⟩, by rw [smI]; exact decide_eq_true h⟩
  · have h2 : (10 : Nat) ^ 40 < 2 ^ 200 := by decide
    have := log2_le (n := i.natAbs) (k := 200) (by omega) (by omega)
    show decide (i.natAbs.log2 < 1920) = true
    exact decide_eq_true (by omega)
  · rw [rsz]
    split <;> omega
theorem gd_int' {i : Int} (h : i.natAbs < 1000) : Gd 0 20 (.int i) := ⟨bd_int h, by rw [smI]; exact decide_eq_true (by omega)⟩
theorem gd_cons {n k : Nat} {y : PV} {ys : List PV} (h1 : Gd n k y) (h2 : ∀ x ∈ ys, Gd n k x) : ∀ x ∈ y :: ys, Gd n k x := fun x hx => by
  rcases List.mem_cons.mp hx with h | h
  · subst h; exact h1
  · exact h2 x h
theorem gd_app {n k : Nat} {xs ys : List PV} (h1 : ∀ x ∈ xs, Gd n k x) (h2 : ∀ x ∈ ys, Gd n k x) : ∀ x ∈ xs ++ ys, Gd n k x := fun x hx => by
  rcases List.mem_append.mp hx with h | h
  · exact h1 x h
  · exact h2 x h
theorem gd_nil {n k : Nat} : ∀ x ∈ ([] : List PV), Gd n k x := fun x hx => by cases hx
theorem gd_cut {n k : Nat} {xs : List PV} {lo hi : Option Int} (h : ∀ x ∈ xs, Gd n k x) : ∀ x ∈ cutP xs lo hi, Gd n k x := fun x hx => h x (cutP_sub x hx)
theorem gd_fix {n k : Nat} {v : PV} (h : (shw n v && (decide (rsz v ≤ k) && smI v)) = true) : Gd n k v := by
  simp only [Bool.and_eq_true, decide_eq_true_eq] at h
  exact ⟨⟨h.1, h.2.1⟩, h.2.2⟩
/-- many fixed ones at once -/
theorem gd_fixs {n k : Nat} {xs : List PV} (h : xs.all (fun v => shw n v && (decide (rsz v ≤ k) && smI v)) = true) : ∀ v ∈ xs, Gd n k v := fun v hv => gd_fix (List.all_eq_true.mp h v hv)
theorem Gd.scr {n k : Nat} {v : PV} (h : Gd n k v) : ∀ ns, v ≠ .scr ns := fun ns e => by
  subst e
  have := h.b.1
  simp [shw] at this
theorem Gd.rows {n k : Nat} {v : PV} (h : Gd n k v) : ∀ x ∈ rowsOf v, smI x = true := by
  have hs := h.s
  cases v with
  | lst xs => rw [smI, smIs_all] at hs; exact fun x hx => List.all_eq_true.mp hs x hx
  | tup xs => rw [smI, smIs_all] at hs; exact fun x hx => List.all_eq_true.mp hs x hx
  | scr ns => exact absurd rfl (h.scr ns)
  | _ => exact fun x hx => by cases hx
theorem Gd.len {n k : Nat} {v : PV} (h : Gd n k v) : (rowsOf v).length ≤ k := by
  have key : ∀ xs : List PV, xs.length ≤ rsz.rszs xs := fun xs => by
    induction xs with
    | nil => simp [rsz.rszs]
    | cons x xs ih => rw [rsz.rszs, List.length_cons]; omega
  have hb := h.b.2
  cases v with
  | lst xs => rw [rsz] at hb; have := key xs; show xs.length ≤ k; omega
  | tup xs => rw [rsz] at hb; have := key xs; show xs.length ≤ k; omega
  | scr ns => exact absurd rfl (h.scr ns)
  | _ => exact Nat.zero_le _
theorem gd_frac {q : Rat} (h1 : q.num.natAbs ≤ 10 ^ 40) (h2 : q.den ≤ 10 ^ 40) : Gd 1 4010 (frac q) := (gd_tup (m := 2) (gd_cons (gd_int h1) (gd_cons (gd_int (i := (q.den : Nat)) (by omega)) gd_nil)) (by simp)).mono (by omega) (by omega)
theorem gd_repr {n k : Nat} {v : PV} (h : Gd n k v) (hn : n ≤ 60) (hk : k ≤ 10000000) : fRepr v = some (.val (.str (shT v))) := repr_ok (h.b.mono hn (by unfold sizeLine; omega))
end Pf
end
section
set_option Elab.async false
set_option linter.all false
set_option maxHeartbeats 1000000
set_option maxRecDepth 100000
set_option autoImplicit false
namespace Pf
open PySem
/-! least sums along lists of places -/
def wt (D : Nat → Nat → Int) : List Nat → Int
  | [] => 0
  | [_] => 0
  | x :: y :: r => D x y + wt D (y :: r)
variable {D : Nat → Nat → Int} {m : Nat}
theorem wt_app (D : Nat → Nat → Int) (x : Nat) (c : List Nat) : ∀ a : List Nat, wt D (a ++ x :: c) = wt D (a ++ [x]) + wt D (x :: c)
  | [] => by simp [wt]
  | [y] => by
    cases c with
    | nil => simp [wt]
    | cons z c => simp only [List.cons_append, List.nil_append, wt]; omega
  | y :: z :: a => by
    have ih := wt_app D x c (z :: a)
    simp only [List.cons_append, wt] at ih ⊢
    omega
structure Walk (m i j : Nat) (l : List Nat) : Prop where
  hd : l.head? = some i
  la : l.getLast? = some j
  lt : ∀ n ∈ l, n < m
/-- no ring is below 0 -/
structure NoRing (D : Nat → Nat → Int) (m : Nat) : Prop where
  zero : ∀ i, D i i = 0
  cyc : ∀ (x : Nat) (b : List Nat), (x :: b).Nodup → (∀ n ∈ x :: b, n < m) → 0 ≤ wt D (x :: b ++ [x])
theorem last_app {α : Type} (a : List α) (x : α) (c : List α) : (a ++ x :: c).getLast? = (x :: c).getLast? := by
  rw [List.getLast?_append]
  cases h : (x :: c).getLast? with
  | none => simp at h
  | some y => rfl
theorem simple_of (h : NoRing D m) : ∀ (l : List Nat) (i j : Nat), Walk m i j l → ∃ l', Walk m i j l' ∧ l'.Nodup ∧ wt D l' ≤ wt D l
  | [], i, j, w => by cases w.hd
  | [x], i, j, w => ⟨[x], w, by simp, Int.le_refl _⟩
  | x :: y :: r, i, j, w => by
    have e : x = i := by simpa using w.hd
    subst e
    have w1 : Walk m y j (y :: r) := ⟨rfl, by have := w.la; rwa [List.getLast?_cons_cons] at this, fun n hn => w.lt n (List.mem_cons_of_mem _ hn)⟩
    obtain ⟨t, w2, nd, le⟩ := simple_of h (y :: r) y j w1
    cases t with
    | nil => cases w2.hd
    | cons z t =>
      have e : z = y := by simpa using w2.hd
      subst e
      have hx : x < m := w.lt x List.mem_cons_self
      by_cases hm : x ∈ z :: t
      · obtain ⟨b, c, e⟩ := List.append_of_mem hm
        have hnd := nd
        rw [e] at hnd
        have nd2 : (x :: c).Nodup := (List.nodup_append.mp hnd).2.1
        have ndb : (x :: b).Nodup := by
          rw [List.nodup_cons]
          refine ⟨fun hb => ?_, (List.nodup_append.mp hnd).1⟩
          exact (List.nodup_append.mp hnd).2.2 x hb x List.mem_cons_self rfl
        refine ⟨x :: c, ⟨rfl, ?_, fun n hn => w2.lt n (by rw [e]; exact List.mem_append_right _ hn)⟩, nd2, ?_⟩
        · have := w2.la
          rwa [e, last_app] at this
        · have h1 : wt D (x :: z :: t) = wt D (x :: b ++ [x]) + wt D (x :: c) := by
            rw [e, ← List.cons_append, wt_app]
          have h2 := h.cyc x b ndb (fun n hn => by
            rcases List.mem_cons.mp hn with rfl | hn
            · exact hx
            · exact w2.lt n (by rw [e]; exact List.mem_append_left _ hn))
          simp only [wt] at h1 ⊢
          omega
      · refine ⟨x :: z :: t, ⟨rfl, by rw [List.getLast?_cons_cons]; exact w2.la, fun n hn => ?_⟩, List.nodup_cons.mpr ⟨hm, nd⟩, ?_⟩
        · rcases List.mem_cons.mp hn with rfl | hn
          · exact hx
          · exact w2.lt n hn
        · simp only [wt] at le ⊢
          omega
/-- the least sums -/
def IsFar (D : Nat → Nat → Int) (m i j : Nat) (z : Int) : Prop := (∃ l, Walk m i j l ∧ l.Nodup ∧ wt D l = z) ∧ ∀ l, Walk m i j l → l.Nodup → z ≤ wt D l
theorem IsFar.uniq {i j : Nat} {y z : Int} (h : IsFar D m i j y) (g : IsFar D m i j z) : y = z := by
  obtain ⟨⟨l, w, n, e⟩, a⟩ := h
  obtain ⟨⟨k, w2, n2, e2⟩, b⟩ := g
  have := a k w2 n2
  have := b l w n
  omega
def Far (D : Nat → Nat → Int) (m : Nat) (f : Nat → Nat → Int) : Prop := ∀ i j, i < m → j < m → IsFar D m i j (f i j)
section
variable {f : Nat → Nat → Int} (h : NoRing D m) (hf : Far D m f)
include h hf
theorem far_walk {i j : Nat} {l : List Nat} (w : Walk m i j l) : f i j ≤ wt D l := by
  obtain ⟨l', w', nd, le⟩ := simple_of h l i j w
  have hi := w.lt i (List.mem_of_head? w.hd)
  have hj := w.lt j (List.mem_of_getLast? w.la)
  have := (hf i j hi hj).2 l' w' nd
  omega
theorem far_zero {i : Nat} (hi : i < m) : f i i = 0 := by
  have h1 := far_walk h hf (i := i) (j := i) (l := [i]) ⟨rfl, rfl, fun n hn => by rw [List.mem_singleton.mp hn]; exact hi⟩
  obtain ⟨⟨l, w, nd, e⟩, _⟩ := hf i i hi hi
  cases l with
  | nil => cases w.hd
  | cons x t =>
    have ex : x = i := by simpa using w.hd
    subst ex
    cases t with
    | nil => rw [← e]; rfl
    | cons y t =>
      have := w.la
      rw [List.getLast?_cons_cons] at this
      exact absurd (List.mem_of_getLast? this) (List.nodup_cons.mp nd).1
theorem far_tri {i j k : Nat} (hi : i < m) (hj : j < m) (hk : k < m) : f i j ≤ f i k + f k j := by
  obtain ⟨⟨l, w, _, e⟩, _⟩ := hf i k hi hk
  obtain ⟨⟨l2, w2, _, e2⟩, _⟩ := hf k j hk hj
  cases l2 with
  | nil => cases w2.hd
  | cons x c =>
    have ex : x = k := by simpa using w2.hd
    subst ex
    obtain ⟨a, ea⟩ : ∃ a, l = a ++ [x] := by
      have hne : l ≠ [] := fun e => by rw [e] at w; cases w.hd
      refine ⟨l.dropLast, ?_⟩
      have h1 := List.dropLast_concat_getLast hne
      have h2 := w.la
      rw [List.getLast?_eq_some_getLast hne] at h2
      cases h2
      exact h1.symm
    have := far_walk h hf (i := i) (j := j) (l := a ++ x :: c) ⟨by
      have := w.hd
      rw [ea] at this
      cases a with
      | nil => exact this
      | cons y a => exact this, by rw [last_app]; exact w2.la, fun n hn => by
      rcases List.mem_append.mp hn with hn | hn
      · exact w.lt n (by rw [ea]; exact List.mem_append_left _ hn)
      · exact w2.lt n hn⟩
    rw [wt_app, ← ea, e, e2] at this
    exact this
theorem far_le {i j : Nat} (hi : i < m) (hj : j < m) : f i j ≤ D i j := by
  have := far_walk h hf (i := i) (j := j) (l := [i, j]) ⟨rfl, rfl, fun n hn => by
    rcases List.mem_cons.mp hn with rfl | hn
    · exact hi
    · rw [List.mem_singleton.mp hn]; exact hj⟩
  simpa [wt] using this
end
/-! a table in which middles are let one after another -/
def Upb (D : Nat → Nat → Int) (m k : Nat) (F : Nat → Nat → Int) : Prop := ∀ (l : List Nat) (i j : Nat), Walk m i j l → l.Nodup → (∀ n ∈ l.tail.dropLast, n < k) → F i j ≤ wt D l
theorem upb_0 {F : Nat → Nat → Int} (hF : ∀ i j, i < m → j < m → F i j = if i = j then 0 else D i j) : Upb D m 0 F := fun l i j w nd hn => by
  cases l with
  | nil => cases w.hd
  | cons x t =>
    have ex : x = i := by simpa using w.hd
    subst ex
    have hx := w.lt x List.mem_cons_self
    cases t with
    | nil =>
      have ej : x = j := by simpa using w.la
      subst ej
      rw [hF x x hx hx, if_pos rfl]
      exact Int.le_refl _
    | cons y t =>
      cases t with
      | nil =>
        have ej : y = j := by simpa using w.la
        subst ej
        have hy := w.lt y (by simp)
        have hne : x ≠ y := fun e => by subst e; simp at nd
        rw [hF x y hx hy, if_neg hne]
        simp [wt]
      | cons z t => exact absurd (hn y (by simp [List.dropLast])) (by omega)
theorem upb_succ {k : Nat} {F F' : Nat → Nat → Int} (hk : k < m) (h : Upb D m k F) (h1 : ∀ i j, i < m → j < m → F' i j ≤ F i j) (h2 : ∀ i j, i < m → j < m → F' i j ≤ F i k + F k j) : Upb D m (k + 1) F' := fun l i j w nd hn => by
  have hi := w.lt i (List.mem_of_head? w.hd)
  have hj := w.lt j (List.mem_of_getLast? w.la)
  by_cases hm : k ∈ l.tail.dropLast
  · cases l with
    | nil => cases w.hd
    | cons x t =>
      have ex : x = i := by simpa using w.hd
      subst ex
      have hm : k ∈ t.dropLast := hm
      have hn : ∀ n ∈ t.dropLast, n < k + 1 := hn
      obtain ⟨a, c, e⟩ := List.append_of_mem hm
      have hne : t ≠ [] := fun z => by rw [z] at hm; cases hm
      have et : t = a ++ k :: (c ++ [j]) := by
        have h3 := List.dropLast_concat_getLast hne
        have h4 := w.la
        have h5 : (x :: t).getLast? = t.getLast? := by cases t with | nil => exact absurd rfl hne | cons y t => exact List.getLast?_cons_cons
        rw [h5, List.getLast?_eq_some_getLast hne] at h4
        have h6 : t.getLast hne = j := by simpa using h4
        rw [h6, e] at h3
        rw [← h3]
        simp
      subst et
      have nd1 := (List.nodup_cons.mp nd)
      have nd2 := List.nodup_append.mp nd1.2
      have w1 : Walk m x k (x :: a ++ [k]) := ⟨rfl, by rw [last_app]; rfl, fun n hn => by
        rcases List.mem_append.mp hn with hn | hn
        · rcases List.mem_cons.mp hn with rfl | hn
          · exact hi
          · exact w.lt n (by simp [hn])
        · rw [List.mem_singleton.mp hn]; exact hk⟩
      have w2 : Walk m k j (k :: (c ++ [j])) := ⟨rfl, by rw [← List.cons_append, last_app]; rfl, fun n hn => w.lt n (List.mem_cons_of_mem _ (List.mem_append_right _ hn))⟩
      have n1 : (x :: a ++ [k]).Nodup := by
        rw [List.cons_append, List.nodup_cons]
        refine ⟨fun hx => nd1.1 ?_, ?_⟩
        · rcases List.mem_append.mp hx with hx | hx
          · exact List.mem_append_left _ hx
          · rw [List.mem_singleton.mp hx]; exact List.mem_append_right _ List.mem_cons_self
        · rw [List.nodup_append]
          refine ⟨nd2.1, by simp, fun y hy z hz => ?_⟩
          rw [List.mem_singleton.mp hz]
          exact nd2.2.2 y hy k List.mem_cons_self
      have i1 := h _ _ _ w1 n1 (fun n hn' => by
        have : (x :: a ++ [k]).tail.dropLast = a := by simp
        rw [this] at hn'
        have h3 := hn n (by rw [e]; exact List.mem_append_left _ hn')
        have h4 := nd2.2.2 n hn' k List.mem_cons_self
        omega)
      have i2 := h _ _ _ w2 nd2.2.1 (fun n hn' => by
        have : (k :: (c ++ [j])).tail.dropLast = c := by simp
        rw [this] at hn'
        have h3 := hn n (by rw [e]; exact List.mem_append_right _ (List.mem_cons_of_mem _ hn'))
        have h4 := (List.nodup_cons.mp nd2.2.1).1
        have h5 : n ≠ k := fun z => h4 (by rw [← z]; exact List.mem_append_left _ hn')
        omega)
      have := h2 x j hi hj
      have h6 := wt_app D k (c ++ [j]) (x :: a)
      rw [← List.cons_append]
      omega
  · have := h l i j w nd (fun n hn' => by
      have := hn n hn'
      have : n ≠ k := fun z => hm (z ▸ hn')
      omega)
    have := h1 i j hi hj
    omega
theorem upb_far {F f : Nat → Nat → Int} (hf : Far D m f) (h : Upb D m m F) (hl : ∀ i j, i < m → j < m → f i j ≤ F i j) : ∀ i j, i < m → j < m → F i j = f i j := fun i j hi hj => by
  obtain ⟨⟨l, w, nd, e⟩, _⟩ := hf i j hi hj
  have := h l i j w nd (fun n hn => w.lt n (List.mem_of_mem_tail ((List.dropLast_sublist _).subset hn)))
  have := hl i j hi hj
  omega
/-! least of so many -/
def mn (m : Nat) (g : Nat → Int) : Int := match (List.range m).map g with
  | [] => 0
  | x :: t => minI x t
theorem mn_spec (hm : 0 < m) (g : Nat → Int) : (∃ j, j < m ∧ mn m g = g j) ∧ ∀ j, j < m → mn m g ≤ g j := by
  unfold mn
  cases h : (List.range m).map g with
  | nil => have := congrArg List.length h; simp at this; omega
  | cons x t =>
    obtain ⟨a, b⟩ := minI_mem t x
    rw [← h] at a b
    obtain ⟨j, hj, e⟩ := List.mem_map.mp a
    exact ⟨⟨j, List.mem_range.mp hj, e.symm⟩, fun j hj => b _ (List.mem_map.mpr ⟨j, List.mem_range.mpr hj, rfl⟩)⟩
theorem fmin_rng (hm : 0 < m) (g : Nat → Int) : fMin (.lst ((List.range m).map fun i => .int (g i))) = some (.val (.int (mn m g))) := by
  have e := ints_mapG g (List.range m)
  unfold fMin mn
  simp only
  rw [e]
  cases h : (List.range m).map g with
  | nil => have := congrArg List.length h; simp at this; omega
  | cons x t => rfl
theorem mn_congr {g g' : Nat → Int} (h : ∀ j, j < m → g j = g' j) : mn m g = mn m g' := by
  unfold mn
  have : (List.range m).map g = (List.range m).map g' := List.map_congr_left fun j hj => h j (List.mem_range.mp hj)
  rw [this]
end Pf
end
section
set_option Elab.async false
set_option linter.all false
set_option maxHeartbeats 1000000
set_option autoImplicit false
namespace Pf
open PySem PySem.Spec L2
/-! repr of a list display: the list is nobody's, so nothing in it is frozen -/
def fRepL (ps : List PV) : Option RV := if lenOk ps.length then fRepr (.lst ps) else none
def dRepL (ds : List Den) : Den := dCl fRepL ds
@[simp] theorem e_repL {ds : List Den} {ρ : Env} : dRepL ds ρ = bd (evAll ds ρ) fun rs => runN fRepL rs := nr rfl
section
variable {X : Cx} {pins : List (Addr × Obj)} {σ : L2.St} {H : Hp} {s : Shared}
theorem RpW.ext {K : Frag} {g : G} {H : Hp} (sr : SRc K g) (hH : ∀ b x, g.H b = some x → H b = some x) {p : PV} {v : V} (h : RpW K g.H g.F p v) : RpW K H g.F p v := by
  have k : Keep g { g with H := H } := ⟨fun _ h => h, fun b x e _ => hH b x e⟩
  cases p with
  | lst xs => obtain ⟨a, vs, e, q, r⟩ := h; exact ⟨a, vs, e, hH _ _ q, RpL.keep k xs vs r⟩
  | dct kvs =>
    obtain ⟨a, e, q⟩ := h
    refine ⟨a, e, ?_⟩
    rcases q with ⟨l, e1, r⟩ | ⟨l, e1, r⟩
    · exact .inl ⟨l, hH _ _ e1, RpK.keep k kvs l r⟩
    · exact .inr ⟨l, hH _ _ e1, RpT.keep k kvs l r⟩
  | _ => exact Rp.keep k _ v h
theorem RpWs.rd (I : Inv X pins σ H s) {F : Addr → Prop} : ∀ (n : Nat) (ps : List PV) (vs : List V) (us : List Value), ps.all (shw n) = true → RpWs X.K H F ps vs → Vals vs us → ∃ as, ReadsAll s.heap us (toDs ps) as ∧ ∀ b ∈ as, H b ≠ none
  | n, [], _, us, _, .nil, r => by cases r; exact ⟨_, .nil, by simp⟩
  | n, p :: ps, _, us, h, .cons a b, r => by
    cases r with
    | cons r1 r2 =>
      rw [List.all_cons, Bool.and_eq_true] at h
      obtain ⟨as, h1, h2⟩ := RpW.rd I h.1 a r1
      obtain ⟨bs, h3, h4⟩ := RpWs.rd I n ps _ _ h.2 b r2
      exact ⟨_, .cons h1 h3, fun c hc => (List.mem_append.mp hc).elim (h2 c) (h4 c)⟩
end
section
variable {X : Cx} {W : WS} {es : List Expr} {ds : List Den} {p p2 pos q : Pos}
def rRepL (K : Frag) : List V → Hp → VK → Prop := fun xs H Q => ∃ (a : Addr) (vs : List V) (g : G) (ps : List PV), xs = [.ref a] ∧ g.H a = none ∧ H = upd g.H a (.lst vs) ∧ SRc K g ∧ RpWs K g.H g.F ps vs ∧ shw 60 (.lst ps) = true ∧ rsz (.lst ps) ≤ sizeLine ∧ Q (.str (toD (.lst ps)).shown) H
theorem c_reprL (hg : X.A.guards = some []) (hu : X.A.units + 100 < cLine) (hs : ∃ o, X.base.get? sysModules = some o) : CallR X (.builtin "repr") (rRepL X.K) := by
  intro pins s σ H xs us Q I rr ⟨a, vs, g, ps, e, ha, hH, sr, hp, h1, h2, hQ⟩
  subst e
  cases rr with
  | cons r1 r2 =>
    cases r2
    cases r1
    have hw : RpWs X.K H g.F ps vs := by
      subst hH
      have key : ∀ {ps : List PV} {vs : List V}, RpWs X.K g.H g.F ps vs → ∀ vs', RpWs X.K (upd g.H a (.lst vs')) g.F ps vs := fun {ps vs} h vs' => by
        induction h with
        | nil => exact .nil
        | cons q _ ih => exact .cons (RpW.ext sr (fun b x e => by rw [upd_ne (ne_new ha e)]; exact e) q) ih
      exact key hp vs
    have hq : H a = some (.lst vs) := by rw [hH]; exact upd_same
    obtain ⟨its, rv, ⟨o, m, ho, hc, _, hd⟩, _⟩ := I.list (.inl (.inl hq))
    obtain ⟨as, r1, r2⟩ := RpWs.rd I 59 ps vs _ (by simpa [shw] using h1) hw rv
    obtain ⟨sh, dp⟩ := shw_ok 60 (.lst ps) h1
    have hsz : (toD (.lst ps)).shown.length ≤ sizeLine := Nat.le_trans (shw_len 60 _ h1) h2
    have rd : Reads s.heap (.ref a) (toD (.lst ps)) _ := Reads.list ho hc hd r1
    refine repr_of_reads' rd sh (fun _ hm => ?_) hg (by omega) (fun _ _ e => e) (fun h' u tk hk => ?_) hsz
    · obtain ⟨o, ho⟩ := hs
      refine (?_ : H sysModules ≠ none) (I.bs _ _ ho).2
      rcases List.mem_cons.mp hm with e | hm
      · rw [e, hq]; simp
      · exact r2 _ hm
    · exact ⟨.str (toD (.lst ps)).shown, _, I.kept hk, ⟨u, rfl⟩, hQ⟩
theorem pe_drepL (hgd : X.A.guards = some []) (hu : X.A.units + 100 < cLine) (hs : ∃ o, X.base.get? sysModules = some o) (hg : Gl X "repr") (hm : X.mg "repr" = none) (hv : bootBuiltins "repr" = some (.builtin "repr")) (ha : PA X es (tDs X.K W ds))
    (he : starEach [.List es q] X.env = (false, eval (.List es q) X.env) :: starEach [] X.env := by rfl) (hpl : (backTo pos (starEach [] X.env)).any (·.1) = false := by rfl) : PE X (.Call (.Name "repr" p) [.List es q] [] pos) (tD X.K W (dRepL ds)) :=
  peW (pe_callB (c_reprL hgd hu hs) hg hm hv (pa_cons (pe_lst ha) pa_nil he) (by decide) (by decide) he hpl) fun σ H Q h => by
    obtain ⟨ρ, g, e, sr, se, h⟩ := h
    subst e
    unfold tCB tCons tLst tNil
    refine tDs.bd (Stp.refl g) sr se h fun rs g1 vs st _ sr1 se1 hvs h1 => ?_
    obtain ⟨ps, x, e1, e3, k⟩ := h1.runN
    have hw := hvs.peeks sr1 e1
    unfold fRepL at e3
    split at e3
    · next hl =>
      unfold fRepr at e3
      split at e3
      · next h2 =>
        cases e3
        rw [Bool.and_eq_true, decide_eq_true_eq] at h2
        have hlen : ps.length = vs.length := Paired.length hw
        refine ⟨by rw [← hlen]; exact of_decide_eq_true hl, fun a ha => ?_⟩
        exact ⟨a, vs, g1, ps, rfl, ha, rfl, sr1, hw, h2.1, h2.2, k (g1.put a (.lst vs)) rfl (st.trans (Stp.put ha)) (sr1.put ha) _ rfl⟩
      · cases e3
    · cases e3
end
end Pf
end
section
set_option Elab.async false
set_option linter.all false
set_option maxHeartbeats 1000000
set_option maxRecDepth 100000
set_option autoImplicit false
namespace Pf
open PySem
/-! all lists of unlike places, by their lengths -/
def ext (m : Nat) (l : List Nat) : List (List Nat) := ((List.range m).filter fun s => !l.contains s).map fun s => l ++ [s]
def lev (m : Nat) : Nat → List (List Nat)
  | 0 => (List.range m).map fun s => [s]
  | t + 1 => (lev m t).flatMap (ext m)
theorem mem_ext {m : Nat} {l r : List Nat} : r ∈ ext m l ↔ ∃ s, s < m ∧ s ∉ l ∧ r = l ++ [s] := by
  unfold ext
  rw [List.mem_map]
  constructor
  · rintro ⟨s, h, rfl⟩
    rw [List.mem_filter, List.mem_range] at h
    exact ⟨s, h.1, by simpa using h.2, rfl⟩
  · rintro ⟨s, h1, h2, rfl⟩
    exact ⟨s, by rw [List.mem_filter, List.mem_range]; exact ⟨h1, by simpa using h2⟩, rfl⟩
theorem mem_lev {m : Nat} : ∀ (t : Nat) (r : List Nat), r ∈ lev m t ↔ r.length = t + 1 ∧ r.Nodup ∧ ∀ n ∈ r, n < m
  | 0, r => by
    unfold lev
    rw [List.mem_map]
    constructor
    · rintro ⟨s, h, rfl⟩
      exact ⟨rfl, by simp, fun n hn => by rw [List.mem_singleton.mp hn]; exact List.mem_range.mp h⟩
    · rintro ⟨h1, _, h3⟩
      match r, h1 with
      | [s], _ => exact ⟨s, List.mem_range.mpr (h3 s (by simp)), rfl⟩
  | t + 1, r => by
    unfold lev
    rw [List.mem_flatMap]
    constructor
    · rintro ⟨l, hl, hr⟩
      obtain ⟨s, h1, h2, rfl⟩ := mem_ext.mp hr
      obtain ⟨k1, k2, k3⟩ := (mem_lev t l).mp hl
      refine ⟨by simp [k1], ?_, fun n hn => ?_⟩
      · rw [List.nodup_append]
        refine ⟨k2, by simp, fun x hx y hy => ?_⟩
        rw [List.mem_singleton.mp hy]
        exact fun e => h2 (e ▸ hx)
      · rcases List.mem_append.mp hn with hn | hn
        · exact k3 n hn
        · rw [List.mem_singleton.mp hn]; exact h1
    · rintro ⟨h1, h2, h3⟩
      have hne : r ≠ [] := fun e => by rw [e] at h1; cases h1
      have e := List.dropLast_concat_getLast hne
      rw [← e] at h2
      have h4 := List.nodup_append.mp h2
      refine ⟨r.dropLast, (mem_lev t _).mpr ⟨by rw [List.length_dropLast]; omega, h4.1, fun n hn => h3 n ((List.dropLast_sublist _).subset hn)⟩, mem_ext.mpr ⟨r.getLast hne, h3 _ (List.getLast_mem hne), fun hx => h4.2.2 _ hx _ (by simp) rfl, e.symm⟩⟩
theorem nodup_len : ∀ (m : Nat) (l : List Nat), l.Nodup → (∀ n ∈ l, n < m) → l.length ≤ m
  | 0, l, _, h => by
    cases l with
    | nil => simp
    | cons x l => exact absurd (h x List.mem_cons_self) (by omega)
  | m + 1, l, nd, h => by
    by_cases hm : m ∈ l
    · have h1 := nodup_len m (l.erase m) (nd.erase m) (fun n hn => by
        have h2 := h n (List.mem_of_mem_erase hn)
        have h3 : n ≠ m := (List.Nodup.mem_erase_iff nd |>.mp hn).1
        omega)
      rw [List.length_erase_of_mem hm] at h1
      omega
    · have := nodup_len m l nd (fun n hn => by
        have h2 := h n hn
        have h3 : n ≠ m := fun e => hm (e ▸ hn)
        omega)
      omega
def alls (m : Nat) : List (List Nat) := (List.range m).flatMap (lev m)
theorem mem_alls {m : Nat} {r : List Nat} : r ∈ alls m ↔ r ≠ [] ∧ r.Nodup ∧ ∀ n ∈ r, n < m := by
  unfold alls
  rw [List.mem_flatMap]
  constructor
  · rintro ⟨t, _, h⟩
    obtain ⟨h1, h2, h3⟩ := (mem_lev t r).mp h
    exact ⟨fun e => (by rw [e] at h1; cases h1), h2, h3⟩
  · rintro ⟨h1, h2, h3⟩
    have h4 := nodup_len m r h2 h3
    have h5 := List.length_pos_iff.mpr h1
    exact ⟨r.length - 1, List.mem_range.mpr (by omega), (mem_lev _ r).mpr ⟨by omega, h2, h3⟩⟩
/-- no list of unlike places comes round below 0 -/
theorem noRing_of {D : Nat → Nat → Int} {m : Nat} (h0 : ∀ i, D i i = 0) (h : ∀ r ∈ alls m, 1 < r.length → 0 ≤ wt D (r ++ r.take 1)) : NoRing D m where
  zero := h0
  cyc := fun x b nd hb => by
    cases b with
    | nil => simp [wt, h0]
    | cons y b => exact h (x :: y :: b) (mem_alls.mpr ⟨by simp, nd, hb⟩) (by simp)
theorem far_ex {D : Nat → Nat → Int} {m : Nat} {i j : Nat} (hi : i < m) (hj : j < m) : ∃ l, Walk m i j l ∧ l.Nodup := by
  by_cases h : i = j
  · subst h
    exact ⟨[i], ⟨rfl, rfl, fun n hn => by rw [List.mem_singleton.mp hn]; exact hi⟩, by simp⟩
  · exact ⟨[i, j], ⟨rfl, rfl, fun n hn => by
      rcases List.mem_cons.mp hn with rfl | hn
      · exact hi
      · rw [List.mem_singleton.mp hn]; exact hj⟩, by simpa using h⟩
theorem walk_alls {m i j : Nat} {l : List Nat} (w : Walk m i j l) (nd : l.Nodup) : l ∈ alls m := mem_alls.mpr ⟨fun e => (by rw [e] at w; cases w.hd), nd, w.lt⟩
/-! loops that may leave -/
def Vr (r : RV) (p : PV) : Prop := r = .val p ∨ r = .own p
theorem Vr.v {p : PV} : Vr (.val p) p := .inl rfl
theorem Vr.o {p : PV} : Vr (.own p) p := .inr rfl
section
variable {α : Type} {t : TgD} {b : DenS} {gs : List (Nat × PV)} {S : Sto} {x : Res (Env × Fl)} {ρ : Env}
/-- leaves at the first that fails -/
def FdOk (res : Res (Env × Fl)) (p : Bool) (r : RV) (S : Sto) (Iv : Env → Prop) : Prop := ∃ ρ', res = .ok (ρ', if p then .nx else .rt r) S ∧ Iv ρ'
theorem loop_find_of {g : α → PV} (Iv : Env → Prop) (P : α → Bool) (r : α → RV) (hg : chkG gs S = true) : ∀ {ys : List α} {ρ : Env}, loop gs t b (ys.map g) ρ S = x → Iv ρ →
    (∀ y ∈ ys, ∀ ρ, Iv ρ → LkOk ((bd (t (.val (g y)) ρ) fun ρ1 => b ρ1) S) (P y) (r y) S Iv) → ∃ ρ', Iv ρ' ∧ x = .ok (ρ', match ys.find? (fun y => !P y) with | none => .nx | some y => .rt (r y)) S
  | [], ρ, hx, hI, _ => ⟨ρ, hI, by rw [← hx]; simp [loop, chk_ok hg]⟩
  | y :: ys, ρ, hx, hI, h => by
    obtain ⟨ρ1, e1, h1⟩ := h y List.mem_cons_self ρ hI
    cases hp : P y with
    | false =>
      refine ⟨ρ1, h1, ?_⟩
      rw [hp] at e1
      have e3 : (bd (bd (t (.val (g y)) ρ) fun ρ1 => b ρ1) (cont (loop gs t b (ys.map g)))) S = .ok (ρ1, .rt (r y)) S := by
        rw [e_bd, e1]
        rfl
      rw [bd_assoc] at e3
      rw [List.find?_cons, hp]
      rw [← hx, List.map_cons, loop, e_bd, chk_ok hg]
      exact e3
    | true =>
      rw [hp] at e1
      have e3 : loop gs t b ((y :: ys).map g) ρ S = loop gs t b (ys.map g) ρ1 S := by
        have e4 : (bd (bd (t (.val (g y)) ρ) fun ρ1 => b ρ1) (cont (loop gs t b (ys.map g)))) S = loop gs t b (ys.map g) ρ1 S := by
          rw [e_bd, e1]
          rfl
        rw [bd_assoc] at e4
        rw [List.map_cons, loop, e_bd, chk_ok hg]
        exact e4
      rw [e3] at hx
      obtain ⟨ρ2, h2, e2⟩ := loop_find_of Iv P r hg hx h1 (fun y hy => h y (List.mem_cons_of_mem _ hy))
      refine ⟨ρ2, h2, ?_⟩
      rw [List.find?_cons, hp]
      exact e2
end
/-- a loop whose turns change things and may leave -/
def PkOk (res : Res (Env × Fl)) (o : Option RV) (Iv Rv : Env → Sto → Prop) : Prop := ∃ ρ' S', (match o with | none => res = .ok (ρ', .nx) S' ∧ Iv ρ' S' | some r => res = .ok (ρ', .rt r) S' ∧ Rv ρ' S')
theorem PkOk.nx {o : Option RV} {Iv Rv : Env → Sto → Prop} {ρ : Env} {S : Sto} (h : o = none) (hI : Iv ρ S) : PkOk (.ok (ρ, .nx) S) o Iv Rv := ⟨ρ, S, by rw [h]; exact ⟨rfl, hI⟩⟩
theorem PkOk.rt {o : Option RV} {r : RV} {Iv Rv : Env → Sto → Prop} {ρ : Env} {S : Sto} (h : o = some r) (hI : Rv ρ S) : PkOk (.ok (ρ, .rt r) S) o Iv Rv := ⟨ρ, S, by rw [h]; exact ⟨rfl, hI⟩⟩
theorem loop_pickG {t : TgD} {b : DenS} {gs : List (Nat × PV)} (Iv : Nat → Env → Sto → Prop) (Rv : Env → Sto → Prop) (P : Nat → Option RV) (hg : ∀ i ρ S, Iv i ρ S → chkG gs S = true) : ∀ (xs : List PV) (k : Nat) {ρ : Env} {S : Sto}, Iv k ρ S →
    (∀ j y, xs[j]? = some y → ∀ ρ S, Iv (k + j) ρ S → PkOk ((bd (t (.val y) ρ) fun ρ1 => b ρ1) S) (P (k + j)) (Iv (k + j + 1)) Rv) → PkOk (loop gs t b xs ρ S) ((List.range xs.length).findSome? fun j => P (k + j)) (Iv (k + xs.length)) Rv
  | [], k, ρ, S, hI, _ => by
    have e : loop gs t b [] ρ S = .ok (ρ, .nx) S := by simp [loop, chk_ok (hg _ _ _ hI)]
    rw [e]
    exact PkOk.nx rfl hI
  | y :: xs, k, ρ, S, hI, h => by
    obtain ⟨ρ1, S1, h1⟩ := h 0 y rfl ρ S hI
    have hr : (List.range (y :: xs).length).findSome? (fun j => P (k + j)) = match P k with | some r => some r | none => (List.range xs.length).findSome? fun j => P (k + 1 + j) := by
      rw [List.length_cons, List.range_succ_eq_map, List.findSome?_cons, List.findSome?_map]
      simp only [Nat.add_zero]
      cases P k with
      | some r => rfl
      | none =>
        simp only
        congr 1
        funext j
        show P (k + (j + 1)) = P (k + 1 + j)
        congr 1
        omega
    rw [hr]
    cases hp : P k with
    | some r =>
      rw [Nat.add_zero, hp] at h1
      obtain ⟨e1, h2⟩ := h1
      have e3 : (bd (bd (t (.val y) ρ) fun ρ1 => b ρ1) (cont (loop gs t b xs))) S = .ok (ρ1, .rt r) S1 := by
        rw [e_bd, e1]
        rfl
      rw [bd_assoc] at e3
      have e4 : loop gs t b (y :: xs) ρ S = .ok (ρ1, .rt r) S1 := by
        rw [loop, e_bd, chk_ok (hg _ _ _ hI)]
        exact e3
      rw [e4]
      exact .rt rfl h2
    | none =>
      rw [Nat.add_zero, hp] at h1
      obtain ⟨e1, h2⟩ := h1
      have e3 : loop gs t b (y :: xs) ρ S = loop gs t b xs ρ1 S1 := by
        have e4 : (bd (bd (t (.val y) ρ) fun ρ1 => b ρ1) (cont (loop gs t b xs))) S = loop gs t b xs ρ1 S1 := by
          rw [e_bd, e1]
          rfl
        rw [bd_assoc] at e4
        rw [loop, e_bd, chk_ok (hg _ _ _ hI)]
        exact e4
      rw [e3]
      have := loop_pickG Iv Rv P hg xs (k + 1) h2 (fun j z hj ρ S hI => by
        have e0 : k + 1 + j = k + (j + 1) := by omega
        rw [e0] at hI ⊢
        exact h (j + 1) z (by simpa using hj) ρ S hI)
      have e5 : k + (y :: xs).length = k + 1 + xs.length := by simp; omega
      rw [e5]
      exact this
theorem loop_pick_of {t : TgD} {b : DenS} {gs : List (Nat × PV)} {xs : List PV} {ρ : Env} {S : Sto} {x : Res (Env × Fl)} (hx : loop gs t b xs ρ S = x) (Iv : Nat → Env → Sto → Prop) (Rv : Env → Sto → Prop) (P : Nat → Option RV) (hg : ∀ i ρ S, Iv i ρ S → chkG gs S = true) (h0 : Iv 0 ρ S)
    (h : ∀ j y, xs[j]? = some y → ∀ ρ S, Iv j ρ S → PkOk ((bd (t (.val y) ρ) fun ρ1 => b ρ1) S) (P j) (Iv (j + 1)) Rv) : PkOk x ((List.range xs.length).findSome? P) (Iv xs.length) Rv := by
  have := loop_pickG Iv Rv P hg xs 0 h0 (fun j y hj ρ S hI => by
    rw [Nat.zero_add] at hI ⊢
    exact h j y hj ρ S hI)
  simp only [Nat.zero_add] at this
  exact hx ▸ this
/-! comprehensions whose turns give new objects, too -/
section
variable {α : Type} {i : Nat} {t : TgD} {it : ItD} {c e : Den} {vs : List Nat} {S : Sto} {ρ : Env} {gs : List (Nat × PV)}
theorem force_Vr {r : RV} {p : PV} (h : Vr r p) : force r S = .ok p S := by
  rcases h with rfl | rfl <;> rfl
theorem cl_mapO (hg : chkG gs S = true) (g h : α → PV) : ∀ ys : List α, (∀ y ∈ ys, ∃ ρ1 r, t (.val (g y)) ρ S = .ok ρ1 S ∧ e ρ1 S = .ok r S ∧ Vr r (h y)) → cl gs t none e (ys.map g) ρ S = .ok (ys.map h) S
  | [], _ => by simp [cl, chk_ok hg]
  | y :: ys, k => by
    obtain ⟨ρ1, r, h0, h1, h2⟩ := k y List.mem_cons_self
    have ih := cl_mapO hg g h ys fun z hz => k z (List.mem_cons_of_mem _ hz)
    simp [cl, turnC, condM, chk_ok hg, h0, h1, ih, force_Vr h2]
theorem dComp_mapO {g : α → PV} {ys : List α} (h : α → PV) (h1 : it ρ S = .ok (ys.map g, gs) S) (hl : ys.length ≤ sizeLine) (hg : chkG gs S = true) (k : ∀ y ∈ ys, ∃ ρ1 r, t (.val (g y)) (wipeE ρ vs) S = .ok ρ1 S ∧ e ρ1 S = .ok r S ∧ Vr r (h y)) :
    dComp it t none e vs ρ S = .ok (.own (.lst (ys.map h))) S := dComp_ok h1 (by rwa [List.length_map]) (cl_mapO hg g h ys k)
theorem cl_filtO (hg : chkG gs S = true) (P : α → Bool) (g h : α → PV) : ∀ ys : List α, (∀ y ∈ ys, c (ρ.set i (some (.val (g y)))) S = .ok (.val (.bl (P y))) S ∧ (P y = true → ∃ r, e (ρ.set i (some (.val (g y)))) S = .ok r S ∧ Vr r (h y))) →
    cl gs (tgName i false) (some c) e (ys.map g) ρ S = .ok ((ys.filter P).map h) S
  | [], _ => by simp [cl, chk_ok hg]
  | y :: ys, k => by
    obtain ⟨h1, h2⟩ := k y List.mem_cons_self
    have ih := cl_filtO hg P g h ys fun z hz => k z (List.mem_cons_of_mem _ hz)
    cases hp : P y with
    | false => simp [cl, turnC, condM, chk_ok hg, h1, ih, hp]
    | true =>
      obtain ⟨r, h3, h4⟩ := h2 hp
      simp [cl, turnC, condM, chk_ok hg, h1, h3, ih, hp, force_Vr h4]
theorem dComp_filtO {g : α → PV} {ys : List α} (P : α → Bool) (h : α → PV) (h1 : it ρ S = .ok (ys.map g, gs) S) (hl : ys.length ≤ sizeLine) (hg : chkG gs S = true)
    (k : ∀ y ∈ ys, c ((wipeE ρ vs).set i (some (.val (g y)))) S = .ok (.val (.bl (P y))) S ∧ (P y = true → ∃ r, e ((wipeE ρ vs).set i (some (.val (g y)))) S = .ok r S ∧ Vr r (h y))) :
    dComp it (tgName i false) (some c) e vs ρ S = .ok (.own (.lst ((ys.filter P).map h))) S := dComp_ok h1 (by rwa [List.length_map]) (cl_filtO hg P g h ys k)
end
theorem rng2_nat (a b : Nat) (h : a ≤ b) (hb : b < 1000000) : rng2 [.int (a : Int), .int (b : Int)] = some ((List.range (b - a)).map fun i => .int ((a + i : Nat) : Int)) := by
  have e1 : okI (a : Int) = true := by unfold okI; simp; omega
  have e2 : okI (b : Int) = true := by unfold okI; simp; omega
  show (if okI (a : Int) && okI (b : Int) then some (rngI (a : Int) ((b : Int) - (a : Int)).toNat) else none) = _
  rw [e1, e2, Bool.and_self, if_pos rfl]
  have e3 : ((b : Int) - (a : Int)).toNat = b - a := by omega
  rw [e3]
  unfold rngI
  congr 1
theorem setF_nat {xs : List PV} {k : Nat} {z : PV} (h : k < xs.length) : setF (.int (k : Nat)) z (.lst xs) = some (.lst (xs.set k z), .non) := by
  simp [setF, ixN_nat h]
theorem set_rng {α : Type} (f : Nat → α) (n k : Nat) (z : α) : ((List.range n).map f).set k z = (List.range n).map fun i => if i = k then z else f i := by
  refine List.ext_getElem (by simp) fun i h1 h2 => ?_
  simp only [List.length_set, List.length_map, List.length_range] at h1
  rw [List.getElem_set]
  by_cases h : k = i
  · subst h; simp
  · rw [if_neg h]; simp [Ne.symm h]
theorem ext_ok {xs ys : List PV} (h : xs.length + ys.length ≤ 100000) : extF (.lst ys) (.lst xs) = some (.lst (xs ++ ys), .non) := by
  simp only [extF]
  rw [if_pos (by unfold sizeLine; omega)]
theorem app_ok {xs : List PV} {y : PV} (h : xs.length < 100000) : appF y (.lst xs) = some (.lst (xs ++ [y]), .non) := by
  simp only [appF]
  rw [if_pos (by unfold sizeLine; omega)]
theorem idx_rngL {n k : Nat} {f : Nat → PV} (h : k < n) : bIdx (.lst ((List.range n).map f)) (.int (k : Nat)) = some (.val (f k)) := idx_l (by rw [List.getElem?_map, List.getElem?_range h]; rfl)
end Pf
end
section
set_option Elab.async false
set_option linter.all false
set_option maxHeartbeats 1000000
set_option maxRecDepth 100000
set_option autoImplicit false
namespace Pf
open PySem
/-! sums of fractions -/
def rsum : List Rat → Rat
  | [] => 0
  | q :: qs => q + rsum qs
theorem rsum_append (xs ys : List Rat) : rsum (xs ++ ys) = rsum xs + rsum ys := by
  induction xs with
  | nil => simp [rsum, Rat.zero_add]
  | cons x xs ih => rw [List.cons_append, rsum, rsum, ih, Rat.add_assoc]
theorem rsum_take {qs : List Rat} {j : Nat} (h : j < qs.length) : rsum (qs.take (j + 1)) = rsum (qs.take j) + qs[j] := by
  rw [List.take_succ_eq_append_getElem h, rsum_append]
  simp [rsum, Rat.add_zero]
/-- parts of a whole -/
theorem rsum_parts (s : Nat) : ∀ ns : List Int, rsum (ns.map fun n => mkRat n s) = mkRat ns.sum s
  | [] => by simp [rsum, Rat.mkRat_eq_div]; grind
  | n :: ns => by
    rw [List.map_cons, rsum, rsum_parts s ns, List.sum_cons, Rat.mkRat_eq_div, Rat.mkRat_eq_div, Rat.mkRat_eq_div, Rat.intCast_add]
    grind
theorem rat_self {s : Nat} (h : 0 < s) : mkRat (s : Int) s = 1 := by
  rw [Rat.mkRat_eq_div]
  have : ((s : Nat) : Rat) ≠ 0 := by
    intro e
    have := congrArg Rat.num e
    simp at this
    omega
  have e : (((s : Nat) : Int) : Rat) = ((s : Nat) : Rat) := rfl
  rw [e]
  grind
theorem FS.sub {a : Nat} {p q : Rat} (h : FS a p) (g : FS a q) : FS (2 * a + 1) (p - q) := by
  rw [← rat_sub_mk]
  refine fs_mk (Nat.mul_pos p.den_pos q.den_pos) ?_ ?_
  · have := Sz.sub (h.1.mul g.2) (g.1.mul h.2)
    exact this.mono (by omega)
  · have := h.2.mul g.2
    rw [← Int.natCast_mul] at this
    exact this.mono (by omega)
theorem FS.neg {a : Nat} {p : Rat} (h : FS a p) : FS a (-p) := ⟨by rw [Rat.neg_num]; exact h.1.neg, by rw [Rat.neg_den]; exact h.2⟩
theorem fs_0 {k : Nat} (h : 1 ≤ k) : FS k 0 := ⟨by unfold Sz; show 0 < 2 ^ k; exact Nat.two_pow_pos k, by unfold Sz; show 1 < 2 ^ k; exact Nat.one_lt_two_pow (by omega)⟩
/-- sizes of sums of k-sized ones -/
def grow (k : Nat) : Nat → Nat
  | 0 => k
  | n + 1 => 2 * grow k n + 1
theorem grow_le (k : Nat) : ∀ n, k ≤ grow k n
  | 0 => Nat.le_refl _
  | n + 1 => by have := grow_le k n; unfold grow; omega
theorem grow_mono (k : Nat) {n m : Nat} (h : n ≤ m) : grow k n ≤ grow k m := by
  induction h with
  | refl => exact Nat.le_refl _
  | step _ ih => rename_i m' _; have : grow k m'.succ = 2 * grow k m' + 1 := rfl; omega
theorem fs_rsum {k : Nat} (hk : 1 ≤ k) {qs : List Rat} (h : ∀ q ∈ qs, FS k q) : ∀ j, j ≤ qs.length → FS (grow k j) (rsum (qs.take j))
  | 0, _ => by simp [rsum, grow]; exact fs_0 hk
  | j + 1, hj => by
    rw [rsum_take (by omega : j < qs.length)]
    exact FS.add (fs_rsum hk h j (by omega)) ((h _ (List.getElem_mem _)).mono (grow_le k j))
/-! the same of lists and tuples -/
theorem frac_int (z : Int) : frac (z : Rat) = .tup [.int z, .int 1] := rfl
theorem fs_int {z : Int} {k : Nat} (h : Sz k z) (hk : 1 ≤ k) : FS k (z : Rat) := ⟨h, by unfold Sz; show 1 < 2 ^ k; exact Nat.one_lt_two_pow (by omega)⟩
theorem idx_f0 (q : Rat) : bIdx (frac q) (.int 0) = some (.val (.int q.num)) := by simp [frac]
theorem idx_f1 (q : Rat) : bIdx (frac q) (.int 1) = some (.val (.int (q.den : Nat))) := by simp [frac]
theorem frac_neg (q : Rat) : frac (-q) = .tup [.int (-q.num), .int (q.den : Nat)] := by
  simp only [frac, Rat.neg_num, Rat.neg_den]
theorem eqv_frac (p q : Rat) : bEq (frac p) (frac q) = some (.val (.bl (decide (p = q)))) := by
  have e : eqv (frac p) (frac q) = decide (p = q) := by
    rw [Bool.eq_iff_iff]
    simp only [eqv, frac, toD, toDs, PyData.eqv, PyData.eqvAll, Bool.and_true, Bool.and_eq_true, beq_iff_eq, decide_eq_true_eq]
    constructor
    · rintro ⟨h1, h2⟩
      exact Rat.ext h1 (by omega)
    · rintro rfl; exact ⟨rfl, rfl⟩
  have d : ∀ q : Rat, dat 60 (frac q) = true := fun q => by simp [frac, dat]
  have s : ∀ q : Rat, isS (frac q) = false := fun q => rfl
  simp [bEq, s, d, e]
theorem bne_bb (a b : Bool) : bNe (.bl a) (.bl b) = some (.val (.bl (!decide (a = b)))) := by cases a <;> cases b <;> rfl
theorem beq_bb (a b : Bool) : bEq (.bl a) (.bl b) = some (.val (.bl (decide (a = b)))) := by cases a <;> cases b <;> rfl
theorem bis_bb (a b : Bool) : bIs (.bl a) (.bl b) = some (.val (.bl (decide (a = b)))) := rfl
theorem bisn_bb (a b : Bool) : bIsN (.bl a) (.bl b) = some (.val (.bl (!decide (a = b)))) := rfl
/-- repr of a list of two -/
theorem repL2 {x y : PV} {n k : Nat} (hx : Gd n k x) (hy : Gd n k y) (hn : n ≤ 50) (hk : k ≤ 1000000) : fRepL [x, y] = some (.val (.str (shT (.lst [x, y])))) := by
  have g := gd_lst (m := 2) (gd_cons hx (gd_cons hy gd_nil)) (by simp)
  have h := gd_repr g (by omega) (by omega)
  simp [fRepL, lenOk, sizeLine, h]
theorem gd_intsL {xs : List Int} {m : Nat} (h : ∀ i ∈ xs, i.natAbs ≤ 10 ^ 40) (hl : xs.length ≤ m) : Gd 1 (m * 2002 + 4) (.lst (xs.map .int)) := (gd_lst (m := m) (fun x hx => by
  obtain ⟨i, hi, rfl⟩ := List.mem_map.mp hx
  exact gd_int (h i hi)) (by simpa using hl))
theorem gd_fracs {qs : List Rat} {k : Nat} (hk : k ≤ 130) (h : ∀ q ∈ qs, FS k q) : ∀ x ∈ qs.map frac, Gd 1 4010 x := fun x hx => by
  obtain ⟨q, hq, rfl⟩ := List.mem_map.mp hx
  obtain ⟨h1, h2⟩ := h q hq
  have h1 := h1.mono hk
  have h2 := h2.mono hk
  unfold Sz at h1 h2
  have h3 : (2 : Nat) ^ 130 ≤ 10 ^ 40 := by decide
  rw [Int.natAbs_natCast] at h2
  exact gd_frac (by omega) (by omega)
theorem bd_big {i : Int} {k : Nat} (h : Sz k i) (hk : k ≤ 1900) : Bd 0 2000 (.int i) := by
  refine ⟨?_, ?_⟩
  · have := log2_leS h
    show decide (i.natAbs.log2 < 1920) = true
    exact decide_eq_true (by omega)
  · rw [rsz]
    split <;> omega
theorem bd_frac {q : Rat} {k : Nat} (h : FS k q) (hk : k ≤ 1900) : Bd 1 4010 (frac q) := (bd_tup (m := 2) (bd_cons (bd_big h.1 hk) (bd_cons (bd_big h.2 hk) bd_nil)) (by simp)).mono (by omega) (by omega)
theorem repB2 {x y : PV} {n k : Nat} (hx : Bd n k x) (hy : Bd n k y) (hn : n ≤ 50) (hk : k ≤ 1000000) : fRepL [x, y] = some (.val (.str (shT (.lst [x, y])))) := by
  have g := bd_lst (m := 2) (bd_cons hx (bd_cons hy bd_nil)) (by simp)
  have h := repr_ok (g.mono (by omega : n + 1 ≤ 60) (by unfold sizeLine; omega))
  simp [fRepL, lenOk, sizeLine, h, shT]
/-! comprehensions with any target -/
section
variable {α : Type} {t : TgD} {it : ItD} {c e : Den} {vs : List Nat} {S : Sto} {ρ : Env} {gs : List (Nat × PV)}
theorem cl_filtT (hg : chkG gs S = true) (P : α → Bool) (g h : α → PV) : ∀ ys : List α, (∀ y ∈ ys, ∃ ρ1, t (.val (g y)) ρ S = .ok ρ1 S ∧ c ρ1 S = .ok (.val (.bl (P y))) S ∧ (P y = true → ∃ r, e ρ1 S = .ok r S ∧ Vr r (h y))) →
    cl gs t (some c) e (ys.map g) ρ S = .ok ((ys.filter P).map h) S
  | [], _ => by simp [cl, chk_ok hg]
  | y :: ys, k => by
    obtain ⟨ρ1, h0, h1, h2⟩ := k y List.mem_cons_self
    have ih := cl_filtT hg P g h ys fun z hz => k z (List.mem_cons_of_mem _ hz)
    cases hp : P y with
    | false => simp [cl, turnC, condM, chk_ok hg, h0, h1, ih, hp]
    | true =>
      obtain ⟨r, h3, h4⟩ := h2 hp
      simp [cl, turnC, condM, chk_ok hg, h0, h1, h3, ih, hp, force_Vr h4]
theorem dComp_filtT {g : α → PV} {ys : List α} (P : α → Bool) (h : α → PV) (h1 : it ρ S = .ok (ys.map g, gs) S) (hl : ys.length ≤ sizeLine) (hg : chkG gs S = true)
    (k : ∀ y ∈ ys, ∃ ρ1, t (.val (g y)) (wipeE ρ vs) S = .ok ρ1 S ∧ c ρ1 S = .ok (.val (.bl (P y))) S ∧ (P y = true → ∃ r, e ρ1 S = .ok r S ∧ Vr r (h y))) :
    dComp it t (some c) e vs ρ S = .ok (.own (.lst ((ys.filter P).map h))) S := dComp_ok h1 (by rwa [List.length_map]) (cl_filtT hg P g h ys k)
end
/-! the greatest, its first place -/
def mx (xs : List Int) : Int := match xs with
  | [] => 0
  | x :: t => maxI x t
theorem fmax_ne {xs : List Int} (h : xs ≠ []) : fMax (.lst (xs.map .int)) = some (.val (.int (mx xs))) := by
  cases xs with
  | nil => exact absurd rfl h
  | cons x t =>
    have := fmax_mapG (fun i : Int => i) x t
    rw [List.map_id'] at this
    exact this
theorem mx_spec {xs : List Int} (h : xs ≠ []) : mx xs ∈ xs ∧ ∀ x ∈ xs, x ≤ mx xs := by
  cases xs with
  | nil => exact absurd rfl h
  | cons x t => exact maxI_mem t x
theorem mx_le {xs : List Int} (h : xs ≠ []) {b : Int} : mx xs ≤ b ↔ ∀ x ∈ xs, x ≤ b := by
  obtain ⟨h1, h2⟩ := mx_spec h
  exact ⟨fun k x hx => Int.le_trans (h2 x hx) k, fun k => k _ h1⟩
def bx (xs : List Int) : Nat := (fstIx (.int (mx xs)) (xs.map .int)).getD 0
theorem bx_ok {xs : List Int} (h : xs ≠ []) : bIndex (.lst (xs.map .int)) (.int (mx xs)) = some (.val (.int (bx xs : Nat))) ∧ xs[bx xs]? = some (mx xs) := by
  have key : ∀ (m : Int) (ns : List Int), m ∈ ns → ∃ k, fstIx (.int m) (ns.map .int) = some k ∧ ns[k]? = some m := fun m ns => by
    induction ns with
    | nil => exact fun h => by cases h
    | cons n ns ih =>
      intro h
      by_cases e : n = m
      · subst e
        exact ⟨0, by simp [fstIx], by simp⟩
      · have h : m ∈ ns := by
          rcases List.mem_cons.mp h with h | h
          · exact absurd h.symm e
          · exact h
        obtain ⟨k, h1, h2⟩ := ih h
        refine ⟨k + 1, ?_, by simpa using h2⟩
        simp only [List.map_cons, fstIx, eqv_int, e, decide_false, h1]
        simp
  obtain ⟨k, h1, h2⟩ := key _ xs (mx_spec h).1
  have e : bx xs = k := by simp [bx, h1]
  rw [e]
  refine ⟨?_, h2⟩
  have h3 : (xs.map PV.int).all (dat 50) = true := by rw [List.all_map, List.all_eq_true]; exact fun x _ => rfl
  simp [bIndex, h1, dat]
/-! what a potential bounds -/
theorem wt_pot {D : Nat → Nat → Int} {m : Nat} {φ : Nat → Int} (h : ∀ i j, i < m → j < m → φ i - φ j ≤ D i j) : ∀ (l : List Nat) (i j : Nat), Walk m i j l → φ i - φ j ≤ wt D l
  | [], i, j, w => by cases w.hd
  | [x], i, j, w => by
    have e1 : x = i := by simpa using w.hd
    have e2 : x = j := by simpa using w.la
    subst e1; subst e2
    simp [wt]
  | x :: y :: r, i, j, w => by
    have e : x = i := by simpa using w.hd
    subst e
    have w1 : Walk m y j (y :: r) := ⟨rfl, by have := w.la; rwa [List.getLast?_cons_cons] at this, fun n hn => w.lt n (List.mem_cons_of_mem _ hn)⟩
    have ih := wt_pot h (y :: r) y j w1
    have k := h x y (w.lt x (by simp)) (w.lt y (by simp))
    simp only [wt]
    omega
theorem noRing_pot {D : Nat → Nat → Int} {m : Nat} {φ : Nat → Int} (h0 : ∀ i, D i i = 0) (h : ∀ i j, i < m → j < m → φ i - φ j ≤ D i j) : NoRing D m where
  zero := h0
  cyc := fun x b nd hb => by
    have := wt_pot h (x :: b ++ [x]) x x ⟨rfl, by rw [last_app]; rfl, fun n hn => by
      rcases List.mem_append.mp hn with hn | hn
      · exact hb n hn
      · rw [List.mem_singleton.mp hn]; exact hb x List.mem_cons_self⟩
    omega
theorem far_pot {D : Nat → Nat → Int} {m : Nat} {φ : Nat → Int} {f : Nat → Nat → Int} (hf : Far D m f) (h : ∀ i j, i < m → j < m → φ i - φ j ≤ D i j) {i j : Nat} (hi : i < m) (hj : j < m) : φ i - φ j ≤ f i j := by
  obtain ⟨⟨l, w, nd, e⟩, -⟩ := hf i j hi hj
  have := wt_pot h l i j w
  omega
end Pf
end
section
set_option Elab.async false
set_option linter.all false
set_option maxHeartbeats 1000000
set_option maxRecDepth 100000
set_option autoImplicit false
namespace Pf
open PySem PySem.Spec L2
/-! lists of lists that are changed inside: a cell whose places are values or cells -/
def svNE : SV → NE
  | .val p => .pv p
  | .ref n => .cl n
/-- a list display whose new objects are cells -/
def nstM (mus : List Bool) (rs : List RV) : M RV := bd (bindMany mus rs) fun ss => if lenOk ss.length then fun S => .ok (.ref S.length) (S ++ [.nest (ss.map svNE)]) else stk
def dNst (mus : List Bool) (ds : List Den) : Den := fun ρ => bd (evAll ds ρ) (nstM mus)
/-- a place of a list of lists -/
def ixM (r q : RV) : M RV := fun S => match r with
  | .ref n => (match S[n]? with
    | some (.nest es) => (match q with
      | .val (.int i) => (match L2.atI es i with
        | some (.pv p) => .ok (.val p) S
        | some (.cl m) => .ok (.ref m) S
        | none => .stuck)
      | _ => .stuck)
    | _ => run2 bIdx r q S)
  | _ => run2 bIdx r q S
def dIxN (a b : Den) : Den := fun ρ => bd (a ρ) fun r => bd (b ρ) fun q => ixM r q
section
variable {K : Frag} {W : WS} {W0 : XW} {g g0 g1 : G}
theorem NeL.len : ∀ {es : List NE} {vs : List V}, NeL K g es vs → es.length = vs.length
  | [], _, h => by have h : _ = [] := h; subst h; rfl
  | .pv p :: es, _, ⟨v, r, e, _, b⟩ => by rw [e, List.length_cons, List.length_cons, NeL.len b]
  | .cl n :: es, _, ⟨a, r, e, _, b⟩ => by rw [e, List.length_cons, List.length_cons, NeL.len b]
def Ne1 (K : Frag) (g : G) : NE → V → Prop
  | .pv p, v => Rp K g.H g.F p v
  | .cl n, v => ∃ a, v = .ref a ∧ g.A[n]? = some a
theorem NeL.get : ∀ {es : List NE} {vs : List V} {j : Nat} {e : NE}, NeL K g es vs → es[j]? = some e → ∃ v, vs[j]? = some v ∧ Ne1 K g e v
  | [], _, j, e, h, k => by simp at k
  | .pv p :: es, _, 0, e, ⟨v, r, e0, h, _⟩, k => by simp at k; subst k e0; exact ⟨v, rfl, h⟩
  | .cl n :: es, _, 0, e, ⟨a, r, e0, h, _⟩, k => by simp at k; subst k e0; exact ⟨.ref a, rfl, a, rfl, h⟩
  | .pv p :: es, _, j + 1, e, ⟨v, r, e0, _, b⟩, k => by subst e0; exact NeL.get (j := j) b (by simpa using k)
  | .cl n :: es, _, j + 1, e, ⟨a, r, e0, _, b⟩, k => by subst e0; exact NeL.get (j := j) b (by simpa using k)
theorem NeL.atI {es : List NE} {vs : List V} {i : Int} {e : NE} (h : NeL K g es vs) (k : L2.atI es i = some e) : ∃ v, L2.atI vs i = some v ∧ Ne1 K g e v := by
  unfold L2.atI at k ⊢
  rw [← h.len]
  cases e1 : ixN es.length i with
  | none => rw [e1] at k; cases k
  | some j => rw [e1] at k; exact h.get k
theorem NeL.of {ss : List SV} {vs : List V} (h : Paired (Rs K g) ss vs) : NeL K g (ss.map svNE) vs := by
  induction h with
  | nil => rfl
  | @cons s v _ _ a b ih =>
    cases s with
    | val p => exact ⟨v, _, rfl, a, ih⟩
    | ref n => obtain ⟨b, e, k⟩ := a; subst e; exact ⟨b, _, rfl, k, ih⟩
/-- a new cell of places -/
def G.nst (g : G) (es : List NE) (a : Addr) (vs : List V) : G := { S := g.S ++ [.nest es], A := g.A ++ [a], H := upd g.H a (.lst vs), F := g.F }
theorem nst_ok (st : Stp g0 g) (s : SRc K g) {es : List NE} {vs : List V} {a : Addr} (h : NeL K g es vs) (hn : g.H a = none) : Stp g0 (g.nst es a vs) ∧ SRc K (g.nst es a vs) ∧ (g.nst es a vs).A[g.S.length]? = some a := by
  have kp : Keep g (g.nst es a vs) := ⟨fun _ h => h, fun b x e _ => by show upd g.H a _ b = _; rw [upd_ne (ne_new hn e)]; exact e⟩
  have ea : ∀ (n : Nat) (b : Addr), g.A[n]? = some b → (g.nst es a vs).A[n]? = some b := fun n b e => by
    show (g.A ++ [a])[n]? = _
    rw [List.getElem?_append_left (List.getElem?_eq_some_iff.mp e).1]
    exact e
  have dom : ∀ b x, g.H b = some x → ∃ y, (g.nst es a vs).H b = some y := fun b x e => ⟨x, by show upd g.H a _ b = _; rw [upd_ne (ne_new hn e)]; exact e⟩
  have nA : a ∉ g.A := fun m => by obtain ⟨x, e⟩ := s.dom a m; rw [hn] at e; cases e
  have nF : ¬ g.F a := fun m => by obtain ⟨x, e⟩ := s.fd a m; rw [hn] at e; cases e
  have lvs : ∀ b, Lv (g.nst es a vs) b → Lv g b ∨ b = a := fun b ⟨m, v, ⟨e1, mv⟩, e2⟩ => by
    have e1 : (g.S ++ [Cell.nest es])[m]? = _ := e1
    have e2 : (g.A ++ [a])[m]? = _ := e2
    by_cases hm : m < g.S.length
    · rw [List.getElem?_append_left hm] at e1
      rw [List.getElem?_append_left (by rw [s.len]; exact hm)] at e2
      exact .inl ⟨m, v, ⟨e1, mv⟩, e2⟩
    · rw [List.getElem?_append_right (by rw [s.len]; omega)] at e2
      refine .inr ?_
      have := List.mem_of_getElem? e2
      simpa using this
  have z : g0.H a = none := st.absent hn
  refine ⟨⟨fun b x e n => ?_, fun b x e => ?_, st.fz, st.fz', fun m b e => ea m b (st.ext m b e), fun b hb => ?_, fun b q => ?_, PlS.trans st.pl st.ge (plApp _), by show _ ≤ (g.S ++ [Cell.nest es]).length; rw [List.length_append]; have := st.ge; omega⟩,
    ⟨by show (g.A ++ [a]).length = (g.S ++ [Cell.nest es]).length; rw [List.length_append, List.length_append, s.len]; rfl, ?_, fun m b c e1 e2 => ?_, fun b hb => ?_, fun b m => let ⟨x, e⟩ := s.fd b m; dom b x e⟩, ?_⟩
  · have e' := st.keep b x e n
    show upd g.H a _ b = _
    rw [upd_ne (ne_new hn e')]
    exact e'
  · obtain ⟨y, e'⟩ := st.dom b x e
    exact dom b y e'
  · rcases List.mem_append.mp hb with hb | hb
    · exact st.newA b hb
    · have : b = a := by simpa using hb
      subst this; exact .inr z
  · rcases lvs b q with q | q
    · exact st.new b q
    · subst q; exact .inr z
  · exact List.nodup_append.mpr ⟨s.nd, by simp, fun x hx y hy => by
      have : y = a := by simpa using hy
      subst this
      exact fun e => nA (e ▸ hx)⟩
  · have e1 : (g.A ++ [a])[m]? = _ := e1
    have e2 : (g.S ++ [Cell.nest es])[m]? = _ := e2
    by_cases hm : m < g.S.length
    · rw [List.getElem?_append_left hm] at e2
      rw [List.getElem?_append_left (by rw [s.len]; exact hm)] at e1
      exact CellOk.keep (g := g) kp ea (fun mc => by
        obtain ⟨x, hx⟩ := (s.cell m b c e1 e2).ex mc
        show upd g.H a _ b = _
        rw [upd_ne (ne_new hn hx)]) (fun _ h => h) (s.cell m b c e1 e2)
    · rw [List.getElem?_append_right (by omega)] at e2
      rw [List.getElem?_append_right (by rw [s.len]; omega)] at e1
      have h1 : b = a := by simpa using List.mem_of_getElem? e1
      have h2 : c = Cell.nest es := by simpa using List.mem_of_getElem? e2
      subst h1 h2
      exact ⟨⟨vs, upd_same, NeL.keep kp ea es vs h⟩, nF⟩
  · rcases List.mem_append.mp hb with hb | hb
    · obtain ⟨x, e⟩ := s.dom b hb
      exact dom b x e
    · have : b = a := by simpa using hb
      subst this; exact ⟨_, upd_same⟩
  · show (g.A ++ [a])[g.S.length]? = _
    rw [← s.len, List.getElem?_append_right (Nat.le_refl _), Nat.sub_self]
    rfl
theorem tNst_of {mus : List Bool} {ds : List Den} {σ : L2.St} {H : Hp} {Q : VK} (h : tD K W (dNst mus ds) σ H Q) : tLst (tDs K W ds) σ H Q := by
  obtain ⟨ρ, g, e, sr, se, h⟩ := h
  subst e
  refine tDs.bd (Stp.refl g) sr se h fun rs g1 vs st _ sr1 se1 hvs h1 => ?_
  unfold nstM at h1
  obtain ⟨ss, g2, e2, st2, sr2, r2, _, _, h2⟩ := bindMany_ok st sr1 hvs h1
  rw [← e2]
  split at h2
  · next hl =>
    have hn := NeL.of r2
    refine ⟨by rw [← hn.len, List.length_map]; exact of_decide_eq_true hl, fun p hp => ?_⟩
    obtain ⟨k1, k2, k3⟩ := nst_ok (g0 := g2) (Stp.refl g2) sr2 hn hp
    unfold WG at h2
    exact h2 (g2.nst (ss.map svNE) p vs) rfl (st2.trans k1) k2 (.ref p) ⟨p, rfl, k3⟩
  · exact (stk_ok h2).elim
def rIxN (K : Frag) : R2 := fun x y H Q => rOp K bIdx x y H Q ∨ ∃ a vs i w, x = .ref a ∧ y = .int i ∧ H a = some (.lst vs) ∧ L2.atI vs i = some w ∧ Q w H
theorem ixN_d {X : Cx} : IxR X (rIxN X.K) := by
  intro value slice pins s σ H x y v u Q I rx ry h hs
  rcases h with h | ⟨a, vs, i, w, rfl, rfl, ha, e, q⟩
  · exact ix_d value slice pins s σ H x y v u Q I rx ry h hs
  · exact ix_list value slice pins s σ _ _ _ v u Q I rx ry ⟨a, vs, i, w, rfl, rfl, .inl (.inl ha), e, q⟩ hs
theorem ixM_run {r q : RV} {S : Sto} {Q : RV → G → Prop} (h : WG K W0 g S (ixM r q) Q) : WG K W0 g S (run2 bIdx r q) Q ∨ ∃ n es i, r = .ref n ∧ S[n]? = some (.nest es) ∧ q = .val (.int i) ∧ ∃ e, L2.atI es i = some e ∧ ∀ g', g'.S = S → Stp g g' → SRc K g' → Q (match e with | .pv p => .val p | .cl m => .ref m) g' := by
  unfold WG ixM at h
  cases r with
  | val p => exact .inl h
  | own p => exact .inl h
  | ref n =>
    cases hS : S[n]? with
    | none => simp only [hS] at h; exact .inl h
    | some c =>
      cases c with
      | live p => simp only [hS] at h; exact .inl h
      | froz p => simp only [hS] at h; exact .inl h
      | nest es =>
        simp only [hS] at h
        cases q with
        | val p =>
          cases p with
          | int i =>
            simp only at h
            cases e : L2.atI es i with
            | none => simp only [e] at h
            | some y =>
              refine .inr ⟨n, es, i, rfl, hS, rfl, y, e, ?_⟩
              cases y with
              | pv p => simp only [e] at h; exact h
              | cl m => simp only [e] at h; exact h
          | _ => simp only at h
        | _ => simp only at h
theorem tIxN_of {da db : Den} {σ : L2.St} {H : Hp} {Q : VK} (h : tD K W (dIxN da db) σ H Q) : tOp (rIxN K) (tD K W da) (tD K W db) σ H Q := by
  obtain ⟨ρ, g, e, sr, se, h⟩ := h
  subst e
  refine tD.bd (Stp.refl g) sr se h fun r g1 v st _ sr1 se1 hv h1 => ?_
  refine tD.bd st sr1 se1 h1 fun q g2 v2 st2 st02 sr2 se2 hv2 h2 => ?_
  rcases ixM_run h2 with h2 | ⟨n, es, i, rfl, hS, rfl, e, he, k⟩
  · left
    obtain ⟨p, p', x, e1, e2, e3, k⟩ := h2.run2
    exact ⟨g2, p, p', x, rfl, sr2, (hv.step sr1 st2).peek sr2 e1, hv2.peek sr2 e2, e3, fun g' v' hS st' sr' hr => k g' hS (st02.trans st') sr' v' (hr.from st02)⟩
  · right
    obtain ⟨a, rfl, hA⟩ := hv.step sr1 st2
    obtain ⟨⟨vs, hH, hn⟩, _⟩ := sr2.cell n a _ hA hS
    obtain ⟨w, hw, h3⟩ := hn.atI he
    have hv2 : v2 = .int i := hv2
    refine ⟨a, vs, i, w, rfl, hv2, hH, hw, k g2 rfl st02 sr2 w ?_⟩
    cases e with
    | pv p => exact h3
    | cl m => exact h3
end
section
variable {X : Cx} {W : WS} {es : List Expr} {ds : List Den} {a b : Expr} {da db : Den} {pos : Pos}
theorem pe_dnst {mus : List Bool} (h : PA X es (tDs X.K W ds)) : PE X (.List es pos) (tD X.K W (dNst mus ds)) := peW (pe_lst h) fun _ _ _ h => tNst_of h
theorem pe_dixN (ha : PE X a (tD X.K W da)) (hb : PE X b (tD X.K W db)) (h : ∀ l u s q, b ≠ .Slice l u s q) : PE X (.Subscript a b pos) (tD X.K W (dIxN da db)) :=
  peW (pe_ix ixN_d ha hb (plainIx h)) fun _ _ _ h => tIxN_of h
end
/-! what a cell of places shows -/
def rsvL (f : Cell → Option PV) (S : Sto) : List NE → Option (List PV)
  | [] => some []
  | .pv p :: es => (rsvL f S es).map fun ps => p :: ps
  | .cl m :: es => S[m]?.bind fun c => (f c).bind fun p => (rsvL f S es).map fun ps => p :: ps
def rsvC (S : Sto) : Nat → Cell → Option PV
  | 0, c => pkC c
  | n + 1, c => match c with
    | .nest es => (rsvL (rsvC S n) S es).map .lst
    | c => pkC c
def peekD (r : RV) (S : Sto) : Option PV := match r with
  | .ref n => S[n]?.bind (rsvC S 3)
  | r => peek r S
def peeksD : List RV → Sto → Option (List PV)
  | [], _ => some []
  | r :: rs, S => (peekD r S).bind fun p => (peeksD rs S).map fun ps => p :: ps
def runND (f : List PV → Option RV) (rs : List RV) : M RV := fun S => (match peeksD rs S with
  | some ps => (match f ps with
    | some x => .ok x S
    | none => .stuck)
  | none => .stuck)
def dRepLD (ds : List Den) : Den := fun ρ => bd (evAll ds ρ) (runND fRepL)
section
variable {K : Frag} {W : WS} {g g0 g1 : G}
/-- all that stands, frozen -/
def G.ice (g : G) : G := { S := [], A := [], H := g.H, F := fun b => g.F b ∨ b ∈ g.A }
theorem ice_ok (s : SRc K g) : SRc K g.ice where
  len := rfl
  nd := List.nodup_nil
  cell := fun n a c e _ => by simp [G.ice] at e
  dom := fun a m => by simp [G.ice] at m
  fd := fun a m => by
    rcases m with m | m
    · exact s.fd a m
    · exact s.dom a m
theorem ice_keep : Keep g g.ice := ⟨fun _ h => .inl h, fun _ _ e _ => e⟩
theorem pk_ice (s : SRc K g) {n : Nat} {a : Addr} {c : Cell} {p : PV} (hA : g.A[n]? = some a) (hS : g.S[n]? = some c) (e : pkC c = some p) : Rp K g.H g.ice.F p (.ref a) := by
  have k := s.cell n a c hA hS
  cases c with
  | live q =>
    obtain rfl : q = p := by simpa [pkC] using e
    have hat : At K g.H g.ice.F q a := k.1.keep' ice_keep (g' := g.ice) rfl
    exact Rp.ofAt hat (.inr (List.mem_of_getElem? hA))
  | froz q => cases e; exact Rp.keep ice_keep _ _ k
  | nest es => cases e
theorem rsvL_ice (s : SRc K g) {f : Cell → Option PV} (hf : ∀ (n : Nat) (a : Addr) (c : Cell) (p : PV), g.A[n]? = some a → g.S[n]? = some c → f c = some p → Rp K g.H g.ice.F p (.ref a)) : ∀ {es : List NE} {vs : List V} {ps : List PV}, NeL K g es vs → rsvL f g.S es = some ps → RpL K g.H g.ice.F ps vs
  | [], vs, ps, h, e => by have h : vs = [] := h; subst h; cases e; rfl
  | .pv p :: es, _, ps, ⟨v, r, e0, h1, h2⟩, e => by
    subst e0
    simp only [rsvL] at e
    cases e1 : rsvL f g.S es with
    | none => rw [e1] at e; cases e
    | some qs => rw [e1] at e; cases e; exact ⟨v, r, rfl, Rp.keep ice_keep _ _ h1, rsvL_ice s hf h2 e1⟩
  | .cl m :: es, _, ps, ⟨a, r, e0, h1, h2⟩, e => by
    subst e0
    simp only [rsvL] at e
    cases e1 : g.S[m]? with
    | none => rw [e1] at e; cases e
    | some c =>
      rw [e1, Option.bind_some] at e
      cases e2 : f c with
      | none => rw [e2] at e; cases e
      | some p =>
        rw [e2, Option.bind_some] at e
        cases e3 : rsvL f g.S es with
        | none => rw [e3] at e; cases e
        | some qs => rw [e3] at e; cases e; exact ⟨.ref a, r, rfl, hf m a c p h1 e1 e2, rsvL_ice s hf h2 e3⟩
theorem rsvC_ice (s : SRc K g) : ∀ (k n : Nat) (a : Addr) (c : Cell) (p : PV), g.A[n]? = some a → g.S[n]? = some c → rsvC g.S k c = some p → Rp K g.H g.ice.F p (.ref a)
  | 0, n, a, c, p, hA, hS, e => pk_ice s hA hS e
  | k + 1, n, a, c, p, hA, hS, e => by
    cases c with
    | live q => exact pk_ice s hA hS e
    | froz q => exact pk_ice s hA hS e
    | nest es =>
      simp only [rsvC] at e
      cases e1 : rsvL (rsvC g.S k) g.S es with
      | none => rw [e1] at e; cases e
      | some ps =>
        rw [e1] at e; cases e
        obtain ⟨⟨vs, hH, hn⟩, _⟩ := s.cell n a _ hA hS
        exact ⟨a, vs, rfl, ⟨hH, .inr (List.mem_of_getElem? hA)⟩, rsvL_ice s (rsvC_ice s k) hn e1⟩
theorem Rr.peekD {r : RV} {v : V} {p : PV} (s : SRc K g) (h : Rr K g0 g r v) (e : peekD r g.S = some p) : RpW K g.H g.ice.F p v := by
  cases r with
  | val q => cases e; exact Rp.w (Rp.keep ice_keep _ _ h)
  | own q => cases e; obtain ⟨a, rfl, h, _⟩ := h; exact (h.keep' ice_keep (g' := g.ice) rfl).w
  | ref n =>
    obtain ⟨a, rfl, hA⟩ := h
    simp only [Pf.peekD] at e
    cases e1 : g.S[n]? with
    | none => rw [e1] at e; cases e
    | some c => rw [e1, Option.bind_some] at e; exact Rp.w (rsvC_ice s 3 n a c p hA e1 e)
theorem RrP.peeksD (s : SRc K g) : ∀ {rs : List RV} {vs : List V} {ps : List PV}, RrP K g0 g rs vs → peeksD rs g.S = some ps → RpWs K g.H g.ice.F ps vs
  | _, _, _, .nil, e => by cases e; exact .nil
  | r :: rs, _, _, .cons a b, e => by
    simp only [Pf.peeksD] at e
    cases e1 : Pf.peekD r g.S with
    | none => rw [e1] at e; cases e
    | some p =>
      rw [e1, Option.bind_some] at e
      cases e2 : Pf.peeksD rs g.S with
      | none => rw [e2] at e; cases e
      | some ps => rw [e2] at e; cases e; exact .cons (a.peekD s e1) (RrP.peeksD s b e2)
end
section
variable {X : Cx} {W : WS} {es : List Expr} {ds : List Den} {p p2 pos q : Pos}
theorem pe_drepLD (hgd : X.A.guards = some []) (hu : X.A.units + 100 < cLine) (hs : ∃ o, X.base.get? sysModules = some o) (hg : Gl X "repr") (hm : X.mg "repr" = none) (hv : bootBuiltins "repr" = some (.builtin "repr")) (ha : PA X es (tDs X.K W ds))
    (he : starEach [.List es q] X.env = (false, eval (.List es q) X.env) :: starEach [] X.env := by rfl) (hpl : (backTo pos (starEach [] X.env)).any (·.1) = false := by rfl) : PE X (.Call (.Name "repr" p) [.List es q] [] pos) (tD X.K W (dRepLD ds)) :=
  peW (pe_callB (c_reprL hgd hu hs) hg hm hv (pa_cons (pe_lst ha) pa_nil he) (by decide) (by decide) he hpl) fun σ H Q h => by
    obtain ⟨ρ, g, e, sr, se, h⟩ := h
    subst e
    unfold tCB tCons tLst tNil
    refine tDs.bd (Stp.refl g) sr se h fun rs g1 vs st _ sr1 se1 hvs h1 => ?_
    unfold WG runND at h1
    cases e1 : peeksD rs g1.S with
    | none => simp only [e1] at h1
    | some ps =>
      have hw := hvs.1.peeksD sr1 e1
      cases e3 : fRepL ps with
      | none => simp only [e1, e3] at h1
      | some x =>
        simp only [e1, e3] at h1
        unfold fRepL at e3
        split at e3
        · next hl =>
          unfold fRepr at e3
          split at e3
          · next h2 =>
            cases e3
            rw [Bool.and_eq_true, decide_eq_true_eq] at h2
            have hlen : ps.length = vs.length := Paired.length hw
            refine ⟨by rw [← hlen]; exact of_decide_eq_true hl, fun a ha => ?_⟩
            exact ⟨a, vs, g1.ice, ps, rfl, ha, rfl, ice_ok sr1, hw, h2.1, h2.2, h1 (g1.put a (.lst vs)) rfl (st.trans (Stp.put ha)) (sr1.put ha) _ rfl⟩
          · cases e3
        · cases e3
end
/-! evaluated -/
section
variable {ρ : Env} {S : Sto} {a b : Den} {n m : Nat} {es : List NE} {ds : List Den} {mus : List Bool}
@[simp] theorem e_nst : dNst mus ds ρ = bd (evAll ds ρ) (nstM mus) := nr rfl
@[simp] theorem e_nstM {rs : List RV} : nstM mus rs = bd (bindMany mus rs) fun ss => if lenOk ss.length then fun S => .ok (.ref S.length) (S ++ [.nest (ss.map svNE)]) else stk := nr rfl
@[simp] theorem svNE_v {p : PV} : svNE (.val p) = .pv p := nr rfl
@[simp] theorem svNE_r {n : Nat} : svNE (.ref n) = .cl n := nr rfl
@[simp] theorem e_ixN : dIxN a b ρ = bd (a ρ) fun r => bd (b ρ) fun q => ixM r q := nr rfl
@[simp] theorem e_ixMv {p : PV} {q : RV} : ixM (.val p) q = run2 bIdx (.val p) q := nr rfl
@[simp] theorem e_ixMo {p : PV} {q : RV} : ixM (.own p) q = run2 bIdx (.own p) q := nr rfl
def ixC (n : Nat) (q : RV) (S : Sto) : Cell → Res RV
  | .nest es => (match q with
      | .val (.int i) => (match L2.atI es i with
        | some (.pv p) => .ok (.val p) S
        | some (.cl m) => .ok (.ref m) S
        | none => .stuck)
      | _ => .stuck)
  | _ => run2 bIdx (.ref n) q S
def ixE (S : Sto) : Option NE → Res RV
  | some (.pv p) => .ok (.val p) S
  | some (.cl m) => .ok (.ref m) S
  | none => .stuck
def ixO (n : Nat) (q : RV) (S : Sto) : Option Cell → Res RV
  | some c => ixC n q S c
  | none => run2 bIdx (.ref n) q S
@[simp] theorem ixO_s {q : RV} {c : Cell} : ixO n q S (some c) = ixC n q S c := nr rfl
@[simp] theorem e_ixMr {q : RV} : ixM (.ref n) q S = ixO n q S S[n]? := by
  cases h : S[n]? with
  | none => simp only [ixM, ixO, h]
  | some c => cases c <;> simp only [ixM, ixO, ixC, h]
@[simp] theorem ixC_n {i : Int} : ixC n (.val (.int i)) S (.nest es) = ixE S (L2.atI es i) := by
  simp only [ixC, ixE]
@[simp] theorem ixC_l {q : RV} {p : PV} : ixC n q S (.live p) = run2 bIdx (.ref n) q S := nr rfl
@[simp] theorem ixC_f {q : RV} {p : PV} : ixC n q S (.froz p) = run2 bIdx (.ref n) q S := nr rfl
@[simp] theorem ixE_p {p : PV} : ixE S (some (.pv p)) = .ok (.val p) S := nr rfl
@[simp] theorem ixE_c {m : Nat} : ixE S (some (.cl m)) = .ok (.ref m) S := nr rfl
@[simp] theorem atI_n0 {x : NE} {xs : List NE} : L2.atI (x :: xs) 0 = some x := by
  have := atI_nat (xs := x :: xs) (k := 0) (x := x) rfl
  simpa using this
@[simp] theorem atI_n1 {x y : NE} {xs : List NE} : L2.atI (x :: y :: xs) 1 = some y := by
  have := atI_nat (xs := x :: y :: xs) (k := 1) (x := y) rfl
  simpa using this
@[simp] theorem atI_n2 {x y z : NE} {xs : List NE} : L2.atI (x :: y :: z :: xs) 2 = some z := by
  have := atI_nat (xs := x :: y :: z :: xs) (k := 2) (x := z) rfl
  simpa using this
@[simp] theorem e_repLD : dRepLD ds ρ = bd (evAll ds ρ) (runND fRepL) := nr rfl
@[simp] theorem e_runND {f : List PV → Option RV} {rs : List RV} : runND f rs S = ob (peeksD rs S) fun ps => ob (f ps) fun x => .ok x S := by
  unfold runND
  cases peeksD rs S with
  | none => rfl
  | some ps => cases h : f ps <;> simp [h]
@[simp] theorem e_pkD0 : peeksD [] S = some [] := nr rfl
@[simp] theorem e_pkD1 {r : RV} {rs : List RV} : peeksD (r :: rs) S = (peekD r S).bind fun p => (peeksD rs S).map fun ps => p :: ps := nr rfl
@[simp] theorem e_pkDv {p : PV} : peekD (.val p) S = some p := nr rfl
@[simp] theorem e_pkDo {p : PV} : peekD (.own p) S = some p := nr rfl
@[simp] theorem e_pkDr : peekD (.ref n) S = S[n]?.bind (rsvC S 3) := nr rfl
@[simp] theorem rsvC_l {k : Nat} {p : PV} : rsvC S k (.live p) = some p := by cases k <;> rfl
@[simp] theorem rsvC_f {k : Nat} {p : PV} : rsvC S k (.froz p) = some p := by cases k <;> rfl
@[simp] theorem rsvC_n {k : Nat} : rsvC S (k + 1) (.nest es) = (rsvL (rsvC S k) S es).map .lst := nr rfl
@[simp] theorem rsvC_n3 : rsvC S 3 (.nest es) = (rsvL (rsvC S 2) S es).map .lst := nr rfl
@[simp] theorem rsvC_n2 : rsvC S 2 (.nest es) = (rsvL (rsvC S 1) S es).map .lst := nr rfl
@[simp] theorem rsvL_0 {f : Cell → Option PV} : rsvL f S [] = some [] := nr rfl
@[simp] theorem rsvL_p {f : Cell → Option PV} {p : PV} : rsvL f S (.pv p :: es) = (rsvL f S es).map fun ps => p :: ps := nr rfl
@[simp] theorem rsvL_c {f : Cell → Option PV} : rsvL f S (.cl m :: es) = S[m]?.bind fun c => (f c).bind fun p => (rsvL f S es).map fun ps => p :: ps := nr rfl
end
end Pf
end
section
set_option Elab.async false
set_option linter.all false
set_option maxHeartbeats 1000000
set_option maxRecDepth 100000
set_option autoImplicit false
namespace Pf
open PySem PySem.Spec L2
/-! list(range(n)) -/
def lrM (r : RV) : M RV := fun S => match r with
  | .val (.int n) => if 0 ≤ n ∧ n ≤ 100000 then .ok (.own (.lst ((List.range n.toNat).map fun i => .int (i : Nat)))) S else .stuck
  | _ => .stuck
def dLRng (a : Den) : Den := fun ρ => bd (a ρ) lrM
@[simp] theorem e_lrng {a : Den} {ρ : Env} : dLRng a ρ = bd (a ρ) lrM := nr rfl
theorem lrM_ok {n : Nat} {S : Sto} (h : n ≤ 100000) : lrM (.val (.int (n : Nat))) S = .ok (.own (.lst ((List.range n).map fun i => .int (i : Nat)))) S := by
  unfold lrM
  simp only
  rw [if_pos ⟨by omega, by omega⟩]
  rfl
section
variable {X : Cx} {W : WS} {a : Expr} {da : Den} {p p2 pos pos2 : Pos}
theorem pe_dlrng (hc : X.calm = true) (hg : Gl X "list") (hm : X.mg "list" = none) (hg2 : Gl X "range") (hm2 : X.mg "range" = none) (ha : PE X a (tD X.K W da)) (na : starEach [a] X.env = (false, eval a X.env) :: starEach [] X.env := by rfl)
    (nb : starEach [.Call (.Name "range" p2) [a] [] pos2] X.env = (false, eval (.Call (.Name "range" p2) [a] [] pos2) X.env) :: starEach [] X.env := by rfl) :
    PE X (.Call (.Name "list" p) [.Call (.Name "range" p2) [a] [] pos2] [] pos) (tD X.K W (dLRng da)) :=
  peW (pe_listRg hc hg hm (prg_1 hg2 hm2 ha na) nb) fun σ H Q h => by
    obtain ⟨ρ, g, e, sr, se, h⟩ := h
    subst e
    unfold tLstRg tRg1
    refine tD.bd (Stp.refl g) sr se h fun r g1 v st _ sr1 se1 hv h1 => ?_
    unfold WG lrM at h1
    cases r with
    | val q =>
      cases q with
      | int n =>
        simp only at h1
        by_cases hn : 0 ≤ n ∧ n ≤ 100000
        · rw [if_pos hn] at h1
          have hv : v = .int n := hv
          refine ⟨n, hv, RgOk.of_le (by omega) (by omega) (by omega) (by omega), fun q hq => ?_⟩
          have hr : RpL X.K g1.H g1.F ((List.range n.toNat).map fun i => PV.int (i : Nat)) (rgV 0 n) := by
            have e1 : (List.range n.toNat).map (fun i => PV.int (i : Nat)) = (((List.range n.toNat).map fun i : Nat => (i : Int))).map PV.int := by rw [List.map_map]; rfl
            have e2 : rgV 0 n = (((List.range n.toNat).map fun i : Nat => (i : Int))).map V.int := by
              unfold rgV
              rw [List.map_map, Int.sub_zero]
              exact List.map_congr_left fun i _ => by simp
            rw [e1, e2]
            exact RpL.ints _
          exact h1 (g1.put q (.lst (rgV 0 n))) rfl (st.trans (Stp.put hq)) (sr1.put hq) (.ref q) ((newLst sr1 hq hr).from st)
        · rw [if_neg hn] at h1; exact h1.elim
      | _ => simp only at h1
    | _ => simp only at h1
end
end Pf
end
section
set_option Elab.async false
set_option linter.all false
set_option maxHeartbeats 1000000
set_option maxRecDepth 100000
set_option autoImplicit false
namespace Pf
open PySem PySem.Spec L2
/-! two names at once, where a name is one that inner scopes see: by a tuple -/
section
variable {X : Cx} {W : WS} {ds : List Den} {pos : Pos}
theorem ps_dpar2c {i j : Nat} {mi mj : Bool} {x y : Str} {ea eb : Expr} {px py pt : Pos} {kt k2 : Nat} {pt2 : Pos} (hc : X.calm = true) (hN : X.N.Nodup) (hi : X.N[i]? = some x) (hj : X.N[j]? = some y) (hij : i ≠ j)
    (hx : Loc X.env.scope x) (hy : Loc X.env.scope y) (fx : X.fn x = true ∨ X.env.scope.names.lookup x = some .local) (fy : X.fn y = true ∨ X.env.scope.names.lookup y = some .local) (ha : PA X [ea, eb] (tDs X.K W ds))
    (hs : swapsWithSole [.Tuple [.Name x px, .Name y py] kt pt] (.Tuple [ea, eb] k2 pt2) pos.line X.env = pure false) (hw : swappedStores [.Tuple [.Name x px, .Name y py] kt pt] (.Tuple [ea, eb] k2 pt2) X.env = pure none)
    (h1 : (assignEach [.Tuple [.Name x px, .Name y py] kt pt] X.env).map (·.2) = [assign (.Tuple [.Name x px, .Name y py] kt pt) X.env]) (hn : (assignEach [.Name x px, .Name y py] X.env).length = 2) (hst : (assignEach [.Name x px, .Name y py] X.env).findIdx? (·.1) = none)
    (ha1 : (assignEach [.Name x px, .Name y py] X.env).map (·.2) = assign (.Name x px) X.env :: (assignEach [.Name y py] X.env).map (·.2)) (ha2 : (assignEach [.Name y py] X.env).map (·.2) = assign (.Name y py) X.env :: (assignEach [] X.env).map (·.2)) :
    PS X (.Assign [.Tuple [.Name x px, .Name y py] kt pt] (.Tuple [ea, eb] k2 pt2) pos) (tS X.K W (dsPar2 i j mi mj ds)) :=
  psW (ps_asg (pe_tup ha) (pg_tup hc (pgs_cons (pg_name hN hi hx fx) (pgs_cons (pg_name hN hj hy fy) pgs_nil ha2) ha1) hn hst) hs hw h1) fun D σ H ⟨ρ, g, e, sr, se, h⟩ => by
    subst e
    unfold tAsg tTup
    refine tDs.st (Stp.refl g) sr se h fun rs g1 vs st _ sr1 se1 hvs h1 => ?_
    obtain ⟨hp, hd⟩ := hvs
    cases hp with
    | nil => exact (stk_ok h1).elim
    | cons a1 b1 =>
      cases b1 with
      | nil => exact (stk_ok h1).elim
      | cons a2 b2 =>
        cases b2 with
        | cons _ _ => exact (stk_ok h1).elim
        | nil =>
          next r v q w =>
          refine ⟨by simp [sizeLine], fun p hp => ?_⟩
          have stp : Stp g1 (g1.put p (.tup [v, w])) := Stp.put hp
          have srp := sr1.put (o := .tup [v, w]) hp
          have st' := st.trans stp
          have a1' := a1.step sr1 stp
          have a2' := a2.step sr1 stp
          have se' := se1.step sr1 stp
          refine ⟨p, [v, w], rfl, .inl (.inl upd_same), rfl, v, [w], rfl, ?_⟩
          have dd : isOwn r = true → isOwn q = true → w ≠ v := fun o1 o2 z => hd.1 o1 0 q rfl o2 (by rw [z]; rfl)
          have h1' : WG X.K (WA W) g (g1.put p (.tup [v, w])).S (bd (bindV mi r) fun s => bd (bindV mj q) fun t => ret ((ρ.set i (some s)).set j (some t), .nx)) (PostS X.K g D) := h1
          obtain ⟨sv, g2, e2, st2, sr2, r2, k2, q2, h2⟩ := bindV_ok st' srp a1' h1'
          obtain ⟨sv', g3, e3, st3, sr3, r3, k3, q3, h3⟩ := bindV_ok st2 sr2 (q2 q w dd a2') h2
          have se3 : SRe X.K g3 ρ σ := ⟨se'.1, fun i sv e => let ⟨v, h1, h2⟩ := se'.2 i sv e; ⟨v, h1, k3 _ _ (k2 _ _ h2)⟩⟩
          have := h3.ret rfl st3 sr3 _ ((se3.set (i := i) (k3 _ _ r2)).set (i := j) r3)
          rw [e3, e2] at this
          exact ⟨w, [], rfl, rfl, this⟩
end
end Pf
end
section
set_option Elab.async false
set_option linter.all false
set_option maxHeartbeats 1000000
set_option maxRecDepth 100000
set_option autoImplicit false
namespace Pf
open PySem PySem.Spec PyProof.Rows L2
/-! sorted: tuples of whole numbers -/
def lexI : List Int → List Int → Bool
  | [], [] => false
  | [], _ :: _ => true
  | _ :: _, [] => false
  | x :: xs, y :: ys => if x = y then lexI xs ys else decide (x < y)
theorem lexI_irr : ∀ xs, lexI xs xs = false
  | [] => rfl
  | x :: xs => by rw [lexI, if_pos rfl]; exact lexI_irr xs
theorem lexI_asym : ∀ xs ys, lexI xs ys = true → lexI ys xs = false
  | [], [], h => by cases h
  | [], _ :: _, _ => rfl
  | _ :: _, [], h => by cases h
  | x :: xs, y :: ys, h => by
    rw [lexI] at h ⊢
    by_cases e : x = y
    · rw [if_pos e] at h; rw [if_pos e.symm]; exact lexI_asym xs ys h
    · rw [if_neg e] at h; rw [if_neg (Ne.symm e)]
      have := of_decide_eq_true h
      exact decide_eq_false (by omega)
theorem lexI_tr : ∀ xs ys zs, lexI ys xs = false → lexI zs ys = false → lexI zs xs = false
  | [], [], zs, _, h2 => h2
  | [], y :: ys, [], h1, h2 => by cases h2
  | [], y :: ys, z :: zs, h1, h2 => rfl
  | x :: xs, [], zs, h1, h2 => by cases h1
  | x :: xs, y :: ys, [], h1, h2 => by cases h2
  | x :: xs, y :: ys, z :: zs, h1, h2 => by
    rw [lexI] at h1 h2 ⊢
    by_cases e1 : y = x
    · rw [if_pos e1] at h1
      by_cases e2 : z = y
      · rw [if_pos e2] at h2; rw [if_pos (e2.trans e1)]; exact lexI_tr xs ys zs h1 h2
      · rw [if_neg e2] at h2
        have := of_decide_eq_false h2
        rw [if_neg (by omega)]; exact decide_eq_false (by omega)
    · rw [if_neg e1] at h1
      have h1 := of_decide_eq_false h1
      by_cases e2 : z = y
      · rw [if_neg (by omega)]; exact decide_eq_false (by omega)
      · rw [if_neg e2] at h2
        have := of_decide_eq_false h2
        rw [if_neg (by omega)]; exact decide_eq_false (by omega)
theorem lexI_eq : ∀ xs ys, lexI xs ys = false → lexI ys xs = false → xs = ys
  | [], [], _, _ => rfl
  | [], _ :: _, h, _ => by cases h
  | _ :: _, [], _, h => by cases h
  | x :: xs, y :: ys, h1, h2 => by
    rw [lexI] at h1 h2
    by_cases e : x = y
    · rw [if_pos e] at h1; rw [if_pos e.symm] at h2; rw [e, lexI_eq xs ys h1 h2]
    · rw [if_neg e] at h1; rw [if_neg (Ne.symm e)] at h2
      have := of_decide_eq_false h1
      have := of_decide_eq_false h2
      omega
theorem lexI_swo {α : Type} (k : α → List Int) : SrtO.Swo fun x y => lexI (k x) (k y) := ⟨fun x y h => lexI_asym _ _ h, fun x y z h1 h2 => lexI_tr _ _ _ h1 h2⟩
/-- put in -/
def insT (n : List Int) : List (List Int) → List (List Int)
  | [] => [n]
  | m :: ns => if lexI m n = false then n :: m :: ns else m :: insT n ns
def sortT : List (List Int) → List (List Int)
  | [] => []
  | n :: ns => insT n (sortT ns)
abbrev SrtT (l : List (List Int)) : Prop := l.Pairwise fun x y => lexI y x = false
theorem insT_perm (n : List Int) : ∀ ns, (insT n ns).Perm (n :: ns)
  | [] => .refl _
  | m :: ns => by
    unfold insT
    split
    · exact .refl _
    · exact ((insT_perm n ns).cons m).trans (.swap n m ns)
theorem insT_sorted (n : List Int) : ∀ ns : List (List Int), SrtT ns → SrtT (insT n ns)
  | [], _ => by simp [insT, SrtT]
  | m :: ns, h => by
    have h' := List.pairwise_cons.mp h
    unfold insT
    split
    · next hle =>
      refine List.pairwise_cons.mpr ⟨fun y hy => ?_, h⟩
      rcases List.mem_cons.mp hy with rfl | hy
      · exact hle
      · exact lexI_tr _ _ _ hle (h'.1 y hy)
    · next hle =>
      refine List.pairwise_cons.mpr ⟨fun y hy => ?_, insT_sorted n ns h'.2⟩
      rcases List.mem_cons.mp ((insT_perm n ns).mem_iff.mp hy) with rfl | hy
      · exact lexI_asym _ _ (by simpa using hle)
      · exact h'.1 y hy
theorem sortT_perm : ∀ ns, (sortT ns).Perm ns
  | [] => .refl _
  | n :: ns => (insT_perm n _).trans ((sortT_perm ns).cons n)
theorem sortT_sorted : ∀ ns, SrtT (sortT ns)
  | [] => .nil
  | n :: ns => insT_sorted n _ (sortT_sorted ns)
theorem srtT_same : ∀ {l m : List (List Int)}, l.Perm m → SrtT l → SrtT m → l = m
  | [], m, h, _, _ => (List.Perm.eq_nil h.symm).symm
  | x :: l, [], h, _, _ => absurd h.length_eq (by simp)
  | x :: l, y :: m, h, hl, hm => by
    have hl' := List.pairwise_cons.mp hl
    have hm' := List.pairwise_cons.mp hm
    have h1 : lexI y x = false := by
      rcases List.mem_cons.mp (h.mem_iff.mpr (List.mem_cons_self (a := y) (l := m))) with e | hy
      · rw [e]; exact lexI_irr x
      · exact hl'.1 y hy
    have h2 : lexI x y = false := by
      rcases List.mem_cons.mp (h.mem_iff.mp (List.mem_cons_self (a := x) (l := l))) with e | hx
      · rw [e]; exact lexI_irr y
      · exact hm'.1 x hx
    have e := lexI_eq x y h2 h1
    subst e
    rw [srtT_same h.cons_inv hl'.2 hm'.2]
theorem sortT_of {l : List (List Int)} (h : SrtT l) : sortT l = l := srtT_same (sortT_perm l) (sortT_sorted l) h
/-! in the model -/
section
variable {prog : Program} {w : World} {A : Around} {E : Value → Shared → Prop} {s : Shared} {Q : Bool → Shared → Prop}
theorem lex_intsT {b : Bool} {xs ys : List Value} {ns ms : List Int} (i : Nat) (hx : IntsAre xs ns) (hy : IntsAre ys ms)
    (h : Q (lexI ns ms) s) : PySem.W.KatLex prog w A b (decide (ns.length < ms.length)) Q (xs.zip ys) i s := by
  induction hx generalizing ys ms i with
  | nil =>
    cases hy with
    | nil => exact PySem.W.kat_nil h
    | cons q u hy =>
      show PySem.W.KatLex prog w A b _ Q [] i s
      refine PySem.W.kat_nil ?_
      rw [decide_eq_true (by simp)]
      exact h
  | @cons p t xs ns hx ih =>
    cases hy with
    | nil =>
      show PySem.W.KatLex prog w A b _ Q [] i s
      refine PySem.W.kat_nil ?_
      rw [decide_eq_false (by simp)]
      exact h
    | @cons q u ys ms hy =>
      show PySem.W.KatLex prog w A b _ Q ((Value.int p t, Value.int q u) :: xs.zip ys) i s
      refine PySem.W.kat_cons (wpAny_eqBool_int ?_)
      by_cases e : p = q
      · subst e
        rw [beq_self_eq_true]
        rw [lexI, if_pos rfl] at h
        refine PySem.W.kat_yes ?_
        have l : decide ((p :: ns).length < (p :: ms).length) = decide (ns.length < ms.length) := by simp
        rw [l]
        first
          | exact ih (i + 1) hy h
          | exact ih _ _ (i + 1) hy h
      · rw [show (p == q) = false from beq_eq_false_iff_ne.mpr e]
        rw [lexI, if_neg e] at h
        exact PySem.W.kat_no (TS.oneLt_ints _ h)
/-- what is sorted -/
def TupsI (h : Heap) (k : Value → List Int) (vs : List Value) : Prop := ∀ v ∈ vs, TS.TupInts h v (k v) ∧ k v ≠ []
theorem TupsI.keeps {h h' : Heap} {k : Value → List Int} {vs : List Value} (x : TupsI h k vs) (kp : ∀ b o, h.get? b = some o → o.cls = .type "tuple" → h'.get? b = some o) : TupsI h' k vs := fun v hv => ⟨(x v hv).1.keeps kp, (x v hv).2⟩
theorem firsts_T {h : Heap} {k : Value → List Int} : ∀ vs : List Value, TupsI h k vs → ∃ fs, PySem.W.KatTups h vs fs ∧ fs.length = vs.length ∧ ∀ f, f ∈ fs → ∃ n t, f = Value.int n t
  | [], _ => ⟨[], PySem.W.KatTups.nil, rfl, fun f hf => by simp at hf⟩
  | v :: vs, x => by
    obtain ⟨fs, kt, hl, hi⟩ := firsts_T vs fun u hu => x u (List.mem_cons_of_mem _ hu)
    obtain ⟨⟨a, xs, rfl, ⟨o, ho, hc, n, hdt⟩, i⟩, hne⟩ := x v (List.mem_cons_self ..)
    obtain ⟨y, ys, e⟩ : ∃ y ys, xs.toList = y :: ys := by
      cases q : xs.toList with
      | nil =>
        rw [q] at i
        have l := i.length
        exact absurd (List.eq_nil_of_length_eq_zero (by simpa using l.symm)) hne
      | cons y ys => exact ⟨y, ys, rfl⟩
    obtain ⟨m, t, hy⟩ := i.all y (by rw [e]; exact List.mem_cons_self ..)
    refine ⟨y :: fs, PySem.W.KatTups.cons ho hc hdt ?_ kt, by simp [hl], ?_⟩
    · have z := congrArg (fun l : List Value => l[0]?) e
      simpa using z
    · intro f hf
      rcases List.mem_cons.mp hf with rfl | hf
      · exact ⟨m, t, hy⟩
      · exact hi f hf
theorem cmp_T {vs : List Value} {k : Value → List Int} (x : TupsI s.heap k vs) : SrtO.Cmp prog w A s (tuples' true) (fun p => p.1 ∈ vs) (SrtO.lt2 fun v u => lexI (k v) (k u)) := by
  intro p q hm hm'
  obtain ⟨a, xs, e1, ⟨o, ho, hc, n, hdt⟩, i⟩ := (x _ hm).1
  obtain ⟨a', ys, e2, ⟨o', ho', hc', n', hdt'⟩, i'⟩ := (x _ hm').1
  show wpAny (model prog w) A (keyLt' (tuples' true) p.1 q.1) (fun r s' => s' = s ∧ r = lexI (k p.1) (k q.1)) (fun _ _ => False) s
  generalize k p.1 = ns at *
  generalize k q.1 = ms at *
  rw [e1, e2]
  refine PySem.W.kat_lt ho hdt ho' hdt' ?_
  have sz : decide (xs.size < ys.size) = decide (ns.length < ms.length) := by
    have l1 := i.length
    have l2 := i'.length
    rw [Array.length_toList] at l1 l2
    rw [l1, l2]
  rw [sz]
  exact lex_intsT 0 i i' ⟨rfl, rfl⟩
theorem sortable_T {a : Addr} {vs : List Value} {k : Value → List Int} (h0 : 0 < vs.length) (x : TupsI s.heap k vs) (ha : ∀ o, s.heap.get? a = some o → o.cls ≠ .type "tuple") : SrtO.SortableO prog w A s a vs fun v u => lexI (k v) (k u) := by
  intro h' keep
  have x' : TupsI h' k vs := x.keeps fun b o e c => keep b o (fun z => by subst z; exact ha o e c) e
  obtain ⟨fs, h1, h2, h3⟩ := firsts_T vs x'
  refine ⟨tuples' true, fun Q E hq => ?_, cmp_T x'⟩
  refine PySem.W.kat_kind (T := .type "int") h1 (by omega) (fun f hm => ?_) (by rfl) ?_
  · obtain ⟨x, t, rfl⟩ := h3 f hm
    exact PySem.W.Looks.now
  · have e : (Value.type "int" != Value.type "tuple") = true := by first | decide +kernel | rfl | decide
    rw [e]
    exact hq
theorem sorted_T {l : Addr} {vs : List Value} {k : Value → List Int} {Q : Value → Shared → Prop} (hl : s.heap.IsList l vs.toArray) (hz : vs.length ≤ sizeLine) (x : TupsI s.heap k vs)
    (h : ∀ (h' : Heap) (d : Addr) (out : List Value), SrtO.Srtd (fun v u => lexI (k v) (k u)) out → out.Perm vs → (∀ b o, s.heap.get? b = some o → h'.get? b = some o) → s.heap.objs.size ≤ d → (∃ n, h'.get? d = some (seqObj "list" out.toArray n)) → Q (.ref d) { s with heap := h' }) :
    wpAny (model prog w) A (call (.builtin "sorted") [.ref l]) Q E s := by
  refine SrtO.sorted_ord (lexI_swo k) hl hz (fun h2 h₁ a ha kk => ?_) fun out hs hb => ?_
  · refine sortable_T (s := { s with heap := h₁ }) (by omega) (x.keeps fun b o e _ => (kk b o e).2) fun o e => ?_
    have e' : some o = some (seqObj "list" vs.toArray 0) := e.symm.trans ha
    cases e'
    intro c
    exact absurd (Value.type.inj c) (by decide)
  · exact h _ _ out hs hb.perm (fun b o e => sortedAll_old e) (Nat.le_succ _) (sortedAll_at s.heap vs out.toArray)
end
/-- sorted(xs), xs a list of tuples of whole numbers, none empty -/
def rSortedT (K : PySem.W.Frag) : List V → Hp → VK → Prop := fun vs H Q => ∃ (a : Addr) (as : List Addr) (ts : List (List Int)), vs = [V.ref a] ∧ SqL K H a (as.map V.ref) ∧ Paired (fun (t : List Int) (a : Addr) => SqT K H a (t.map V.int) ∧ t ≠ []) ts as ∧
  ∀ (bs : List Addr) (p : Addr), Paired (fun (t : List Int) (a : Addr) => SqT K H a (t.map V.int)) (sortT ts) bs → H p = none → Q (.ref p) (upd H p (.lst (bs.map V.ref)))
theorem map_int_inj : ∀ {a b : List Int}, a.map V.int = b.map V.int → a = b
  | [], [], _ => rfl
  | [], _ :: _, h => by cases h
  | _ :: _, [], h => by cases h
  | x :: a, y :: b, h => by
    simp only [List.map_cons, List.cons.injEq, V.int.injEq] at h
    rw [h.1, map_int_inj h.2]
theorem paired_mem' {α β : Type} {R : α → β → Prop} : ∀ {xs : List α} {ys : List β}, Paired R xs ys → ∀ y ∈ ys, ∃ x, R x y
  | _, _, .nil, y, h => by cases h
  | _, _, .cons a b, y, h => by
    rcases List.mem_cons.mp h with rfl | h
    · exact ⟨_, a⟩
    · exact paired_mem' b y h
theorem paired_map' {α β : Type} {R : α → β → Prop} {k : β → α} : ∀ {xs : List α} {ys : List β}, Paired R xs ys → (∀ x y, y ∈ ys → R x y → k y = x) → ys.map k = xs
  | _, _, .nil, _ => rfl
  | _, _, .cons a b, h => by rw [List.map_cons, h _ _ List.mem_cons_self a, paired_map' b fun x y hy => h x y (List.mem_cons_of_mem _ hy)]
theorem paired_of_map {α β : Type} {R : α → β → Prop} {k : β → α} : ∀ (ys : List β), (∀ y ∈ ys, R (k y) y) → Paired R (ys.map k) ys
  | [], _ => .nil
  | y :: ys, h => .cons (h y List.mem_cons_self) (paired_of_map ys fun z hz => h z (List.mem_cons_of_mem _ hz))
theorem cr_sortedT {X : Cx} : CallR X (.builtin "sorted") (rSortedT X.K) := by
  intro pins s σ H vs us Q I r h
  obtain ⟨a, as, ts, rfl, hs, hp, q⟩ := h
  obtain ⟨its, rv, hl, hz⟩ := I.list hs
  rw [Vals.ref1 r]
  have hx : ∀ b ∈ as, ∃ t : List Int, SqT X.K H b (t.map V.int) ∧ t ≠ [] := fun b hb => paired_mem' hp b hb
  have hinj : ∀ {b : Addr} {t t' : List Int}, SqT X.K H b (t.map V.int) → SqT X.K H b (t'.map V.int) → t = t' := fun h h' => map_int_inj (I.tuple_inj h h')
  let kA : Addr → List Int := fun b => Classical.epsilon fun t : List Int => SqT X.K H b (t.map V.int)
  have hk : ∀ {b : Addr} {t : List Int}, SqT X.K H b (t.map V.int) → kA b = t := fun {b t} h => by
    have e : ∃ t : List Int, SqT X.K H b (t.map V.int) := ⟨t, h⟩
    exact hinj (Classical.epsilon_spec e) h
  let k : Value → List Int := fun v => match v with
    | .ref b => kA b
    | _ => []
  have e1 : its = as.map Value.ref := by
    have : ∀ (l : List Addr) {us : List Value}, Vals (l.map V.ref) us → us = l.map Value.ref := fun l => by
      induction l with
      | nil => intro us h; cases h; rfl
      | cons b l ih =>
        intro us h
        cases h with
        | cons r t => cases r; rw [ih t]; rfl
    exact this as rv
  refine sorted_T (k := k) hl.isList (by rw [← rv.length]; exact hz) (fun v hv => ?_) fun h' d out h1 h2 kp hd hn => ?_
  · rw [e1] at hv
    obtain ⟨b, hb, rfl⟩ := List.mem_map.mp hv
    obtain ⟨t, ht, hne⟩ := hx b hb
    have e : k (.ref b) = t := hk ht
    rw [e]
    obtain ⟨its2, r2, o, _⟩ := I.tuple ht
    refine ⟨⟨b, its2.toArray, rfl, o, ?_⟩, hne⟩
    have := r2.ints
    simpa using this
  · obtain ⟨n, hn⟩ := hn
    obtain ⟨bs, rfl, hbs⟩ : ∃ bs : List Addr, out = bs.map Value.ref ∧ bs.Perm as := by
      rw [e1] at h2
      have : ∀ (out : List Value), (∀ v ∈ out, ∃ b, v = Value.ref b) → ∃ bs : List Addr, out = bs.map Value.ref := fun out => by
        induction out with
        | nil => exact fun _ => ⟨[], rfl⟩
        | cons v out ih =>
          intro h
          obtain ⟨b, rfl⟩ := h v List.mem_cons_self
          obtain ⟨bs, rfl⟩ := ih fun u hu => h u (List.mem_cons_of_mem _ hu)
          exact ⟨b :: bs, rfl⟩
      obtain ⟨bs, rfl⟩ := this out fun v hv => by
        obtain ⟨b, _, rfl⟩ := List.mem_map.mp (h2.mem_iff.mp hv)
        exact ⟨b, rfl⟩
      refine ⟨bs, rfl, ?_⟩
      have h3 := h2.map fun v : Value => match v with
        | .ref b => b
        | _ => 0
      rw [List.map_map, List.map_map] at h3
      have h4 : ∀ l : List Addr, l.map ((fun v : Value => match v with
        | .ref b => b
        | _ => 0) ∘ Value.ref) = l := fun l => List.map_id' l
      rw [h4, h4] at h3
      exact h3
    have hb2 : ∀ b ∈ bs, SqT X.K H b ((kA b).map V.int) := fun b hb => by
      obtain ⟨t, ht, _⟩ := hx b (hbs.mem_iff.mp hb)
      rw [hk ht]
      exact ht
    have es : bs.map kA = sortT ts := by
      refine srtT_same ?_ ?_ (sortT_sorted ts)
      · have e2 : as.map kA = ts := paired_map' hp fun x y _ h => hk h.1
        have := hbs.map kA
        rw [e2] at this
        exact this.trans (sortT_perm ts).symm
      · have h5 : (bs.map Value.ref).Pairwise fun x y => lexI (k y) (k x) = false := h1
        rw [List.pairwise_map] at h5
        exact List.pairwise_map.mpr h5
    refine ⟨.ref d, upd H d (.lst (bs.map V.ref)), I.laid (t' := s.toks) kp hd ⟨?_, _, n, ?_, hn⟩, rfl, q bs d ?_ (I.hok.fresh hd)⟩
    · rw [List.length_map, hbs.length_eq]
      simpa using hz
    · have : ∀ l : List Addr, Vals (l.map V.ref) (l.map Value.ref) := fun l => by
        induction l with
        | nil => exact .nil
        | cons b l ih => exact .cons (show RelV (.ref b) (.ref b) from rfl) ih
      exact this bs
    · rw [← es]
      exact paired_of_map bs hb2
def ints1? : PV → Option (List Int)
  | .tup xs => ints? xs
  | _ => none
def tups? : List PV → Option (List (List Int))
  | [] => some []
  | x :: xs => match ints1? x, tups? xs with
    | some a, some r => some (a :: r)
    | _, _ => none
def tupI (ns : List Int) : PV := .tup (ns.map .int)
def fSort : PV → Option RV
  | .lst xs => match ints? xs with
    | some ns => some (.own (.lst ((sortI ns).map PV.int)))
    | none => match tups? xs with
      | some ts => if ts.all (fun t => !t.isEmpty) then some (.own (.lst ((sortT ts).map tupI))) else none
      | none => none
  | _ => none
theorem ints1_eq {x : PV} {ns : List Int} (h : ints1? x = some ns) : x = tupI ns := by
  cases x <;> simp only [ints1?] at h <;> try cases h
  rw [ints_eq h]; rfl
theorem tups_eq : ∀ {xs : List PV} {ts : List (List Int)}, tups? xs = some ts → xs = ts.map tupI
  | [], _, h => by cases h; rfl
  | x :: xs, ts, h => by
    unfold tups? at h
    cases e1 : ints1? x with
    | none => simp only [e1] at h; cases h
    | some a =>
      cases e2 : tups? xs with
      | none => simp only [e1, e2] at h; cases h
      | some r => simp only [e1, e2] at h; cases h; rw [ints1_eq e1, tups_eq e2]; rfl
section
variable {X : Cx} {K : Frag}
/-- the tuples that stand there, by their values -/
theorem rpTups {H : Hp} {F : Addr → Prop} : ∀ {ts : List (List Int)} {vs : List V}, RpL K H F (ts.map tupI) vs → ∃ as : List Addr, vs = as.map V.ref ∧ Paired (fun (t : List Int) (a : Addr) => SqT K H a (t.map V.int)) ts as
  | [], _, h => ⟨[], h, .nil⟩
  | t :: ts, _, ⟨v, r, e, ⟨a, us, e1, q, ru⟩, b⟩ => by
    obtain ⟨as, e2, p⟩ := rpTups b
    refine ⟨a :: as, by rw [e, e1, e2]; rfl, .cons ?_ p⟩
    have : us = t.map V.int := ofInts ru
    rw [← this]
    exact q
theorem rpTupsBack {H : Hp} {F : Addr → Prop} : ∀ {ts : List (List Int)} {as : List Addr}, Paired (fun (t : List Int) (a : Addr) => SqT K H a (t.map V.int)) ts as → RpL K H F (ts.map tupI) (as.map V.ref)
  | _, _, .nil => rfl
  | t :: ts, a :: as, .cons h b => ⟨.ref a, as.map V.ref, rfl, ⟨a, t.map V.int, rfl, h, rpInts _ _ _⟩, rpTupsBack b⟩
theorem c_sort : CallR X (.builtin "sorted") (rCl X.K (n1 fSort)) :=
  cr1' (r := fun vs H Q => rSortedI X.K vs H Q ∨ rSortedT X.K vs H Q) (fun pins s σ H vs us Q I rr h => h.elim (cr_sortedI pins s σ H vs us Q I rr) (cr_sortedT pins s σ H vs us Q I rr)) fun H x Q ⟨g, p, r, hH, sr, hp, e, k⟩ => by
  subst hH
  cases p <;> simp only [fSort] at e <;> try cases e
  next xs =>
  cases e1 : ints? xs with
  | some ns =>
    rw [e1] at e; cases e
    obtain ⟨a, vs, rfl, ha, ra⟩ := hp
    rw [ints_eq e1] at ra
    refine .inl ⟨_, ns, rfl, .inl (.inl (by rw [ha, ofInts ra])), fun ns' p hp1 hp2 hp => ?_⟩
    obtain rfl := PySem.W.ksm_same (hp1.trans (sortI_perm ns).symm) hp2 (sortI_sorted ns)
    exact k (g.put p _) _ rfl (Stp.put hp) (sr.put hp) (newLst sr hp (rpInts _ _ _))
  | none =>
    rw [e1] at e
    cases e2 : tups? xs with
    | none => rw [e2] at e; cases e
    | some ts =>
      rw [e2] at e
      simp only at e
      by_cases e3 : ts.all (fun t => !t.isEmpty) = true
      · rw [if_pos e3] at e; cases e
        obtain ⟨a, vs, rfl, ha, ra⟩ := hp
        rw [tups_eq e2] at ra
        obtain ⟨as, rfl, pr⟩ := rpTups ra
        refine .inr ⟨a, as, ts, rfl, .inl (.inl ha), ?_, fun bs p pb hp => ?_⟩
        · have all := List.all_eq_true.mp e3
          have : ∀ {ts : List (List Int)} {as : List Addr}, Paired (fun (t : List Int) (a : Addr) => SqT X.K g.H a (t.map V.int)) ts as → (∀ t ∈ ts, (!t.isEmpty) = true) → Paired (fun (t : List Int) (a : Addr) => SqT X.K g.H a (t.map V.int) ∧ t ≠ []) ts as := fun {ts as} pr => by
            induction pr with
            | nil => exact fun _ => .nil
            | cons h b ih => exact fun al => .cons ⟨h, fun z => by have := al _ List.mem_cons_self; rw [z] at this; cases this⟩ (ih fun t ht => al t (List.mem_cons_of_mem _ ht))
          exact this pr all
        · exact k (g.put p _) _ rfl (Stp.put hp) (sr.put hp) (newLst sr hp (rpTupsBack pb))
      · rw [if_neg e3] at e; cases e
end
theorem fsort_i (ns : List Int) : fSort (.lst (ns.map .int)) = some (.own (.lst ((sortI ns).map .int))) := by
  simp only [fSort, ints_map]
theorem ints_none_tup (t : List Int) (xs : List PV) : ints? (tupI t :: xs) = none := rfl
theorem ints1_tupI (t : List Int) : ints1? (tupI t) = some t := ints_map t
theorem tups_map : ∀ ts : List (List Int), tups? (ts.map tupI) = some ts
  | [] => rfl
  | t :: ts => by rw [List.map_cons, tups?, ints1_tupI, tups_map ts]
theorem fsort_t (ts : List (List Int)) (h : ∀ t ∈ ts, t ≠ []) : fSort (.lst (ts.map tupI)) = some (.own (.lst ((sortT ts).map tupI))) := by
  cases ts with
  | nil => rfl
  | cons t ts =>
    have e : ((t :: ts).all fun t => !t.isEmpty) = true := List.all_eq_true.mpr fun x hx => by
      cases x with
      | nil => exact absurd rfl (h _ hx)
      | cons _ _ => rfl
    unfold fSort
    simp only [List.map_cons, ints_none_tup]
    rw [← List.map_cons, tups_map]
    simp only [e, if_true]
theorem tupN_I (ns : List Nat) : tupN ns = tupI (ns.map fun n : Nat => (n : Int)) := by
  unfold tupN tupI
  rw [List.map_map]; rfl
end Pf
end
section
set_option Elab.async false
set_option linter.all false
set_option maxHeartbeats 1000000
set_option maxRecDepth 100000
set_option autoImplicit false
namespace Pf
open PySem PySem.Spec L2 PyProof.Rows
/-! the head's run, part by part (each part's check is its own: less memory) -/
theorem obsS_app {n : Nat} {fa fa' : List He.Fa} {tb tb' : Tb} {fn fn' : List He.DefD} {g : Addr → Option Obj} (h : obsS n fa tb fn g = He.valD fn) (h' : obsS n fa' tb' fn' g = He.valD fn') : obsS n (fa ++ fa') (tb ++ tb') (fn ++ fn') g = He.valD (fn ++ fn') := by
  have e1 := congrArg (fun z : He.AlD => z.1) h
  have e2 := congrArg (fun z : He.AlD => z.2) h
  have e1' := congrArg (fun z : He.AlD => z.1) h'
  have e2' := congrArg (fun z : He.AlD => z.2) h'
  simp only [obsS, He.obsD, He.valD, Bool.and_eq_true] at e1 e2 e1' e2' ⊢
  obtain ⟨⟨a1, a2⟩, a3, a4⟩ := e1
  obtain ⟨⟨b1, b2⟩, b3, b4⟩ := e1'
  refine Prod.ext ?_ ?_
  · simp only [List.all_append, a1, a2, a3, a4, b1, b2, b3, b4, Bool.and_self]
  · simp only [List.map_append, e2, e2']
theorem ob_app {n : Nat} {fa fa' : List He.Fa} {tb tb' : Tb} {fn fn' : List He.DefD} {E : Option PySem.W.SharedT} (h : E.map (fun s => obsS n fa tb fn (HandSHeadRun.getT s)) = some (He.valD fn)) (h' : E.map (fun s => obsS n fa' tb' fn' (HandSHeadRun.getT s)) = some (He.valD fn')) :
    E.map (fun s => obsS n (fa ++ fa') (tb ++ tb') (fn ++ fn') (HandSHeadRun.getT s)) = some (He.valD (fn ++ fn')) := by
  cases E with
  | none => cases h
  | some s =>
    have e1 : obsS n fa tb fn (HandSHeadRun.getT s) = He.valD fn := Option.some.inj h
    have e2 : obsS n fa' tb' fn' (HandSHeadRun.getT s) = He.valD fn' := Option.some.inj h'
    exact congrArg some (obsS_app e1 e2)
theorem map3_of {σ α β γ : Type} {E : Option σ} {f : σ → α} {g : σ → β} {h : σ → γ} {a : α} {b : β} {c : γ} (h1 : E.map f = some a) (h2 : E.map g = some b) (h3 : E.map h = some c) : E.map (fun s => (f s, g s, h s)) = some (a, b, c) := by
  cases E with
  | none => cases h1
  | some s =>
    have e1 : f s = a := Option.some.inj h1
    have e2 : g s = b := Option.some.inj h2
    have e3 : h s = c := Option.some.inj h3
    show some (f s, g s, h s) = _
    rw [e1, e2, e3]
end Pf
end
section
set_option Elab.async false
set_option linter.all false
set_option maxHeartbeats 4000000
set_option maxRecDepth 100000
set_option autoImplicit false
namespace K41
open PySem PySem.Spec PyProof.Rows L2 Pf
def top (i : Nat) : Stmt := PySem.Challenge.pw_playpapers_k41_whole_gains_and_rules.main.body.getD i (.Pass ⟨0, 0, 0, 0⟩)
theorem nd_MOST_ACTS : (("MOST_ACTS" : Str) == ("__debug__" : Str)) = false := by decide +kernel
theorem nc_MOST_ACTS : (("MOST_ACTS" : Str) == ("__classdict__" : Str)) = false := by decide +kernel
theorem nd_MOST_DIGITS : (("MOST_DIGITS" : Str) == ("__debug__" : Str)) = false := by decide +kernel
theorem nc_MOST_DIGITS : (("MOST_DIGITS" : Str) == ("__classdict__" : Str)) = false := by decide +kernel
theorem nd_MOST_PLACES : (("MOST_PLACES" : Str) == ("__debug__" : Str)) = false := by decide +kernel
theorem nc_MOST_PLACES : (("MOST_PLACES" : Str) == ("__classdict__" : Str)) = false := by decide +kernel
theorem nd_MOST_PLAYERS : (("MOST_PLAYERS" : Str) == ("__debug__" : Str)) = false := by decide +kernel
theorem nc_MOST_PLAYERS : (("MOST_PLAYERS" : Str) == ("__classdict__" : Str)) = false := by decide +kernel
theorem nd_MOST_WORTH : (("MOST_WORTH" : Str) == ("__debug__" : Str)) = false := by decide +kernel
theorem nc_MOST_WORTH : (("MOST_WORTH" : Str) == ("__classdict__" : Str)) = false := by decide +kernel
theorem nd_NOUGHT : (("NOUGHT" : Str) == ("__debug__" : Str)) = false := by decide +kernel
theorem nc_NOUGHT : (("NOUGHT" : Str) == ("__classdict__" : Str)) = false := by decide +kernel
theorem nd_ONE : (("ONE" : Str) == ("__debug__" : Str)) = false := by decide +kernel
theorem nc_ONE : (("ONE" : Str) == ("__classdict__" : Str)) = false := by decide +kernel
theorem nd__law_below : (("_law_below" : Str) == ("__debug__" : Str)) = false := by decide +kernel
theorem nc__law_below : (("_law_below" : Str) == ("__classdict__" : Str)) = false := by decide +kernel
theorem nd__law_cut : (("_law_cut" : Str) == ("__debug__" : Str)) = false := by decide +kernel
theorem nc__law_cut : (("_law_cut" : Str) == ("__classdict__" : Str)) = false := by decide +kernel
theorem nd__law_divisor : (("_law_divisor" : Str) == ("__debug__" : Str)) = false := by decide +kernel
theorem nc__law_divisor : (("_law_divisor" : Str) == ("__classdict__" : Str)) = false := by decide +kernel
theorem nd__law_draw : (("_law_draw" : Str) == ("__debug__" : Str)) = false := by decide +kernel
theorem nc__law_draw : (("_law_draw" : Str) == ("__classdict__" : Str)) = false := by decide +kernel
theorem nd__law_gain : (("_law_gain" : Str) == ("__debug__" : Str)) = false := by decide +kernel
theorem nc__law_gain : (("_law_gain" : Str) == ("__classdict__" : Str)) = false := by decide +kernel
theorem nd__law_game : (("_law_game" : Str) == ("__debug__" : Str)) = false := by decide +kernel
theorem nc__law_game : (("_law_game" : Str) == ("__classdict__" : Str)) = false := by decide +kernel
theorem nd__law_incentives : (("_law_incentives" : Str) == ("__debug__" : Str)) = false := by decide +kernel
theorem nc__law_incentives : (("_law_incentives" : Str) == ("__classdict__" : Str)) = false := by decide +kernel
theorem nd__law_index : (("_law_index" : Str) == ("__debug__" : Str)) = false := by decide +kernel
theorem nc__law_index : (("_law_index" : Str) == ("__classdict__" : Str)) = false := by decide +kernel
theorem nd__law_lot : (("_law_lot" : Str) == ("__debug__" : Str)) = false := by decide +kernel
theorem nc__law_lot : (("_law_lot" : Str) == ("__classdict__" : Str)) = false := by decide +kernel
theorem nd__law_lot_right : (("_law_lot_right" : Str) == ("__debug__" : Str)) = false := by decide +kernel
theorem nc__law_lot_right : (("_law_lot_right" : Str) == ("__classdict__" : Str)) = false := by decide +kernel
theorem nd__law_mean : (("_law_mean" : Str) == ("__debug__" : Str)) = false := by decide +kernel
theorem nc__law_mean : (("_law_mean" : Str) == ("__classdict__" : Str)) = false := by decide +kernel
theorem nd__law_outside : (("_law_outside" : Str) == ("__debug__" : Str)) = false := by decide +kernel
theorem nc__law_outside : (("_law_outside" : Str) == ("__classdict__" : Str)) = false := by decide +kernel
theorem nd__law_pick : (("_law_pick" : Str) == ("__debug__" : Str)) = false := by decide +kernel
theorem nc__law_pick : (("_law_pick" : Str) == ("__classdict__" : Str)) = false := by decide +kernel
theorem nd__law_player_right : (("_law_player_right" : Str) == ("__debug__" : Str)) = false := by decide +kernel
theorem nc__law_player_right : (("_law_player_right" : Str) == ("__classdict__" : Str)) = false := by decide +kernel
theorem nd__law_plays : (("_law_plays" : Str) == ("__debug__" : Str)) = false := by decide +kernel
theorem nc__law_plays : (("_law_plays" : Str) == ("__classdict__" : Str)) = false := by decide +kernel
theorem nd__law_plus : (("_law_plus" : Str) == ("__debug__" : Str)) = false := by decide +kernel
theorem nc__law_plus : (("_law_plus" : Str) == ("__classdict__" : Str)) = false := by decide +kernel
theorem nd__law_pot : (("_law_pot" : Str) == ("__debug__" : Str)) = false := by decide +kernel
theorem nc__law_pot : (("_law_pot" : Str) == ("__classdict__" : Str)) = false := by decide +kernel
theorem nd__law_right : (("_law_right" : Str) == ("__debug__" : Str)) = false := by decide +kernel
theorem nc__law_right : (("_law_right" : Str) == ("__classdict__" : Str)) = false := by decide +kernel
theorem nd__law_rule_gain : (("_law_rule_gain" : Str) == ("__debug__" : Str)) = false := by decide +kernel
theorem nc__law_rule_gain : (("_law_rule_gain" : Str) == ("__classdict__" : Str)) = false := by decide +kernel
theorem nd__law_times : (("_law_times" : Str) == ("__debug__" : Str)) = false := by decide +kernel
theorem nc__law_times : (("_law_times" : Str) == ("__classdict__" : Str)) = false := by decide +kernel
theorem nd__law_together : (("_law_together" : Str) == ("__debug__" : Str)) = false := by decide +kernel
theorem nc__law_together : (("_law_together" : Str) == ("__classdict__" : Str)) = false := by decide +kernel
theorem nd__law_total : (("_law_total" : Str) == ("__debug__" : Str)) = false := by decide +kernel
theorem nc__law_total : (("_law_total" : Str) == ("__classdict__" : Str)) = false := by decide +kernel
theorem nd__law_tuples : (("_law_tuples" : Str) == ("__debug__" : Str)) = false := by decide +kernel
theorem nc__law_tuples : (("_law_tuples" : Str) == ("__classdict__" : Str)) = false := by decide +kernel
theorem nd_abs : (("abs" : Str) == ("__debug__" : Str)) = false := by decide +kernel
theorem nc_abs : (("abs" : Str) == ("__classdict__" : Str)) = false := by decide +kernel
theorem nd_act : (("act" : Str) == ("__debug__" : Str)) = false := by decide +kernel
theorem nc_act : (("act" : Str) == ("__classdict__" : Str)) = false := by decide +kernel
theorem nd_add : (("add" : Str) == ("__debug__" : Str)) = false := by decide +kernel
theorem nc_add : (("add" : Str) == ("__classdict__" : Str)) = false := by decide +kernel
theorem nd_all : (("all" : Str) == ("__debug__" : Str)) = false := by decide +kernel
theorem nc_all : (("all" : Str) == ("__classdict__" : Str)) = false := by decide +kernel
theorem nd_are_sizes : (("are_sizes" : Str) == ("__debug__" : Str)) = false := by decide +kernel
theorem nc_are_sizes : (("are_sizes" : Str) == ("__classdict__" : Str)) = false := by decide +kernel
theorem nd_best : (("best" : Str) == ("__debug__" : Str)) = false := by decide +kernel
theorem nc_best : (("best" : Str) == ("__classdict__" : Str)) = false := by decide +kernel
theorem nd_best_act : (("best_act" : Str) == ("__debug__" : Str)) = false := by decide +kernel
theorem nc_best_act : (("best_act" : Str) == ("__classdict__" : Str)) = false := by decide +kernel
theorem nd_bool : (("bool" : Str) == ("__debug__" : Str)) = false := by decide +kernel
theorem nc_bool : (("bool" : Str) == ("__classdict__" : Str)) = false := by decide +kernel
theorem nd_bottom : (("bottom" : Str) == ("__debug__" : Str)) = false := by decide +kernel
theorem nc_bottom : (("bottom" : Str) == ("__classdict__" : Str)) = false := by decide +kernel
theorem nd_cell : (("cell" : Str) == ("__debug__" : Str)) = false := by decide +kernel
theorem nc_cell : (("cell" : Str) == ("__classdict__" : Str)) = false := by decide +kernel
theorem nd_chances_of : (("chances_of" : Str) == ("__debug__" : Str)) = false := by decide +kernel
theorem nc_chances_of : (("chances_of" : Str) == ("__classdict__" : Str)) = false := by decide +kernel
theorem nd_check_act : (("check_act" : Str) == ("__debug__" : Str)) = false := by decide +kernel
theorem nc_check_act : (("check_act" : Str) == ("__classdict__" : Str)) = false := by decide +kernel
theorem nd_check_game : (("check_game" : Str) == ("__debug__" : Str)) = false := by decide +kernel
theorem nc_check_game : (("check_game" : Str) == ("__classdict__" : Str)) = false := by decide +kernel
theorem nd_check_lot_of : (("check_lot_of" : Str) == ("__debug__" : Str)) = false := by decide +kernel
theorem nc_check_lot_of : (("check_lot_of" : Str) == ("__classdict__" : Str)) = false := by decide +kernel
theorem nd_check_plans : (("check_plans" : Str) == ("__debug__" : Str)) = false := by decide +kernel
theorem nc_check_plans : (("check_plans" : Str) == ("__classdict__" : Str)) = false := by decide +kernel
theorem nd_check_player : (("check_player" : Str) == ("__debug__" : Str)) = false := by decide +kernel
theorem nc_check_player : (("check_player" : Str) == ("__classdict__" : Str)) = false := by decide +kernel
theorem nd_check_rule : (("check_rule" : Str) == ("__debug__" : Str)) = false := by decide +kernel
theorem nc_check_rule : (("check_rule" : Str) == ("__classdict__" : Str)) = false := by decide +kernel
theorem nd_check_told : (("check_told" : Str) == ("__debug__" : Str)) = false := by decide +kernel
theorem nc_check_told : (("check_told" : Str) == ("__classdict__" : Str)) = false := by decide +kernel
theorem nd_common : (("common" : Str) == ("__debug__" : Str)) = false := by decide +kernel
theorem nc_common : (("common" : Str) == ("__classdict__" : Str)) = false := by decide +kernel
theorem nd_digit : (("digit" : Str) == ("__debug__" : Str)) = false := by decide +kernel
theorem nc_digit : (("digit" : Str) == ("__classdict__" : Str)) = false := by decide +kernel
theorem nd_divisor : (("divisor" : Str) == ("__debug__" : Str)) = false := by decide +kernel
theorem nc_divisor : (("divisor" : Str) == ("__classdict__" : Str)) = false := by decide +kernel
theorem nd_divmod : (("divmod" : Str) == ("__debug__" : Str)) = false := by decide +kernel
theorem nc_divmod : (("divmod" : Str) == ("__classdict__" : Str)) = false := by decide +kernel
theorem nd_due : (("due" : Str) == ("__debug__" : Str)) = false := by decide +kernel
theorem nc_due : (("due" : Str) == ("__classdict__" : Str)) = false := by decide +kernel
theorem nd_first : (("first" : Str) == ("__debug__" : Str)) = false := by decide +kernel
theorem nc_first : (("first" : Str) == ("__classdict__" : Str)) = false := by decide +kernel
theorem nd_first_incentive : (("first_incentive" : Str) == ("__debug__" : Str)) = false := by decide +kernel
theorem nc_first_incentive : (("first_incentive" : Str) == ("__classdict__" : Str)) = false := by decide +kernel
theorem nd_first_outside : (("first_outside" : Str) == ("__debug__" : Str)) = false := by decide +kernel
theorem nc_first_outside : (("first_outside" : Str) == ("__classdict__" : Str)) = false := by decide +kernel
theorem nd_found : (("found" : Str) == ("__debug__" : Str)) = false := by decide +kernel
theorem nc_found : (("found" : Str) == ("__classdict__" : Str)) = false := by decide +kernel
theorem nd_gain : (("gain" : Str) == ("__debug__" : Str)) = false := by decide +kernel
theorem nc_gain : (("gain" : Str) == ("__classdict__" : Str)) = false := by decide +kernel
theorem nd_gain_of : (("gain_of" : Str) == ("__debug__" : Str)) = false := by decide +kernel
theorem nc_gain_of : (("gain_of" : Str) == ("__classdict__" : Str)) = false := by decide +kernel
theorem nd_game : (("game" : Str) == ("__debug__" : Str)) = false := by decide +kernel
theorem nc_game : (("game" : Str) == ("__classdict__" : Str)) = false := by decide +kernel
theorem nd_incentive : (("incentive" : Str) == ("__debug__" : Str)) = false := by decide +kernel
theorem nc_incentive : (("incentive" : Str) == ("__classdict__" : Str)) = false := by decide +kernel
theorem nd_incentives : (("incentives" : Str) == ("__debug__" : Str)) = false := by decide +kernel
theorem nc_incentives : (("incentives" : Str) == ("__classdict__" : Str)) = false := by decide +kernel
theorem nd_incentives_of : (("incentives_of" : Str) == ("__debug__" : Str)) = false := by decide +kernel
theorem nc_incentives_of : (("incentives_of" : Str) == ("__classdict__" : Str)) = false := by decide +kernel
theorem nd_int : (("int" : Str) == ("__debug__" : Str)) = false := by decide +kernel
theorem nc_int : (("int" : Str) == ("__classdict__" : Str)) = false := by decide +kernel
theorem nd_is_accepted : (("is_accepted" : Str) == ("__debug__" : Str)) = false := by decide +kernel
theorem nc_is_accepted : (("is_accepted" : Str) == ("__classdict__" : Str)) = false := by decide +kernel
theorem nd_is_any_lot : (("is_any_lot" : Str) == ("__debug__" : Str)) = false := by decide +kernel
theorem nc_is_any_lot : (("is_any_lot" : Str) == ("__classdict__" : Str)) = false := by decide +kernel
theorem nd_is_below : (("is_below" : Str) == ("__debug__" : Str)) = false := by decide +kernel
theorem nc_is_below : (("is_below" : Str) == ("__classdict__" : Str)) = false := by decide +kernel
theorem nd_is_fraction_of : (("is_fraction_of" : Str) == ("__debug__" : Str)) = false := by decide +kernel
theorem nc_is_fraction_of : (("is_fraction_of" : Str) == ("__classdict__" : Str)) = false := by decide +kernel
theorem nd_is_game_of : (("is_game_of" : Str) == ("__debug__" : Str)) = false := by decide +kernel
theorem nc_is_game_of : (("is_game_of" : Str) == ("__classdict__" : Str)) = false := by decide +kernel
theorem nd_is_integer : (("is_integer" : Str) == ("__debug__" : Str)) = false := by decide +kernel
theorem nc_is_integer : (("is_integer" : Str) == ("__classdict__" : Str)) = false := by decide +kernel
theorem nd_is_list : (("is_list" : Str) == ("__debug__" : Str)) = false := by decide +kernel
theorem nc_is_list : (("is_list" : Str) == ("__classdict__" : Str)) = false := by decide +kernel
theorem nd_is_lot_of : (("is_lot_of" : Str) == ("__debug__" : Str)) = false := by decide +kernel
theorem nc_is_lot_of : (("is_lot_of" : Str) == ("__classdict__" : Str)) = false := by decide +kernel
theorem nd_is_obeyed : (("is_obeyed" : Str) == ("__debug__" : Str)) = false := by decide +kernel
theorem nc_is_obeyed : (("is_obeyed" : Str) == ("__classdict__" : Str)) = false := by decide +kernel
theorem nd_is_plan_of : (("is_plan_of" : Str) == ("__debug__" : Str)) = false := by decide +kernel
theorem nc_is_plan_of : (("is_plan_of" : Str) == ("__classdict__" : Str)) = false := by decide +kernel
theorem nd_is_short : (("is_short" : Str) == ("__debug__" : Str)) = false := by decide +kernel
theorem nc_is_short : (("is_short" : Str) == ("__classdict__" : Str)) = false := by decide +kernel
theorem nd_is_short_lot : (("is_short_lot" : Str) == ("__debug__" : Str)) = false := by decide +kernel
theorem nc_is_short_lot : (("is_short_lot" : Str) == ("__classdict__" : Str)) = false := by decide +kernel
theorem nd_is_within : (("is_within" : Str) == ("__debug__" : Str)) = false := by decide +kernel
theorem nc_is_within : (("is_within" : Str) == ("__classdict__" : Str)) = false := by decide +kernel
theorem nd_is_worth_row : (("is_worth_row" : Str) == ("__debug__" : Str)) = false := by decide +kernel
theorem nc_is_worth_row : (("is_worth_row" : Str) == ("__classdict__" : Str)) = false := by decide +kernel
theorem nd_k : (("k" : Str) == ("__debug__" : Str)) = false := by decide +kernel
theorem nc_k : (("k" : Str) == ("__classdict__" : Str)) = false := by decide +kernel
theorem nd_late : (("late" : Str) == ("__debug__" : Str)) = false := by decide +kernel
theorem nc_late : (("late" : Str) == ("__classdict__" : Str)) = false := by decide +kernel
theorem nd_law : (("law" : Str) == ("__debug__" : Str)) = false := by decide +kernel
theorem nc_law : (("law" : Str) == ("__classdict__" : Str)) = false := by decide +kernel
theorem nd_least : (("least" : Str) == ("__debug__" : Str)) = false := by decide +kernel
theorem nc_least : (("least" : Str) == ("__classdict__" : Str)) = false := by decide +kernel
theorem nd_len : (("len" : Str) == ("__debug__" : Str)) = false := by decide +kernel
theorem nc_len : (("len" : Str) == ("__classdict__" : Str)) = false := by decide +kernel
theorem nd_list : (("list" : Str) == ("__debug__" : Str)) = false := by decide +kernel
theorem nc_list : (("list" : Str) == ("__classdict__" : Str)) = false := by decide +kernel
theorem nd_longer : (("longer" : Str) == ("__debug__" : Str)) = false := by decide +kernel
theorem nc_longer : (("longer" : Str) == ("__classdict__" : Str)) = false := by decide +kernel
theorem nd_losses_of : (("losses_of" : Str) == ("__debug__" : Str)) = false := by decide +kernel
theorem nc_losses_of : (("losses_of" : Str) == ("__classdict__" : Str)) = false := by decide +kernel
theorem nd_lot : (("lot" : Str) == ("__debug__" : Str)) = false := by decide +kernel
theorem nc_lot : (("lot" : Str) == ("__classdict__" : Str)) = false := by decide +kernel
theorem nd_many : (("many" : Str) == ("__debug__" : Str)) = false := by decide +kernel
theorem nc_many : (("many" : Str) == ("__classdict__" : Str)) = false := by decide +kernel
theorem nd_max : (("max" : Str) == ("__debug__" : Str)) = false := by decide +kernel
theorem nc_max : (("max" : Str) == ("__classdict__" : Str)) = false := by decide +kernel
theorem nd_mean_by : (("mean_by" : Str) == ("__debug__" : Str)) = false := by decide +kernel
theorem nc_mean_by : (("mean_by" : Str) == ("__classdict__" : Str)) = false := by decide +kernel
theorem nd_means : (("means" : Str) == ("__debug__" : Str)) = false := by decide +kernel
theorem nc_means : (("means" : Str) == ("__classdict__" : Str)) = false := by decide +kernel
theorem nd_min : (("min" : Str) == ("__debug__" : Str)) = false := by decide +kernel
theorem nc_min : (("min" : Str) == ("__classdict__" : Str)) = false := by decide +kernel
theorem nd_more : (("more" : Str) == ("__debug__" : Str)) = false := by decide +kernel
theorem nc_more : (("more" : Str) == ("__classdict__" : Str)) = false := by decide +kernel
theorem nd_most : (("most" : Str) == ("__debug__" : Str)) = false := by decide +kernel
theorem nc_most : (("most" : Str) == ("__classdict__" : Str)) = false := by decide +kernel
theorem nd_most_plays : (("most_plays" : Str) == ("__debug__" : Str)) = false := by decide +kernel
theorem nc_most_plays : (("most_plays" : Str) == ("__classdict__" : Str)) = false := by decide +kernel
theorem nd_multiply : (("multiply" : Str) == ("__debug__" : Str)) = false := by decide +kernel
theorem nc_multiply : (("multiply" : Str) == ("__classdict__" : Str)) = false := by decide +kernel
theorem nd_number : (("number" : Str) == ("__debug__" : Str)) = false := by decide +kernel
theorem nc_number : (("number" : Str) == ("__classdict__" : Str)) = false := by decide +kernel
theorem nd_numbers : (("numbers" : Str) == ("__debug__" : Str)) = false := by decide +kernel
theorem nc_numbers : (("numbers" : Str) == ("__classdict__" : Str)) = false := by decide +kernel
theorem nd_one : (("one" : Str) == ("__debug__" : Str)) = false := by decide +kernel
theorem nc_one : (("one" : Str) == ("__classdict__" : Str)) = false := by decide +kernel
theorem nd_other : (("other" : Str) == ("__debug__" : Str)) = false := by decide +kernel
theorem nc_other : (("other" : Str) == ("__classdict__" : Str)) = false := by decide +kernel
theorem nd_others : (("others" : Str) == ("__debug__" : Str)) = false := by decide +kernel
theorem nc_others : (("others" : Str) == ("__classdict__" : Str)) = false := by decide +kernel
theorem nd_out : (("out" : Str) == ("__debug__" : Str)) = false := by decide +kernel
theorem nc_out : (("out" : Str) == ("__classdict__" : Str)) = false := by decide +kernel
theorem nd_outs : (("outs" : Str) == ("__debug__" : Str)) = false := by decide +kernel
theorem nc_outs : (("outs" : Str) == ("__classdict__" : Str)) = false := by decide +kernel
theorem nd_outside_by : (("outside_by" : Str) == ("__debug__" : Str)) = false := by decide +kernel
theorem nc_outside_by : (("outside_by" : Str) == ("__classdict__" : Str)) = false := by decide +kernel
theorem nd_outside_gain : (("outside_gain" : Str) == ("__debug__" : Str)) = false := by decide +kernel
theorem nc_outside_gain : (("outside_gain" : Str) == ("__classdict__" : Str)) = false := by decide +kernel
theorem nd_own : (("own" : Str) == ("__debug__" : Str)) = false := by decide +kernel
theorem nc_own : (("own" : Str) == ("__classdict__" : Str)) = false := by decide +kernel
theorem nd_part : (("part" : Str) == ("__debug__" : Str)) = false := by decide +kernel
theorem nc_part : (("part" : Str) == ("__classdict__" : Str)) = false := by decide +kernel
theorem nd_parts : (("parts" : Str) == ("__debug__" : Str)) = false := by decide +kernel
theorem nc_parts : (("parts" : Str) == ("__classdict__" : Str)) = false := by decide +kernel
theorem nd_place : (("place" : Str) == ("__debug__" : Str)) = false := by decide +kernel
theorem nc_place : (("place" : Str) == ("__classdict__" : Str)) = false := by decide +kernel
theorem nd_place_of : (("place_of" : Str) == ("__debug__" : Str)) = false := by decide +kernel
theorem nc_place_of : (("place_of" : Str) == ("__classdict__" : Str)) = false := by decide +kernel
theorem nd_plan : (("plan" : Str) == ("__debug__" : Str)) = false := by decide +kernel
theorem nc_plan : (("plan" : Str) == ("__classdict__" : Str)) = false := by decide +kernel
theorem nd_plans : (("plans" : Str) == ("__debug__" : Str)) = false := by decide +kernel
theorem nc_plans : (("plans" : Str) == ("__classdict__" : Str)) = false := by decide +kernel
theorem nd_play : (("play" : Str) == ("__debug__" : Str)) = false := by decide +kernel
theorem nc_play : (("play" : Str) == ("__classdict__" : Str)) = false := by decide +kernel
theorem nd_player : (("player" : Str) == ("__debug__" : Str)) = false := by decide +kernel
theorem nc_player : (("player" : Str) == ("__classdict__" : Str)) = false := by decide +kernel
theorem nd_plays_of : (("plays_of" : Str) == ("__debug__" : Str)) = false := by decide +kernel
theorem nc_plays_of : (("plays_of" : Str) == ("__classdict__" : Str)) = false := by decide +kernel
theorem nd_pot : (("pot" : Str) == ("__debug__" : Str)) = false := by decide +kernel
theorem nc_pot : (("pot" : Str) == ("__classdict__" : Str)) = false := by decide +kernel
theorem nd_products_sum : (("products_sum" : Str) == ("__debug__" : Str)) = false := by decide +kernel
theorem nc_products_sum : (("products_sum" : Str) == ("__classdict__" : Str)) = false := by decide +kernel
theorem nd_reduced : (("reduced" : Str) == ("__debug__" : Str)) = false := by decide +kernel
theorem nc_reduced : (("reduced" : Str) == ("__classdict__" : Str)) = false := by decide +kernel
theorem nd_repr : (("repr" : Str) == ("__debug__" : Str)) = false := by decide +kernel
theorem nc_repr : (("repr" : Str) == ("__classdict__" : Str)) = false := by decide +kernel
theorem nd_row : (("row" : Str) == ("__debug__" : Str)) = false := by decide +kernel
theorem nc_row : (("row" : Str) == ("__classdict__" : Str)) = false := by decide +kernel
theorem nd_rule : (("rule" : Str) == ("__debug__" : Str)) = false := by decide +kernel
theorem nc_rule : (("rule" : Str) == ("__classdict__" : Str)) = false := by decide +kernel
theorem nd_rule_gain : (("rule_gain" : Str) == ("__debug__" : Str)) = false := by decide +kernel
theorem nc_rule_gain : (("rule_gain" : Str) == ("__classdict__" : Str)) = false := by decide +kernel
theorem nd_script : (("script" : Str) == ("__debug__" : Str)) = false := by decide +kernel
theorem nc_script : (("script" : Str) == ("__classdict__" : Str)) = false := by decide +kernel
theorem nd_shown : (("shown" : Str) == ("__debug__" : Str)) = false := by decide +kernel
theorem nc_shown : (("shown" : Str) == ("__classdict__" : Str)) = false := by decide +kernel
theorem nd_sizes : (("sizes" : Str) == ("__debug__" : Str)) = false := by decide +kernel
theorem nc_sizes : (("sizes" : Str) == ("__classdict__" : Str)) = false := by decide +kernel
theorem nd_some : (("some" : Str) == ("__debug__" : Str)) = false := by decide +kernel
theorem nc_some : (("some" : Str) == ("__classdict__" : Str)) = false := by decide +kernel
theorem nd_sum : (("sum" : Str) == ("__debug__" : Str)) = false := by decide +kernel
theorem nc_sum : (("sum" : Str) == ("__classdict__" : Str)) = false := by decide +kernel
theorem nd_together : (("together" : Str) == ("__debug__" : Str)) = false := by decide +kernel
theorem nc_together : (("together" : Str) == ("__classdict__" : Str)) = false := by decide +kernel
theorem nd_told : (("told" : Str) == ("__debug__" : Str)) = false := by decide +kernel
theorem nc_told : (("told" : Str) == ("__classdict__" : Str)) = false := by decide +kernel
theorem nd_told_incentive : (("told_incentive" : Str) == ("__debug__" : Str)) = false := by decide +kernel
theorem nc_told_incentive : (("told_incentive" : Str) == ("__classdict__" : Str)) = false := by decide +kernel
theorem nd_told_outside : (("told_outside" : Str) == ("__debug__" : Str)) = false := by decide +kernel
theorem nc_told_outside : (("told_outside" : Str) == ("__classdict__" : Str)) = false := by decide +kernel
theorem nd_told_rule : (("told_rule" : Str) == ("__debug__" : Str)) = false := by decide +kernel
theorem nc_told_rule : (("told_rule" : Str) == ("__classdict__" : Str)) = false := by decide +kernel
theorem nd_top : (("top" : Str) == ("__debug__" : Str)) = false := by decide +kernel
theorem nc_top : (("top" : Str) == ("__classdict__" : Str)) = false := by decide +kernel
theorem nd_total : (("total" : Str) == ("__debug__" : Str)) = false := by decide +kernel
theorem nc_total : (("total" : Str) == ("__classdict__" : Str)) = false := by decide +kernel
theorem nd_tuple : (("tuple" : Str) == ("__debug__" : Str)) = false := by decide +kernel
theorem nc_tuple : (("tuple" : Str) == ("__classdict__" : Str)) = false := by decide +kernel
theorem nd_tuples_of : (("tuples_of" : Str) == ("__debug__" : Str)) = false := by decide +kernel
theorem nc_tuples_of : (("tuples_of" : Str) == ("__classdict__" : Str)) = false := by decide +kernel
theorem nd_value : (("value" : Str) == ("__debug__" : Str)) = false := by decide +kernel
theorem nc_value : (("value" : Str) == ("__classdict__" : Str)) = false := by decide +kernel
theorem nd_ways : (("ways" : Str) == ("__debug__" : Str)) = false := by decide +kernel
theorem nc_ways : (("ways" : Str) == ("__classdict__" : Str)) = false := by decide +kernel
theorem nd_with_act : (("with_act" : Str) == ("__debug__" : Str)) = false := by decide +kernel
theorem nc_with_act : (("with_act" : Str) == ("__classdict__" : Str)) = false := by decide +kernel
theorem nd_worth_at : (("worth_at" : Str) == ("__debug__" : Str)) = false := by decide +kernel
theorem nc_worth_at : (("worth_at" : Str) == ("__classdict__" : Str)) = false := by decide +kernel
theorem bb_abs : bootBuiltins "abs" = some (.builtin "abs") := by decide +kernel
theorem bb_all : bootBuiltins "all" = some (.builtin "all") := by decide +kernel
theorem bb_bool : bootBuiltins "bool" = some (.type "bool") := by decide +kernel
theorem bb_divmod : bootBuiltins "divmod" = some (.builtin "divmod") := by decide +kernel
theorem bb_enumerate : bootBuiltins "enumerate" = some (.type "enumerate") := by decide +kernel
theorem bb_int : bootBuiltins "int" = some (.type "int") := by decide +kernel
theorem bb_isinstance : bootBuiltins "isinstance" = some (.builtin "isinstance") := by decide +kernel
theorem bb_len : bootBuiltins "len" = some (.builtin "len") := by decide +kernel
theorem bb_list : bootBuiltins "list" = some (.type "list") := by decide +kernel
theorem bb_max : bootBuiltins "max" = some (.builtin "max") := by decide +kernel
theorem bb_min : bootBuiltins "min" = some (.builtin "min") := by decide +kernel
theorem bb_range : bootBuiltins "range" = some (.type "range") := by decide +kernel
theorem bb_repr : bootBuiltins "repr" = some (.builtin "repr") := by decide +kernel
theorem bb_sum : bootBuiltins "sum" = some (.builtin "sum") := by decide +kernel
theorem bb_tuple : bootBuiltins "tuple" = some (.type "tuple") := by decide +kernel
theorem bb_zip : bootBuiltins "zip" = some (.type "zip") := by decide +kernel
def D__law_pot : He.DefD := ⟨("_law_pot", none), "_law_pot", "_law_pot", defArgs (top 72), defBody (top 72), defScope (top 72), [], []⟩
def D_is_list : He.DefD := ⟨("is_list", none), "is_list", "is_list", defArgs (top 12), defBody (top 12), defScope (top 12), [], []⟩
def D_tuples_of : He.DefD := ⟨("tuples_of", none), "tuples_of", "tuples_of", defArgs (top 34), defBody (top 34), defScope (top 34), [], []⟩
def D_plays_of : He.DefD := ⟨("plays_of", none), "plays_of", "plays_of", defArgs (top 35), defBody (top 35), defScope (top 35), [], []⟩
def D_is_integer : He.DefD := ⟨("is_integer", none), "is_integer", "is_integer", defArgs (top 10), defBody (top 10), defScope (top 10), [], []⟩
def D_is_within : He.DefD := ⟨("is_within", none), "is_within", "is_within", defArgs (top 11), defBody (top 11), defScope (top 11), [], []⟩
def D_are_sizes : He.DefD := ⟨("are_sizes", none), "are_sizes", "are_sizes", defArgs (top 39), defBody (top 39), defScope (top 39), [], []⟩
def D_is_worth_row : He.DefD := ⟨("is_worth_row", none), "is_worth_row", "is_worth_row", defArgs (top 40), defBody (top 40), defScope (top 40), [], []⟩
def D_is_game_of : He.DefD := ⟨("is_game_of", none), "is_game_of", "is_game_of", defArgs (top 41), defBody (top 41), defScope (top 41), [], []⟩
def D_check_game : He.DefD := ⟨("check_game", none), "check_game", "check_game", defArgs (top 42), defBody (top 42), defScope (top 42), [], []⟩
def D_divisor : He.DefD := ⟨("divisor", none), "divisor", "divisor", defArgs (top 13), defBody (top 13), defScope (top 13), [], []⟩
def D_is_fraction_of : He.DefD := ⟨("is_fraction_of", none), "is_fraction_of", "is_fraction_of", defArgs (top 14), defBody (top 14), defScope (top 14), [], []⟩
def D_is_short : He.DefD := ⟨("is_short", none), "is_short", "is_short", defArgs (top 15), defBody (top 15), defScope (top 15), [], []⟩
def D_reduced : He.DefD := ⟨("reduced", none), "reduced", "reduced", defArgs (top 19), defBody (top 19), defScope (top 19), [], []⟩
def D_add : He.DefD := ⟨("add", none), "add", "add", defArgs (top 20), defBody (top 20), defScope (top 20), [], []⟩
def D_total : He.DefD := ⟨("total", none), "total", "total", defArgs (top 23), defBody (top 23), defScope (top 23), [], []⟩
def D_is_lot_of : He.DefD := ⟨("is_lot_of", none), "is_lot_of", "is_lot_of", defArgs (top 27), defBody (top 27), defScope (top 27), [], []⟩
def D_is_short_lot : He.DefD := ⟨("is_short_lot", none), "is_short_lot", "is_short_lot", defArgs (top 28), defBody (top 28), defScope (top 28), [], []⟩
def D_is_plan_of : He.DefD := ⟨("is_plan_of", none), "is_plan_of", "is_plan_of", defArgs (top 45), defBody (top 45), defScope (top 45), [], []⟩
def D_check_plans : He.DefD := ⟨("check_plans", none), "check_plans", "check_plans", defArgs (top 46), defBody (top 46), defScope (top 46), [], []⟩
def D_multiply : He.DefD := ⟨("multiply", none), "multiply", "multiply", defArgs (top 21), defBody (top 21), defScope (top 21), [], []⟩
def D_chances_of : He.DefD := ⟨("chances_of", none), "chances_of", "chances_of", defArgs (top 47), defBody (top 47), defScope (top 47), [], []⟩
def D_together : He.DefD := ⟨("together", none), "together", "together", defArgs (top 60), defBody (top 60), defScope (top 60), [], []⟩
def D_is_any_lot : He.DefD := ⟨("is_any_lot", none), "is_any_lot", "is_any_lot", defArgs (top 49), defBody (top 49), defScope (top 49), [], []⟩
def D_check_told : He.DefD := ⟨("check_told", none), "check_told", "check_told", defArgs (top 50), defBody (top 50), defScope (top 50), [], []⟩
def D_check_lot_of : He.DefD := ⟨("check_lot_of", none), "check_lot_of", "check_lot_of", defArgs (top 51), defBody (top 51), defScope (top 51), [], []⟩
def D_incentives_of : He.DefD := ⟨("incentives_of", none), "incentives_of", "incentives_of", defArgs (top 53), defBody (top 53), defScope (top 53), [], []⟩
def D_products_sum : He.DefD := ⟨("products_sum", none), "products_sum", "products_sum", defArgs (top 24), defBody (top 24), defScope (top 24), [], []⟩
def D_mean_by : He.DefD := ⟨("mean_by", none), "mean_by", "mean_by", defArgs (top 29), defBody (top 29), defScope (top 29), [], []⟩
def D_with_act : He.DefD := ⟨("with_act", none), "with_act", "with_act", defArgs (top 36), defBody (top 36), defScope (top 36), [], []⟩
def D_place_of : He.DefD := ⟨("place_of", none), "place_of", "place_of", defArgs (top 37), defBody (top 37), defScope (top 37), [], []⟩
def D_worth_at : He.DefD := ⟨("worth_at", none), "worth_at", "worth_at", defArgs (top 38), defBody (top 38), defScope (top 38), [], []⟩
def D_losses_of : He.DefD := ⟨("losses_of", none), "losses_of", "losses_of", defArgs (top 54), defBody (top 54), defScope (top 54), [], []⟩
def D_gain_of : He.DefD := ⟨("gain_of", none), "gain_of", "gain_of", defArgs (top 55), defBody (top 55), defScope (top 55), [], []⟩
def D_first_incentive : He.DefD := ⟨("first_incentive", none), "first_incentive", "first_incentive", defArgs (top 57), defBody (top 57), defScope (top 57), [], []⟩
def D_is_obeyed : He.DefD := ⟨("is_obeyed", none), "is_obeyed", "is_obeyed", defArgs (top 67), defBody (top 67), defScope (top 67), [], []⟩
def D_outside_by : He.DefD := ⟨("outside_by", none), "outside_by", "outside_by", defArgs (top 56), defBody (top 56), defScope (top 56), [], []⟩
def D_first_outside : He.DefD := ⟨("first_outside", none), "first_outside", "first_outside", defArgs (top 58), defBody (top 58), defScope (top 58), [], []⟩
def D_is_accepted : He.DefD := ⟨("is_accepted", none), "is_accepted", "is_accepted", defArgs (top 68), defBody (top 68), defScope (top 68), [], []⟩
def D__law_draw : He.DefD := ⟨("_law_draw", none), "_law_draw", "_law_draw", defArgs (top 73), defBody (top 73), defScope (top 73), [], []⟩
def D__law_pick : He.DefD := ⟨("_law_pick", none), "_law_pick", "_law_pick", defArgs (top 74), defBody (top 74), defScope (top 74), [], []⟩
def D__law_divisor : He.DefD := ⟨("_law_divisor", none), "_law_divisor", "_law_divisor", defArgs (top 75), defBody (top 75), defScope (top 75), [], []⟩
def D__law_cut : He.DefD := ⟨("_law_cut", none), "_law_cut", "_law_cut", defArgs (top 76), defBody (top 76), defScope (top 76), [], []⟩
def D__law_lot : He.DefD := ⟨("_law_lot", none), "_law_lot", "_law_lot", defArgs (top 81), defBody (top 81), defScope (top 81), [], []⟩
def D__law_tuples : He.DefD := ⟨("_law_tuples", none), "_law_tuples", "_law_tuples", defArgs (top 82), defBody (top 82), defScope (top 82), [], []⟩
def D__law_game : He.DefD := ⟨("_law_game", none), "_law_game", "_law_game", defArgs (top 84), defBody (top 84), defScope (top 84), [], []⟩
def D__law_plays : He.DefD := ⟨("_law_plays", none), "_law_plays", "_law_plays", defArgs (top 85), defBody (top 85), defScope (top 85), [], []⟩
def D__law_times : He.DefD := ⟨("_law_times", none), "_law_times", "_law_times", defArgs (top 78), defBody (top 78), defScope (top 78), [], []⟩
def D__law_together : He.DefD := ⟨("_law_together", none), "_law_together", "_law_together", defArgs (top 89), defBody (top 89), defScope (top 89), [], []⟩
def D_means : He.DefD := ⟨("means", none), "means", "means", defArgs (top 61), defBody (top 61), defScope (top 61), [], []⟩
def D_incentives : He.DefD := ⟨("incentives", none), "incentives", "incentives", defArgs (top 62), defBody (top 62), defScope (top 62), [], []⟩
def D_told_incentive : He.DefD := ⟨("told_incentive", none), "told_incentive", "told_incentive", defArgs (top 69), defBody (top 69), defScope (top 69), [], []⟩
def D_told_outside : He.DefD := ⟨("told_outside", none), "told_outside", "told_outside", defArgs (top 70), defBody (top 70), defScope (top 70), [], []⟩
def D__law_plus : He.DefD := ⟨("_law_plus", none), "_law_plus", "_law_plus", defArgs (top 77), defBody (top 77), defScope (top 77), [], []⟩
def D__law_total : He.DefD := ⟨("_law_total", none), "_law_total", "_law_total", defArgs (top 80), defBody (top 80), defScope (top 80), [], []⟩
def D__law_index : He.DefD := ⟨("_law_index", none), "_law_index", "_law_index", defArgs (top 83), defBody (top 83), defScope (top 83), [], []⟩
def D__law_gain : He.DefD := ⟨("_law_gain", none), "_law_gain", "_law_gain", defArgs (top 86), defBody (top 86), defScope (top 86), [], []⟩
def D__law_incentives : He.DefD := ⟨("_law_incentives", none), "_law_incentives", "_law_incentives", defArgs (top 87), defBody (top 87), defScope (top 87), [], []⟩
def D__law_mean : He.DefD := ⟨("_law_mean", none), "_law_mean", "_law_mean", defArgs (top 88), defBody (top 88), defScope (top 88), [], []⟩
def D__law_outside : He.DefD := ⟨("_law_outside", none), "_law_outside", "_law_outside", defArgs (top 90), defBody (top 90), defScope (top 90), [], []⟩
def D_check_player : He.DefD := ⟨("check_player", none), "check_player", "check_player", defArgs (top 43), defBody (top 43), defScope (top 43), [], []⟩
def D_check_act : He.DefD := ⟨("check_act", none), "check_act", "check_act", defArgs (top 44), defBody (top 44), defScope (top 44), [], []⟩
def D_gain : He.DefD := ⟨("gain", none), "gain", "gain", defArgs (top 63), defBody (top 63), defScope (top 63), [], []⟩
def D_check_rule : He.DefD := ⟨("check_rule", none), "check_rule", "check_rule", defArgs (top 52), defBody (top 52), defScope (top 52), [], []⟩
def D_rule_gain : He.DefD := ⟨("rule_gain", none), "rule_gain", "rule_gain", defArgs (top 64), defBody (top 64), defScope (top 64), [], []⟩
def D_is_below : He.DefD := ⟨("is_below", none), "is_below", "is_below", defArgs (top 22), defBody (top 22), defScope (top 22), [], []⟩
def D_best_act : He.DefD := ⟨("best_act", none), "best_act", "best_act", defArgs (top 59), defBody (top 59), defScope (top 59), [], []⟩
def D_told_rule : He.DefD := ⟨("told_rule", none), "told_rule", "told_rule", defArgs (top 65), defBody (top 65), defScope (top 65), [], []⟩
def D_outside_gain : He.DefD := ⟨("outside_gain", none), "outside_gain", "outside_gain", defArgs (top 66), defBody (top 66), defScope (top 66), [], []⟩
def D__law_below : He.DefD := ⟨("_law_below", none), "_law_below", "_law_below", defArgs (top 79), defBody (top 79), defScope (top 79), [], []⟩
def D__law_rule_gain : He.DefD := ⟨("_law_rule_gain", none), "_law_rule_gain", "_law_rule_gain", defArgs (top 91), defBody (top 91), defScope (top 91), [], []⟩
def D__law_player_right : He.DefD := ⟨("_law_player_right", none), "_law_player_right", "_law_player_right", defArgs (top 92), defBody (top 92), defScope (top 92), [], []⟩
def D__law_lot_right : He.DefD := ⟨("_law_lot_right", none), "_law_lot_right", "_law_lot_right", defArgs (top 93), defBody (top 93), defScope (top 93), [], []⟩
def D__law_right : He.DefD := ⟨("_law_right", none), "_law_right", "_law_right", defArgs (top 94), defBody (top 94), defScope (top 94), [], []⟩
def D_law : He.DefD := ⟨("law", none), "law", "law", defArgs (top 95), defBody (top 95), defScope (top 95), [], []⟩
structure Fx (K : Frag) (mg : Str → Option Value) (base : Heap) : Prop where
  sys : ∃ o, base.get? sysModules = some o
  n_abs : mg "abs" = none
  n_all : mg "all" = none
  n_bool : mg "bool" = none
  n_divmod : mg "divmod" = none
  n_enumerate : mg "enumerate" = none
  n_int : mg "int" = none
  n_isinstance : mg "isinstance" = none
  n_len : mg "len" = none
  n_list : mg "list" = none
  n_max : mg "max" = none
  n_min : mg "min" = none
  n_range : mg "range" = none
  n_repr : mg "repr" = none
  n_sum : mg "sum" = none
  n_tuple : mg "tuple" = none
  n_zip : mg "zip" = none
  i_MOST_ACTS : ∃ t, mg "MOST_ACTS" = some (.int 4 t)
  i_MOST_DIGITS : ∃ t, mg "MOST_DIGITS" = some (.int 1000000000000 t)
  i_MOST_PLACES : ∃ t, mg "MOST_PLACES" = some (.int 16 t)
  i_MOST_PLAYERS : ∃ t, mg "MOST_PLAYERS" = some (.int 3 t)
  i_MOST_WORTH : ∃ t, mg "MOST_WORTH" = some (.int 99 t)
  t_NOUGHT : ∃ a, mg "NOUGHT" = some (.ref a) ∧ ∀ H, SqT K H a (([0, 1] : List Int).map V.int)
  t_ONE : ∃ a, mg "ONE" = some (.ref a) ∧ ∀ H, SqT K H a (([1, 1] : List Int).map V.int)
  f__law_pot : ∃ (a : Addr) (fd : FuncData), FunD K D__law_pot.name D__law_pot.qual D__law_pot.params D__law_pot.body D__law_pot.scope [] [] a fd ∧ mg "_law_pot" = some (.ref a)
  f_is_list : ∃ (a : Addr) (fd : FuncData), FunD K D_is_list.name D_is_list.qual D_is_list.params D_is_list.body D_is_list.scope [] [] a fd ∧ mg "is_list" = some (.ref a)
  f_tuples_of : ∃ (a : Addr) (fd : FuncData), FunD K D_tuples_of.name D_tuples_of.qual D_tuples_of.params D_tuples_of.body D_tuples_of.scope [] [] a fd ∧ mg "tuples_of" = some (.ref a)
  f_plays_of : ∃ (a : Addr) (fd : FuncData), FunD K D_plays_of.name D_plays_of.qual D_plays_of.params D_plays_of.body D_plays_of.scope [] [] a fd ∧ mg "plays_of" = some (.ref a)
  f_is_integer : ∃ (a : Addr) (fd : FuncData), FunD K D_is_integer.name D_is_integer.qual D_is_integer.params D_is_integer.body D_is_integer.scope [] [] a fd ∧ mg "is_integer" = some (.ref a)
  f_is_within : ∃ (a : Addr) (fd : FuncData), FunD K D_is_within.name D_is_within.qual D_is_within.params D_is_within.body D_is_within.scope [] [] a fd ∧ mg "is_within" = some (.ref a)
  f_are_sizes : ∃ (a : Addr) (fd : FuncData), FunD K D_are_sizes.name D_are_sizes.qual D_are_sizes.params D_are_sizes.body D_are_sizes.scope [] [] a fd ∧ mg "are_sizes" = some (.ref a)
  f_is_worth_row : ∃ (a : Addr) (fd : FuncData), FunD K D_is_worth_row.name D_is_worth_row.qual D_is_worth_row.params D_is_worth_row.body D_is_worth_row.scope [] [] a fd ∧ mg "is_worth_row" = some (.ref a)
  f_is_game_of : ∃ (a : Addr) (fd : FuncData), FunD K D_is_game_of.name D_is_game_of.qual D_is_game_of.params D_is_game_of.body D_is_game_of.scope [] [] a fd ∧ mg "is_game_of" = some (.ref a)
  f_check_game : ∃ (a : Addr) (fd : FuncData), FunD K D_check_game.name D_check_game.qual D_check_game.params D_check_game.body D_check_game.scope [] [] a fd ∧ mg "check_game" = some (.ref a)
  f_divisor : ∃ (a : Addr) (fd : FuncData), FunD K D_divisor.name D_divisor.qual D_divisor.params D_divisor.body D_divisor.scope [] [] a fd ∧ mg "divisor" = some (.ref a)
  f_is_fraction_of : ∃ (a : Addr) (fd : FuncData), FunD K D_is_fraction_of.name D_is_fraction_of.qual D_is_fraction_of.params D_is_fraction_of.body D_is_fraction_of.scope [] [] a fd ∧ mg "is_fraction_of" = some (.ref a)
  f_is_short : ∃ (a : Addr) (fd : FuncData), FunD K D_is_short.name D_is_short.qual D_is_short.params D_is_short.body D_is_short.scope [] [] a fd ∧ mg "is_short" = some (.ref a)
  f_reduced : ∃ (a : Addr) (fd : FuncData), FunD K D_reduced.name D_reduced.qual D_reduced.params D_reduced.body D_reduced.scope [] [] a fd ∧ mg "reduced" = some (.ref a)
  f_add : ∃ (a : Addr) (fd : FuncData), FunD K D_add.name D_add.qual D_add.params D_add.body D_add.scope [] [] a fd ∧ mg "add" = some (.ref a)
  f_total : ∃ (a : Addr) (fd : FuncData), FunD K D_total.name D_total.qual D_total.params D_total.body D_total.scope [] [] a fd ∧ mg "total" = some (.ref a)
  f_is_lot_of : ∃ (a : Addr) (fd : FuncData), FunD K D_is_lot_of.name D_is_lot_of.qual D_is_lot_of.params D_is_lot_of.body D_is_lot_of.scope [] [] a fd ∧ mg "is_lot_of" = some (.ref a)
  f_is_short_lot : ∃ (a : Addr) (fd : FuncData), FunD K D_is_short_lot.name D_is_short_lot.qual D_is_short_lot.params D_is_short_lot.body D_is_short_lot.scope [] [] a fd ∧ mg "is_short_lot" = some (.ref a)
  f_is_plan_of : ∃ (a : Addr) (fd : FuncData), FunD K D_is_plan_of.name D_is_plan_of.qual D_is_plan_of.params D_is_plan_of.body D_is_plan_of.scope [] [] a fd ∧ mg "is_plan_of" = some (.ref a)
  f_check_plans : ∃ (a : Addr) (fd : FuncData), FunD K D_check_plans.name D_check_plans.qual D_check_plans.params D_check_plans.body D_check_plans.scope [] [] a fd ∧ mg "check_plans" = some (.ref a)
  f_multiply : ∃ (a : Addr) (fd : FuncData), FunD K D_multiply.name D_multiply.qual D_multiply.params D_multiply.body D_multiply.scope [] [] a fd ∧ mg "multiply" = some (.ref a)
  f_chances_of : ∃ (a : Addr) (fd : FuncData), FunD K D_chances_of.name D_chances_of.qual D_chances_of.params D_chances_of.body D_chances_of.scope [] [] a fd ∧ mg "chances_of" = some (.ref a)
  f_together : ∃ (a : Addr) (fd : FuncData), FunD K D_together.name D_together.qual D_together.params D_together.body D_together.scope [] [] a fd ∧ mg "together" = some (.ref a)
  f_is_any_lot : ∃ (a : Addr) (fd : FuncData), FunD K D_is_any_lot.name D_is_any_lot.qual D_is_any_lot.params D_is_any_lot.body D_is_any_lot.scope [] [] a fd ∧ mg "is_any_lot" = some (.ref a)
  f_check_told : ∃ (a : Addr) (fd : FuncData), FunD K D_check_told.name D_check_told.qual D_check_told.params D_check_told.body D_check_told.scope [] [] a fd ∧ mg "check_told" = some (.ref a)
  f_check_lot_of : ∃ (a : Addr) (fd : FuncData), FunD K D_check_lot_of.name D_check_lot_of.qual D_check_lot_of.params D_check_lot_of.body D_check_lot_of.scope [] [] a fd ∧ mg "check_lot_of" = some (.ref a)
  f_incentives_of : ∃ (a : Addr) (fd : FuncData), FunD K D_incentives_of.name D_incentives_of.qual D_incentives_of.params D_incentives_of.body D_incentives_of.scope [] [] a fd ∧ mg "incentives_of" = some (.ref a)
  f_products_sum : ∃ (a : Addr) (fd : FuncData), FunD K D_products_sum.name D_products_sum.qual D_products_sum.params D_products_sum.body D_products_sum.scope [] [] a fd ∧ mg "products_sum" = some (.ref a)
  f_mean_by : ∃ (a : Addr) (fd : FuncData), FunD K D_mean_by.name D_mean_by.qual D_mean_by.params D_mean_by.body D_mean_by.scope [] [] a fd ∧ mg "mean_by" = some (.ref a)
  f_with_act : ∃ (a : Addr) (fd : FuncData), FunD K D_with_act.name D_with_act.qual D_with_act.params D_with_act.body D_with_act.scope [] [] a fd ∧ mg "with_act" = some (.ref a)
  f_place_of : ∃ (a : Addr) (fd : FuncData), FunD K D_place_of.name D_place_of.qual D_place_of.params D_place_of.body D_place_of.scope [] [] a fd ∧ mg "place_of" = some (.ref a)
  f_worth_at : ∃ (a : Addr) (fd : FuncData), FunD K D_worth_at.name D_worth_at.qual D_worth_at.params D_worth_at.body D_worth_at.scope [] [] a fd ∧ mg "worth_at" = some (.ref a)
  f_losses_of : ∃ (a : Addr) (fd : FuncData), FunD K D_losses_of.name D_losses_of.qual D_losses_of.params D_losses_of.body D_losses_of.scope [] [] a fd ∧ mg "losses_of" = some (.ref a)
  f_gain_of : ∃ (a : Addr) (fd : FuncData), FunD K D_gain_of.name D_gain_of.qual D_gain_of.params D_gain_of.body D_gain_of.scope [] [] a fd ∧ mg "gain_of" = some (.ref a)
  f_first_incentive : ∃ (a : Addr) (fd : FuncData), FunD K D_first_incentive.name D_first_incentive.qual D_first_incentive.params D_first_incentive.body D_first_incentive.scope [] [] a fd ∧ mg "first_incentive" = some (.ref a)
  f_is_obeyed : ∃ (a : Addr) (fd : FuncData), FunD K D_is_obeyed.name D_is_obeyed.qual D_is_obeyed.params D_is_obeyed.body D_is_obeyed.scope [] [] a fd ∧ mg "is_obeyed" = some (.ref a)
  f_outside_by : ∃ (a : Addr) (fd : FuncData), FunD K D_outside_by.name D_outside_by.qual D_outside_by.params D_outside_by.body D_outside_by.scope [] [] a fd ∧ mg "outside_by" = some (.ref a)
  f_first_outside : ∃ (a : Addr) (fd : FuncData), FunD K D_first_outside.name D_first_outside.qual D_first_outside.params D_first_outside.body D_first_outside.scope [] [] a fd ∧ mg "first_outside" = some (.ref a)
  f_is_accepted : ∃ (a : Addr) (fd : FuncData), FunD K D_is_accepted.name D_is_accepted.qual D_is_accepted.params D_is_accepted.body D_is_accepted.scope [] [] a fd ∧ mg "is_accepted" = some (.ref a)
  f__law_draw : ∃ (a : Addr) (fd : FuncData), FunD K D__law_draw.name D__law_draw.qual D__law_draw.params D__law_draw.body D__law_draw.scope [] [] a fd ∧ mg "_law_draw" = some (.ref a)
  f__law_pick : ∃ (a : Addr) (fd : FuncData), FunD K D__law_pick.name D__law_pick.qual D__law_pick.params D__law_pick.body D__law_pick.scope [] [] a fd ∧ mg "_law_pick" = some (.ref a)
  f__law_divisor : ∃ (a : Addr) (fd : FuncData), FunD K D__law_divisor.name D__law_divisor.qual D__law_divisor.params D__law_divisor.body D__law_divisor.scope [] [] a fd ∧ mg "_law_divisor" = some (.ref a)
  f__law_cut : ∃ (a : Addr) (fd : FuncData), FunD K D__law_cut.name D__law_cut.qual D__law_cut.params D__law_cut.body D__law_cut.scope [] [] a fd ∧ mg "_law_cut" = some (.ref a)
  f__law_lot : ∃ (a : Addr) (fd : FuncData), FunD K D__law_lot.name D__law_lot.qual D__law_lot.params D__law_lot.body D__law_lot.scope [] [] a fd ∧ mg "_law_lot" = some (.ref a)
  f__law_tuples : ∃ (a : Addr) (fd : FuncData), FunD K D__law_tuples.name D__law_tuples.qual D__law_tuples.params D__law_tuples.body D__law_tuples.scope [] [] a fd ∧ mg "_law_tuples" = some (.ref a)
  f__law_game : ∃ (a : Addr) (fd : FuncData), FunD K D__law_game.name D__law_game.qual D__law_game.params D__law_game.body D__law_game.scope [] [] a fd ∧ mg "_law_game" = some (.ref a)
  f__law_plays : ∃ (a : Addr) (fd : FuncData), FunD K D__law_plays.name D__law_plays.qual D__law_plays.params D__law_plays.body D__law_plays.scope [] [] a fd ∧ mg "_law_plays" = some (.ref a)
  f__law_times : ∃ (a : Addr) (fd : FuncData), FunD K D__law_times.name D__law_times.qual D__law_times.params D__law_times.body D__law_times.scope [] [] a fd ∧ mg "_law_times" = some (.ref a)
  f__law_together : ∃ (a : Addr) (fd : FuncData), FunD K D__law_together.name D__law_together.qual D__law_together.params D__law_together.body D__law_together.scope [] [] a fd ∧ mg "_law_together" = some (.ref a)
  f_means : ∃ (a : Addr) (fd : FuncData), FunD K D_means.name D_means.qual D_means.params D_means.body D_means.scope [] [] a fd ∧ mg "means" = some (.ref a)
  f_incentives : ∃ (a : Addr) (fd : FuncData), FunD K D_incentives.name D_incentives.qual D_incentives.params D_incentives.body D_incentives.scope [] [] a fd ∧ mg "incentives" = some (.ref a)
  f_told_incentive : ∃ (a : Addr) (fd : FuncData), FunD K D_told_incentive.name D_told_incentive.qual D_told_incentive.params D_told_incentive.body D_told_incentive.scope [] [] a fd ∧ mg "told_incentive" = some (.ref a)
  f_told_outside : ∃ (a : Addr) (fd : FuncData), FunD K D_told_outside.name D_told_outside.qual D_told_outside.params D_told_outside.body D_told_outside.scope [] [] a fd ∧ mg "told_outside" = some (.ref a)
  f__law_plus : ∃ (a : Addr) (fd : FuncData), FunD K D__law_plus.name D__law_plus.qual D__law_plus.params D__law_plus.body D__law_plus.scope [] [] a fd ∧ mg "_law_plus" = some (.ref a)
  f__law_total : ∃ (a : Addr) (fd : FuncData), FunD K D__law_total.name D__law_total.qual D__law_total.params D__law_total.body D__law_total.scope [] [] a fd ∧ mg "_law_total" = some (.ref a)
  f__law_index : ∃ (a : Addr) (fd : FuncData), FunD K D__law_index.name D__law_index.qual D__law_index.params D__law_index.body D__law_index.scope [] [] a fd ∧ mg "_law_index" = some (.ref a)
  f__law_gain : ∃ (a : Addr) (fd : FuncData), FunD K D__law_gain.name D__law_gain.qual D__law_gain.params D__law_gain.body D__law_gain.scope [] [] a fd ∧ mg "_law_gain" = some (.ref a)
  f__law_incentives : ∃ (a : Addr) (fd : FuncData), FunD K D__law_incentives.name D__law_incentives.qual D__law_incentives.params D__law_incentives.body D__law_incentives.scope [] [] a fd ∧ mg "_law_incentives" = some (.ref a)
  f__law_mean : ∃ (a : Addr) (fd : FuncData), FunD K D__law_mean.name D__law_mean.qual D__law_mean.params D__law_mean.body D__law_mean.scope [] [] a fd ∧ mg "_law_mean" = some (.ref a)
  f__law_outside : ∃ (a : Addr) (fd : FuncData), FunD K D__law_outside.name D__law_outside.qual D__law_outside.params D__law_outside.body D__law_outside.scope [] [] a fd ∧ mg "_law_outside" = some (.ref a)
  f_check_player : ∃ (a : Addr) (fd : FuncData), FunD K D_check_player.name D_check_player.qual D_check_player.params D_check_player.body D_check_player.scope [] [] a fd ∧ mg "check_player" = some (.ref a)
  f_check_act : ∃ (a : Addr) (fd : FuncData), FunD K D_check_act.name D_check_act.qual D_check_act.params D_check_act.body D_check_act.scope [] [] a fd ∧ mg "check_act" = some (.ref a)
  f_gain : ∃ (a : Addr) (fd : FuncData), FunD K D_gain.name D_gain.qual D_gain.params D_gain.body D_gain.scope [] [] a fd ∧ mg "gain" = some (.ref a)
  f_check_rule : ∃ (a : Addr) (fd : FuncData), FunD K D_check_rule.name D_check_rule.qual D_check_rule.params D_check_rule.body D_check_rule.scope [] [] a fd ∧ mg "check_rule" = some (.ref a)
  f_rule_gain : ∃ (a : Addr) (fd : FuncData), FunD K D_rule_gain.name D_rule_gain.qual D_rule_gain.params D_rule_gain.body D_rule_gain.scope [] [] a fd ∧ mg "rule_gain" = some (.ref a)
  f_is_below : ∃ (a : Addr) (fd : FuncData), FunD K D_is_below.name D_is_below.qual D_is_below.params D_is_below.body D_is_below.scope [] [] a fd ∧ mg "is_below" = some (.ref a)
  f_best_act : ∃ (a : Addr) (fd : FuncData), FunD K D_best_act.name D_best_act.qual D_best_act.params D_best_act.body D_best_act.scope [] [] a fd ∧ mg "best_act" = some (.ref a)
  f_told_rule : ∃ (a : Addr) (fd : FuncData), FunD K D_told_rule.name D_told_rule.qual D_told_rule.params D_told_rule.body D_told_rule.scope [] [] a fd ∧ mg "told_rule" = some (.ref a)
  f_outside_gain : ∃ (a : Addr) (fd : FuncData), FunD K D_outside_gain.name D_outside_gain.qual D_outside_gain.params D_outside_gain.body D_outside_gain.scope [] [] a fd ∧ mg "outside_gain" = some (.ref a)
  f__law_below : ∃ (a : Addr) (fd : FuncData), FunD K D__law_below.name D__law_below.qual D__law_below.params D__law_below.body D__law_below.scope [] [] a fd ∧ mg "_law_below" = some (.ref a)
  f__law_rule_gain : ∃ (a : Addr) (fd : FuncData), FunD K D__law_rule_gain.name D__law_rule_gain.qual D__law_rule_gain.params D__law_rule_gain.body D__law_rule_gain.scope [] [] a fd ∧ mg "_law_rule_gain" = some (.ref a)
  f__law_player_right : ∃ (a : Addr) (fd : FuncData), FunD K D__law_player_right.name D__law_player_right.qual D__law_player_right.params D__law_player_right.body D__law_player_right.scope [] [] a fd ∧ mg "_law_player_right" = some (.ref a)
  f__law_lot_right : ∃ (a : Addr) (fd : FuncData), FunD K D__law_lot_right.name D__law_lot_right.qual D__law_lot_right.params D__law_lot_right.body D__law_lot_right.scope [] [] a fd ∧ mg "_law_lot_right" = some (.ref a)
  f__law_right : ∃ (a : Addr) (fd : FuncData), FunD K D__law_right.name D__law_right.qual D__law_right.params D__law_right.body D__law_right.scope [] [] a fd ∧ mg "_law_right" = some (.ref a)
  f_law : ∃ (a : Addr) (fd : FuncData), FunD K D_law.name D_law.qual D_law.params D_law.body D_law.scope [] [] a fd ∧ mg "law" = some (.ref a)
def d__law_pot : DenS := dsSeq (dsAsg (tgName 2 false) (dIte (dBin bLt (dVar 1) (dCl (n1 fLen) [dVar 0])) (dCl (n1 fAbs) [dBin bIdx (dVar 0) (dVar 1)]) (dBin bAdd (dBin bMul (dCst (.int 2767)) (dVar 1)) (dCst (.int 2111)))))
      (dsSeq (dsRet (dLst [dCl (n2 fMax2) [dCst (.int 0), dBin bSub (dVar 2) (dBin bPow (dCst (.int 10)) (dCst (.int 18)))], dBin bAdd (dBin bMod (dCl (n1 fInt) [dBin bAdd (dBin bAdd (dBin bMul (dBin bMod (dCl (n1 fInt) [dVar 2]) (dCst (.int 2147483549))) (dCst (.int 40692))) (dBin bMul (dCst (.int 22901)) (dVar 1))) (dCst (.int 1439))]) (dCst (.int 2147483563))) (dCst (.int 1))]))
      (dsNx))
def f__law_pot : Fn := runF 3 d__law_pot
def d_is_list : DenS := dsSeq (dsRet (dUn (fIsi ["list", "tuple"]) (dVar 0)))
      (dsNx)
def f_is_list : Fn := runF 1 d_is_list
def d_tuples_of : DenS := dsSeq (dsAsg (tgName 1 true) (dLst [dTup []]))
      (dsSeq (dsFor (itSeq (dVar 0)) (tgName 2 false) (dsSeq (dsAsg (tgName 3 true) (dLst []))
      (dsSeq (dsFor (itSeq (dVar 1)) (tgName 4 false) (dsSeq (dsExpr (dExt (dVar 3) (dComp (itRng rng1 [dVar 2]) (tgName 5 false) none (dBin bAdd (dVar 4) (dTup [dVar 5])) [5])))
      (dsNx)))
      (dsSeq (dsAsg (tgName 1 true) (dVar 3))
      (dsNx)))))
      (dsSeq (dsRet (dVar 1))
      (dsNx)))
def f_tuples_of : Fn := runF 6 d_tuples_of
def d_plays_of : DenS := dsSeq (dsRet (dCall 1 f_tuples_of [false] [dVar 0]))
      (dsNx)
def f_plays_of : Fn := runF 1 d_plays_of
def d_is_integer : DenS := dsSeq (dsRet (dAnd (dUn (fIsi ["int"]) (dVar 0)) (dNot (dUn (fIsi ["bool"]) (dVar 0)))))
      (dsNx)
def f_is_integer : Fn := runF 1 d_is_integer
def d_is_within : DenS := dsSeq (dsRet (dAnd (dCall 1 f_is_integer [false] [dVar 0]) (dChain bLe bLe (dVar 1) (dVar 0) (dVar 2))))
      (dsNx)
def f_is_within : Fn := runF 3 d_is_within
def d_are_sizes : DenS := dsSeq (dsIf (dOr (dNot (dUn (fIsi ["tuple"]) (dVar 0))) (dNot (dChain bLe bLe (dCst (.int 1)) (dCl (n1 fLen) [dVar 0]) (dCst (.int 3))))) (dsSeq (dsRet (dCst (.bl false)))
      (dsNx)) (dsNx))
      (dsSeq (dsRet (dCl (n1 fAll) [dComp (itSeq (dVar 0)) (tgName 1 false) none (dCall 3 f_is_within [false, false, false] [dVar 1, dCst (.int 1), dCst (.int 4)]) [1]]))
      (dsNx))
def f_are_sizes : Fn := runF 2 d_are_sizes
def d_is_worth_row : DenS := dsSeq (dsRet (dAnd (dCall 1 f_is_list [false] [dVar 1]) (dAnd (dBin bEq (dCl (n1 fLen) [dVar 1]) (dVar 0)) (dCl (n1 fAll) [dComp (itSeq (dVar 1)) (tgName 2 false) none (dCall 3 f_is_within [false, false, false] [dVar 2, dBin bSub (dCst (.int 0)) (dCst (.int 99)), dCst (.int 99)]) [2]]))))
      (dsNx)
def f_is_worth_row : Fn := runF 3 d_is_worth_row
def d_is_game_of : DenS := dsSeq (dsIf (dOr (dNot (dUn (fIsi ["tuple"]) (dVar 0))) (dOr (dBin bNe (dCl (n1 fLen) [dVar 0]) (dCst (.int 2))) (dOr (dNot (dCall 1 f_are_sizes [false] [dBin bIdx (dVar 0) (dCst (.int 0))])) (dNot (dCall 1 f_is_list [false] [dBin bIdx (dVar 0) (dCst (.int 1))]))))) (dsSeq (dsRet (dCst (.bl false)))
      (dsNx)) (dsNx))
      (dsSeq (dsAsg (tgName 1 false) (dCl (n1 fLen) [dCall 1 f_plays_of [false] [dBin bIdx (dVar 0) (dCst (.int 0))]]))
      (dsSeq (dsRet (dAnd (dBin bEq (dCl (n1 fLen) [dBin bIdx (dVar 0) (dCst (.int 1))]) (dCl (n1 fLen) [dBin bIdx (dVar 0) (dCst (.int 0))])) (dCl (n1 fAll) [dComp (itSeq (dBin bIdx (dVar 0) (dCst (.int 1)))) (tgName 2 false) none (dCall 2 f_is_worth_row [false, false] [dVar 1, dVar 2]) [2]])))
      (dsNx)))
def f_is_game_of : Fn := runF 3 d_is_game_of
def d_check_game : DenS := dsSeq (dsIf (dNot (dCall 1 f_is_game_of [false] [dVar 0])) (dsSeq (dsNo)
      (dsNx)) (dsNx))
      (dsNx)
def f_check_game : Fn := runF 1 d_check_game
def d_divisor : DenS := dsSeq (dsWhile 4000 (dBin bGt (dVar 1) (dCst (.int 0))) (dsSeq (dsPar2 0 1 false false [dVar 1, dBin bMod (dCl (n1 fInt) [dVar 0]) (dVar 1)])
      (dsNx)))
      (dsSeq (dsRet (dVar 0))
      (dsNx))
def f_divisor : Fn := runF 2 d_divisor
def d_is_fraction_of : DenS := dsSeq (dsIf (dOr (dNot (dUn (fIsi ["tuple"]) (dVar 0))) (dOr (dBin bNe (dCl (n1 fLen) [dVar 0]) (dCst (.int 2))) (dOr (dNot (dCall 1 f_is_integer [false] [dBin bIdx (dVar 0) (dCst (.int 0))])) (dNot (dCall 1 f_is_integer [false] [dBin bIdx (dVar 0) (dCst (.int 1))]))))) (dsSeq (dsRet (dCst (.bl false)))
      (dsNx)) (dsNx))
      (dsSeq (dsRet (dAnd (dBin bGe (dBin bIdx (dVar 0) (dCst (.int 1))) (dCst (.int 1))) (dBin bEq (dCall 2 f_divisor [false, false] [dCl (n1 fAbs) [dBin bIdx (dVar 0) (dCst (.int 0))], dBin bIdx (dVar 0) (dCst (.int 1))]) (dCst (.int 1)))))
      (dsNx))
def f_is_fraction_of : Fn := runF 1 d_is_fraction_of
def d_is_short : DenS := dsSeq (dsRet (dAnd (dCall 1 f_is_fraction_of [false] [dVar 0]) (dAnd (dBin bLt (dCl (n1 fAbs) [dBin bIdx (dVar 0) (dCst (.int 0))]) (dCst (.int 1000000000000))) (dBin bLt (dBin bIdx (dVar 0) (dCst (.int 1))) (dCst (.int 1000000000000))))))
      (dsNx)
def f_is_short : Fn := runF 1 d_is_short
def d_reduced : DenS := dsSeq (dsIf (dBin bLt (dVar 1) (dCst (.int 0))) (dsSeq (dsPar2 0 1 false false [dBin bSub (dCst (.int 0)) (dVar 0), dBin bSub (dCst (.int 0)) (dVar 1)])
      (dsNx)) (dsNx))
      (dsSeq (dsAsg (tgName 2 false) (dCall 2 f_divisor [false, false] [dCl (n1 fAbs) [dVar 0], dVar 1]))
      (dsSeq (dsRet (dTup [dBin bDiv (dVar 0) (dVar 2), dBin bDiv (dVar 1) (dVar 2)]))
      (dsNx)))
def f_reduced : Fn := runF 3 d_reduced
def d_add : DenS := dsSeq (dsRet (dCall 2 f_reduced [false, false] [dBin bAdd (dBin bMul (dBin bIdx (dVar 0) (dCst (.int 0))) (dBin bIdx (dVar 1) (dCst (.int 1)))) (dBin bMul (dBin bIdx (dVar 1) (dCst (.int 0))) (dBin bIdx (dVar 0) (dCst (.int 1)))), dBin bMul (dBin bIdx (dVar 0) (dCst (.int 1))) (dBin bIdx (dVar 1) (dCst (.int 1)))]))
      (dsNx)
def f_add : Fn := runF 2 d_add
def d_total : DenS := dsSeq (dsAsg (tgName 1 false) (dCst (.tup [.int 0, .int 1])))
      (dsSeq (dsFor (itSeq (dVar 0)) (tgName 2 false) (dsSeq (dsAsg (tgName 1 false) (dCall 2 f_add [false, false] [dVar 1, dVar 2]))
      (dsNx)))
      (dsSeq (dsRet (dVar 1))
      (dsNx)))
def f_total : Fn := runF 3 d_total
def d_is_lot_of : DenS := dsSeq (dsIf (dOr (dNot (dUn (fIsi ["tuple"]) (dVar 0))) (dNot (dChain bLe bLe (dCst (.int 1)) (dCl (n1 fLen) [dVar 0]) (dCst (.int 16))))) (dsSeq (dsRet (dCst (.bl false)))
      (dsNx)) (dsNx))
      (dsSeq (dsIf (dNot (dCl (n1 fAll) [dComp (itSeq (dVar 0)) (tgName 1 false) none (dAnd (dCall 1 f_is_fraction_of [false] [dVar 1]) (dBin bGe (dBin bIdx (dVar 1) (dCst (.int 0))) (dCst (.int 0)))) [1]])) (dsSeq (dsRet (dCst (.bl false)))
      (dsNx)) (dsNx))
      (dsSeq (dsRet (dBin bEq (dCall 1 f_total [false] [dVar 0]) (dCst (.tup [.int 1, .int 1]))))
      (dsNx)))
def f_is_lot_of : Fn := runF 2 d_is_lot_of
def d_is_short_lot : DenS := dsSeq (dsRet (dAnd (dCall 1 f_is_lot_of [false] [dVar 0]) (dCl (n1 fAll) [dComp (itSeq (dVar 0)) (tgName 1 false) none (dCall 1 f_is_short [false] [dVar 1]) [1]])))
      (dsNx)
def f_is_short_lot : Fn := runF 2 d_is_short_lot
def d_is_plan_of : DenS := dsSeq (dsRet (dAnd (dCall 1 f_is_short_lot [false] [dVar 2]) (dBin bEq (dCl (n1 fLen) [dVar 2]) (dBin bIdx (dBin bIdx (dVar 0) (dCst (.int 0))) (dVar 1)))))
      (dsNx)
def f_is_plan_of : Fn := runF 3 d_is_plan_of
def d_check_plans : DenS := dsSeq (dsIf (dOr (dNot (dCall 1 f_is_list [false] [dVar 1])) (dBin bNe (dCl (n1 fLen) [dVar 1]) (dCl (n1 fLen) [dBin bIdx (dVar 0) (dCst (.int 0))]))) (dsSeq (dsNo)
      (dsNx)) (dsNx))
      (dsSeq (dsIf (dNot (dCl (n1 fAll) [dComp (itEnum (dVar 1)) (tgTup [tgName 2 false, tgName 3 false]) none (dCall 3 f_is_plan_of [false, false, false] [dVar 0, dVar 2, dVar 3]) [2, 3]])) (dsSeq (dsNo)
      (dsNx)) (dsNx))
      (dsNx))
def f_check_plans : Fn := runF 4 d_check_plans
def d_multiply : DenS := dsSeq (dsRet (dCall 2 f_reduced [false, false] [dBin bMul (dBin bIdx (dVar 0) (dCst (.int 0))) (dBin bIdx (dVar 1) (dCst (.int 0))), dBin bMul (dBin bIdx (dVar 0) (dCst (.int 1))) (dBin bIdx (dVar 1) (dCst (.int 1)))]))
      (dsNx)
def f_multiply : Fn := runF 2 d_multiply
def d_chances_of : DenS := dsSeq (dsAsg (tgName 2 true) (dLst [dCst (.tup [.int 1, .int 1])]))
      (dsSeq (dsFor (itSeq (dVar 1)) (tgName 3 false) (dsSeq (dsAsg (tgName 4 true) (dLst []))
      (dsSeq (dsFor (itSeq (dVar 2)) (tgName 5 false) (dsSeq (dsExpr (dExt (dVar 4) (dComp (itSeq (dVar 3)) (tgName 6 false) none (dCall 2 f_multiply [false, false] [dVar 5, dVar 6]) [6])))
      (dsNx)))
      (dsSeq (dsAsg (tgName 2 true) (dVar 4))
      (dsNx)))))
      (dsSeq (dsRet (dVar 2))
      (dsNx)))
def f_chances_of : Fn := runF 7 d_chances_of
def d_together : DenS := dsSeq (dsExpr (dCall 1 f_check_game [false] [dVar 0]))
      (dsSeq (dsExpr (dCall 2 f_check_plans [false, false] [dVar 0, dVar 1]))
      (dsSeq (dsRet (dCl (n1 fTuple) [dCall 2 f_chances_of [false, false] [dBin bIdx (dVar 0) (dCst (.int 0)), dVar 1]]))
      (dsNx)))
def f_together : Fn := runF 2 d_together
def d_is_any_lot : DenS := dsSeq (dsIf (dOr (dNot (dUn (fIsi ["tuple"]) (dVar 1))) (dBin bNe (dCl (n1 fLen) [dVar 1]) (dCl (n1 fLen) [dCall 1 f_plays_of [false] [dBin bIdx (dVar 0) (dCst (.int 0))]]))) (dsSeq (dsRet (dCst (.bl false)))
      (dsNx)) (dsNx))
      (dsSeq (dsRet (dAnd (dCl (n1 fAll) [dComp (itSeq (dVar 1)) (tgName 2 false) none (dAnd (dCall 1 f_is_fraction_of [false] [dVar 2]) (dBin bGe (dBin bIdx (dVar 2) (dCst (.int 0))) (dCst (.int 0)))) [2]]) (dBin bEq (dCall 1 f_total [false] [dVar 1]) (dCst (.tup [.int 1, .int 1])))))
      (dsNx))
def f_is_any_lot : Fn := runF 3 d_is_any_lot
def d_check_told : DenS := dsSeq (dsIf (dOr (dNot (dCall 2 f_is_any_lot [false, false] [dVar 0, dVar 1])) (dNot (dCl (n1 fAll) [dComp (itSeq (dVar 1)) (tgName 2 false) none (dCall 1 f_is_short [false] [dVar 2]) [2]]))) (dsSeq (dsNo)
      (dsNx)) (dsNx))
      (dsNx)
def f_check_told : Fn := runF 3 d_check_told
def d_check_lot_of : DenS := dsSeq (dsExpr (dCall 1 f_check_game [false] [dVar 0]))
      (dsSeq (dsExpr (dCall 2 f_check_told [false, false] [dVar 0, dVar 1]))
      (dsNx))
def f_check_lot_of : Fn := runF 2 d_check_lot_of
def d_incentives_of : DenS := dsSeq (dsAsg (tgName 1 true) (dLst []))
      (dsSeq (dsFor (itEnum (dBin bIdx (dVar 0) (dCst (.int 0)))) (tgTup [tgName 2 false, tgName 3 false]) (dsSeq (dsFor (itRng rng1 [dVar 3]) (tgName 4 false) (dsSeq (dsExpr (dExt (dVar 1) (dComp (itRng rng1 [dVar 3]) (tgName 5 false) (some (dBin bNe (dVar 5) (dVar 4))) (dTup [dVar 2, dVar 4, dVar 5]) [5])))
      (dsNx)))
      (dsNx)))
      (dsSeq (dsRet (dVar 1))
      (dsNx)))
def f_incentives_of : Fn := runF 6 d_incentives_of
def d_products_sum : DenS := dsSeq (dsRet (dCall 1 f_total [false] [dComp (itZip2 [dVar 0, dVar 1]) (tgTup [tgName 2 false, tgName 3 false]) none (dCall 2 f_multiply [false, false] [dVar 2, dVar 3]) [2, 3]]))
      (dsNx)
def f_products_sum : Fn := runF 4 d_products_sum
def d_mean_by : DenS := dsSeq (dsRet (dCall 2 f_products_sum [false, false] [dVar 0, dComp (itSeq (dVar 1)) (tgName 2 false) none (dTup [dVar 2, dCst (.int 1)]) [2]]))
      (dsNx)
def f_mean_by : Fn := runF 3 d_mean_by
def d_with_act : DenS := dsSeq (dsRet (dBin bAdd (dBin bAdd (dSli (dVar 0) none (some (dVar 1))) (dTup [dVar 2])) (dSli (dVar 0) (some (dBin bAdd (dVar 1) (dCst (.int 1)))) none)))
      (dsNx)
def f_with_act : Fn := runF 3 d_with_act
def d_place_of : DenS := dsSeq (dsAsg (tgName 2 false) (dCst (.int 0)))
      (dsSeq (dsFor (itZip2 [dVar 0, dVar 1]) (tgTup [tgName 3 false, tgName 4 false]) (dsSeq (dsAsg (tgName 2 false) (dBin bAdd (dBin bMul (dVar 2) (dVar 3)) (dVar 4)))
      (dsNx)))
      (dsSeq (dsRet (dVar 2))
      (dsNx)))
def f_place_of : Fn := runF 5 d_place_of
def d_worth_at : DenS := dsSeq (dsRet (dBin bIdx (dBin bIdx (dBin bIdx (dVar 0) (dCst (.int 1))) (dVar 1)) (dCall 2 f_place_of [false, false] [dBin bIdx (dVar 0) (dCst (.int 0)), dVar 2])))
      (dsNx)
def f_worth_at : Fn := runF 3 d_worth_at
def d_losses_of : DenS := dsSeq (dsAsg (tgTup [tgName 2 false, tgName 3 false, tgName 4 false]) (dVar 1))
      (dsSeq (dsAsg (tgName 5 true) (dLst []))
      (dsSeq (dsFor (itSeq (dCall 1 f_plays_of [false] [dBin bIdx (dVar 0) (dCst (.int 0))])) (tgName 6 false) (dsSeq (dsAsg (tgName 7 false) (dCall 3 f_worth_at [false, false, false] [dVar 0, dVar 2, dCall 3 f_with_act [false, false, false] [dVar 6, dVar 2, dVar 4]]))
      (dsSeq (dsExpr (dApp (dVar 5) (dIte (dBin bEq (dBin bIdx (dVar 6) (dVar 2)) (dVar 3)) (dBin bSub (dCall 3 f_worth_at [false, false, false] [dVar 0, dVar 2, dVar 6]) (dVar 7)) (dCst (.int 0)))))
      (dsNx))))
      (dsSeq (dsRet (dVar 5))
      (dsNx))))
def f_losses_of : Fn := runF 8 d_losses_of
def d_gain_of : DenS := dsSeq (dsRet (dCall 2 f_mean_by [false, false] [dVar 1, dComp (itSeq (dCall 2 f_losses_of [false, false] [dVar 0, dVar 2])) (tgName 3 false) none (dBin bSub (dCst (.int 0)) (dVar 3)) [3]]))
      (dsNx)
def f_gain_of : Fn := runF 4 d_gain_of
def d_first_incentive : DenS := dsSeq (dsFor (itSeq (dCall 1 f_incentives_of [false] [dVar 0])) (tgName 2 false) (dsSeq (dsIf (dBin bGt (dBin bIdx (dCall 3 f_gain_of [false, false, false] [dVar 0, dVar 1, dVar 2]) (dCst (.int 0))) (dCst (.int 0))) (dsSeq (dsRet (dVar 2))
      (dsNx)) (dsNx))
      (dsNx)))
      (dsSeq (dsRet (dCst .non))
      (dsNx))
def f_first_incentive : Fn := runF 3 d_first_incentive
def d_is_obeyed : DenS := dsSeq (dsExpr (dCall 2 f_check_lot_of [false, false] [dVar 0, dVar 1]))
      (dsSeq (dsRet (dBin bIs (dCall 2 f_first_incentive [false, false] [dVar 0, dVar 1]) (dCst .non)))
      (dsNx))
def f_is_obeyed : Fn := runF 2 d_is_obeyed
def d_outside_by : DenS := dsSeq (dsAsg (tgName 4 true) (dLst []))
      (dsSeq (dsFor (itSeq (dCall 1 f_plays_of [false] [dBin bIdx (dVar 0) (dCst (.int 0))])) (tgName 5 false) (dsSeq (dsExpr (dApp (dVar 4) (dBin bSub (dCall 3 f_worth_at [false, false, false] [dVar 0, dVar 2, dCall 3 f_with_act [false, false, false] [dVar 5, dVar 2, dVar 3]]) (dCall 3 f_worth_at [false, false, false] [dVar 0, dVar 2, dVar 5]))))
      (dsNx)))
      (dsSeq (dsRet (dCall 2 f_mean_by [false, false] [dVar 1, dVar 4]))
      (dsNx)))
def f_outside_by : Fn := runF 6 d_outside_by
def d_first_outside : DenS := dsSeq (dsFor (itEnum (dBin bIdx (dVar 0) (dCst (.int 0)))) (tgTup [tgName 2 false, tgName 3 false]) (dsSeq (dsFor (itRng rng1 [dVar 3]) (tgName 4 false) (dsSeq (dsIf (dBin bGt (dBin bIdx (dCall 4 f_outside_by [false, false, false, false] [dVar 0, dVar 1, dVar 2, dVar 4]) (dCst (.int 0))) (dCst (.int 0))) (dsSeq (dsRet (dTup [dVar 2, dVar 4]))
      (dsNx)) (dsNx))
      (dsNx)))
      (dsNx)))
      (dsSeq (dsRet (dCst .non))
      (dsNx))
def f_first_outside : Fn := runF 5 d_first_outside
def d_is_accepted : DenS := dsSeq (dsExpr (dCall 2 f_check_lot_of [false, false] [dVar 0, dVar 1]))
      (dsSeq (dsRet (dBin bIs (dCall 2 f_first_outside [false, false] [dVar 0, dVar 1]) (dCst .non)))
      (dsNx))
def f_is_accepted : Fn := runF 2 d_is_accepted
def d__law_draw : DenS := dsSeq (dsIf (dBin bGt (dBin bIdx (dVar 0) (dCst (.int 0))) (dCst (.int 0))) (dsSeq (dsAsg (tgTup [tgSub (dVar 0) (dCst (.int 0)), tgName 2 false]) (dCl (n2 fDm) [dBin bIdx (dVar 0) (dCst (.int 0)), dVar 1]))
      (dsSeq (dsRet (dVar 2))
      (dsNx))) (dsNx))
      (dsSeq (dsAsg (tgSub (dVar 0) (dCst (.int 1))) (dBin bMod (dCl (n1 fInt) [dBin bAdd (dBin bMul (dBin bIdx (dVar 0) (dCst (.int 1))) (dCst (.int 40487))) (dCst (.int 10567))]) (dCst (.int 2147483563))))
      (dsSeq (dsRet (dBin bMod (dCl (n1 fInt) [dBin bDiv (dBin bMod (dCl (n1 fInt) [dBin bMul (dBin bIdx (dVar 0) (dCst (.int 1))) (dBin bIdx (dVar 0) (dCst (.int 1)))]) (dCst (.int 2147483549))) (dCst (.int 19))]) (dVar 1)))
      (dsNx)))
def f__law_draw : Fn := runF 3 d__law_draw
def d__law_pick : DenS := dsSeq (dsRet (dBin bIdx (dVar 1) (dCall 2 f__law_draw [true, false] [dVar 0, dCl (n1 fLen) [dVar 1]])))
      (dsNx)
def f__law_pick : Fn := runF 2 d__law_pick
def d__law_divisor : DenS := dsSeq (dsWhile 4000 (dBin bGt (dVar 1) (dCst (.int 0))) (dsSeq (dsPar2 0 1 false false [dVar 1, dBin bMod (dCl (n1 fInt) [dVar 0]) (dVar 1)])
      (dsNx)))
      (dsSeq (dsRet (dVar 0))
      (dsNx))
def f__law_divisor : Fn := runF 2 d__law_divisor
def d__law_cut : DenS := dsSeq (dsIf (dBin bLt (dVar 1) (dCst (.int 0))) (dsSeq (dsPar2 0 1 false false [dUn uNeg (dVar 0), dUn uNeg (dVar 1)])
      (dsNx)) (dsNx))
      (dsSeq (dsAsg (tgName 2 false) (dCall 2 f__law_divisor [false, false] [dCl (n1 fAbs) [dVar 0], dVar 1]))
      (dsSeq (dsRet (dTup [dBin bDiv (dVar 0) (dVar 2), dBin bDiv (dVar 1) (dVar 2)]))
      (dsNx)))
def f__law_cut : Fn := runF 3 d__law_cut
def d__law_lot : DenS := dsSeq (dsAsg (tgName 2 false) (dCall 2 f__law_pick [true, false] [dVar 0, dLst [dCst (.int 2), dCst (.int 4), dCst (.int 9)]]))
      (dsSeq (dsAsg (tgName 3 true) (dComp (itRng rng1 [dVar 1]) (tgName 4 false) none (dCall 2 f__law_draw [true, false] [dVar 0, dVar 2]) [4]))
      (dsSeq (dsIf (dBin bEq (dCl (n1 fSum) [dVar 3]) (dCst (.int 0))) (dsSeq (dsAsg (tgSub (dVar 3) (dCall 2 f__law_draw [true, false] [dVar 0, dVar 1])) (dCst (.int 1)))
      (dsNx)) (dsNx))
      (dsSeq (dsRet (dCl (n1 fTuple) [dComp (itSeq (dVar 3)) (tgName 5 false) none (dCall 2 f__law_cut [false, false] [dVar 5, dCl (n1 fSum) [dVar 3]]) [5]]))
      (dsNx))))
def f__law_lot : Fn := runF 6 d__law_lot
def d__law_tuples : DenS := dsSeq (dsAsg (tgName 1 true) (dLst [dTup []]))
      (dsSeq (dsFor (itSeq (dVar 0)) (tgName 2 false) (dsSeq (dsAsg (tgName 3 true) (dLst []))
      (dsSeq (dsFor (itSeq (dVar 1)) (tgName 4 false) (dsSeq (dsExpr (dExt (dVar 3) (dComp (itRng rng1 [dVar 2]) (tgName 5 false) none (dBin bAdd (dVar 4) (dTup [dVar 5])) [5])))
      (dsNx)))
      (dsSeq (dsAsg (tgName 1 true) (dVar 3))
      (dsNx)))))
      (dsSeq (dsRet (dVar 1))
      (dsNx)))
def f__law_tuples : Fn := runF 6 d__law_tuples
def d__law_game : DenS := dsSeq (dsAsg (tgName 2 false) (dCl (n1 fTuple) [dComp (itRng rng1 [dBin bAdd (dCst (.int 1)) (dCall 2 f__law_draw [true, false] [dVar 0, dCst (.int 3)])]) (tgName 5 false) none (dBin bAdd (dCst (.int 1)) (dCall 2 f__law_draw [true, false] [dVar 0, dCst (.int 4)])) [5]]))
      (dsSeq (dsAsg (tgName 3 false) (dCl (n1 fLen) [dCall 1 f__law_tuples [false] [dVar 2]]))
      (dsSeq (dsWhile 4000 (dBin bGt (dVar 3) (dVar 1)) (dsSeq (dsAsg (tgName 2 false) (dIte (dBin bGt (dBin bIdx (dVar 2) (dUn uNeg (dCst (.int 1)))) (dCst (.int 1))) (dBin bAdd (dSli (dVar 2) none (some (dUn uNeg (dCst (.int 1))))) (dTup [dBin bSub (dBin bIdx (dVar 2) (dUn uNeg (dCst (.int 1)))) (dCst (.int 1))])) (dSli (dVar 2) none (some (dUn uNeg (dCst (.int 1)))))))
      (dsSeq (dsAsg (tgName 3 false) (dCl (n1 fLen) [dCall 1 f__law_tuples [false] [dVar 2]]))
      (dsNx))))
      (dsSeq (dsAsg (tgName 4 false) (dCall 2 f__law_pick [true, false] [dVar 0, dLst [dCst (.int 1), dCst (.int 2), dCst (.int 9), dCst (.int 99)]]))
      (dsSeq (dsRet (dTup [dVar 2, dComp (itSeq (dVar 2)) (tgName 5 false) none (dComp (itRng rng1 [dVar 3]) (tgName 6 false) none (dBin bSub (dCall 2 f__law_draw [true, false] [dVar 0, dBin bAdd (dBin bMul (dCst (.int 2)) (dVar 4)) (dCst (.int 1))]) (dVar 4)) [6]) [5]]))
      (dsNx)))))
def f__law_game : Fn := runF 7 d__law_game
def d__law_plays : DenS := dsSeq (dsRet (dCall 1 f__law_tuples [false] [dBin bIdx (dVar 0) (dCst (.int 0))]))
      (dsNx)
def f__law_plays : Fn := runF 1 d__law_plays
def d__law_times : DenS := dsSeq (dsRet (dCall 2 f__law_cut [false, false] [dBin bMul (dBin bIdx (dVar 0) (dCst (.int 0))) (dBin bIdx (dVar 1) (dCst (.int 0))), dBin bMul (dBin bIdx (dVar 0) (dCst (.int 1))) (dBin bIdx (dVar 1) (dCst (.int 1)))]))
      (dsNx)
def f__law_times : Fn := runF 2 d__law_times
def d__law_together : DenS := dsSeq (dsAsg (tgName 1 true) (dLst [dTup [dCst (.int 1), dCst (.int 1)]]))
      (dsSeq (dsFor (itSeq (dVar 0)) (tgName 2 false) (dsSeq (dsAsg (tgName 3 true) (dLst []))
      (dsSeq (dsFor (itSeq (dVar 1)) (tgName 4 false) (dsSeq (dsExpr (dExt (dVar 3) (dComp (itSeq (dVar 2)) (tgName 5 false) none (dCall 2 f__law_times [false, false] [dVar 4, dVar 5]) [5])))
      (dsNx)))
      (dsSeq (dsAsg (tgName 1 true) (dVar 3))
      (dsNx)))))
      (dsSeq (dsRet (dCl (n1 fTuple) [dVar 1]))
      (dsNx)))
def f__law_together : Fn := runF 6 d__law_together
def d_means : DenS := dsSeq (dsExpr (dCall 2 f_check_lot_of [false, false] [dVar 0, dVar 1]))
      (dsSeq (dsRet (dComp (itSeq (dBin bIdx (dVar 0) (dCst (.int 1)))) (tgName 2 false) none (dCall 2 f_mean_by [false, false] [dVar 1, dVar 2]) [2]))
      (dsNx))
def f_means : Fn := runF 3 d_means
def d_incentives : DenS := dsSeq (dsExpr (dCall 1 f_check_game [false] [dVar 0]))
      (dsSeq (dsRet (dCall 1 f_incentives_of [false] [dVar 0]))
      (dsNx))
def f_incentives : Fn := runF 1 d_incentives
def d_told_incentive : DenS := dsSeq (dsExpr (dCall 2 f_check_lot_of [false, false] [dVar 0, dVar 1]))
      (dsSeq (dsRet (dCall 2 f_first_incentive [false, false] [dVar 0, dVar 1]))
      (dsNx))
def f_told_incentive : Fn := runF 2 d_told_incentive
def d_told_outside : DenS := dsSeq (dsExpr (dCall 2 f_check_lot_of [false, false] [dVar 0, dVar 1]))
      (dsSeq (dsRet (dCall 2 f_first_outside [false, false] [dVar 0, dVar 1]))
      (dsNx))
def f_told_outside : Fn := runF 2 d_told_outside
def d__law_plus : DenS := dsSeq (dsRet (dCall 2 f__law_cut [false, false] [dBin bAdd (dBin bMul (dBin bIdx (dVar 0) (dCst (.int 0))) (dBin bIdx (dVar 1) (dCst (.int 1)))) (dBin bMul (dBin bIdx (dVar 1) (dCst (.int 0))) (dBin bIdx (dVar 0) (dCst (.int 1)))), dBin bMul (dBin bIdx (dVar 0) (dCst (.int 1))) (dBin bIdx (dVar 1) (dCst (.int 1)))]))
      (dsNx)
def f__law_plus : Fn := runF 2 d__law_plus
def d__law_total : DenS := dsSeq (dsAsg (tgName 1 false) (dTup [dCst (.int 0), dCst (.int 1)]))
      (dsSeq (dsFor (itSeq (dVar 0)) (tgName 2 false) (dsSeq (dsAsg (tgName 1 false) (dCall 2 f__law_plus [false, false] [dVar 1, dVar 2]))
      (dsNx)))
      (dsSeq (dsRet (dVar 1))
      (dsNx)))
def f__law_total : Fn := runF 3 d__law_total
def d__law_index : DenS := dsSeq (dsAsg (tgName 2 false) (dCst (.int 0)))
      (dsSeq (dsFor (itZip2 [dVar 0, dVar 1]) (tgTup [tgName 3 false, tgName 4 false]) (dsSeq (dsAsg (tgName 2 false) (dBin bAdd (dBin bMul (dVar 2) (dVar 3)) (dVar 4)))
      (dsNx)))
      (dsSeq (dsRet (dVar 2))
      (dsNx)))
def f__law_index : Fn := runF 5 d__law_index
def d__law_gain : DenS := dsSeq (dsAsg (tgName 5 true) (dLst []))
      (dsSeq (dsFor (itEnum (dCall 1 f__law_plays [false] [dVar 0])) (tgTup [tgName 6 false, tgName 7 false]) (dsSeq (dsIf (dBin bEq (dBin bIdx (dVar 7) (dVar 2)) (dVar 3)) (dsSeq (dsAsg (tgName 8 false) (dBin bAdd (dBin bAdd (dSli (dVar 7) none (some (dVar 2))) (dTup [dVar 4])) (dSli (dVar 7) (some (dBin bAdd (dVar 2) (dCst (.int 1)))) none)))
      (dsSeq (dsAsg (tgName 9 false) (dBin bSub (dBin bIdx (dBin bIdx (dBin bIdx (dVar 0) (dCst (.int 1))) (dVar 2)) (dCall 2 f__law_index [false, false] [dBin bIdx (dVar 0) (dCst (.int 0)), dVar 8])) (dBin bIdx (dBin bIdx (dBin bIdx (dVar 0) (dCst (.int 1))) (dVar 2)) (dVar 6))))
      (dsSeq (dsExpr (dApp (dVar 5) (dCall 2 f__law_times [false, false] [dBin bIdx (dVar 1) (dVar 6), dTup [dVar 9, dCst (.int 1)]])))
      (dsNx)))) (dsNx))
      (dsNx)))
      (dsSeq (dsRet (dCall 1 f__law_total [false] [dVar 5]))
      (dsNx)))
def f__law_gain : Fn := runF 10 d__law_gain
def d__law_incentives : DenS := dsSeq (dsAsg (tgName 1 true) (dLst []))
      (dsSeq (dsFor (itEnum (dBin bIdx (dVar 0) (dCst (.int 0)))) (tgTup [tgName 2 false, tgName 3 false]) (dsSeq (dsFor (itRng rng1 [dVar 3]) (tgName 4 false) (dsSeq (dsExpr (dExt (dVar 1) (dComp (itRng rng1 [dVar 3]) (tgName 5 false) (some (dBin bNe (dVar 5) (dVar 4))) (dTup [dVar 2, dVar 4, dVar 5]) [5])))
      (dsNx)))
      (dsNx)))
      (dsSeq (dsRet (dVar 1))
      (dsNx)))
def f__law_incentives : Fn := runF 6 d__law_incentives
def d__law_mean : DenS := dsSeq (dsRet (dCall 1 f__law_total [false] [dComp (itZip2 [dVar 0, dVar 1]) (tgTup [tgName 2 false, tgName 3 false]) none (dCall 2 f__law_times [false, false] [dVar 2, dTup [dVar 3, dCst (.int 1)]]) [2, 3]]))
      (dsNx)
def f__law_mean : Fn := runF 4 d__law_mean
def d__law_outside : DenS := dsSeq (dsRet (dCall 1 f__law_total [false] [dComp (itRng rng1 [dBin bIdx (dBin bIdx (dVar 0) (dCst (.int 0))) (dVar 2)]) (tgName 4 false) none (dCall 5 f__law_gain [false, false, false, false, false] [dVar 0, dVar 1, dVar 2, dVar 4, dVar 3]) [4]]))
      (dsNx)
def f__law_outside : Fn := runF 5 d__law_outside
def d_check_player : DenS := dsSeq (dsIf (dNot (dCall 3 f_is_within [false, false, false] [dVar 1, dCst (.int 0), dBin bSub (dCl (n1 fLen) [dBin bIdx (dVar 0) (dCst (.int 0))]) (dCst (.int 1))])) (dsSeq (dsNo)
      (dsNx)) (dsNx))
      (dsNx)
def f_check_player : Fn := runF 2 d_check_player
def d_check_act : DenS := dsSeq (dsIf (dNot (dCall 3 f_is_within [false, false, false] [dVar 2, dCst (.int 0), dBin bSub (dBin bIdx (dBin bIdx (dVar 0) (dCst (.int 0))) (dVar 1)) (dCst (.int 1))])) (dsSeq (dsNo)
      (dsNx)) (dsNx))
      (dsNx)
def f_check_act : Fn := runF 3 d_check_act
def d_gain : DenS := dsSeq (dsExpr (dCall 2 f_check_lot_of [false, false] [dVar 0, dVar 1]))
      (dsSeq (dsExpr (dCall 2 f_check_player [false, false] [dVar 0, dVar 2]))
      (dsSeq (dsExpr (dCall 3 f_check_act [false, false, false] [dVar 0, dVar 2, dVar 3]))
      (dsSeq (dsIf (dNot (dCall 3 f_is_within [false, false, false] [dVar 4, dCst (.int 0), dBin bSub (dBin bIdx (dBin bIdx (dVar 0) (dCst (.int 0))) (dVar 2)) (dCst (.int 1))])) (dsSeq (dsNo)
      (dsNx)) (dsNx))
      (dsSeq (dsRet (dCall 3 f_gain_of [false, false, false] [dVar 0, dVar 1, dTup [dVar 2, dVar 3, dVar 4]]))
      (dsNx)))))
def f_gain : Fn := runF 5 d_gain
def d_check_rule : DenS := dsSeq (dsAsg (tgName 3 false) (dBin bIdx (dBin bIdx (dVar 0) (dCst (.int 0))) (dVar 1)))
      (dsSeq (dsIf (dOr (dNot (dCall 1 f_is_list [false] [dVar 2])) (dOr (dBin bNe (dCl (n1 fLen) [dVar 2]) (dVar 3)) (dNot (dCl (n1 fAll) [dComp (itSeq (dVar 2)) (tgName 4 false) none (dCall 3 f_is_within [false, false, false] [dVar 4, dCst (.int 0), dBin bSub (dVar 3) (dCst (.int 1))]) [4]])))) (dsSeq (dsNo)
      (dsNx)) (dsNx))
      (dsNx))
def f_check_rule : Fn := runF 5 d_check_rule
def d_rule_gain : DenS := dsSeq (dsExpr (dCall 2 f_check_lot_of [false, false] [dVar 0, dVar 1]))
      (dsSeq (dsExpr (dCall 2 f_check_player [false, false] [dVar 0, dVar 2]))
      (dsSeq (dsExpr (dCall 3 f_check_rule [false, false, false] [dVar 0, dVar 2, dVar 3]))
      (dsSeq (dsAsg (tgName 4 false) (dCst (.tup [.int 0, .int 1])))
      (dsSeq (dsFor (itEnum (dVar 3)) (tgTup [tgName 5 false, tgName 6 false]) (dsSeq (dsAsg (tgName 4 false) (dCall 2 f_add [false, false] [dVar 4, dCall 3 f_gain_of [false, false, false] [dVar 0, dVar 1, dTup [dVar 2, dVar 5, dVar 6]]]))
      (dsNx)))
      (dsSeq (dsRet (dVar 4))
      (dsNx))))))
def f_rule_gain : Fn := runF 7 d_rule_gain
def d_is_below : DenS := dsSeq (dsRet (dBin bLt (dBin bMul (dBin bIdx (dVar 0) (dCst (.int 0))) (dBin bIdx (dVar 1) (dCst (.int 1)))) (dBin bMul (dBin bIdx (dVar 1) (dCst (.int 0))) (dBin bIdx (dVar 0) (dCst (.int 1))))))
      (dsNx)
def f_is_below : Fn := runF 2 d_is_below
def d_best_act : DenS := dsSeq (dsPar2 4 5 false false [dVar 3, dCst (.tup [.int 0, .int 1])])
      (dsSeq (dsFor (itRng rng1 [dBin bIdx (dBin bIdx (dVar 0) (dCst (.int 0))) (dVar 2)]) (tgName 6 false) (dsSeq (dsAsg (tgName 7 false) (dCall 3 f_gain_of [false, false, false] [dVar 0, dVar 1, dTup [dVar 2, dVar 3, dVar 6]]))
      (dsSeq (dsIf (dCall 2 f_is_below [false, false] [dVar 5, dVar 7]) (dsSeq (dsPar2 4 5 false false [dVar 6, dVar 7])
      (dsNx)) (dsNx))
      (dsNx))))
      (dsSeq (dsRet (dVar 4))
      (dsNx)))
def f_best_act : Fn := runF 8 d_best_act
def d_told_rule : DenS := dsSeq (dsExpr (dCall 2 f_check_lot_of [false, false] [dVar 0, dVar 1]))
      (dsSeq (dsExpr (dCall 2 f_check_player [false, false] [dVar 0, dVar 2]))
      (dsSeq (dsRet (dComp (itRng rng1 [dBin bIdx (dBin bIdx (dVar 0) (dCst (.int 0))) (dVar 2)]) (tgName 3 false) none (dCall 4 f_best_act [false, false, false, false] [dVar 0, dVar 1, dVar 2, dVar 3]) [3]))
      (dsNx)))
def f_told_rule : Fn := runF 4 d_told_rule
def d_outside_gain : DenS := dsSeq (dsExpr (dCall 2 f_check_lot_of [false, false] [dVar 0, dVar 1]))
      (dsSeq (dsExpr (dCall 2 f_check_player [false, false] [dVar 0, dVar 2]))
      (dsSeq (dsExpr (dCall 3 f_check_act [false, false, false] [dVar 0, dVar 2, dVar 3]))
      (dsSeq (dsRet (dCall 4 f_outside_by [false, false, false, false] [dVar 0, dVar 1, dVar 2, dVar 3]))
      (dsNx))))
def f_outside_gain : Fn := runF 4 d_outside_gain
def d__law_below : DenS := dsSeq (dsRet (dBin bLt (dBin bMul (dBin bIdx (dVar 0) (dCst (.int 0))) (dBin bIdx (dVar 1) (dCst (.int 1)))) (dBin bMul (dBin bIdx (dVar 1) (dCst (.int 0))) (dBin bIdx (dVar 0) (dCst (.int 1))))))
      (dsNx)
def f__law_below : Fn := runF 2 d__law_below
def d__law_rule_gain : DenS := dsSeq (dsRet (dCall 1 f__law_total [false] [dComp (itEnum (dVar 3)) (tgTup [tgName 4 false, tgName 5 false]) none (dCall 5 f__law_gain [false, false, false, false, false] [dVar 0, dVar 1, dVar 2, dVar 4, dVar 5]) [4, 5]]))
      (dsNx)
def f__law_rule_gain : Fn := runF 6 d__law_rule_gain
def d__law_player_right : DenS := dsSeq (dsPar2 4 5 false true [dBin bIdx (dBin bIdx (dVar 1) (dCst (.int 0))) (dVar 3), dLst []])
      (dsSeq (dsFor (itRng rng1 [dVar 4]) (tgName 6 false) (dsSeq (dsPar2 7 8 false false [dComp (itRng rng1 [dVar 4]) (tgName 9 false) none (dCall 5 f__law_gain [false, false, false, false, false] [dVar 1, dVar 2, dVar 3, dVar 6, dVar 9]) [9], dCst (.int 0)])
      (dsSeq (dsFor (itEnum (dVar 7)) (tgTup [tgName 9 false, tgName 10 false]) (dsSeq (dsIf (dBin bNe (dRepL [dCall 5 f_gain [false, false, false, false, false] [dVar 1, dVar 2, dVar 3, dVar 6, dVar 9], dCallK 5 f_gain [4, 3, 2, 1, 0] [false, false, false, false, false] [] [dVar 9, dVar 6, dVar 3, dVar 2, dVar 1]]) (dRepL [dVar 10, dVar 10])) (dsSeq (dsRet (dCst (.bl false)))
      (dsNx)) (dsNx))
      (dsSeq (dsAsg (tgName 8 false) (dIte (dCall 2 f__law_below [false, false] [dBin bIdx (dVar 7) (dVar 8), dVar 10]) (dVar 9) (dVar 8)))
      (dsNx))))
      (dsSeq (dsExpr (dApp (dVar 5) (dIte (dBin bGt (dBin bIdx (dBin bIdx (dVar 7) (dVar 8)) (dCst (.int 0))) (dCst (.int 0))) (dVar 8) (dVar 6))))
      (dsSeq (dsAsg (tgName 10 false) (dCall 4 f__law_outside [false, false, false, false] [dVar 1, dVar 2, dVar 3, dVar 6]))
      (dsSeq (dsIf (dBin bNe (dRepL [dCall 4 f_outside_gain [false, false, false, false] [dVar 1, dVar 2, dVar 3, dVar 6], dCallK 4 f_outside_gain [3, 2, 1, 0] [false, false, false, false] [] [dVar 6, dVar 3, dVar 2, dVar 1]]) (dRepL [dVar 10, dVar 10])) (dsSeq (dsRet (dCst (.bl false)))
      (dsNx)) (dsNx))
      (dsSeq (dsIf (dBin bNe (dCall 4 f_rule_gain [false, false, false, false] [dVar 1, dVar 2, dVar 3, dBin bMul (dLst [dVar 6]) (dVar 4)]) (dVar 10)) (dsSeq (dsRet (dCst (.bl false)))
      (dsNx)) (dsNx))
      (dsNx))))))))
      (dsSeq (dsIf (dBin bNe (dRepL [dCall 3 f_told_rule [false, false, false] [dVar 1, dVar 2, dVar 3], dCallK 3 f_told_rule [2, 1, 0] [false, false, false] [] [dVar 3, dVar 2, dVar 1]]) (dRepL [dVar 5, dVar 5])) (dsSeq (dsRet (dCst (.bl false)))
      (dsNx)) (dsNx))
      (dsSeq (dsAsg (tgName 10 false) (dCall 4 f__law_rule_gain [false, false, false, false] [dVar 1, dVar 2, dVar 3, dVar 5]))
      (dsSeq (dsFor (itRng rng1 [dCst (.int 4)]) (tgName 11 false) (dsSeq (dsAsg (tgName 9 false) (dComp (itRng rng1 [dVar 4]) (tgName 6 false) none (dCall 2 f__law_draw [true, false] [dVar 0, dVar 4]) [6]))
      (dsSeq (dsAsg (tgName 12 false) (dCall 4 f__law_rule_gain [false, false, false, false] [dVar 1, dVar 2, dVar 3, dVar 9]))
      (dsSeq (dsIf (dBin bNe (dRepL [dCall 4 f_rule_gain [false, false, false, false] [dVar 1, dVar 2, dVar 3, dVar 9], dCallK 4 f_rule_gain [3, 2, 1, 0] [false, false, false, false] [] [dCl (n1 fTuple) [dVar 9], dVar 3, dVar 2, dVar 1]]) (dRepL [dVar 12, dVar 12])) (dsSeq (dsRet (dCst (.bl false)))
      (dsNx)) (dsNx))
      (dsSeq (dsIf (dCall 2 f__law_below [false, false] [dVar 10, dVar 12]) (dsSeq (dsRet (dCst (.bl false)))
      (dsNx)) (dsNx))
      (dsNx))))))
      (dsSeq (dsAsg (tgName 13 true) (dCall 3 f_told_rule [false, false, false] [dVar 1, dVar 2, dVar 3]))
      (dsSeq (dsExpr (dApp (dVar 13) (dCst .non)))
      (dsSeq (dsRet (dAnd (dBin bEq (dCall 3 f_told_rule [false, false, false] [dVar 1, dVar 2, dVar 3]) (dVar 5)) (dBin bEq (dCall 4 f_rule_gain [false, false, false, false] [dVar 1, dVar 2, dVar 3, dLRng (dVar 4)]) (dTup [dCst (.int 0), dCst (.int 1)]))))
      (dsNx))))))))
def f__law_player_right : Fn := runF 14 d__law_player_right
def d__law_lot_right : DenS := dsSeq (dsPar2 3 4 false false [dRepL [dVar 1, dVar 2], dCall 1 f__law_incentives [false] [dVar 1]])
      (dsSeq (dsAsg (tgName 5 false) (dComp (itSeq (dBin bIdx (dVar 1) (dCst (.int 1)))) (tgName 13 false) none (dCall 2 f__law_mean [false, false] [dVar 2, dVar 13]) [13]))
      (dsSeq (dsIf (dBin bNe (dRepL [dCall 2 f_means [false, false] [dVar 1, dVar 2], dCallK 2 f_means [1, 0] [false, false] [] [dVar 2, dVar 1], dCall 1 f_incentives [false] [dVar 1]]) (dRepL [dVar 5, dVar 5, dVar 4])) (dsSeq (dsRet (dCst (.bl false)))
      (dsNx)) (dsNx))
      (dsSeq (dsIf (dNot (dCl (n1 fAll) [dComp (itRng rng1 [dCl (n1 fLen) [dBin bIdx (dVar 1) (dCst (.int 0))]]) (tgName 9 false) none (dCall 4 f__law_player_right [true, false, false, false] [dVar 0, dVar 1, dVar 2, dVar 9]) [9]])) (dsSeq (dsRet (dCst (.bl false)))
      (dsNx)) (dsNx))
      (dsSeq (dsAsg (tgName 6 false) (dComp (itSeq (dVar 4)) (tgName 14 false) (some (dBin bGt (dBin bIdx (dCall 5 f__law_gain [false, false, false, false, false] [dVar 1, dVar 2, dBin bIdx (dVar 14) (dCst (.int 0)), dBin bIdx (dVar 14) (dCst (.int 1)), dBin bIdx (dVar 14) (dCst (.int 2))]) (dCst (.int 0))) (dCst (.int 0)))) (dVar 14) [14]))
      (dsSeq (dsAsg (tgName 7 false) (dIte (dBin bNe (dVar 6) (dLst [])) (dBin bIdx (dVar 6) (dCst (.int 0))) (dCst .non)))
      (dsSeq (dsIf (dBin bNe (dRepL [dCall 2 f_told_incentive [false, false] [dVar 1, dVar 2], dCallK 2 f_told_incentive [1, 0] [false, false] [] [dVar 2, dVar 1]]) (dRepL [dVar 7, dVar 7])) (dsSeq (dsRet (dCst (.bl false)))
      (dsNx)) (dsNx))
      (dsSeq (dsAsg (tgName 8 true) (dLst []))
      (dsSeq (dsFor (itEnum (dBin bIdx (dVar 1) (dCst (.int 0)))) (tgTup [tgName 9 false, tgName 10 false]) (dsSeq (dsExpr (dExt (dVar 8) (dComp (itRng rng1 [dVar 10]) (tgName 15 false) (some (dBin bGt (dBin bIdx (dCall 4 f__law_outside [false, false, false, false] [dVar 1, dVar 2, dVar 9, dVar 15]) (dCst (.int 0))) (dCst (.int 0)))) (dTup [dVar 9, dVar 15]) [15])))
      (dsNx)))
      (dsSeq (dsAsg (tgName 11 false) (dIte (dBin bNe (dVar 8) (dLst [])) (dBin bIdx (dVar 8) (dCst (.int 0))) (dCst .non)))
      (dsSeq (dsIf (dBin bNe (dRepL [dCall 2 f_told_outside [false, false] [dVar 1, dVar 2], dCallK 2 f_told_outside [1, 0] [false, false] [] [dVar 2, dVar 1]]) (dRepL [dVar 11, dVar 11])) (dsSeq (dsRet (dCst (.bl false)))
      (dsNx)) (dsNx))
      (dsSeq (dsIf (dBin bNe (dRepL [dCall 2 f_is_obeyed [false, false] [dVar 1, dVar 2], dCallK 2 f_is_obeyed [1, 0] [false, false] [] [dVar 2, dVar 1]]) (dCl (n1 fRepr) [dBin bMul (dLst [dBin bIs (dVar 7) (dCst .non)]) (dCst (.int 2))])) (dsSeq (dsRet (dCst (.bl false)))
      (dsNx)) (dsNx))
      (dsSeq (dsIf (dOr (dBin bNe (dRepL [dCall 2 f_is_accepted [false, false] [dVar 1, dVar 2], dCallK 2 f_is_accepted [1, 0] [false, false] [] [dVar 2, dVar 1]]) (dCl (n1 fRepr) [dBin bMul (dLst [dBin bIs (dVar 11) (dCst .non)]) (dCst (.int 2))])) (dAnd (dBin bIs (dVar 7) (dCst .non)) (dBin bIsN (dVar 11) (dCst .non)))) (dsSeq (dsRet (dCst (.bl false)))
      (dsNx)) (dsNx))
      (dsSeq (dsAsg (tgName 12 true) (dCall 2 f_means [false, false] [dVar 1, dVar 2]))
      (dsSeq (dsExpr (dApp (dVar 12) (dCst .non)))
      (dsSeq (dsRet (dAnd (dBin bEq (dCl (n1 fRepr) [dCall 2 f_means [false, false] [dVar 1, dVar 2]]) (dCl (n1 fRepr) [dVar 5])) (dBin bEq (dRepL [dVar 1, dVar 2]) (dVar 3))))
      (dsNx))))))))))))))))
def f__law_lot_right : Fn := runF 16 d__law_lot_right
def d__law_right : DenS := dsSeq (dsAsg (tgName 1 false) (dCall 2 f__law_game [true, false] [dVar 0, dCst (.int 24)]))
      (dsSeq (dsIf (dNot (dCall 3 f__law_lot_right [true, false, false] [dVar 0, dVar 1, dCall 2 f__law_lot [true, false] [dVar 0, dCl (n1 fLen) [dCall 1 f__law_plays [false] [dVar 1]]]])) (dsSeq (dsRet (dCst (.bl false)))
      (dsNx)) (dsNx))
      (dsSeq (dsAsg (tgName 2 false) (dComp (itSeq (dBin bIdx (dVar 1) (dCst (.int 0)))) (tgName 4 false) none (dCall 2 f__law_lot [true, false] [dVar 0, dVar 4]) [4]))
      (dsSeq (dsAsg (tgName 3 false) (dCall 1 f__law_together [false] [dVar 2]))
      (dsSeq (dsIf (dBin bNe (dRepL [dCall 2 f_together [false, false] [dVar 1, dVar 2], dCallK 2 f_together [1, 0] [false, false] [] [dCl (n1 fTuple) [dVar 2], dVar 1]]) (dRepL [dVar 3, dVar 3])) (dsSeq (dsRet (dCst (.bl false)))
      (dsNx)) (dsNx))
      (dsSeq (dsRet (dAnd (dCall 3 f__law_lot_right [true, false, false] [dVar 0, dVar 1, dVar 3]) (dBin bEq (dCall 2 f_is_obeyed [false, false] [dVar 1, dVar 3]) (dCall 2 f_is_accepted [false, false] [dVar 1, dVar 3]))))
      (dsNx))))))
def f__law_right : Fn := runF 5 d__law_right
def d_law : DenS := dsSeq (dsRet (dCl (n1 fAll) [dComp (itRng rng1 [dCl (n2 fMax2) [dCst (.int 1), dCl (n2 fMin2) [dCst (.int 2), dCl (n1 fLen) [dVar 0]]]]) (tgName 1 false) none (dCall 1 f__law_right [true] [dCall 2 f__law_pot [false, false] [dVar 0, dVar 1]]) [1]]))
      (dsNx)
def f_law : Fn := runF 2 d_law
theorem S__law_pot : FnScope ["script", "k", "cell"] ["script", "k"] D__law_pot.scope := ⟨rfl, rfl, rfl, by decide +kernel, rfl, by decide +kernel, by decide +kernel⟩
theorem b__law_pot (kV doc pm : Value) (an : Option Addr) (cdv ct : Value) (us : List Value) (h : us.length = (["script", "k"] : List Str).length) : bindArgs (PySem.W.fnOf D__law_pot.name D__law_pot.qual D__law_pot.params D__law_pot.body D__law_pot.scope .none kV doc pm an cdv ct) ⟨us, []⟩ = pure ((["script", "k"] : List Str).zip us) := match us, h with | [_, _], _ => rfl
theorem c__law_pot {P : Program} {w : World} {K : Frag} {mg : Str → Option Value} {base : Heap} (fx : Fx K mg base) : CalG P w K mg base 1 "_law_pot" D__law_pot ["script", "k"] f__law_pot := by
  obtain ⟨a, fd, F, hm⟩ := fx.f__law_pot
  refine calG (D := D__law_pot) (N := ["script", "k", "cell"]) (k := 0) (d := d__law_pot) F hm S__law_pot fun cdv A outer s H hr hgd => ?_
  exact pss_d1 (ps_dset (n := 2) (mu := false) S__law_pot.nd rfl (.inl rfl) (.inl rfl) (pe_dite (pt_dcmp o_lt (pe_dvar (i := 1) rfl (.inl rfl) nd_k nc_k) (pe_dcb c_len rfl fx.n_len bb_len (pa_d1 (pe_dvar (i := 0) rfl (.inl rfl) nd_script nc_script) (pa_d0)) (by decide) nd_len) rfl) (pe_dcb c_abs rfl fx.n_abs bb_abs (pa_d1 (pe_dix (pe_dvar (i := 0) rfl (.inl rfl) nd_script nc_script) (pe_dvar (i := 1) rfl (.inl rfl) nd_k nc_k) (fun _ _ _ _ h => nomatch h)) (pa_d0)) (by decide) nd_abs) (pe_dbin o_add (pe_dbin o_mul (pe_dint) (pe_dvar (i := 1) rfl (.inl rfl) nd_k nc_k)) (pe_dint))) rfl)
      (pss_d1 (ps_dret (pe_dlst (pa_d1 (pe_dcb (c_max2 rfl) rfl fx.n_max bb_max (pa_d1 (pe_dint) (pa_d1 (pe_dbin o_sub (pe_dvar (i := 2) rfl (.inl rfl) nd_cell nc_cell) (pe_dbin o_pow (pe_dint) (pe_dint))) (pa_d0))) (by decide) nd_max) (pa_d1 (pe_dbin o_add (pe_dbin o_mod (pe_dct c_int rfl fx.n_int bb_int (pa_d1 (pe_dbin o_add (pe_dbin o_add (pe_dbin o_mul (pe_dbin o_mod (pe_dct c_int rfl fx.n_int bb_int (pa_d1 (pe_dvar (i := 2) rfl (.inl rfl) nd_cell nc_cell) (pa_d0)) (by decide) nd_int) (pe_dint)) (pe_dint)) (pe_dbin o_mul (pe_dint) (pe_dvar (i := 1) rfl (.inl rfl) nd_k nc_k))) (pe_dint)) (pa_d0)) (by decide) nd_int) (pe_dint)) (pe_dint)) (pa_d0)))))
      (pss_d0))
theorem S_is_list : FnScope ["value"] ["value"] D_is_list.scope := ⟨rfl, rfl, rfl, by decide +kernel, rfl, by decide +kernel, by decide +kernel⟩
theorem b_is_list (kV doc pm : Value) (an : Option Addr) (cdv ct : Value) (us : List Value) (h : us.length = (["value"] : List Str).length) : bindArgs (PySem.W.fnOf D_is_list.name D_is_list.qual D_is_list.params D_is_list.body D_is_list.scope .none kV doc pm an cdv ct) ⟨us, []⟩ = pure ((["value"] : List Str).zip us) := match us, h with | [_], _ => rfl
theorem c_is_list {P : Program} {w : World} {K : Frag} {mg : Str → Option Value} {base : Heap} (fx : Fx K mg base) : CalG P w K mg base 1 "is_list" D_is_list ["value"] f_is_list := by
  obtain ⟨a, fd, F, hm⟩ := fx.f_is_list
  refine calG (D := D_is_list) (N := ["value"]) (k := 0) (d := d_is_list) F hm S_is_list fun cdv A outer s H hr hgd => ?_
  exact pss_d1 (ps_dret (pe_disi2 rfl fx.n_isinstance rfl fx.n_list bb_list (by decide) nd_list rfl fx.n_tuple bb_tuple (by decide) nd_tuple (pe_dvar (i := 0) rfl (.inl rfl) nd_value nc_value) rfl))
      (pss_d0)
theorem S_tuples_of : FnScope ["sizes", "found", "many", "longer", "one", "number"] ["sizes"] D_tuples_of.scope := ⟨rfl, rfl, rfl, by decide +kernel, rfl, by decide +kernel, by decide +kernel⟩
theorem b_tuples_of (kV doc pm : Value) (an : Option Addr) (cdv ct : Value) (us : List Value) (h : us.length = (["sizes"] : List Str).length) : bindArgs (PySem.W.fnOf D_tuples_of.name D_tuples_of.qual D_tuples_of.params D_tuples_of.body D_tuples_of.scope .none kV doc pm an cdv ct) ⟨us, []⟩ = pure ((["sizes"] : List Str).zip us) := match us, h with | [_], _ => rfl
theorem c_tuples_of {P : Program} {w : World} {K : Frag} {mg : Str → Option Value} {base : Heap} (fx : Fx K mg base) : CalG P w K mg base 1 "tuples_of" D_tuples_of ["sizes"] f_tuples_of := by
  obtain ⟨a, fd, F, hm⟩ := fx.f_tuples_of
  refine calG (D := D_tuples_of) (N := ["sizes", "found", "many", "longer", "one", "number"]) (k := 0) (d := d_tuples_of) F hm S_tuples_of fun cdv A outer s H hr hgd => ?_
  exact pss_d1 (ps_dset (n := 1) (mu := true) S_tuples_of.nd rfl (.inl rfl) (.inl rfl) (pe_dlst (pa_d1 (pe_dtup (pa_d0)) (pa_d0))) rfl)
      (pss_d1 (ps_dfor PassesOwn.never rfl (pi_dseq (pe_dvar (i := 0) rfl (.inl rfl) nd_sizes nc_sizes)) (pg_dname (n := 2) S_tuples_of.nd rfl (.inl rfl) (.inl rfl)) (pss_d1 (ps_dset (n := 3) (mu := true) S_tuples_of.nd rfl (.inl rfl) (.inl rfl) (pe_dlst (pa_d0)) rfl)
      (pss_d1 (ps_dfor PassesOwn.never rfl (pi_dseq (pe_dvar (i := 1) rfl (.inl rfl) nd_found nc_found)) (pg_dname (n := 4) S_tuples_of.nd rfl (.inr rfl) (.inl rfl)) (pss_d1 (ps_dexpr (pe_dext ⟨rfl, rfl, rfl⟩ (fun _ _ h => nomatch h) (pe_dvar (i := 3) rfl (.inl rfl) nd_longer nc_longer) (pe_dcomp (own := [("number", 5)]) (is := [5]) rfl S_tuples_of.nd (pi_drng1 rfl fx.n_range (pa_d1 (pe_dvar (i := 2) rfl (.inl rfl) nd_many nc_many) (pa_d0))) rfl (fun _ _ _ _ _ => pg_dname (n := 5) S_tuples_of.nd rfl (.inl rfl) (.inr rfl)) (fun _ _ _ _ _ => pts_nil) (fun _ _ _ _ _ => pe_dbin o_add (pe_dvar (i := 4) rfl (.inr (.inl rfl)) nd_one nc_one) (pe_dtup (pa_d1 (pe_dvar (i := 5) rfl (.inl rfl) nd_number nc_number) (pa_d0)))) (fun _ => rfl) rfl)) rfl)
      (pss_d0)) (fun _ => rfl))
      (pss_d1 (ps_dset (n := 1) (mu := true) S_tuples_of.nd rfl (.inl rfl) (.inl rfl) (pe_dvar (i := 3) rfl (.inl rfl) nd_longer nc_longer) rfl)
      (pss_d0)))) (fun _ => rfl))
      (pss_d1 (ps_dret (pe_dvar (i := 1) rfl (.inl rfl) nd_found nc_found))
      (pss_d0)))
theorem S_plays_of : FnScope ["sizes"] ["sizes"] D_plays_of.scope := ⟨rfl, rfl, rfl, by decide +kernel, rfl, by decide +kernel, by decide +kernel⟩
theorem b_plays_of (kV doc pm : Value) (an : Option Addr) (cdv ct : Value) (us : List Value) (h : us.length = (["sizes"] : List Str).length) : bindArgs (PySem.W.fnOf D_plays_of.name D_plays_of.qual D_plays_of.params D_plays_of.body D_plays_of.scope .none kV doc pm an cdv ct) ⟨us, []⟩ = pure ((["sizes"] : List Str).zip us) := match us, h with | [_], _ => rfl
theorem c_plays_of {P : Program} {w : World} {K : Frag} {mg : Str → Option Value} {base : Heap} (fx : Fx K mg base) : CalG P w K mg base 2 "plays_of" D_plays_of ["sizes"] f_plays_of := by
  obtain ⟨a, fd, F, hm⟩ := fx.f_plays_of
  refine calG (D := D_plays_of) (N := ["sizes"]) (k := 1) (d := d_plays_of) F hm S_plays_of fun cdv A outer s H hr hgd => ?_
  exact pss_d1 (ps_dret (pe_gcall (mus := [false]) (c_tuples_of fx) hr (by decide) hgd rfl rfl b_tuples_of (pa_d1 (pe_dvar (i := 0) rfl (.inl rfl) nd_sizes nc_sizes) (pa_d0)) nd_tuples_of))
      (pss_d0)
theorem S_is_integer : FnScope ["value"] ["value"] D_is_integer.scope := ⟨rfl, rfl, rfl, by decide +kernel, rfl, by decide +kernel, by decide +kernel⟩
theorem b_is_integer (kV doc pm : Value) (an : Option Addr) (cdv ct : Value) (us : List Value) (h : us.length = (["value"] : List Str).length) : bindArgs (PySem.W.fnOf D_is_integer.name D_is_integer.qual D_is_integer.params D_is_integer.body D_is_integer.scope .none kV doc pm an cdv ct) ⟨us, []⟩ = pure ((["value"] : List Str).zip us) := match us, h with | [_], _ => rfl
theorem c_is_integer {P : Program} {w : World} {K : Frag} {mg : Str → Option Value} {base : Heap} (fx : Fx K mg base) : CalG P w K mg base 1 "is_integer" D_is_integer ["value"] f_is_integer := by
  obtain ⟨a, fd, F, hm⟩ := fx.f_is_integer
  refine calG (D := D_is_integer) (N := ["value"]) (k := 0) (d := d_is_integer) F hm S_is_integer fun cdv A outer s H hr hgd => ?_
  exact pss_d1 (ps_dret (pe_dand (pe_disi rfl fx.n_isinstance rfl fx.n_int bb_int (by decide) nd_int (pe_dvar (i := 0) rfl (.inl rfl) nd_value nc_value) rfl) (pe_d1 (pe_dnot (pe_disi rfl fx.n_isinstance rfl fx.n_bool bb_bool (by decide) nd_bool (pe_dvar (i := 0) rfl (.inl rfl) nd_value nc_value) rfl)))))
      (pss_d0)
theorem S_is_within : FnScope ["value", "least", "most"] ["value", "least", "most"] D_is_within.scope := ⟨rfl, rfl, rfl, by decide +kernel, rfl, by decide +kernel, by decide +kernel⟩
theorem b_is_within (kV doc pm : Value) (an : Option Addr) (cdv ct : Value) (us : List Value) (h : us.length = (["value", "least", "most"] : List Str).length) : bindArgs (PySem.W.fnOf D_is_within.name D_is_within.qual D_is_within.params D_is_within.body D_is_within.scope .none kV doc pm an cdv ct) ⟨us, []⟩ = pure ((["value", "least", "most"] : List Str).zip us) := match us, h with | [_, _, _], _ => rfl
theorem c_is_within {P : Program} {w : World} {K : Frag} {mg : Str → Option Value} {base : Heap} (fx : Fx K mg base) : CalG P w K mg base 2 "is_within" D_is_within ["value", "least", "most"] f_is_within := by
  obtain ⟨a, fd, F, hm⟩ := fx.f_is_within
  refine calG (D := D_is_within) (N := ["value", "least", "most"]) (k := 1) (d := d_is_within) F hm S_is_within fun cdv A outer s H hr hgd => ?_
  exact pss_d1 (ps_dret (pe_dand (pe_gcall (mus := [false]) (c_is_integer fx) hr (by decide) hgd rfl rfl b_is_integer (pa_d1 (pe_dvar (i := 0) rfl (.inl rfl) nd_value nc_value) (pa_d0)) nd_is_integer) (pe_d1 (pe_dchain o_le o_le (pe_dvar (i := 1) rfl (.inl rfl) nd_least nc_least) (pe_dvar (i := 0) rfl (.inl rfl) nd_value nc_value) (pe_dvar (i := 2) rfl (.inl rfl) nd_most nc_most) rfl))))
      (pss_d0)
theorem S_are_sizes : FnScope ["value", "one"] ["value"] D_are_sizes.scope := ⟨rfl, rfl, rfl, by decide +kernel, rfl, by decide +kernel, by decide +kernel⟩
theorem b_are_sizes (kV doc pm : Value) (an : Option Addr) (cdv ct : Value) (us : List Value) (h : us.length = (["value"] : List Str).length) : bindArgs (PySem.W.fnOf D_are_sizes.name D_are_sizes.qual D_are_sizes.params D_are_sizes.body D_are_sizes.scope .none kV doc pm an cdv ct) ⟨us, []⟩ = pure ((["value"] : List Str).zip us) := match us, h with | [_], _ => rfl
theorem c_are_sizes {P : Program} {w : World} {K : Frag} {mg : Str → Option Value} {base : Heap} (fx : Fx K mg base) : CalG P w K mg base 3 "are_sizes" D_are_sizes ["value"] f_are_sizes := by
  obtain ⟨a, fd, F, hm⟩ := fx.f_are_sizes
  refine calG (D := D_are_sizes) (N := ["value", "one"]) (k := 2) (d := d_are_sizes) F hm S_are_sizes fun cdv A outer s H hr hgd => ?_
  exact pss_d1 (ps_dif (PW.pt (pw_dor (pt_dnot (pt_dval (pe_disi rfl fx.n_isinstance rfl fx.n_tuple bb_tuple (by decide) nd_tuple (pe_dvar (i := 0) rfl (.inl rfl) nd_value nc_value) rfl) (fun _ => rfl))) (pw_d1 (pt_dnot (pt_dchain o_le o_le (pe_dint) (pe_dcb c_len rfl fx.n_len bb_len (pa_d1 (pe_dvar (i := 0) rfl (.inl rfl) nd_value nc_value) (pa_d0)) (by decide) nd_len) (glInt rfl fx.i_MOST_PLAYERS nd_MOST_PLAYERS) rfl))))) (pss_d1 (ps_dret (pe_dbl))
      (pss_d0)) (pss_d0))
      (pss_d1 (ps_dret (pe_dcb (c_all rfl) rfl fx.n_all bb_all (pa_d1 (pe_dcomp (own := [("one", 1)]) (is := [1]) rfl S_are_sizes.nd (pi_dseq (pe_dvar (i := 0) rfl (.inl rfl) nd_value nc_value)) rfl (fun _ _ _ _ _ => pg_dname (n := 1) S_are_sizes.nd rfl (.inl rfl) (.inr rfl)) (fun _ _ _ _ _ => pts_nil) (fun _ _ _ _ _ => pe_gcall (mus := [false, false, false]) (c_is_within fx) hr (by decide) hgd rfl rfl b_is_within (pa_d1 (pe_dvar (i := 1) rfl (.inl rfl) nd_one nc_one) (pa_d1 (pe_dint) (pa_d1 (glInt rfl fx.i_MOST_ACTS nd_MOST_ACTS) (pa_d0)))) nd_is_within) (fun _ => rfl) rfl) (pa_d0)) (by decide) nd_all))
      (pss_d0))
theorem S_is_worth_row : FnScope ["many", "value", "one"] ["many", "value"] D_is_worth_row.scope := ⟨rfl, rfl, rfl, by decide +kernel, rfl, by decide +kernel, by decide +kernel⟩
theorem b_is_worth_row (kV doc pm : Value) (an : Option Addr) (cdv ct : Value) (us : List Value) (h : us.length = (["many", "value"] : List Str).length) : bindArgs (PySem.W.fnOf D_is_worth_row.name D_is_worth_row.qual D_is_worth_row.params D_is_worth_row.body D_is_worth_row.scope .none kV doc pm an cdv ct) ⟨us, []⟩ = pure ((["many", "value"] : List Str).zip us) := match us, h with | [_, _], _ => rfl
theorem c_is_worth_row {P : Program} {w : World} {K : Frag} {mg : Str → Option Value} {base : Heap} (fx : Fx K mg base) : CalG P w K mg base 3 "is_worth_row" D_is_worth_row ["many", "value"] f_is_worth_row := by
  obtain ⟨a, fd, F, hm⟩ := fx.f_is_worth_row
  refine calG (D := D_is_worth_row) (N := ["many", "value", "one"]) (k := 2) (d := d_is_worth_row) F hm S_is_worth_row fun cdv A outer s H hr hgd => ?_
  exact pss_d1 (ps_dret (pe_dand (pe_gcall (mus := [false]) (c_is_list fx) hr (by decide) hgd rfl rfl b_is_list (pa_d1 (pe_dvar (i := 1) rfl (.inl rfl) nd_value nc_value) (pa_d0)) nd_is_list) (pe_dand (pe_dcmp (o_eq hr.units) (pe_dcb c_len rfl fx.n_len bb_len (pa_d1 (pe_dvar (i := 1) rfl (.inl rfl) nd_value nc_value) (pa_d0)) (by decide) nd_len) (pe_dvar (i := 0) rfl (.inl rfl) nd_many nc_many) rfl) (pe_d1 (pe_dcb (c_all rfl) rfl fx.n_all bb_all (pa_d1 (pe_dcomp (own := [("one", 2)]) (is := [2]) rfl S_is_worth_row.nd (pi_dseq (pe_dvar (i := 1) rfl (.inl rfl) nd_value nc_value)) rfl (fun _ _ _ _ _ => pg_dname (n := 2) S_is_worth_row.nd rfl (.inl rfl) (.inr rfl)) (fun _ _ _ _ _ => pts_nil) (fun _ _ _ _ _ => pe_gcall (mus := [false, false, false]) (c_is_within fx) hr (by decide) hgd rfl rfl b_is_within (pa_d1 (pe_dvar (i := 2) rfl (.inl rfl) nd_one nc_one) (pa_d1 (pe_dbin o_sub (pe_dint) (glInt rfl fx.i_MOST_WORTH nd_MOST_WORTH)) (pa_d1 (glInt rfl fx.i_MOST_WORTH nd_MOST_WORTH) (pa_d0)))) nd_is_within) (fun _ => rfl) rfl) (pa_d0)) (by decide) nd_all)))))
      (pss_d0)
theorem S_is_game_of : FnScope ["value", "many", "row"] ["value"] D_is_game_of.scope := ⟨rfl, rfl, rfl, by decide +kernel, rfl, by decide +kernel, by decide +kernel⟩
theorem b_is_game_of (kV doc pm : Value) (an : Option Addr) (cdv ct : Value) (us : List Value) (h : us.length = (["value"] : List Str).length) : bindArgs (PySem.W.fnOf D_is_game_of.name D_is_game_of.qual D_is_game_of.params D_is_game_of.body D_is_game_of.scope .none kV doc pm an cdv ct) ⟨us, []⟩ = pure ((["value"] : List Str).zip us) := match us, h with | [_], _ => rfl
theorem c_is_game_of {P : Program} {w : World} {K : Frag} {mg : Str → Option Value} {base : Heap} (fx : Fx K mg base) : CalG P w K mg base 4 "is_game_of" D_is_game_of ["value"] f_is_game_of := by
  obtain ⟨a, fd, F, hm⟩ := fx.f_is_game_of
  refine calG (D := D_is_game_of) (N := ["value", "many", "row"]) (k := 3) (d := d_is_game_of) F hm S_is_game_of fun cdv A outer s H hr hgd => ?_
  exact pss_d1 (ps_dif (PW.pt (pw_dor (pt_dnot (pt_dval (pe_disi rfl fx.n_isinstance rfl fx.n_tuple bb_tuple (by decide) nd_tuple (pe_dvar (i := 0) rfl (.inl rfl) nd_value nc_value) rfl) (fun _ => rfl))) (pw_dor (pt_dcmp (o_ne hr.units) (pe_dcb c_len rfl fx.n_len bb_len (pa_d1 (pe_dvar (i := 0) rfl (.inl rfl) nd_value nc_value) (pa_d0)) (by decide) nd_len) (pe_dint) rfl) (pw_dor (pt_dnot (pt_dval (pe_gcall (mus := [false]) (c_are_sizes fx) hr (by decide) hgd rfl rfl b_are_sizes (pa_d1 (pe_dix (pe_dvar (i := 0) rfl (.inl rfl) nd_value nc_value) (pe_dint) (fun _ _ _ _ h => nomatch h)) (pa_d0)) nd_are_sizes) (fun _ => rfl))) (pw_d1 (pt_dnot (pt_dval (pe_gcall (mus := [false]) (c_is_list fx) hr (by decide) hgd rfl rfl b_is_list (pa_d1 (pe_dix (pe_dvar (i := 0) rfl (.inl rfl) nd_value nc_value) (pe_dint) (fun _ _ _ _ h => nomatch h)) (pa_d0)) nd_is_list) (fun _ => rfl)))))))) (pss_d1 (ps_dret (pe_dbl))
      (pss_d0)) (pss_d0))
      (pss_d1 (ps_dset (n := 1) (mu := false) S_is_game_of.nd rfl (.inr rfl) (.inl rfl) (pe_dcb c_len rfl fx.n_len bb_len (pa_d1 (pe_gcall (mus := [false]) (c_plays_of fx) hr (by decide) hgd rfl rfl b_plays_of (pa_d1 (pe_dix (pe_dvar (i := 0) rfl (.inl rfl) nd_value nc_value) (pe_dint) (fun _ _ _ _ h => nomatch h)) (pa_d0)) nd_plays_of) (pa_d0)) (by decide) nd_len) rfl)
      (pss_d1 (ps_dret (pe_dand (pe_dcmp (o_eq hr.units) (pe_dcb c_len rfl fx.n_len bb_len (pa_d1 (pe_dix (pe_dvar (i := 0) rfl (.inl rfl) nd_value nc_value) (pe_dint) (fun _ _ _ _ h => nomatch h)) (pa_d0)) (by decide) nd_len) (pe_dcb c_len rfl fx.n_len bb_len (pa_d1 (pe_dix (pe_dvar (i := 0) rfl (.inl rfl) nd_value nc_value) (pe_dint) (fun _ _ _ _ h => nomatch h)) (pa_d0)) (by decide) nd_len) rfl) (pe_d1 (pe_dcb (c_all rfl) rfl fx.n_all bb_all (pa_d1 (pe_dcomp (own := [("row", 2)]) (is := [2]) rfl S_is_game_of.nd (pi_dseq (pe_dix (pe_dvar (i := 0) rfl (.inl rfl) nd_value nc_value) (pe_dint) (fun _ _ _ _ h => nomatch h))) rfl (fun _ _ _ _ _ => pg_dname (n := 2) S_is_game_of.nd rfl (.inl rfl) (.inr rfl)) (fun _ _ _ _ _ => pts_nil) (fun _ _ _ _ _ => pe_gcall (mus := [false, false]) (c_is_worth_row fx) hr (by decide) hgd rfl rfl b_is_worth_row (pa_d1 (pe_dvar (i := 1) rfl (.inr (.inl rfl)) nd_many nc_many) (pa_d1 (pe_dvar (i := 2) rfl (.inl rfl) nd_row nc_row) (pa_d0))) nd_is_worth_row) (fun _ => rfl) rfl) (pa_d0)) (by decide) nd_all))))
      (pss_d0)))
theorem S_check_game : FnScope ["value"] ["value"] D_check_game.scope := ⟨rfl, rfl, rfl, by decide +kernel, rfl, by decide +kernel, by decide +kernel⟩
theorem b_check_game (kV doc pm : Value) (an : Option Addr) (cdv ct : Value) (us : List Value) (h : us.length = (["value"] : List Str).length) : bindArgs (PySem.W.fnOf D_check_game.name D_check_game.qual D_check_game.params D_check_game.body D_check_game.scope .none kV doc pm an cdv ct) ⟨us, []⟩ = pure ((["value"] : List Str).zip us) := match us, h with | [_], _ => rfl
theorem c_check_game {P : Program} {w : World} {K : Frag} {mg : Str → Option Value} {base : Heap} (fx : Fx K mg base) : CalG P w K mg base 5 "check_game" D_check_game ["value"] f_check_game := by
  obtain ⟨a, fd, F, hm⟩ := fx.f_check_game
  refine calG (D := D_check_game) (N := ["value"]) (k := 4) (d := d_check_game) F hm S_check_game fun cdv A outer s H hr hgd => ?_
  exact pss_d1 (ps_dif (pt_dnot (pt_dval (pe_gcall (mus := [false]) (c_is_game_of fx) hr (by decide) hgd rfl rfl b_is_game_of (pa_d1 (pe_dvar (i := 0) rfl (.inl rfl) nd_value nc_value) (pa_d0)) nd_is_game_of) (fun _ => rfl))) (pss_d1 (ps_dno)
      (pss_d0)) (pss_d0))
      (pss_d0)
theorem S_divisor : FnScope ["one", "late"] ["one", "late"] D_divisor.scope := ⟨rfl, rfl, rfl, by decide +kernel, rfl, by decide +kernel, by decide +kernel⟩
theorem b_divisor (kV doc pm : Value) (an : Option Addr) (cdv ct : Value) (us : List Value) (h : us.length = (["one", "late"] : List Str).length) : bindArgs (PySem.W.fnOf D_divisor.name D_divisor.qual D_divisor.params D_divisor.body D_divisor.scope .none kV doc pm an cdv ct) ⟨us, []⟩ = pure ((["one", "late"] : List Str).zip us) := match us, h with | [_, _], _ => rfl
theorem c_divisor {P : Program} {w : World} {K : Frag} {mg : Str → Option Value} {base : Heap} (fx : Fx K mg base) : CalG P w K mg base 1 "divisor" D_divisor ["one", "late"] f_divisor := by
  obtain ⟨a, fd, F, hm⟩ := fx.f_divisor
  refine calG (D := D_divisor) (N := ["one", "late"]) (k := 0) (d := d_divisor) F hm S_divisor fun cdv A outer s H hr hgd => ?_
  exact pss_d1 (ps_dwhile PassesOwn.never (pt_dcmp o_gt (pe_dvar (i := 1) rfl (.inl rfl) nd_late nc_late) (pe_dint) rfl) (pss_d1 (ps_dpar2 (i := 0) (j := 1) (mi := false) (mj := false) rfl S_divisor.nd rfl rfl (by decide) rfl rfl (pa_d1 (pe_dvar (i := 1) rfl (.inl rfl) nd_late nc_late) (pa_d1 (pe_dbin o_mod (pe_dct c_int rfl fx.n_int bb_int (pa_d1 (pe_dvar (i := 0) rfl (.inl rfl) nd_one nc_one) (pa_d0)) (by decide) nd_int) (pe_dvar (i := 1) rfl (.inl rfl) nd_late nc_late)) (pa_d0))) rfl)
      (pss_d0)))
      (pss_d1 (ps_dret (pe_dvar (i := 0) rfl (.inl rfl) nd_one nc_one))
      (pss_d0))
theorem S_is_fraction_of : FnScope ["value"] ["value"] D_is_fraction_of.scope := ⟨rfl, rfl, rfl, by decide +kernel, rfl, by decide +kernel, by decide +kernel⟩
theorem b_is_fraction_of (kV doc pm : Value) (an : Option Addr) (cdv ct : Value) (us : List Value) (h : us.length = (["value"] : List Str).length) : bindArgs (PySem.W.fnOf D_is_fraction_of.name D_is_fraction_of.qual D_is_fraction_of.params D_is_fraction_of.body D_is_fraction_of.scope .none kV doc pm an cdv ct) ⟨us, []⟩ = pure ((["value"] : List Str).zip us) := match us, h with | [_], _ => rfl
theorem c_is_fraction_of {P : Program} {w : World} {K : Frag} {mg : Str → Option Value} {base : Heap} (fx : Fx K mg base) : CalG P w K mg base 2 "is_fraction_of" D_is_fraction_of ["value"] f_is_fraction_of := by
  obtain ⟨a, fd, F, hm⟩ := fx.f_is_fraction_of
  refine calG (D := D_is_fraction_of) (N := ["value"]) (k := 1) (d := d_is_fraction_of) F hm S_is_fraction_of fun cdv A outer s H hr hgd => ?_
  exact pss_d1 (ps_dif (PW.pt (pw_dor (pt_dnot (pt_dval (pe_disi rfl fx.n_isinstance rfl fx.n_tuple bb_tuple (by decide) nd_tuple (pe_dvar (i := 0) rfl (.inl rfl) nd_value nc_value) rfl) (fun _ => rfl))) (pw_dor (pt_dcmp (o_ne hr.units) (pe_dcb c_len rfl fx.n_len bb_len (pa_d1 (pe_dvar (i := 0) rfl (.inl rfl) nd_value nc_value) (pa_d0)) (by decide) nd_len) (pe_dint) rfl) (pw_dor (pt_dnot (pt_dval (pe_gcall (mus := [false]) (c_is_integer fx) hr (by decide) hgd rfl rfl b_is_integer (pa_d1 (pe_dix (pe_dvar (i := 0) rfl (.inl rfl) nd_value nc_value) (pe_dint) (fun _ _ _ _ h => nomatch h)) (pa_d0)) nd_is_integer) (fun _ => rfl))) (pw_d1 (pt_dnot (pt_dval (pe_gcall (mus := [false]) (c_is_integer fx) hr (by decide) hgd rfl rfl b_is_integer (pa_d1 (pe_dix (pe_dvar (i := 0) rfl (.inl rfl) nd_value nc_value) (pe_dint) (fun _ _ _ _ h => nomatch h)) (pa_d0)) nd_is_integer) (fun _ => rfl)))))))) (pss_d1 (ps_dret (pe_dbl))
      (pss_d0)) (pss_d0))
      (pss_d1 (ps_dret (pe_dand (pe_dcmp o_ge (pe_dix (pe_dvar (i := 0) rfl (.inl rfl) nd_value nc_value) (pe_dint) (fun _ _ _ _ h => nomatch h)) (pe_dint) rfl) (pe_d1 (pe_dcmp (o_eq hr.units) (pe_gcall (mus := [false, false]) (c_divisor fx) hr (by decide) hgd rfl rfl b_divisor (pa_d1 (pe_dcb c_abs rfl fx.n_abs bb_abs (pa_d1 (pe_dix (pe_dvar (i := 0) rfl (.inl rfl) nd_value nc_value) (pe_dint) (fun _ _ _ _ h => nomatch h)) (pa_d0)) (by decide) nd_abs) (pa_d1 (pe_dix (pe_dvar (i := 0) rfl (.inl rfl) nd_value nc_value) (pe_dint) (fun _ _ _ _ h => nomatch h)) (pa_d0))) nd_divisor) (pe_dint) rfl))))
      (pss_d0))
theorem S_is_short : FnScope ["value"] ["value"] D_is_short.scope := ⟨rfl, rfl, rfl, by decide +kernel, rfl, by decide +kernel, by decide +kernel⟩
theorem b_is_short (kV doc pm : Value) (an : Option Addr) (cdv ct : Value) (us : List Value) (h : us.length = (["value"] : List Str).length) : bindArgs (PySem.W.fnOf D_is_short.name D_is_short.qual D_is_short.params D_is_short.body D_is_short.scope .none kV doc pm an cdv ct) ⟨us, []⟩ = pure ((["value"] : List Str).zip us) := match us, h with | [_], _ => rfl
theorem c_is_short {P : Program} {w : World} {K : Frag} {mg : Str → Option Value} {base : Heap} (fx : Fx K mg base) : CalG P w K mg base 3 "is_short" D_is_short ["value"] f_is_short := by
  obtain ⟨a, fd, F, hm⟩ := fx.f_is_short
  refine calG (D := D_is_short) (N := ["value"]) (k := 2) (d := d_is_short) F hm S_is_short fun cdv A outer s H hr hgd => ?_
  exact pss_d1 (ps_dret (pe_dand (pe_gcall (mus := [false]) (c_is_fraction_of fx) hr (by decide) hgd rfl rfl b_is_fraction_of (pa_d1 (pe_dvar (i := 0) rfl (.inl rfl) nd_value nc_value) (pa_d0)) nd_is_fraction_of) (pe_dand (pe_dcmp o_lt (pe_dcb c_abs rfl fx.n_abs bb_abs (pa_d1 (pe_dix (pe_dvar (i := 0) rfl (.inl rfl) nd_value nc_value) (pe_dint) (fun _ _ _ _ h => nomatch h)) (pa_d0)) (by decide) nd_abs) (glInt rfl fx.i_MOST_DIGITS nd_MOST_DIGITS) rfl) (pe_d1 (pe_dcmp o_lt (pe_dix (pe_dvar (i := 0) rfl (.inl rfl) nd_value nc_value) (pe_dint) (fun _ _ _ _ h => nomatch h)) (glInt rfl fx.i_MOST_DIGITS nd_MOST_DIGITS) rfl)))))
      (pss_d0)
theorem S_reduced : FnScope ["top", "bottom", "common"] ["top", "bottom"] D_reduced.scope := ⟨rfl, rfl, rfl, by decide +kernel, rfl, by decide +kernel, by decide +kernel⟩
theorem b_reduced (kV doc pm : Value) (an : Option Addr) (cdv ct : Value) (us : List Value) (h : us.length = (["top", "bottom"] : List Str).length) : bindArgs (PySem.W.fnOf D_reduced.name D_reduced.qual D_reduced.params D_reduced.body D_reduced.scope .none kV doc pm an cdv ct) ⟨us, []⟩ = pure ((["top", "bottom"] : List Str).zip us) := match us, h with | [_, _], _ => rfl
theorem c_reduced {P : Program} {w : World} {K : Frag} {mg : Str → Option Value} {base : Heap} (fx : Fx K mg base) : CalG P w K mg base 2 "reduced" D_reduced ["top", "bottom"] f_reduced := by
  obtain ⟨a, fd, F, hm⟩ := fx.f_reduced
  refine calG (D := D_reduced) (N := ["top", "bottom", "common"]) (k := 1) (d := d_reduced) F hm S_reduced fun cdv A outer s H hr hgd => ?_
  exact pss_d1 (ps_dif (pt_dcmp o_lt (pe_dvar (i := 1) rfl (.inl rfl) nd_bottom nc_bottom) (pe_dint) rfl) (pss_d1 (ps_dpar2 (i := 0) (j := 1) (mi := false) (mj := false) rfl S_reduced.nd rfl rfl (by decide) rfl rfl (pa_d1 (pe_dbin o_sub (pe_dint) (pe_dvar (i := 0) rfl (.inl rfl) nd_top nc_top)) (pa_d1 (pe_dbin o_sub (pe_dint) (pe_dvar (i := 1) rfl (.inl rfl) nd_bottom nc_bottom)) (pa_d0))) rfl)
      (pss_d0)) (pss_d0))
      (pss_d1 (ps_dset (n := 2) (mu := false) S_reduced.nd rfl (.inl rfl) (.inl rfl) (pe_gcall (mus := [false, false]) (c_divisor fx) hr (by decide) hgd rfl rfl b_divisor (pa_d1 (pe_dcb c_abs rfl fx.n_abs bb_abs (pa_d1 (pe_dvar (i := 0) rfl (.inl rfl) nd_top nc_top) (pa_d0)) (by decide) nd_abs) (pa_d1 (pe_dvar (i := 1) rfl (.inl rfl) nd_bottom nc_bottom) (pa_d0))) nd_divisor) rfl)
      (pss_d1 (ps_dret (pe_dtup (pa_d1 (pe_dbin o_div (pe_dvar (i := 0) rfl (.inl rfl) nd_top nc_top) (pe_dvar (i := 2) rfl (.inl rfl) nd_common nc_common)) (pa_d1 (pe_dbin o_div (pe_dvar (i := 1) rfl (.inl rfl) nd_bottom nc_bottom) (pe_dvar (i := 2) rfl (.inl rfl) nd_common nc_common)) (pa_d0)))))
      (pss_d0)))
theorem S_add : FnScope ["one", "late"] ["one", "late"] D_add.scope := ⟨rfl, rfl, rfl, by decide +kernel, rfl, by decide +kernel, by decide +kernel⟩
theorem b_add (kV doc pm : Value) (an : Option Addr) (cdv ct : Value) (us : List Value) (h : us.length = (["one", "late"] : List Str).length) : bindArgs (PySem.W.fnOf D_add.name D_add.qual D_add.params D_add.body D_add.scope .none kV doc pm an cdv ct) ⟨us, []⟩ = pure ((["one", "late"] : List Str).zip us) := match us, h with | [_, _], _ => rfl
theorem c_add {P : Program} {w : World} {K : Frag} {mg : Str → Option Value} {base : Heap} (fx : Fx K mg base) : CalG P w K mg base 3 "add" D_add ["one", "late"] f_add := by
  obtain ⟨a, fd, F, hm⟩ := fx.f_add
  refine calG (D := D_add) (N := ["one", "late"]) (k := 2) (d := d_add) F hm S_add fun cdv A outer s H hr hgd => ?_
  exact pss_d1 (ps_dret (pe_gcall (mus := [false, false]) (c_reduced fx) hr (by decide) hgd rfl rfl b_reduced (pa_d1 (pe_dbin o_add (pe_dbin o_mul (pe_dix (pe_dvar (i := 0) rfl (.inl rfl) nd_one nc_one) (pe_dint) (fun _ _ _ _ h => nomatch h)) (pe_dix (pe_dvar (i := 1) rfl (.inl rfl) nd_late nc_late) (pe_dint) (fun _ _ _ _ h => nomatch h))) (pe_dbin o_mul (pe_dix (pe_dvar (i := 1) rfl (.inl rfl) nd_late nc_late) (pe_dint) (fun _ _ _ _ h => nomatch h)) (pe_dix (pe_dvar (i := 0) rfl (.inl rfl) nd_one nc_one) (pe_dint) (fun _ _ _ _ h => nomatch h)))) (pa_d1 (pe_dbin o_mul (pe_dix (pe_dvar (i := 0) rfl (.inl rfl) nd_one nc_one) (pe_dint) (fun _ _ _ _ h => nomatch h)) (pe_dix (pe_dvar (i := 1) rfl (.inl rfl) nd_late nc_late) (pe_dint) (fun _ _ _ _ h => nomatch h))) (pa_d0))) nd_reduced))
      (pss_d0)
theorem S_total : FnScope ["some", "found", "one"] ["some"] D_total.scope := ⟨rfl, rfl, rfl, by decide +kernel, rfl, by decide +kernel, by decide +kernel⟩
theorem b_total (kV doc pm : Value) (an : Option Addr) (cdv ct : Value) (us : List Value) (h : us.length = (["some"] : List Str).length) : bindArgs (PySem.W.fnOf D_total.name D_total.qual D_total.params D_total.body D_total.scope .none kV doc pm an cdv ct) ⟨us, []⟩ = pure ((["some"] : List Str).zip us) := match us, h with | [_], _ => rfl
theorem c_total {P : Program} {w : World} {K : Frag} {mg : Str → Option Value} {base : Heap} (fx : Fx K mg base) : CalG P w K mg base 4 "total" D_total ["some"] f_total := by
  obtain ⟨a, fd, F, hm⟩ := fx.f_total
  refine calG (D := D_total) (N := ["some", "found", "one"]) (k := 3) (d := d_total) F hm S_total fun cdv A outer s H hr hgd => ?_
  exact pss_d1 (ps_dset (n := 1) (mu := false) S_total.nd rfl (.inl rfl) (.inl rfl) (glTup (ns := [0, 1]) rfl fx.t_NOUGHT nd_NOUGHT) rfl)
      (pss_d1 (ps_dfor PassesOwn.never rfl (pi_dseq (pe_dvar (i := 0) rfl (.inl rfl) nd_some nc_some)) (pg_dname (n := 2) S_total.nd rfl (.inl rfl) (.inl rfl)) (pss_d1 (ps_dset (n := 1) (mu := false) S_total.nd rfl (.inl rfl) (.inl rfl) (pe_gcall (mus := [false, false]) (c_add fx) hr (by decide) hgd rfl rfl b_add (pa_d1 (pe_dvar (i := 1) rfl (.inl rfl) nd_found nc_found) (pa_d1 (pe_dvar (i := 2) rfl (.inl rfl) nd_one nc_one) (pa_d0))) nd_add) rfl)
      (pss_d0)) (fun _ => rfl))
      (pss_d1 (ps_dret (pe_dvar (i := 1) rfl (.inl rfl) nd_found nc_found))
      (pss_d0)))
theorem S_is_lot_of : FnScope ["value", "one"] ["value"] D_is_lot_of.scope := ⟨rfl, rfl, rfl, by decide +kernel, rfl, by decide +kernel, by decide +kernel⟩
theorem b_is_lot_of (kV doc pm : Value) (an : Option Addr) (cdv ct : Value) (us : List Value) (h : us.length = (["value"] : List Str).length) : bindArgs (PySem.W.fnOf D_is_lot_of.name D_is_lot_of.qual D_is_lot_of.params D_is_lot_of.body D_is_lot_of.scope .none kV doc pm an cdv ct) ⟨us, []⟩ = pure ((["value"] : List Str).zip us) := match us, h with | [_], _ => rfl
theorem c_is_lot_of {P : Program} {w : World} {K : Frag} {mg : Str → Option Value} {base : Heap} (fx : Fx K mg base) : CalG P w K mg base 5 "is_lot_of" D_is_lot_of ["value"] f_is_lot_of := by
  obtain ⟨a, fd, F, hm⟩ := fx.f_is_lot_of
  refine calG (D := D_is_lot_of) (N := ["value", "one"]) (k := 4) (d := d_is_lot_of) F hm S_is_lot_of fun cdv A outer s H hr hgd => ?_
  exact pss_d1 (ps_dif (PW.pt (pw_dor (pt_dnot (pt_dval (pe_disi rfl fx.n_isinstance rfl fx.n_tuple bb_tuple (by decide) nd_tuple (pe_dvar (i := 0) rfl (.inl rfl) nd_value nc_value) rfl) (fun _ => rfl))) (pw_d1 (pt_dnot (pt_dchain o_le o_le (pe_dint) (pe_dcb c_len rfl fx.n_len bb_len (pa_d1 (pe_dvar (i := 0) rfl (.inl rfl) nd_value nc_value) (pa_d0)) (by decide) nd_len) (glInt rfl fx.i_MOST_PLACES nd_MOST_PLACES) rfl))))) (pss_d1 (ps_dret (pe_dbl))
      (pss_d0)) (pss_d0))
      (pss_d1 (ps_dif (pt_dnot (pt_dval (pe_dcb (c_all rfl) rfl fx.n_all bb_all (pa_d1 (pe_dcomp (own := [("one", 1)]) (is := [1]) rfl S_is_lot_of.nd (pi_dseq (pe_dvar (i := 0) rfl (.inl rfl) nd_value nc_value)) rfl (fun _ _ _ _ _ => pg_dname (n := 1) S_is_lot_of.nd rfl (.inl rfl) (.inr rfl)) (fun _ _ _ _ _ => pts_nil) (fun _ _ _ _ _ => pe_dand (pe_gcall (mus := [false]) (c_is_fraction_of fx) hr (by decide) hgd rfl rfl b_is_fraction_of (pa_d1 (pe_dvar (i := 1) rfl (.inl rfl) nd_one nc_one) (pa_d0)) nd_is_fraction_of) (pe_d1 (pe_dcmp o_ge (pe_dix (pe_dvar (i := 1) rfl (.inl rfl) nd_one nc_one) (pe_dint) (fun _ _ _ _ h => nomatch h)) (pe_dint) rfl))) (fun _ => rfl) rfl) (pa_d0)) (by decide) nd_all) (fun _ => rfl))) (pss_d1 (ps_dret (pe_dbl))
      (pss_d0)) (pss_d0))
      (pss_d1 (ps_dret (pe_dcmp (o_eq hr.units) (pe_gcall (mus := [false]) (c_total fx) hr (by decide) hgd rfl rfl b_total (pa_d1 (pe_dvar (i := 0) rfl (.inl rfl) nd_value nc_value) (pa_d0)) nd_total) (glTup (ns := [1, 1]) rfl fx.t_ONE nd_ONE) rfl))
      (pss_d0)))
theorem S_is_short_lot : FnScope ["value", "one"] ["value"] D_is_short_lot.scope := ⟨rfl, rfl, rfl, by decide +kernel, rfl, by decide +kernel, by decide +kernel⟩
theorem b_is_short_lot (kV doc pm : Value) (an : Option Addr) (cdv ct : Value) (us : List Value) (h : us.length = (["value"] : List Str).length) : bindArgs (PySem.W.fnOf D_is_short_lot.name D_is_short_lot.qual D_is_short_lot.params D_is_short_lot.body D_is_short_lot.scope .none kV doc pm an cdv ct) ⟨us, []⟩ = pure ((["value"] : List Str).zip us) := match us, h with | [_], _ => rfl
theorem c_is_short_lot {P : Program} {w : World} {K : Frag} {mg : Str → Option Value} {base : Heap} (fx : Fx K mg base) : CalG P w K mg base 6 "is_short_lot" D_is_short_lot ["value"] f_is_short_lot := by
  obtain ⟨a, fd, F, hm⟩ := fx.f_is_short_lot
  refine calG (D := D_is_short_lot) (N := ["value", "one"]) (k := 5) (d := d_is_short_lot) F hm S_is_short_lot fun cdv A outer s H hr hgd => ?_
  exact pss_d1 (ps_dret (pe_dand (pe_gcall (mus := [false]) (c_is_lot_of fx) hr (by decide) hgd rfl rfl b_is_lot_of (pa_d1 (pe_dvar (i := 0) rfl (.inl rfl) nd_value nc_value) (pa_d0)) nd_is_lot_of) (pe_d1 (pe_dcb (c_all rfl) rfl fx.n_all bb_all (pa_d1 (pe_dcomp (own := [("one", 1)]) (is := [1]) rfl S_is_short_lot.nd (pi_dseq (pe_dvar (i := 0) rfl (.inl rfl) nd_value nc_value)) rfl (fun _ _ _ _ _ => pg_dname (n := 1) S_is_short_lot.nd rfl (.inl rfl) (.inr rfl)) (fun _ _ _ _ _ => pts_nil) (fun _ _ _ _ _ => pe_gcall (mus := [false]) (c_is_short fx) hr (by decide) hgd rfl rfl b_is_short (pa_d1 (pe_dvar (i := 1) rfl (.inl rfl) nd_one nc_one) (pa_d0)) nd_is_short) (fun _ => rfl) rfl) (pa_d0)) (by decide) nd_all))))
      (pss_d0)
theorem S_is_plan_of : FnScope ["game", "player", "value"] ["game", "player", "value"] D_is_plan_of.scope := ⟨rfl, rfl, rfl, by decide +kernel, rfl, by decide +kernel, by decide +kernel⟩
theorem b_is_plan_of (kV doc pm : Value) (an : Option Addr) (cdv ct : Value) (us : List Value) (h : us.length = (["game", "player", "value"] : List Str).length) : bindArgs (PySem.W.fnOf D_is_plan_of.name D_is_plan_of.qual D_is_plan_of.params D_is_plan_of.body D_is_plan_of.scope .none kV doc pm an cdv ct) ⟨us, []⟩ = pure ((["game", "player", "value"] : List Str).zip us) := match us, h with | [_, _, _], _ => rfl
theorem c_is_plan_of {P : Program} {w : World} {K : Frag} {mg : Str → Option Value} {base : Heap} (fx : Fx K mg base) : CalG P w K mg base 7 "is_plan_of" D_is_plan_of ["game", "player", "value"] f_is_plan_of := by
  obtain ⟨a, fd, F, hm⟩ := fx.f_is_plan_of
  refine calG (D := D_is_plan_of) (N := ["game", "player", "value"]) (k := 6) (d := d_is_plan_of) F hm S_is_plan_of fun cdv A outer s H hr hgd => ?_
  exact pss_d1 (ps_dret (pe_dand (pe_gcall (mus := [false]) (c_is_short_lot fx) hr (by decide) hgd rfl rfl b_is_short_lot (pa_d1 (pe_dvar (i := 2) rfl (.inl rfl) nd_value nc_value) (pa_d0)) nd_is_short_lot) (pe_d1 (pe_dcmp (o_eq hr.units) (pe_dcb c_len rfl fx.n_len bb_len (pa_d1 (pe_dvar (i := 2) rfl (.inl rfl) nd_value nc_value) (pa_d0)) (by decide) nd_len) (pe_dix (pe_dix (pe_dvar (i := 0) rfl (.inl rfl) nd_game nc_game) (pe_dint) (fun _ _ _ _ h => nomatch h)) (pe_dvar (i := 1) rfl (.inl rfl) nd_player nc_player) (fun _ _ _ _ h => nomatch h)) rfl))))
      (pss_d0)
theorem S_check_plans : FnScope ["game", "value", "player", "plan"] ["game", "value"] D_check_plans.scope := ⟨rfl, rfl, rfl, by decide +kernel, rfl, by decide +kernel, by decide +kernel⟩
theorem b_check_plans (kV doc pm : Value) (an : Option Addr) (cdv ct : Value) (us : List Value) (h : us.length = (["game", "value"] : List Str).length) : bindArgs (PySem.W.fnOf D_check_plans.name D_check_plans.qual D_check_plans.params D_check_plans.body D_check_plans.scope .none kV doc pm an cdv ct) ⟨us, []⟩ = pure ((["game", "value"] : List Str).zip us) := match us, h with | [_, _], _ => rfl
theorem c_check_plans {P : Program} {w : World} {K : Frag} {mg : Str → Option Value} {base : Heap} (fx : Fx K mg base) : CalG P w K mg base 8 "check_plans" D_check_plans ["game", "value"] f_check_plans := by
  obtain ⟨a, fd, F, hm⟩ := fx.f_check_plans
  refine calG (D := D_check_plans) (N := ["game", "value", "player", "plan"]) (k := 7) (d := d_check_plans) F hm S_check_plans fun cdv A outer s H hr hgd => ?_
  exact pss_d1 (ps_dif (PW.pt (pw_dor (pt_dnot (pt_dval (pe_gcall (mus := [false]) (c_is_list fx) hr (by decide) hgd rfl rfl b_is_list (pa_d1 (pe_dvar (i := 1) rfl (.inl rfl) nd_value nc_value) (pa_d0)) nd_is_list) (fun _ => rfl))) (pw_d1 (pt_dcmp (o_ne hr.units) (pe_dcb c_len rfl fx.n_len bb_len (pa_d1 (pe_dvar (i := 1) rfl (.inl rfl) nd_value nc_value) (pa_d0)) (by decide) nd_len) (pe_dcb c_len rfl fx.n_len bb_len (pa_d1 (pe_dix (pe_dvar (i := 0) rfl (.inr (.inl rfl)) nd_game nc_game) (pe_dint) (fun _ _ _ _ h => nomatch h)) (pa_d0)) (by decide) nd_len) rfl)))) (pss_d1 (ps_dno)
      (pss_d0)) (pss_d0))
      (pss_d1 (ps_dif (pt_dnot (pt_dval (pe_dcb (c_all rfl) rfl fx.n_all bb_all (pa_d1 (pe_dcomp (own := [("player", 2), ("plan", 3)]) (is := ([2] ++ ([3] ++ []))) rfl S_check_plans.nd (pi_denum rfl fx.n_enumerate (pe_dvar (i := 1) rfl (.inl rfl) nd_value nc_value)) rfl (fun _ _ _ _ _ => pg_dtup rfl (pgs_d1 (pg_dname (n := 2) S_check_plans.nd rfl (.inl rfl) (.inr rfl)) (pgs_d1 (pg_dname (n := 3) S_check_plans.nd rfl (.inl rfl) (.inr rfl)) (pgs_d0) rfl) rfl) rfl rfl) (fun _ _ _ _ _ => pts_nil) (fun _ _ _ _ _ => pe_gcall (mus := [false, false, false]) (c_is_plan_of fx) hr (by decide) hgd rfl rfl b_is_plan_of (pa_d1 (pe_dvar (i := 0) rfl (.inr (.inl rfl)) nd_game nc_game) (pa_d1 (pe_dvar (i := 2) rfl (.inl rfl) nd_player nc_player) (pa_d1 (pe_dvar (i := 3) rfl (.inl rfl) nd_plan nc_plan) (pa_d0)))) nd_is_plan_of) (fun _ => rfl) rfl) (pa_d0)) (by decide) nd_all) (fun _ => rfl))) (pss_d1 (ps_dno)
      (pss_d0)) (pss_d0))
      (pss_d0))
theorem S_multiply : FnScope ["one", "late"] ["one", "late"] D_multiply.scope := ⟨rfl, rfl, rfl, by decide +kernel, rfl, by decide +kernel, by decide +kernel⟩
theorem b_multiply (kV doc pm : Value) (an : Option Addr) (cdv ct : Value) (us : List Value) (h : us.length = (["one", "late"] : List Str).length) : bindArgs (PySem.W.fnOf D_multiply.name D_multiply.qual D_multiply.params D_multiply.body D_multiply.scope .none kV doc pm an cdv ct) ⟨us, []⟩ = pure ((["one", "late"] : List Str).zip us) := match us, h with | [_, _], _ => rfl
theorem c_multiply {P : Program} {w : World} {K : Frag} {mg : Str → Option Value} {base : Heap} (fx : Fx K mg base) : CalG P w K mg base 3 "multiply" D_multiply ["one", "late"] f_multiply := by
  obtain ⟨a, fd, F, hm⟩ := fx.f_multiply
  refine calG (D := D_multiply) (N := ["one", "late"]) (k := 2) (d := d_multiply) F hm S_multiply fun cdv A outer s H hr hgd => ?_
  exact pss_d1 (ps_dret (pe_gcall (mus := [false, false]) (c_reduced fx) hr (by decide) hgd rfl rfl b_reduced (pa_d1 (pe_dbin o_mul (pe_dix (pe_dvar (i := 0) rfl (.inl rfl) nd_one nc_one) (pe_dint) (fun _ _ _ _ h => nomatch h)) (pe_dix (pe_dvar (i := 1) rfl (.inl rfl) nd_late nc_late) (pe_dint) (fun _ _ _ _ h => nomatch h))) (pa_d1 (pe_dbin o_mul (pe_dix (pe_dvar (i := 0) rfl (.inl rfl) nd_one nc_one) (pe_dint) (fun _ _ _ _ h => nomatch h)) (pe_dix (pe_dvar (i := 1) rfl (.inl rfl) nd_late nc_late) (pe_dint) (fun _ _ _ _ h => nomatch h))) (pa_d0))) nd_reduced))
      (pss_d0)
theorem S_chances_of : FnScope ["sizes", "plans", "found", "plan", "longer", "one", "late"] ["sizes", "plans"] D_chances_of.scope := ⟨rfl, rfl, rfl, by decide +kernel, rfl, by decide +kernel, by decide +kernel⟩
theorem b_chances_of (kV doc pm : Value) (an : Option Addr) (cdv ct : Value) (us : List Value) (h : us.length = (["sizes", "plans"] : List Str).length) : bindArgs (PySem.W.fnOf D_chances_of.name D_chances_of.qual D_chances_of.params D_chances_of.body D_chances_of.scope .none kV doc pm an cdv ct) ⟨us, []⟩ = pure ((["sizes", "plans"] : List Str).zip us) := match us, h with | [_, _], _ => rfl
theorem c_chances_of {P : Program} {w : World} {K : Frag} {mg : Str → Option Value} {base : Heap} (fx : Fx K mg base) : CalG P w K mg base 4 "chances_of" D_chances_of ["sizes", "plans"] f_chances_of := by
  obtain ⟨a, fd, F, hm⟩ := fx.f_chances_of
  refine calG (D := D_chances_of) (N := ["sizes", "plans", "found", "plan", "longer", "one", "late"]) (k := 3) (d := d_chances_of) F hm S_chances_of fun cdv A outer s H hr hgd => ?_
  exact pss_d1 (ps_dset (n := 2) (mu := true) S_chances_of.nd rfl (.inl rfl) (.inl rfl) (pe_dlst (pa_d1 (glTup (ns := [1, 1]) rfl fx.t_ONE nd_ONE) (pa_d0))) rfl)
      (pss_d1 (ps_dfor PassesOwn.never rfl (pi_dseq (pe_dvar (i := 1) rfl (.inl rfl) nd_plans nc_plans)) (pg_dname (n := 3) S_chances_of.nd rfl (.inl rfl) (.inl rfl)) (pss_d1 (ps_dset (n := 4) (mu := true) S_chances_of.nd rfl (.inl rfl) (.inl rfl) (pe_dlst (pa_d0)) rfl)
      (pss_d1 (ps_dfor PassesOwn.never rfl (pi_dseq (pe_dvar (i := 2) rfl (.inl rfl) nd_found nc_found)) (pg_dname (n := 5) S_chances_of.nd rfl (.inr rfl) (.inl rfl)) (pss_d1 (ps_dexpr (pe_dext ⟨rfl, rfl, rfl⟩ (fun _ _ h => nomatch h) (pe_dvar (i := 4) rfl (.inl rfl) nd_longer nc_longer) (pe_dcomp (own := [("late", 6)]) (is := [6]) rfl S_chances_of.nd (pi_dseq (pe_dvar (i := 3) rfl (.inl rfl) nd_plan nc_plan)) rfl (fun _ _ _ _ _ => pg_dname (n := 6) S_chances_of.nd rfl (.inl rfl) (.inr rfl)) (fun _ _ _ _ _ => pts_nil) (fun _ _ _ _ _ => pe_gcall (mus := [false, false]) (c_multiply fx) hr (by decide) hgd rfl rfl b_multiply (pa_d1 (pe_dvar (i := 5) rfl (.inr (.inl rfl)) nd_one nc_one) (pa_d1 (pe_dvar (i := 6) rfl (.inl rfl) nd_late nc_late) (pa_d0))) nd_multiply) (fun _ => rfl) rfl)) rfl)
      (pss_d0)) (fun _ => rfl))
      (pss_d1 (ps_dset (n := 2) (mu := true) S_chances_of.nd rfl (.inl rfl) (.inl rfl) (pe_dvar (i := 4) rfl (.inl rfl) nd_longer nc_longer) rfl)
      (pss_d0)))) (fun _ => rfl))
      (pss_d1 (ps_dret (pe_dvar (i := 2) rfl (.inl rfl) nd_found nc_found))
      (pss_d0)))
theorem S_together : FnScope ["game", "plans"] ["game", "plans"] D_together.scope := ⟨rfl, rfl, rfl, by decide +kernel, rfl, by decide +kernel, by decide +kernel⟩
theorem b_together (kV doc pm : Value) (an : Option Addr) (cdv ct : Value) (us : List Value) (h : us.length = (["game", "plans"] : List Str).length) : bindArgs (PySem.W.fnOf D_together.name D_together.qual D_together.params D_together.body D_together.scope .none kV doc pm an cdv ct) ⟨us, []⟩ = pure ((["game", "plans"] : List Str).zip us) := match us, h with | [_, _], _ => rfl
theorem k_together_0_plans_game (kV doc pm : Value) (an : Option Addr) (cdv ct : Value) (ws : List Value) (h2 : ws.length = 2) : bindArgs (PySem.W.fnOf D_together.name D_together.qual D_together.params D_together.body D_together.scope .none kV doc pm an cdv ct) ⟨[], (["plans", "game"] : List Str).zip ws⟩ = pure ((["game", "plans"] : List Str).zip (permL [1, 0] ws)) := match ws, h2 with | [_, _], _ => rfl
theorem c_together {P : Program} {w : World} {K : Frag} {mg : Str → Option Value} {base : Heap} (fx : Fx K mg base) : CalG P w K mg base 9 "together" D_together ["game", "plans"] f_together := by
  obtain ⟨a, fd, F, hm⟩ := fx.f_together
  refine calG (D := D_together) (N := ["game", "plans"]) (k := 8) (d := d_together) F hm S_together fun cdv A outer s H hr hgd => ?_
  exact pss_d1 (ps_dexpr (pe_gcall (mus := [false]) (c_check_game fx) hr (by decide) hgd rfl rfl b_check_game (pa_d1 (pe_dvar (i := 0) rfl (.inl rfl) nd_game nc_game) (pa_d0)) nd_check_game) rfl)
      (pss_d1 (ps_dexpr (pe_gcall (mus := [false, false]) (c_check_plans fx) hr (by decide) hgd rfl rfl b_check_plans (pa_d1 (pe_dvar (i := 0) rfl (.inl rfl) nd_game nc_game) (pa_d1 (pe_dvar (i := 1) rfl (.inl rfl) nd_plans nc_plans) (pa_d0))) nd_check_plans) rfl)
      (pss_d1 (ps_dret (pe_dct c_tuple rfl fx.n_tuple bb_tuple (pa_d1 (pe_gcall (mus := [false, false]) (c_chances_of fx) hr (by decide) hgd rfl rfl b_chances_of (pa_d1 (pe_dix (pe_dvar (i := 0) rfl (.inl rfl) nd_game nc_game) (pe_dint) (fun _ _ _ _ h => nomatch h)) (pa_d1 (pe_dvar (i := 1) rfl (.inl rfl) nd_plans nc_plans) (pa_d0))) nd_chances_of) (pa_d0)) (by decide) nd_tuple))
      (pss_d0)))
theorem S_is_any_lot : FnScope ["game", "value", "one"] ["game", "value"] D_is_any_lot.scope := ⟨rfl, rfl, rfl, by decide +kernel, rfl, by decide +kernel, by decide +kernel⟩
theorem b_is_any_lot (kV doc pm : Value) (an : Option Addr) (cdv ct : Value) (us : List Value) (h : us.length = (["game", "value"] : List Str).length) : bindArgs (PySem.W.fnOf D_is_any_lot.name D_is_any_lot.qual D_is_any_lot.params D_is_any_lot.body D_is_any_lot.scope .none kV doc pm an cdv ct) ⟨us, []⟩ = pure ((["game", "value"] : List Str).zip us) := match us, h with | [_, _], _ => rfl
theorem c_is_any_lot {P : Program} {w : World} {K : Frag} {mg : Str → Option Value} {base : Heap} (fx : Fx K mg base) : CalG P w K mg base 5 "is_any_lot" D_is_any_lot ["game", "value"] f_is_any_lot := by
  obtain ⟨a, fd, F, hm⟩ := fx.f_is_any_lot
  refine calG (D := D_is_any_lot) (N := ["game", "value", "one"]) (k := 4) (d := d_is_any_lot) F hm S_is_any_lot fun cdv A outer s H hr hgd => ?_
  exact pss_d1 (ps_dif (PW.pt (pw_dor (pt_dnot (pt_dval (pe_disi rfl fx.n_isinstance rfl fx.n_tuple bb_tuple (by decide) nd_tuple (pe_dvar (i := 1) rfl (.inl rfl) nd_value nc_value) rfl) (fun _ => rfl))) (pw_d1 (pt_dcmp (o_ne hr.units) (pe_dcb c_len rfl fx.n_len bb_len (pa_d1 (pe_dvar (i := 1) rfl (.inl rfl) nd_value nc_value) (pa_d0)) (by decide) nd_len) (pe_dcb c_len rfl fx.n_len bb_len (pa_d1 (pe_gcall (mus := [false]) (c_plays_of fx) hr (by decide) hgd rfl rfl b_plays_of (pa_d1 (pe_dix (pe_dvar (i := 0) rfl (.inl rfl) nd_game nc_game) (pe_dint) (fun _ _ _ _ h => nomatch h)) (pa_d0)) nd_plays_of) (pa_d0)) (by decide) nd_len) rfl)))) (pss_d1 (ps_dret (pe_dbl))
      (pss_d0)) (pss_d0))
      (pss_d1 (ps_dret (pe_dand (pe_dcb (c_all rfl) rfl fx.n_all bb_all (pa_d1 (pe_dcomp (own := [("one", 2)]) (is := [2]) rfl S_is_any_lot.nd (pi_dseq (pe_dvar (i := 1) rfl (.inl rfl) nd_value nc_value)) rfl (fun _ _ _ _ _ => pg_dname (n := 2) S_is_any_lot.nd rfl (.inl rfl) (.inr rfl)) (fun _ _ _ _ _ => pts_nil) (fun _ _ _ _ _ => pe_dand (pe_gcall (mus := [false]) (c_is_fraction_of fx) hr (by decide) hgd rfl rfl b_is_fraction_of (pa_d1 (pe_dvar (i := 2) rfl (.inl rfl) nd_one nc_one) (pa_d0)) nd_is_fraction_of) (pe_d1 (pe_dcmp o_ge (pe_dix (pe_dvar (i := 2) rfl (.inl rfl) nd_one nc_one) (pe_dint) (fun _ _ _ _ h => nomatch h)) (pe_dint) rfl))) (fun _ => rfl) rfl) (pa_d0)) (by decide) nd_all) (pe_d1 (pe_dcmp (o_eq hr.units) (pe_gcall (mus := [false]) (c_total fx) hr (by decide) hgd rfl rfl b_total (pa_d1 (pe_dvar (i := 1) rfl (.inl rfl) nd_value nc_value) (pa_d0)) nd_total) (glTup (ns := [1, 1]) rfl fx.t_ONE nd_ONE) rfl))))
      (pss_d0))
theorem S_check_told : FnScope ["game", "value", "one"] ["game", "value"] D_check_told.scope := ⟨rfl, rfl, rfl, by decide +kernel, rfl, by decide +kernel, by decide +kernel⟩
theorem b_check_told (kV doc pm : Value) (an : Option Addr) (cdv ct : Value) (us : List Value) (h : us.length = (["game", "value"] : List Str).length) : bindArgs (PySem.W.fnOf D_check_told.name D_check_told.qual D_check_told.params D_check_told.body D_check_told.scope .none kV doc pm an cdv ct) ⟨us, []⟩ = pure ((["game", "value"] : List Str).zip us) := match us, h with | [_, _], _ => rfl
theorem c_check_told {P : Program} {w : World} {K : Frag} {mg : Str → Option Value} {base : Heap} (fx : Fx K mg base) : CalG P w K mg base 6 "check_told" D_check_told ["game", "value"] f_check_told := by
  obtain ⟨a, fd, F, hm⟩ := fx.f_check_told
  refine calG (D := D_check_told) (N := ["game", "value", "one"]) (k := 5) (d := d_check_told) F hm S_check_told fun cdv A outer s H hr hgd => ?_
  exact pss_d1 (ps_dif (PW.pt (pw_dor (pt_dnot (pt_dval (pe_gcall (mus := [false, false]) (c_is_any_lot fx) hr (by decide) hgd rfl rfl b_is_any_lot (pa_d1 (pe_dvar (i := 0) rfl (.inl rfl) nd_game nc_game) (pa_d1 (pe_dvar (i := 1) rfl (.inl rfl) nd_value nc_value) (pa_d0))) nd_is_any_lot) (fun _ => rfl))) (pw_d1 (pt_dnot (pt_dval (pe_dcb (c_all rfl) rfl fx.n_all bb_all (pa_d1 (pe_dcomp (own := [("one", 2)]) (is := [2]) rfl S_check_told.nd (pi_dseq (pe_dvar (i := 1) rfl (.inl rfl) nd_value nc_value)) rfl (fun _ _ _ _ _ => pg_dname (n := 2) S_check_told.nd rfl (.inl rfl) (.inr rfl)) (fun _ _ _ _ _ => pts_nil) (fun _ _ _ _ _ => pe_gcall (mus := [false]) (c_is_short fx) hr (by decide) hgd rfl rfl b_is_short (pa_d1 (pe_dvar (i := 2) rfl (.inl rfl) nd_one nc_one) (pa_d0)) nd_is_short) (fun _ => rfl) rfl) (pa_d0)) (by decide) nd_all) (fun _ => rfl)))))) (pss_d1 (ps_dno)
      (pss_d0)) (pss_d0))
      (pss_d0)
theorem S_check_lot_of : FnScope ["game", "lot"] ["game", "lot"] D_check_lot_of.scope := ⟨rfl, rfl, rfl, by decide +kernel, rfl, by decide +kernel, by decide +kernel⟩
theorem b_check_lot_of (kV doc pm : Value) (an : Option Addr) (cdv ct : Value) (us : List Value) (h : us.length = (["game", "lot"] : List Str).length) : bindArgs (PySem.W.fnOf D_check_lot_of.name D_check_lot_of.qual D_check_lot_of.params D_check_lot_of.body D_check_lot_of.scope .none kV doc pm an cdv ct) ⟨us, []⟩ = pure ((["game", "lot"] : List Str).zip us) := match us, h with | [_, _], _ => rfl
theorem c_check_lot_of {P : Program} {w : World} {K : Frag} {mg : Str → Option Value} {base : Heap} (fx : Fx K mg base) : CalG P w K mg base 7 "check_lot_of" D_check_lot_of ["game", "lot"] f_check_lot_of := by
  obtain ⟨a, fd, F, hm⟩ := fx.f_check_lot_of
  refine calG (D := D_check_lot_of) (N := ["game", "lot"]) (k := 6) (d := d_check_lot_of) F hm S_check_lot_of fun cdv A outer s H hr hgd => ?_
  exact pss_d1 (ps_dexpr (pe_gcall (mus := [false]) (c_check_game fx) hr (by decide) hgd rfl rfl b_check_game (pa_d1 (pe_dvar (i := 0) rfl (.inl rfl) nd_game nc_game) (pa_d0)) nd_check_game) rfl)
      (pss_d1 (ps_dexpr (pe_gcall (mus := [false, false]) (c_check_told fx) hr (by decide) hgd rfl rfl b_check_told (pa_d1 (pe_dvar (i := 0) rfl (.inl rfl) nd_game nc_game) (pa_d1 (pe_dvar (i := 1) rfl (.inl rfl) nd_lot nc_lot) (pa_d0))) nd_check_told) rfl)
      (pss_d0))
theorem S_incentives_of : FnScope ["game", "found", "player", "many", "act", "other"] ["game"] D_incentives_of.scope := ⟨rfl, rfl, rfl, by decide +kernel, rfl, by decide +kernel, by decide +kernel⟩
theorem b_incentives_of (kV doc pm : Value) (an : Option Addr) (cdv ct : Value) (us : List Value) (h : us.length = (["game"] : List Str).length) : bindArgs (PySem.W.fnOf D_incentives_of.name D_incentives_of.qual D_incentives_of.params D_incentives_of.body D_incentives_of.scope .none kV doc pm an cdv ct) ⟨us, []⟩ = pure ((["game"] : List Str).zip us) := match us, h with | [_], _ => rfl
theorem c_incentives_of {P : Program} {w : World} {K : Frag} {mg : Str → Option Value} {base : Heap} (fx : Fx K mg base) : CalG P w K mg base 1 "incentives_of" D_incentives_of ["game"] f_incentives_of := by
  obtain ⟨a, fd, F, hm⟩ := fx.f_incentives_of
  refine calG (D := D_incentives_of) (N := ["game", "found", "player", "many", "act", "other"]) (k := 0) (d := d_incentives_of) F hm S_incentives_of fun cdv A outer s H hr hgd => ?_
  exact pss_d1 (ps_dset (n := 1) (mu := true) S_incentives_of.nd rfl (.inl rfl) (.inl rfl) (pe_dlst (pa_d0)) rfl)
      (pss_d1 (ps_dfor PassesOwn.never rfl (pi_denum rfl fx.n_enumerate (pe_dix (pe_dvar (i := 0) rfl (.inl rfl) nd_game nc_game) (pe_dint) (fun _ _ _ _ h => nomatch h))) (pg_dtup rfl (pgs_d1 (pg_dname (n := 2) S_incentives_of.nd rfl (.inr rfl) (.inl rfl)) (pgs_d1 (pg_dname (n := 3) S_incentives_of.nd rfl (.inl rfl) (.inl rfl)) (pgs_d0) rfl) rfl) rfl rfl) (pss_d1 (ps_dfor PassesOwn.never rfl (pi_drng1 rfl fx.n_range (pa_d1 (pe_dvar (i := 3) rfl (.inl rfl) nd_many nc_many) (pa_d0))) (pg_dname (n := 4) S_incentives_of.nd rfl (.inr rfl) (.inl rfl)) (pss_d1 (ps_dexpr (pe_dext ⟨rfl, rfl, rfl⟩ (fun _ _ h => nomatch h) (pe_dvar (i := 1) rfl (.inl rfl) nd_found nc_found) (pe_dcomp (own := [("other", 5)]) (is := [5]) rfl S_incentives_of.nd (pi_drng1 rfl fx.n_range (pa_d1 (pe_dvar (i := 3) rfl (.inl rfl) nd_many nc_many) (pa_d0))) rfl (fun _ _ _ _ _ => pg_dname (n := 5) S_incentives_of.nd rfl (.inl rfl) (.inr rfl)) (fun _ _ _ _ _ => pts_one (pt_dcmp (o_ne hr.units) (pe_dvar (i := 5) rfl (.inl rfl) nd_other nc_other) (pe_dvar (i := 4) rfl (.inr (.inl rfl)) nd_act nc_act) rfl)) (fun _ _ _ _ _ => pe_dtup (pa_d1 (pe_dvar (i := 2) rfl (.inr (.inl rfl)) nd_player nc_player) (pa_d1 (pe_dvar (i := 4) rfl (.inr (.inl rfl)) nd_act nc_act) (pa_d1 (pe_dvar (i := 5) rfl (.inl rfl) nd_other nc_other) (pa_d0))))) (fun _ => rfl) rfl)) rfl)
      (pss_d0)) (fun _ => rfl))
      (pss_d0)) (fun _ => rfl))
      (pss_d1 (ps_dret (pe_dvar (i := 1) rfl (.inl rfl) nd_found nc_found))
      (pss_d0)))
theorem S_products_sum : FnScope ["some", "others", "one", "late"] ["some", "others"] D_products_sum.scope := ⟨rfl, rfl, rfl, by decide +kernel, rfl, by decide +kernel, by decide +kernel⟩
theorem b_products_sum (kV doc pm : Value) (an : Option Addr) (cdv ct : Value) (us : List Value) (h : us.length = (["some", "others"] : List Str).length) : bindArgs (PySem.W.fnOf D_products_sum.name D_products_sum.qual D_products_sum.params D_products_sum.body D_products_sum.scope .none kV doc pm an cdv ct) ⟨us, []⟩ = pure ((["some", "others"] : List Str).zip us) := match us, h with | [_, _], _ => rfl
theorem c_products_sum {P : Program} {w : World} {K : Frag} {mg : Str → Option Value} {base : Heap} (fx : Fx K mg base) : CalG P w K mg base 5 "products_sum" D_products_sum ["some", "others"] f_products_sum := by
  obtain ⟨a, fd, F, hm⟩ := fx.f_products_sum
  refine calG (D := D_products_sum) (N := ["some", "others", "one", "late"]) (k := 4) (d := d_products_sum) F hm S_products_sum fun cdv A outer s H hr hgd => ?_
  exact pss_d1 (ps_dret (pe_gcall (mus := [false]) (c_total fx) hr (by decide) hgd rfl rfl b_total (pa_d1 (pe_dcomp (own := [("one", 2), ("late", 3)]) (is := ([2] ++ ([3] ++ []))) rfl S_products_sum.nd (pi_dzip2 rfl fx.n_zip (pa_d1 (pe_dvar (i := 0) rfl (.inl rfl) nd_some nc_some) (pa_d1 (pe_dvar (i := 1) rfl (.inl rfl) nd_others nc_others) (pa_d0)))) rfl (fun _ _ _ _ _ => pg_dtup rfl (pgs_d1 (pg_dname (n := 2) S_products_sum.nd rfl (.inl rfl) (.inr rfl)) (pgs_d1 (pg_dname (n := 3) S_products_sum.nd rfl (.inl rfl) (.inr rfl)) (pgs_d0) rfl) rfl) rfl rfl) (fun _ _ _ _ _ => pts_nil) (fun _ _ _ _ _ => pe_gcall (mus := [false, false]) (c_multiply fx) hr (by decide) hgd rfl rfl b_multiply (pa_d1 (pe_dvar (i := 2) rfl (.inl rfl) nd_one nc_one) (pa_d1 (pe_dvar (i := 3) rfl (.inl rfl) nd_late nc_late) (pa_d0))) nd_multiply) (fun _ => rfl) rfl) (pa_d0)) nd_total))
      (pss_d0)
theorem S_mean_by : FnScope ["lot", "numbers", "one"] ["lot", "numbers"] D_mean_by.scope := ⟨rfl, rfl, rfl, by decide +kernel, rfl, by decide +kernel, by decide +kernel⟩
theorem b_mean_by (kV doc pm : Value) (an : Option Addr) (cdv ct : Value) (us : List Value) (h : us.length = (["lot", "numbers"] : List Str).length) : bindArgs (PySem.W.fnOf D_mean_by.name D_mean_by.qual D_mean_by.params D_mean_by.body D_mean_by.scope .none kV doc pm an cdv ct) ⟨us, []⟩ = pure ((["lot", "numbers"] : List Str).zip us) := match us, h with | [_, _], _ => rfl
theorem c_mean_by {P : Program} {w : World} {K : Frag} {mg : Str → Option Value} {base : Heap} (fx : Fx K mg base) : CalG P w K mg base 6 "mean_by" D_mean_by ["lot", "numbers"] f_mean_by := by
  obtain ⟨a, fd, F, hm⟩ := fx.f_mean_by
  refine calG (D := D_mean_by) (N := ["lot", "numbers", "one"]) (k := 5) (d := d_mean_by) F hm S_mean_by fun cdv A outer s H hr hgd => ?_
  exact pss_d1 (ps_dret (pe_gcall (mus := [false, false]) (c_products_sum fx) hr (by decide) hgd rfl rfl b_products_sum (pa_d1 (pe_dvar (i := 0) rfl (.inl rfl) nd_lot nc_lot) (pa_d1 (pe_dcomp (own := [("one", 2)]) (is := [2]) rfl S_mean_by.nd (pi_dseq (pe_dvar (i := 1) rfl (.inl rfl) nd_numbers nc_numbers)) rfl (fun _ _ _ _ _ => pg_dname (n := 2) S_mean_by.nd rfl (.inl rfl) (.inr rfl)) (fun _ _ _ _ _ => pts_nil) (fun _ _ _ _ _ => pe_dtup (pa_d1 (pe_dvar (i := 2) rfl (.inl rfl) nd_one nc_one) (pa_d1 (pe_dint) (pa_d0)))) (fun _ => rfl) rfl) (pa_d0))) nd_products_sum))
      (pss_d0)
theorem S_with_act : FnScope ["play", "player", "act"] ["play", "player", "act"] D_with_act.scope := ⟨rfl, rfl, rfl, by decide +kernel, rfl, by decide +kernel, by decide +kernel⟩
theorem b_with_act (kV doc pm : Value) (an : Option Addr) (cdv ct : Value) (us : List Value) (h : us.length = (["play", "player", "act"] : List Str).length) : bindArgs (PySem.W.fnOf D_with_act.name D_with_act.qual D_with_act.params D_with_act.body D_with_act.scope .none kV doc pm an cdv ct) ⟨us, []⟩ = pure ((["play", "player", "act"] : List Str).zip us) := match us, h with | [_, _, _], _ => rfl
theorem c_with_act {P : Program} {w : World} {K : Frag} {mg : Str → Option Value} {base : Heap} (fx : Fx K mg base) : CalG P w K mg base 1 "with_act" D_with_act ["play", "player", "act"] f_with_act := by
  obtain ⟨a, fd, F, hm⟩ := fx.f_with_act
  refine calG (D := D_with_act) (N := ["play", "player", "act"]) (k := 0) (d := d_with_act) F hm S_with_act fun cdv A outer s H hr hgd => ?_
  exact pss_d1 (ps_dret (pe_dbin o_add (pe_dbin o_add (pe_dsli (pe_dvar (i := 0) rfl (.inl rfl) nd_play nc_play) po_d0 (po_d1 (pe_dvar (i := 1) rfl (.inl rfl) nd_player nc_player))) (pe_dtup (pa_d1 (pe_dvar (i := 2) rfl (.inl rfl) nd_act nc_act) (pa_d0)))) (pe_dsli (pe_dvar (i := 0) rfl (.inl rfl) nd_play nc_play) (po_d1 (pe_dbin o_add (pe_dvar (i := 1) rfl (.inl rfl) nd_player nc_player) (pe_dint))) po_d0)))
      (pss_d0)
theorem S_place_of : FnScope ["sizes", "play", "found", "many", "act"] ["sizes", "play"] D_place_of.scope := ⟨rfl, rfl, rfl, by decide +kernel, rfl, by decide +kernel, by decide +kernel⟩
theorem b_place_of (kV doc pm : Value) (an : Option Addr) (cdv ct : Value) (us : List Value) (h : us.length = (["sizes", "play"] : List Str).length) : bindArgs (PySem.W.fnOf D_place_of.name D_place_of.qual D_place_of.params D_place_of.body D_place_of.scope .none kV doc pm an cdv ct) ⟨us, []⟩ = pure ((["sizes", "play"] : List Str).zip us) := match us, h with | [_, _], _ => rfl
theorem c_place_of {P : Program} {w : World} {K : Frag} {mg : Str → Option Value} {base : Heap} (fx : Fx K mg base) : CalG P w K mg base 1 "place_of" D_place_of ["sizes", "play"] f_place_of := by
  obtain ⟨a, fd, F, hm⟩ := fx.f_place_of
  refine calG (D := D_place_of) (N := ["sizes", "play", "found", "many", "act"]) (k := 0) (d := d_place_of) F hm S_place_of fun cdv A outer s H hr hgd => ?_
  exact pss_d1 (ps_dset (n := 2) (mu := false) S_place_of.nd rfl (.inl rfl) (.inl rfl) (pe_dint) rfl)
      (pss_d1 (ps_dfor PassesOwn.never rfl (pi_dzip2 rfl fx.n_zip (pa_d1 (pe_dvar (i := 0) rfl (.inl rfl) nd_sizes nc_sizes) (pa_d1 (pe_dvar (i := 1) rfl (.inl rfl) nd_play nc_play) (pa_d0)))) (pg_dtup rfl (pgs_d1 (pg_dname (n := 3) S_place_of.nd rfl (.inl rfl) (.inl rfl)) (pgs_d1 (pg_dname (n := 4) S_place_of.nd rfl (.inl rfl) (.inl rfl)) (pgs_d0) rfl) rfl) rfl rfl) (pss_d1 (ps_dset (n := 2) (mu := false) S_place_of.nd rfl (.inl rfl) (.inl rfl) (pe_dbin o_add (pe_dbin o_mul (pe_dvar (i := 2) rfl (.inl rfl) nd_found nc_found) (pe_dvar (i := 3) rfl (.inl rfl) nd_many nc_many)) (pe_dvar (i := 4) rfl (.inl rfl) nd_act nc_act)) rfl)
      (pss_d0)) (fun _ => rfl))
      (pss_d1 (ps_dret (pe_dvar (i := 2) rfl (.inl rfl) nd_found nc_found))
      (pss_d0)))
theorem S_worth_at : FnScope ["game", "player", "play"] ["game", "player", "play"] D_worth_at.scope := ⟨rfl, rfl, rfl, by decide +kernel, rfl, by decide +kernel, by decide +kernel⟩
theorem b_worth_at (kV doc pm : Value) (an : Option Addr) (cdv ct : Value) (us : List Value) (h : us.length = (["game", "player", "play"] : List Str).length) : bindArgs (PySem.W.fnOf D_worth_at.name D_worth_at.qual D_worth_at.params D_worth_at.body D_worth_at.scope .none kV doc pm an cdv ct) ⟨us, []⟩ = pure ((["game", "player", "play"] : List Str).zip us) := match us, h with | [_, _, _], _ => rfl
theorem c_worth_at {P : Program} {w : World} {K : Frag} {mg : Str → Option Value} {base : Heap} (fx : Fx K mg base) : CalG P w K mg base 2 "worth_at" D_worth_at ["game", "player", "play"] f_worth_at := by
  obtain ⟨a, fd, F, hm⟩ := fx.f_worth_at
  refine calG (D := D_worth_at) (N := ["game", "player", "play"]) (k := 1) (d := d_worth_at) F hm S_worth_at fun cdv A outer s H hr hgd => ?_
  exact pss_d1 (ps_dret (pe_dix (pe_dix (pe_dix (pe_dvar (i := 0) rfl (.inl rfl) nd_game nc_game) (pe_dint) (fun _ _ _ _ h => nomatch h)) (pe_dvar (i := 1) rfl (.inl rfl) nd_player nc_player) (fun _ _ _ _ h => nomatch h)) (pe_gcall (mus := [false, false]) (c_place_of fx) hr (by decide) hgd rfl rfl b_place_of (pa_d1 (pe_dix (pe_dvar (i := 0) rfl (.inl rfl) nd_game nc_game) (pe_dint) (fun _ _ _ _ h => nomatch h)) (pa_d1 (pe_dvar (i := 2) rfl (.inl rfl) nd_play nc_play) (pa_d0))) nd_place_of) (fun _ _ _ _ h => nomatch h)))
      (pss_d0)
theorem S_losses_of : FnScope ["game", "incentive", "player", "act", "other", "found", "play", "late"] ["game", "incentive"] D_losses_of.scope := ⟨rfl, rfl, rfl, by decide +kernel, rfl, by decide +kernel, by decide +kernel⟩
theorem b_losses_of (kV doc pm : Value) (an : Option Addr) (cdv ct : Value) (us : List Value) (h : us.length = (["game", "incentive"] : List Str).length) : bindArgs (PySem.W.fnOf D_losses_of.name D_losses_of.qual D_losses_of.params D_losses_of.body D_losses_of.scope .none kV doc pm an cdv ct) ⟨us, []⟩ = pure ((["game", "incentive"] : List Str).zip us) := match us, h with | [_, _], _ => rfl
theorem c_losses_of {P : Program} {w : World} {K : Frag} {mg : Str → Option Value} {base : Heap} (fx : Fx K mg base) : CalG P w K mg base 3 "losses_of" D_losses_of ["game", "incentive"] f_losses_of := by
  obtain ⟨a, fd, F, hm⟩ := fx.f_losses_of
  refine calG (D := D_losses_of) (N := ["game", "incentive", "player", "act", "other", "found", "play", "late"]) (k := 2) (d := d_losses_of) F hm S_losses_of fun cdv A outer s H hr hgd => ?_
  exact pss_d1 (ps_dasg (is := ([2] ++ ([3] ++ ([4] ++ [])))) (pe_dvar (i := 1) rfl (.inl rfl) nd_incentive nc_incentive) (pg_dtup rfl (pgs_d1 (pg_dname (n := 2) S_losses_of.nd rfl (.inl rfl) (.inl rfl)) (pgs_d1 (pg_dname (n := 3) S_losses_of.nd rfl (.inl rfl) (.inl rfl)) (pgs_d1 (pg_dname (n := 4) S_losses_of.nd rfl (.inl rfl) (.inl rfl)) (pgs_d0) rfl) rfl) rfl) rfl rfl) rfl rfl rfl)
      (pss_d1 (ps_dset (n := 5) (mu := true) S_losses_of.nd rfl (.inl rfl) (.inl rfl) (pe_dlst (pa_d0)) rfl)
      (pss_d1 (ps_dfor PassesOwn.never rfl (pi_dseq (pe_gcall (mus := [false]) (c_plays_of fx) hr (by decide) hgd rfl rfl b_plays_of (pa_d1 (pe_dix (pe_dvar (i := 0) rfl (.inl rfl) nd_game nc_game) (pe_dint) (fun _ _ _ _ h => nomatch h)) (pa_d0)) nd_plays_of)) (pg_dname (n := 6) S_losses_of.nd rfl (.inl rfl) (.inl rfl)) (pss_d1 (ps_dset (n := 7) (mu := false) S_losses_of.nd rfl (.inl rfl) (.inl rfl) (pe_gcall (mus := [false, false, false]) (c_worth_at fx) hr (by decide) hgd rfl rfl b_worth_at (pa_d1 (pe_dvar (i := 0) rfl (.inl rfl) nd_game nc_game) (pa_d1 (pe_dvar (i := 2) rfl (.inl rfl) nd_player nc_player) (pa_d1 (pe_gcall (mus := [false, false, false]) (c_with_act fx) hr (by decide) hgd rfl rfl b_with_act (pa_d1 (pe_dvar (i := 6) rfl (.inl rfl) nd_play nc_play) (pa_d1 (pe_dvar (i := 2) rfl (.inl rfl) nd_player nc_player) (pa_d1 (pe_dvar (i := 4) rfl (.inl rfl) nd_other nc_other) (pa_d0)))) nd_with_act) (pa_d0)))) nd_worth_at) rfl)
      (pss_d1 (ps_dexpr (pe_dapp ⟨rfl, rfl, rfl⟩ (fun _ _ h => nomatch h) (pe_dvar (i := 5) rfl (.inl rfl) nd_found nc_found) (pe_dite (pt_dcmp (o_eq hr.units) (pe_dix (pe_dvar (i := 6) rfl (.inl rfl) nd_play nc_play) (pe_dvar (i := 2) rfl (.inl rfl) nd_player nc_player) (fun _ _ _ _ h => nomatch h)) (pe_dvar (i := 3) rfl (.inl rfl) nd_act nc_act) rfl) (pe_dbin o_sub (pe_gcall (mus := [false, false, false]) (c_worth_at fx) hr (by decide) hgd rfl rfl b_worth_at (pa_d1 (pe_dvar (i := 0) rfl (.inl rfl) nd_game nc_game) (pa_d1 (pe_dvar (i := 2) rfl (.inl rfl) nd_player nc_player) (pa_d1 (pe_dvar (i := 6) rfl (.inl rfl) nd_play nc_play) (pa_d0)))) nd_worth_at) (pe_dvar (i := 7) rfl (.inl rfl) nd_late nc_late)) (pe_dint))) rfl)
      (pss_d0))) (fun _ => rfl))
      (pss_d1 (ps_dret (pe_dvar (i := 5) rfl (.inl rfl) nd_found nc_found))
      (pss_d0))))
theorem S_gain_of : FnScope ["game", "lot", "incentive", "one"] ["game", "lot", "incentive"] D_gain_of.scope := ⟨rfl, rfl, rfl, by decide +kernel, rfl, by decide +kernel, by decide +kernel⟩
theorem b_gain_of (kV doc pm : Value) (an : Option Addr) (cdv ct : Value) (us : List Value) (h : us.length = (["game", "lot", "incentive"] : List Str).length) : bindArgs (PySem.W.fnOf D_gain_of.name D_gain_of.qual D_gain_of.params D_gain_of.body D_gain_of.scope .none kV doc pm an cdv ct) ⟨us, []⟩ = pure ((["game", "lot", "incentive"] : List Str).zip us) := match us, h with | [_, _, _], _ => rfl
theorem c_gain_of {P : Program} {w : World} {K : Frag} {mg : Str → Option Value} {base : Heap} (fx : Fx K mg base) : CalG P w K mg base 7 "gain_of" D_gain_of ["game", "lot", "incentive"] f_gain_of := by
  obtain ⟨a, fd, F, hm⟩ := fx.f_gain_of
  refine calG (D := D_gain_of) (N := ["game", "lot", "incentive", "one"]) (k := 6) (d := d_gain_of) F hm S_gain_of fun cdv A outer s H hr hgd => ?_
  exact pss_d1 (ps_dret (pe_gcall (mus := [false, false]) (c_mean_by fx) hr (by decide) hgd rfl rfl b_mean_by (pa_d1 (pe_dvar (i := 1) rfl (.inl rfl) nd_lot nc_lot) (pa_d1 (pe_dcomp (own := [("one", 3)]) (is := [3]) rfl S_gain_of.nd (pi_dseq (pe_gcall (mus := [false, false]) (c_losses_of fx) hr (by decide) hgd rfl rfl b_losses_of (pa_d1 (pe_dvar (i := 0) rfl (.inl rfl) nd_game nc_game) (pa_d1 (pe_dvar (i := 2) rfl (.inl rfl) nd_incentive nc_incentive) (pa_d0))) nd_losses_of)) rfl (fun _ _ _ _ _ => pg_dname (n := 3) S_gain_of.nd rfl (.inl rfl) (.inr rfl)) (fun _ _ _ _ _ => pts_nil) (fun _ _ _ _ _ => pe_dbin o_sub (pe_dint) (pe_dvar (i := 3) rfl (.inl rfl) nd_one nc_one)) (fun _ => rfl) rfl) (pa_d0))) nd_mean_by))
      (pss_d0)
theorem S_first_incentive : FnScope ["game", "lot", "incentive"] ["game", "lot"] D_first_incentive.scope := ⟨rfl, rfl, rfl, by decide +kernel, rfl, by decide +kernel, by decide +kernel⟩
theorem b_first_incentive (kV doc pm : Value) (an : Option Addr) (cdv ct : Value) (us : List Value) (h : us.length = (["game", "lot"] : List Str).length) : bindArgs (PySem.W.fnOf D_first_incentive.name D_first_incentive.qual D_first_incentive.params D_first_incentive.body D_first_incentive.scope .none kV doc pm an cdv ct) ⟨us, []⟩ = pure ((["game", "lot"] : List Str).zip us) := match us, h with | [_, _], _ => rfl
theorem c_first_incentive {P : Program} {w : World} {K : Frag} {mg : Str → Option Value} {base : Heap} (fx : Fx K mg base) : CalG P w K mg base 8 "first_incentive" D_first_incentive ["game", "lot"] f_first_incentive := by
  obtain ⟨a, fd, F, hm⟩ := fx.f_first_incentive
  refine calG (D := D_first_incentive) (N := ["game", "lot", "incentive"]) (k := 7) (d := d_first_incentive) F hm S_first_incentive fun cdv A outer s H hr hgd => ?_
  exact pss_d1 (ps_dfor PassesOwn.never rfl (pi_dseq (pe_gcall (mus := [false]) (c_incentives_of fx) hr (by decide) hgd rfl rfl b_incentives_of (pa_d1 (pe_dvar (i := 0) rfl (.inl rfl) nd_game nc_game) (pa_d0)) nd_incentives_of)) (pg_dname (n := 2) S_first_incentive.nd rfl (.inl rfl) (.inl rfl)) (pss_d1 (ps_dif (pt_dcmp o_gt (pe_dix (pe_gcall (mus := [false, false, false]) (c_gain_of fx) hr (by decide) hgd rfl rfl b_gain_of (pa_d1 (pe_dvar (i := 0) rfl (.inl rfl) nd_game nc_game) (pa_d1 (pe_dvar (i := 1) rfl (.inl rfl) nd_lot nc_lot) (pa_d1 (pe_dvar (i := 2) rfl (.inl rfl) nd_incentive nc_incentive) (pa_d0)))) nd_gain_of) (pe_dint) (fun _ _ _ _ h => nomatch h)) (pe_dint) rfl) (pss_d1 (ps_dret (pe_dvar (i := 2) rfl (.inl rfl) nd_incentive nc_incentive))
      (pss_d0)) (pss_d0))
      (pss_d0)) (fun _ => rfl))
      (pss_d1 (ps_dret (pe_dnon))
      (pss_d0))
theorem S_is_obeyed : FnScope ["game", "lot"] ["game", "lot"] D_is_obeyed.scope := ⟨rfl, rfl, rfl, by decide +kernel, rfl, by decide +kernel, by decide +kernel⟩
theorem b_is_obeyed (kV doc pm : Value) (an : Option Addr) (cdv ct : Value) (us : List Value) (h : us.length = (["game", "lot"] : List Str).length) : bindArgs (PySem.W.fnOf D_is_obeyed.name D_is_obeyed.qual D_is_obeyed.params D_is_obeyed.body D_is_obeyed.scope .none kV doc pm an cdv ct) ⟨us, []⟩ = pure ((["game", "lot"] : List Str).zip us) := match us, h with | [_, _], _ => rfl
theorem k_is_obeyed_0_lot_game (kV doc pm : Value) (an : Option Addr) (cdv ct : Value) (ws : List Value) (h2 : ws.length = 2) : bindArgs (PySem.W.fnOf D_is_obeyed.name D_is_obeyed.qual D_is_obeyed.params D_is_obeyed.body D_is_obeyed.scope .none kV doc pm an cdv ct) ⟨[], (["lot", "game"] : List Str).zip ws⟩ = pure ((["game", "lot"] : List Str).zip (permL [1, 0] ws)) := match ws, h2 with | [_, _], _ => rfl
theorem c_is_obeyed {P : Program} {w : World} {K : Frag} {mg : Str → Option Value} {base : Heap} (fx : Fx K mg base) : CalG P w K mg base 9 "is_obeyed" D_is_obeyed ["game", "lot"] f_is_obeyed := by
  obtain ⟨a, fd, F, hm⟩ := fx.f_is_obeyed
  refine calG (D := D_is_obeyed) (N := ["game", "lot"]) (k := 8) (d := d_is_obeyed) F hm S_is_obeyed fun cdv A outer s H hr hgd => ?_
  exact pss_d1 (ps_dexpr (pe_gcall (mus := [false, false]) (c_check_lot_of fx) hr (by decide) hgd rfl rfl b_check_lot_of (pa_d1 (pe_dvar (i := 0) rfl (.inl rfl) nd_game nc_game) (pa_d1 (pe_dvar (i := 1) rfl (.inl rfl) nd_lot nc_lot) (pa_d0))) nd_check_lot_of) rfl)
      (pss_d1 (ps_dret (pe_dcmp o_is (pe_gcall (mus := [false, false]) (c_first_incentive fx) hr (by decide) hgd rfl rfl b_first_incentive (pa_d1 (pe_dvar (i := 0) rfl (.inl rfl) nd_game nc_game) (pa_d1 (pe_dvar (i := 1) rfl (.inl rfl) nd_lot nc_lot) (pa_d0))) nd_first_incentive) (pe_dnon) rfl))
      (pss_d0))
theorem S_outside_by : FnScope ["game", "lot", "player", "act", "found", "play"] ["game", "lot", "player", "act"] D_outside_by.scope := ⟨rfl, rfl, rfl, by decide +kernel, rfl, by decide +kernel, by decide +kernel⟩
theorem b_outside_by (kV doc pm : Value) (an : Option Addr) (cdv ct : Value) (us : List Value) (h : us.length = (["game", "lot", "player", "act"] : List Str).length) : bindArgs (PySem.W.fnOf D_outside_by.name D_outside_by.qual D_outside_by.params D_outside_by.body D_outside_by.scope .none kV doc pm an cdv ct) ⟨us, []⟩ = pure ((["game", "lot", "player", "act"] : List Str).zip us) := match us, h with | [_, _, _, _], _ => rfl
theorem c_outside_by {P : Program} {w : World} {K : Frag} {mg : Str → Option Value} {base : Heap} (fx : Fx K mg base) : CalG P w K mg base 7 "outside_by" D_outside_by ["game", "lot", "player", "act"] f_outside_by := by
  obtain ⟨a, fd, F, hm⟩ := fx.f_outside_by
  refine calG (D := D_outside_by) (N := ["game", "lot", "player", "act", "found", "play"]) (k := 6) (d := d_outside_by) F hm S_outside_by fun cdv A outer s H hr hgd => ?_
  exact pss_d1 (ps_dset (n := 4) (mu := true) S_outside_by.nd rfl (.inl rfl) (.inl rfl) (pe_dlst (pa_d0)) rfl)
      (pss_d1 (ps_dfor PassesOwn.never rfl (pi_dseq (pe_gcall (mus := [false]) (c_plays_of fx) hr (by decide) hgd rfl rfl b_plays_of (pa_d1 (pe_dix (pe_dvar (i := 0) rfl (.inl rfl) nd_game nc_game) (pe_dint) (fun _ _ _ _ h => nomatch h)) (pa_d0)) nd_plays_of)) (pg_dname (n := 5) S_outside_by.nd rfl (.inl rfl) (.inl rfl)) (pss_d1 (ps_dexpr (pe_dapp ⟨rfl, rfl, rfl⟩ (fun _ _ h => nomatch h) (pe_dvar (i := 4) rfl (.inl rfl) nd_found nc_found) (pe_dbin o_sub (pe_gcall (mus := [false, false, false]) (c_worth_at fx) hr (by decide) hgd rfl rfl b_worth_at (pa_d1 (pe_dvar (i := 0) rfl (.inl rfl) nd_game nc_game) (pa_d1 (pe_dvar (i := 2) rfl (.inl rfl) nd_player nc_player) (pa_d1 (pe_gcall (mus := [false, false, false]) (c_with_act fx) hr (by decide) hgd rfl rfl b_with_act (pa_d1 (pe_dvar (i := 5) rfl (.inl rfl) nd_play nc_play) (pa_d1 (pe_dvar (i := 2) rfl (.inl rfl) nd_player nc_player) (pa_d1 (pe_dvar (i := 3) rfl (.inl rfl) nd_act nc_act) (pa_d0)))) nd_with_act) (pa_d0)))) nd_worth_at) (pe_gcall (mus := [false, false, false]) (c_worth_at fx) hr (by decide) hgd rfl rfl b_worth_at (pa_d1 (pe_dvar (i := 0) rfl (.inl rfl) nd_game nc_game) (pa_d1 (pe_dvar (i := 2) rfl (.inl rfl) nd_player nc_player) (pa_d1 (pe_dvar (i := 5) rfl (.inl rfl) nd_play nc_play) (pa_d0)))) nd_worth_at))) rfl)
      (pss_d0)) (fun _ => rfl))
      (pss_d1 (ps_dret (pe_gcall (mus := [false, false]) (c_mean_by fx) hr (by decide) hgd rfl rfl b_mean_by (pa_d1 (pe_dvar (i := 1) rfl (.inl rfl) nd_lot nc_lot) (pa_d1 (pe_dvar (i := 4) rfl (.inl rfl) nd_found nc_found) (pa_d0))) nd_mean_by))
      (pss_d0)))
theorem S_first_outside : FnScope ["game", "lot", "player", "many", "act"] ["game", "lot"] D_first_outside.scope := ⟨rfl, rfl, rfl, by decide +kernel, rfl, by decide +kernel, by decide +kernel⟩
theorem b_first_outside (kV doc pm : Value) (an : Option Addr) (cdv ct : Value) (us : List Value) (h : us.length = (["game", "lot"] : List Str).length) : bindArgs (PySem.W.fnOf D_first_outside.name D_first_outside.qual D_first_outside.params D_first_outside.body D_first_outside.scope .none kV doc pm an cdv ct) ⟨us, []⟩ = pure ((["game", "lot"] : List Str).zip us) := match us, h with | [_, _], _ => rfl
theorem c_first_outside {P : Program} {w : World} {K : Frag} {mg : Str → Option Value} {base : Heap} (fx : Fx K mg base) : CalG P w K mg base 8 "first_outside" D_first_outside ["game", "lot"] f_first_outside := by
  obtain ⟨a, fd, F, hm⟩ := fx.f_first_outside
  refine calG (D := D_first_outside) (N := ["game", "lot", "player", "many", "act"]) (k := 7) (d := d_first_outside) F hm S_first_outside fun cdv A outer s H hr hgd => ?_
  exact pss_d1 (ps_dfor PassesOwn.never rfl (pi_denum rfl fx.n_enumerate (pe_dix (pe_dvar (i := 0) rfl (.inl rfl) nd_game nc_game) (pe_dint) (fun _ _ _ _ h => nomatch h))) (pg_dtup rfl (pgs_d1 (pg_dname (n := 2) S_first_outside.nd rfl (.inl rfl) (.inl rfl)) (pgs_d1 (pg_dname (n := 3) S_first_outside.nd rfl (.inl rfl) (.inl rfl)) (pgs_d0) rfl) rfl) rfl rfl) (pss_d1 (ps_dfor PassesOwn.never rfl (pi_drng1 rfl fx.n_range (pa_d1 (pe_dvar (i := 3) rfl (.inl rfl) nd_many nc_many) (pa_d0))) (pg_dname (n := 4) S_first_outside.nd rfl (.inl rfl) (.inl rfl)) (pss_d1 (ps_dif (pt_dcmp o_gt (pe_dix (pe_gcall (mus := [false, false, false, false]) (c_outside_by fx) hr (by decide) hgd rfl rfl b_outside_by (pa_d1 (pe_dvar (i := 0) rfl (.inl rfl) nd_game nc_game) (pa_d1 (pe_dvar (i := 1) rfl (.inl rfl) nd_lot nc_lot) (pa_d1 (pe_dvar (i := 2) rfl (.inl rfl) nd_player nc_player) (pa_d1 (pe_dvar (i := 4) rfl (.inl rfl) nd_act nc_act) (pa_d0))))) nd_outside_by) (pe_dint) (fun _ _ _ _ h => nomatch h)) (pe_dint) rfl) (pss_d1 (ps_dret (pe_dtup (pa_d1 (pe_dvar (i := 2) rfl (.inl rfl) nd_player nc_player) (pa_d1 (pe_dvar (i := 4) rfl (.inl rfl) nd_act nc_act) (pa_d0)))))
      (pss_d0)) (pss_d0))
      (pss_d0)) (fun _ => rfl))
      (pss_d0)) (fun _ => rfl))
      (pss_d1 (ps_dret (pe_dnon))
      (pss_d0))
theorem S_is_accepted : FnScope ["game", "lot"] ["game", "lot"] D_is_accepted.scope := ⟨rfl, rfl, rfl, by decide +kernel, rfl, by decide +kernel, by decide +kernel⟩
theorem b_is_accepted (kV doc pm : Value) (an : Option Addr) (cdv ct : Value) (us : List Value) (h : us.length = (["game", "lot"] : List Str).length) : bindArgs (PySem.W.fnOf D_is_accepted.name D_is_accepted.qual D_is_accepted.params D_is_accepted.body D_is_accepted.scope .none kV doc pm an cdv ct) ⟨us, []⟩ = pure ((["game", "lot"] : List Str).zip us) := match us, h with | [_, _], _ => rfl
theorem k_is_accepted_0_lot_game (kV doc pm : Value) (an : Option Addr) (cdv ct : Value) (ws : List Value) (h2 : ws.length = 2) : bindArgs (PySem.W.fnOf D_is_accepted.name D_is_accepted.qual D_is_accepted.params D_is_accepted.body D_is_accepted.scope .none kV doc pm an cdv ct) ⟨[], (["lot", "game"] : List Str).zip ws⟩ = pure ((["game", "lot"] : List Str).zip (permL [1, 0] ws)) := match ws, h2 with | [_, _], _ => rfl
theorem c_is_accepted {P : Program} {w : World} {K : Frag} {mg : Str → Option Value} {base : Heap} (fx : Fx K mg base) : CalG P w K mg base 9 "is_accepted" D_is_accepted ["game", "lot"] f_is_accepted := by
  obtain ⟨a, fd, F, hm⟩ := fx.f_is_accepted
  refine calG (D := D_is_accepted) (N := ["game", "lot"]) (k := 8) (d := d_is_accepted) F hm S_is_accepted fun cdv A outer s H hr hgd => ?_
  exact pss_d1 (ps_dexpr (pe_gcall (mus := [false, false]) (c_check_lot_of fx) hr (by decide) hgd rfl rfl b_check_lot_of (pa_d1 (pe_dvar (i := 0) rfl (.inl rfl) nd_game nc_game) (pa_d1 (pe_dvar (i := 1) rfl (.inl rfl) nd_lot nc_lot) (pa_d0))) nd_check_lot_of) rfl)
      (pss_d1 (ps_dret (pe_dcmp o_is (pe_gcall (mus := [false, false]) (c_first_outside fx) hr (by decide) hgd rfl rfl b_first_outside (pa_d1 (pe_dvar (i := 0) rfl (.inl rfl) nd_game nc_game) (pa_d1 (pe_dvar (i := 1) rfl (.inl rfl) nd_lot nc_lot) (pa_d0))) nd_first_outside) (pe_dnon) rfl))
      (pss_d0))
theorem S__law_draw : FnScope ["pot", "many", "digit"] ["pot", "many"] D__law_draw.scope := ⟨rfl, rfl, rfl, by decide +kernel, rfl, by decide +kernel, by decide +kernel⟩
theorem b__law_draw (kV doc pm : Value) (an : Option Addr) (cdv ct : Value) (us : List Value) (h : us.length = (["pot", "many"] : List Str).length) : bindArgs (PySem.W.fnOf D__law_draw.name D__law_draw.qual D__law_draw.params D__law_draw.body D__law_draw.scope .none kV doc pm an cdv ct) ⟨us, []⟩ = pure ((["pot", "many"] : List Str).zip us) := match us, h with | [_, _], _ => rfl
theorem c__law_draw {P : Program} {w : World} {K : Frag} {mg : Str → Option Value} {base : Heap} (fx : Fx K mg base) : CalG P w K mg base 1 "_law_draw" D__law_draw ["pot", "many"] f__law_draw := by
  obtain ⟨a, fd, F, hm⟩ := fx.f__law_draw
  refine calG (D := D__law_draw) (N := ["pot", "many", "digit"]) (k := 0) (d := d__law_draw) F hm S__law_draw fun cdv A outer s H hr hgd => ?_
  exact pss_d1 (ps_dif (pt_dcmp o_gt (pe_dix (pe_dvar (i := 0) rfl (.inl rfl) nd_pot nc_pot) (pe_dint) (fun _ _ _ _ h => nomatch h)) (pe_dint) rfl) (pss_d1 (ps_dasg (is := ([] ++ ([2] ++ []))) (pe_dcb c_dm rfl fx.n_divmod bb_divmod (pa_d1 (pe_dix (pe_dvar (i := 0) rfl (.inl rfl) nd_pot nc_pot) (pe_dint) (fun _ _ _ _ h => nomatch h)) (pa_d1 (pe_dvar (i := 1) rfl (.inl rfl) nd_many nc_many) (pa_d0))) (by decide) nd_divmod) (pg_dtup rfl (pgs_d1 (pg_dsub (pe_dvar (i := 0) rfl (.inl rfl) nd_pot nc_pot) (pe_dint) (fun _ => rfl)) (pgs_d1 (pg_dname (n := 2) S__law_draw.nd rfl (.inl rfl) (.inl rfl)) (pgs_d0) rfl) rfl) rfl rfl) rfl rfl rfl)
      (pss_d1 (ps_dret (pe_dvar (i := 2) rfl (.inl rfl) nd_digit nc_digit))
      (pss_d0))) (pss_d0))
      (pss_d1 (ps_dasg (is := []) (pe_dbin o_mod (pe_dct c_int rfl fx.n_int bb_int (pa_d1 (pe_dbin o_add (pe_dbin o_mul (pe_dix (pe_dvar (i := 0) rfl (.inl rfl) nd_pot nc_pot) (pe_dint) (fun _ _ _ _ h => nomatch h)) (pe_dint)) (pe_dint)) (pa_d0)) (by decide) nd_int) (pe_dint)) (pg_dsub (pe_dvar (i := 0) rfl (.inl rfl) nd_pot nc_pot) (pe_dint) (fun _ => rfl)) rfl rfl rfl)
      (pss_d1 (ps_dret (pe_dbin o_mod (pe_dct c_int rfl fx.n_int bb_int (pa_d1 (pe_dbin o_div (pe_dbin o_mod (pe_dct c_int rfl fx.n_int bb_int (pa_d1 (pe_dbin o_mul (pe_dix (pe_dvar (i := 0) rfl (.inl rfl) nd_pot nc_pot) (pe_dint) (fun _ _ _ _ h => nomatch h)) (pe_dix (pe_dvar (i := 0) rfl (.inl rfl) nd_pot nc_pot) (pe_dint) (fun _ _ _ _ h => nomatch h))) (pa_d0)) (by decide) nd_int) (pe_dint)) (pe_dint)) (pa_d0)) (by decide) nd_int) (pe_dvar (i := 1) rfl (.inl rfl) nd_many nc_many)))
      (pss_d0)))
theorem S__law_pick : FnScope ["pot", "some"] ["pot", "some"] D__law_pick.scope := ⟨rfl, rfl, rfl, by decide +kernel, rfl, by decide +kernel, by decide +kernel⟩
theorem b__law_pick (kV doc pm : Value) (an : Option Addr) (cdv ct : Value) (us : List Value) (h : us.length = (["pot", "some"] : List Str).length) : bindArgs (PySem.W.fnOf D__law_pick.name D__law_pick.qual D__law_pick.params D__law_pick.body D__law_pick.scope .none kV doc pm an cdv ct) ⟨us, []⟩ = pure ((["pot", "some"] : List Str).zip us) := match us, h with | [_, _], _ => rfl
theorem c__law_pick {P : Program} {w : World} {K : Frag} {mg : Str → Option Value} {base : Heap} (fx : Fx K mg base) : CalG P w K mg base 2 "_law_pick" D__law_pick ["pot", "some"] f__law_pick := by
  obtain ⟨a, fd, F, hm⟩ := fx.f__law_pick
  refine calG (D := D__law_pick) (N := ["pot", "some"]) (k := 1) (d := d__law_pick) F hm S__law_pick fun cdv A outer s H hr hgd => ?_
  exact pss_d1 (ps_dret (pe_dix (pe_dvar (i := 1) rfl (.inl rfl) nd_some nc_some) (pe_gcall (mus := [true, false]) (c__law_draw fx) hr (by decide) hgd rfl rfl b__law_draw (pa_d1 (pe_dvar (i := 0) rfl (.inl rfl) nd_pot nc_pot) (pa_d1 (pe_dcb c_len rfl fx.n_len bb_len (pa_d1 (pe_dvar (i := 1) rfl (.inl rfl) nd_some nc_some) (pa_d0)) (by decide) nd_len) (pa_d0))) nd__law_draw) (fun _ _ _ _ h => nomatch h)))
      (pss_d0)
theorem S__law_divisor : FnScope ["one", "other"] ["one", "other"] D__law_divisor.scope := ⟨rfl, rfl, rfl, by decide +kernel, rfl, by decide +kernel, by decide +kernel⟩
theorem b__law_divisor (kV doc pm : Value) (an : Option Addr) (cdv ct : Value) (us : List Value) (h : us.length = (["one", "other"] : List Str).length) : bindArgs (PySem.W.fnOf D__law_divisor.name D__law_divisor.qual D__law_divisor.params D__law_divisor.body D__law_divisor.scope .none kV doc pm an cdv ct) ⟨us, []⟩ = pure ((["one", "other"] : List Str).zip us) := match us, h with | [_, _], _ => rfl
theorem c__law_divisor {P : Program} {w : World} {K : Frag} {mg : Str → Option Value} {base : Heap} (fx : Fx K mg base) : CalG P w K mg base 1 "_law_divisor" D__law_divisor ["one", "other"] f__law_divisor := by
  obtain ⟨a, fd, F, hm⟩ := fx.f__law_divisor
  refine calG (D := D__law_divisor) (N := ["one", "other"]) (k := 0) (d := d__law_divisor) F hm S__law_divisor fun cdv A outer s H hr hgd => ?_
  exact pss_d1 (ps_dwhile PassesOwn.never (pt_dcmp o_gt (pe_dvar (i := 1) rfl (.inl rfl) nd_other nc_other) (pe_dint) rfl) (pss_d1 (ps_dpar2 (i := 0) (j := 1) (mi := false) (mj := false) rfl S__law_divisor.nd rfl rfl (by decide) rfl rfl (pa_d1 (pe_dvar (i := 1) rfl (.inl rfl) nd_other nc_other) (pa_d1 (pe_dbin o_mod (pe_dct c_int rfl fx.n_int bb_int (pa_d1 (pe_dvar (i := 0) rfl (.inl rfl) nd_one nc_one) (pa_d0)) (by decide) nd_int) (pe_dvar (i := 1) rfl (.inl rfl) nd_other nc_other)) (pa_d0))) rfl)
      (pss_d0)))
      (pss_d1 (ps_dret (pe_dvar (i := 0) rfl (.inl rfl) nd_one nc_one))
      (pss_d0))
theorem S__law_cut : FnScope ["top", "bottom", "common"] ["top", "bottom"] D__law_cut.scope := ⟨rfl, rfl, rfl, by decide +kernel, rfl, by decide +kernel, by decide +kernel⟩
theorem b__law_cut (kV doc pm : Value) (an : Option Addr) (cdv ct : Value) (us : List Value) (h : us.length = (["top", "bottom"] : List Str).length) : bindArgs (PySem.W.fnOf D__law_cut.name D__law_cut.qual D__law_cut.params D__law_cut.body D__law_cut.scope .none kV doc pm an cdv ct) ⟨us, []⟩ = pure ((["top", "bottom"] : List Str).zip us) := match us, h with | [_, _], _ => rfl
theorem c__law_cut {P : Program} {w : World} {K : Frag} {mg : Str → Option Value} {base : Heap} (fx : Fx K mg base) : CalG P w K mg base 2 "_law_cut" D__law_cut ["top", "bottom"] f__law_cut := by
  obtain ⟨a, fd, F, hm⟩ := fx.f__law_cut
  refine calG (D := D__law_cut) (N := ["top", "bottom", "common"]) (k := 1) (d := d__law_cut) F hm S__law_cut fun cdv A outer s H hr hgd => ?_
  exact pss_d1 (ps_dif (pt_dcmp o_lt (pe_dvar (i := 1) rfl (.inl rfl) nd_bottom nc_bottom) (pe_dint) rfl) (pss_d1 (ps_dpar2 (i := 0) (j := 1) (mi := false) (mj := false) rfl S__law_cut.nd rfl rfl (by decide) rfl rfl (pa_d1 (pe_dun o_neg (pe_dvar (i := 0) rfl (.inl rfl) nd_top nc_top)) (pa_d1 (pe_dun o_neg (pe_dvar (i := 1) rfl (.inl rfl) nd_bottom nc_bottom)) (pa_d0))) rfl)
      (pss_d0)) (pss_d0))
      (pss_d1 (ps_dset (n := 2) (mu := false) S__law_cut.nd rfl (.inl rfl) (.inl rfl) (pe_gcall (mus := [false, false]) (c__law_divisor fx) hr (by decide) hgd rfl rfl b__law_divisor (pa_d1 (pe_dcb c_abs rfl fx.n_abs bb_abs (pa_d1 (pe_dvar (i := 0) rfl (.inl rfl) nd_top nc_top) (pa_d0)) (by decide) nd_abs) (pa_d1 (pe_dvar (i := 1) rfl (.inl rfl) nd_bottom nc_bottom) (pa_d0))) nd__law_divisor) rfl)
      (pss_d1 (ps_dret (pe_dtup (pa_d1 (pe_dbin o_div (pe_dvar (i := 0) rfl (.inl rfl) nd_top nc_top) (pe_dvar (i := 2) rfl (.inl rfl) nd_common nc_common)) (pa_d1 (pe_dbin o_div (pe_dvar (i := 1) rfl (.inl rfl) nd_bottom nc_bottom) (pe_dvar (i := 2) rfl (.inl rfl) nd_common nc_common)) (pa_d0)))))
      (pss_d0)))
theorem S__law_lot : FnScope ["pot", "many", "most", "parts", "place", "part"] ["pot", "many"] D__law_lot.scope := ⟨rfl, rfl, rfl, by decide +kernel, rfl, by decide +kernel, by decide +kernel⟩
theorem b__law_lot (kV doc pm : Value) (an : Option Addr) (cdv ct : Value) (us : List Value) (h : us.length = (["pot", "many"] : List Str).length) : bindArgs (PySem.W.fnOf D__law_lot.name D__law_lot.qual D__law_lot.params D__law_lot.body D__law_lot.scope .none kV doc pm an cdv ct) ⟨us, []⟩ = pure ((["pot", "many"] : List Str).zip us) := match us, h with | [_, _], _ => rfl
theorem c__law_lot {P : Program} {w : World} {K : Frag} {mg : Str → Option Value} {base : Heap} (fx : Fx K mg base) : CalG P w K mg base 3 "_law_lot" D__law_lot ["pot", "many"] f__law_lot := by
  obtain ⟨a, fd, F, hm⟩ := fx.f__law_lot
  refine calG (D := D__law_lot) (N := ["pot", "many", "most", "parts", "place", "part"]) (k := 2) (d := d__law_lot) F hm S__law_lot fun cdv A outer s H hr hgd => ?_
  exact pss_d1 (ps_dset (n := 2) (mu := false) S__law_lot.nd rfl (.inr rfl) (.inl rfl) (pe_gcall (mus := [true, false]) (c__law_pick fx) hr (by decide) hgd rfl rfl b__law_pick (pa_d1 (pe_dvar (i := 0) rfl (.inr (.inl rfl)) nd_pot nc_pot) (pa_d1 (pe_dlst (pa_d1 (pe_dint) (pa_d1 (pe_dint) (pa_d1 (pe_dint) (pa_d0))))) (pa_d0))) nd__law_pick) rfl)
      (pss_d1 (ps_dset (n := 3) (mu := true) S__law_lot.nd rfl (.inr rfl) (.inl rfl) (pe_dcomp (own := [("place", 4)]) (is := [4]) rfl S__law_lot.nd (pi_drng1 rfl fx.n_range (pa_d1 (pe_dvar (i := 1) rfl (.inl rfl) nd_many nc_many) (pa_d0))) rfl (fun _ _ _ _ _ => pg_dname (n := 4) S__law_lot.nd rfl (.inl rfl) (.inr rfl)) (fun _ _ _ _ _ => pts_nil) (fun _ _ _ _ _ => pe_gcall (mus := [true, false]) (c__law_draw fx) hr (by decide) hgd rfl rfl b__law_draw (pa_d1 (pe_dvar (i := 0) rfl (.inr (.inl rfl)) nd_pot nc_pot) (pa_d1 (pe_dvar (i := 2) rfl (.inr (.inl rfl)) nd_most nc_most) (pa_d0))) nd__law_draw) (fun _ => rfl) rfl) rfl)
      (pss_d1 (ps_dif (pt_dcmp (o_eq hr.units) (pe_dcb (c_sum rfl) rfl fx.n_sum bb_sum (pa_d1 (pe_dvar (i := 3) rfl (.inr (.inl rfl)) nd_parts nc_parts) (pa_d0)) (by decide) nd_sum) (pe_dint) rfl) (pss_d1 (ps_dasg (is := []) (pe_dint) (pg_dsub (pe_dvar (i := 3) rfl (.inr (.inl rfl)) nd_parts nc_parts) (pe_gcall (mus := [true, false]) (c__law_draw fx) hr (by decide) hgd rfl rfl b__law_draw (pa_d1 (pe_dvar (i := 0) rfl (.inr (.inl rfl)) nd_pot nc_pot) (pa_d1 (pe_dvar (i := 1) rfl (.inl rfl) nd_many nc_many) (pa_d0))) nd__law_draw) (fun _ => rfl)) rfl rfl rfl)
      (pss_d0)) (pss_d0))
      (pss_d1 (ps_dret (pe_dct c_tuple rfl fx.n_tuple bb_tuple (pa_d1 (pe_dcomp (own := [("part", 5)]) (is := [5]) rfl S__law_lot.nd (pi_dseq (pe_dvar (i := 3) rfl (.inr (.inl rfl)) nd_parts nc_parts)) rfl (fun _ _ _ _ _ => pg_dname (n := 5) S__law_lot.nd rfl (.inl rfl) (.inr rfl)) (fun _ _ _ _ _ => pts_nil) (fun _ _ _ _ _ => pe_gcall (mus := [false, false]) (c__law_cut fx) hr (by decide) hgd rfl rfl b__law_cut (pa_d1 (pe_dvar (i := 5) rfl (.inl rfl) nd_part nc_part) (pa_d1 (pe_dcb (c_sum rfl) rfl fx.n_sum bb_sum (pa_d1 (pe_dvar (i := 3) rfl (.inr (.inl rfl)) nd_parts nc_parts) (pa_d0)) (by decide) nd_sum) (pa_d0))) nd__law_cut) (fun _ => rfl) rfl) (pa_d0)) (by decide) nd_tuple))
      (pss_d0))))
theorem S__law_tuples : FnScope ["sizes", "found", "many", "longer", "one", "act"] ["sizes"] D__law_tuples.scope := ⟨rfl, rfl, rfl, by decide +kernel, rfl, by decide +kernel, by decide +kernel⟩
theorem b__law_tuples (kV doc pm : Value) (an : Option Addr) (cdv ct : Value) (us : List Value) (h : us.length = (["sizes"] : List Str).length) : bindArgs (PySem.W.fnOf D__law_tuples.name D__law_tuples.qual D__law_tuples.params D__law_tuples.body D__law_tuples.scope .none kV doc pm an cdv ct) ⟨us, []⟩ = pure ((["sizes"] : List Str).zip us) := match us, h with | [_], _ => rfl
theorem c__law_tuples {P : Program} {w : World} {K : Frag} {mg : Str → Option Value} {base : Heap} (fx : Fx K mg base) : CalG P w K mg base 1 "_law_tuples" D__law_tuples ["sizes"] f__law_tuples := by
  obtain ⟨a, fd, F, hm⟩ := fx.f__law_tuples
  refine calG (D := D__law_tuples) (N := ["sizes", "found", "many", "longer", "one", "act"]) (k := 0) (d := d__law_tuples) F hm S__law_tuples fun cdv A outer s H hr hgd => ?_
  exact pss_d1 (ps_dset (n := 1) (mu := true) S__law_tuples.nd rfl (.inl rfl) (.inl rfl) (pe_dlst (pa_d1 (pe_dtup (pa_d0)) (pa_d0))) rfl)
      (pss_d1 (ps_dfor PassesOwn.never rfl (pi_dseq (pe_dvar (i := 0) rfl (.inl rfl) nd_sizes nc_sizes)) (pg_dname (n := 2) S__law_tuples.nd rfl (.inl rfl) (.inl rfl)) (pss_d1 (ps_dset (n := 3) (mu := true) S__law_tuples.nd rfl (.inl rfl) (.inl rfl) (pe_dlst (pa_d0)) rfl)
      (pss_d1 (ps_dfor PassesOwn.never rfl (pi_dseq (pe_dvar (i := 1) rfl (.inl rfl) nd_found nc_found)) (pg_dname (n := 4) S__law_tuples.nd rfl (.inr rfl) (.inl rfl)) (pss_d1 (ps_dexpr (pe_dext ⟨rfl, rfl, rfl⟩ (fun _ _ h => nomatch h) (pe_dvar (i := 3) rfl (.inl rfl) nd_longer nc_longer) (pe_dcomp (own := [("act", 5)]) (is := [5]) rfl S__law_tuples.nd (pi_drng1 rfl fx.n_range (pa_d1 (pe_dvar (i := 2) rfl (.inl rfl) nd_many nc_many) (pa_d0))) rfl (fun _ _ _ _ _ => pg_dname (n := 5) S__law_tuples.nd rfl (.inl rfl) (.inr rfl)) (fun _ _ _ _ _ => pts_nil) (fun _ _ _ _ _ => pe_dbin o_add (pe_dvar (i := 4) rfl (.inr (.inl rfl)) nd_one nc_one) (pe_dtup (pa_d1 (pe_dvar (i := 5) rfl (.inl rfl) nd_act nc_act) (pa_d0)))) (fun _ => rfl) rfl)) rfl)
      (pss_d0)) (fun _ => rfl))
      (pss_d1 (ps_dset (n := 1) (mu := true) S__law_tuples.nd rfl (.inl rfl) (.inl rfl) (pe_dvar (i := 3) rfl (.inl rfl) nd_longer nc_longer) rfl)
      (pss_d0)))) (fun _ => rfl))
      (pss_d1 (ps_dret (pe_dvar (i := 1) rfl (.inl rfl) nd_found nc_found))
      (pss_d0)))
theorem S__law_game : FnScope ["pot", "most_plays", "sizes", "many", "most", "player", "play"] ["pot", "most_plays"] D__law_game.scope := ⟨rfl, rfl, rfl, by decide +kernel, rfl, by decide +kernel, by decide +kernel⟩
theorem b__law_game (kV doc pm : Value) (an : Option Addr) (cdv ct : Value) (us : List Value) (h : us.length = (["pot", "most_plays"] : List Str).length) : bindArgs (PySem.W.fnOf D__law_game.name D__law_game.qual D__law_game.params D__law_game.body D__law_game.scope .none kV doc pm an cdv ct) ⟨us, []⟩ = pure ((["pot", "most_plays"] : List Str).zip us) := match us, h with | [_, _], _ => rfl
theorem c__law_game {P : Program} {w : World} {K : Frag} {mg : Str → Option Value} {base : Heap} (fx : Fx K mg base) : CalG P w K mg base 3 "_law_game" D__law_game ["pot", "most_plays"] f__law_game := by
  obtain ⟨a, fd, F, hm⟩ := fx.f__law_game
  refine calG (D := D__law_game) (N := ["pot", "most_plays", "sizes", "many", "most", "player", "play"]) (k := 2) (d := d__law_game) F hm S__law_game fun cdv A outer s H hr hgd => ?_
  exact pss_d1 (ps_dset (n := 2) (mu := false) S__law_game.nd rfl (.inl rfl) (.inl rfl) (pe_dct c_tuple rfl fx.n_tuple bb_tuple (pa_d1 (pe_dcomp (own := [("player", 5)]) (is := [5]) rfl S__law_game.nd (pi_drng1 rfl fx.n_range (pa_d1 (pe_dbin o_add (pe_dint) (pe_gcall (mus := [true, false]) (c__law_draw fx) hr (by decide) hgd rfl rfl b__law_draw (pa_d1 (pe_dvar (i := 0) rfl (.inr (.inl rfl)) nd_pot nc_pot) (pa_d1 (pe_dint) (pa_d0))) nd__law_draw)) (pa_d0))) rfl (fun _ _ _ _ _ => pg_dname (n := 5) S__law_game.nd rfl (.inl rfl) (.inr rfl)) (fun _ _ _ _ _ => pts_nil) (fun _ _ _ _ _ => pe_dbin o_add (pe_dint) (pe_gcall (mus := [true, false]) (c__law_draw fx) hr (by decide) hgd rfl rfl b__law_draw (pa_d1 (pe_dvar (i := 0) rfl (.inr (.inl rfl)) nd_pot nc_pot) (pa_d1 (pe_dint) (pa_d0))) nd__law_draw)) (fun _ => rfl) rfl) (pa_d0)) (by decide) nd_tuple) rfl)
      (pss_d1 (ps_dset (n := 3) (mu := false) S__law_game.nd rfl (.inr rfl) (.inl rfl) (pe_dcb c_len rfl fx.n_len bb_len (pa_d1 (pe_gcall (mus := [false]) (c__law_tuples fx) hr (by decide) hgd rfl rfl b__law_tuples (pa_d1 (pe_dvar (i := 2) rfl (.inl rfl) nd_sizes nc_sizes) (pa_d0)) nd__law_tuples) (pa_d0)) (by decide) nd_len) rfl)
      (pss_d1 (ps_dwhile PassesOwn.never (pt_dcmp o_gt (pe_dvar (i := 3) rfl (.inr (.inl rfl)) nd_many nc_many) (pe_dvar (i := 1) rfl (.inl rfl) nd_most_plays nc_most_plays) rfl) (pss_d1 (ps_dset (n := 2) (mu := false) S__law_game.nd rfl (.inl rfl) (.inl rfl) (pe_dite (pt_dcmp o_gt (pe_dix (pe_dvar (i := 2) rfl (.inl rfl) nd_sizes nc_sizes) (pe_dun o_neg (pe_dint)) (fun _ _ _ _ h => nomatch h)) (pe_dint) rfl) (pe_dbin o_add (pe_dsli (pe_dvar (i := 2) rfl (.inl rfl) nd_sizes nc_sizes) po_d0 (po_d1 (pe_dun o_neg (pe_dint)))) (pe_dtup (pa_d1 (pe_dbin o_sub (pe_dix (pe_dvar (i := 2) rfl (.inl rfl) nd_sizes nc_sizes) (pe_dun o_neg (pe_dint)) (fun _ _ _ _ h => nomatch h)) (pe_dint)) (pa_d0)))) (pe_dsli (pe_dvar (i := 2) rfl (.inl rfl) nd_sizes nc_sizes) po_d0 (po_d1 (pe_dun o_neg (pe_dint))))) rfl)
      (pss_d1 (ps_dset (n := 3) (mu := false) S__law_game.nd rfl (.inr rfl) (.inl rfl) (pe_dcb c_len rfl fx.n_len bb_len (pa_d1 (pe_gcall (mus := [false]) (c__law_tuples fx) hr (by decide) hgd rfl rfl b__law_tuples (pa_d1 (pe_dvar (i := 2) rfl (.inl rfl) nd_sizes nc_sizes) (pa_d0)) nd__law_tuples) (pa_d0)) (by decide) nd_len) rfl)
      (pss_d0))))
      (pss_d1 (ps_dset (n := 4) (mu := false) S__law_game.nd rfl (.inr rfl) (.inl rfl) (pe_gcall (mus := [true, false]) (c__law_pick fx) hr (by decide) hgd rfl rfl b__law_pick (pa_d1 (pe_dvar (i := 0) rfl (.inr (.inl rfl)) nd_pot nc_pot) (pa_d1 (pe_dlst (pa_d1 (pe_dint) (pa_d1 (pe_dint) (pa_d1 (pe_dint) (pa_d1 (pe_dint) (pa_d0)))))) (pa_d0))) nd__law_pick) rfl)
      (pss_d1 (ps_dret (pe_dtup (pa_d1 (pe_dvar (i := 2) rfl (.inl rfl) nd_sizes nc_sizes) (pa_d1 (pe_dcomp (own := [("player", 5)]) (is := [5]) rfl S__law_game.nd (pi_dseq (pe_dvar (i := 2) rfl (.inl rfl) nd_sizes nc_sizes)) rfl (fun _ _ _ _ _ => pg_dname (n := 5) S__law_game.nd rfl (.inl rfl) (.inr rfl)) (fun _ _ _ _ _ => pts_nil) (fun _ _ _ _ _ => pe_dcomp (own := [("play", 6)]) (is := [6]) rfl S__law_game.nd (pi_drng1 rfl fx.n_range (pa_d1 (pe_dvar (i := 3) rfl (.inr (.inl rfl)) nd_many nc_many) (pa_d0))) rfl (fun _ _ _ _ _ => pg_dname (n := 6) S__law_game.nd rfl (.inl rfl) (.inr rfl)) (fun _ _ _ _ _ => pts_nil) (fun _ _ _ _ _ => pe_dbin o_sub (pe_gcall (mus := [true, false]) (c__law_draw fx) hr (by decide) hgd rfl rfl b__law_draw (pa_d1 (pe_dvar (i := 0) rfl (.inr (.inl rfl)) nd_pot nc_pot) (pa_d1 (pe_dbin o_add (pe_dbin o_mul (pe_dint) (pe_dvar (i := 4) rfl (.inr (.inl rfl)) nd_most nc_most)) (pe_dint)) (pa_d0))) nd__law_draw) (pe_dvar (i := 4) rfl (.inr (.inl rfl)) nd_most nc_most)) (fun _ => rfl) rfl) (fun _ => rfl) rfl) (pa_d0)))))
      (pss_d0)))))
theorem S__law_plays : FnScope ["game"] ["game"] D__law_plays.scope := ⟨rfl, rfl, rfl, by decide +kernel, rfl, by decide +kernel, by decide +kernel⟩
theorem b__law_plays (kV doc pm : Value) (an : Option Addr) (cdv ct : Value) (us : List Value) (h : us.length = (["game"] : List Str).length) : bindArgs (PySem.W.fnOf D__law_plays.name D__law_plays.qual D__law_plays.params D__law_plays.body D__law_plays.scope .none kV doc pm an cdv ct) ⟨us, []⟩ = pure ((["game"] : List Str).zip us) := match us, h with | [_], _ => rfl
theorem c__law_plays {P : Program} {w : World} {K : Frag} {mg : Str → Option Value} {base : Heap} (fx : Fx K mg base) : CalG P w K mg base 2 "_law_plays" D__law_plays ["game"] f__law_plays := by
  obtain ⟨a, fd, F, hm⟩ := fx.f__law_plays
  refine calG (D := D__law_plays) (N := ["game"]) (k := 1) (d := d__law_plays) F hm S__law_plays fun cdv A outer s H hr hgd => ?_
  exact pss_d1 (ps_dret (pe_gcall (mus := [false]) (c__law_tuples fx) hr (by decide) hgd rfl rfl b__law_tuples (pa_d1 (pe_dix (pe_dvar (i := 0) rfl (.inl rfl) nd_game nc_game) (pe_dint) (fun _ _ _ _ h => nomatch h)) (pa_d0)) nd__law_tuples))
      (pss_d0)
theorem S__law_times : FnScope ["one", "other"] ["one", "other"] D__law_times.scope := ⟨rfl, rfl, rfl, by decide +kernel, rfl, by decide +kernel, by decide +kernel⟩
theorem b__law_times (kV doc pm : Value) (an : Option Addr) (cdv ct : Value) (us : List Value) (h : us.length = (["one", "other"] : List Str).length) : bindArgs (PySem.W.fnOf D__law_times.name D__law_times.qual D__law_times.params D__law_times.body D__law_times.scope .none kV doc pm an cdv ct) ⟨us, []⟩ = pure ((["one", "other"] : List Str).zip us) := match us, h with | [_, _], _ => rfl
theorem c__law_times {P : Program} {w : World} {K : Frag} {mg : Str → Option Value} {base : Heap} (fx : Fx K mg base) : CalG P w K mg base 3 "_law_times" D__law_times ["one", "other"] f__law_times := by
  obtain ⟨a, fd, F, hm⟩ := fx.f__law_times
  refine calG (D := D__law_times) (N := ["one", "other"]) (k := 2) (d := d__law_times) F hm S__law_times fun cdv A outer s H hr hgd => ?_
  exact pss_d1 (ps_dret (pe_gcall (mus := [false, false]) (c__law_cut fx) hr (by decide) hgd rfl rfl b__law_cut (pa_d1 (pe_dbin o_mul (pe_dix (pe_dvar (i := 0) rfl (.inl rfl) nd_one nc_one) (pe_dint) (fun _ _ _ _ h => nomatch h)) (pe_dix (pe_dvar (i := 1) rfl (.inl rfl) nd_other nc_other) (pe_dint) (fun _ _ _ _ h => nomatch h))) (pa_d1 (pe_dbin o_mul (pe_dix (pe_dvar (i := 0) rfl (.inl rfl) nd_one nc_one) (pe_dint) (fun _ _ _ _ h => nomatch h)) (pe_dix (pe_dvar (i := 1) rfl (.inl rfl) nd_other nc_other) (pe_dint) (fun _ _ _ _ h => nomatch h))) (pa_d0))) nd__law_cut))
      (pss_d0)
theorem S__law_together : FnScope ["plans", "found", "plan", "longer", "one", "late"] ["plans"] D__law_together.scope := ⟨rfl, rfl, rfl, by decide +kernel, rfl, by decide +kernel, by decide +kernel⟩
theorem b__law_together (kV doc pm : Value) (an : Option Addr) (cdv ct : Value) (us : List Value) (h : us.length = (["plans"] : List Str).length) : bindArgs (PySem.W.fnOf D__law_together.name D__law_together.qual D__law_together.params D__law_together.body D__law_together.scope .none kV doc pm an cdv ct) ⟨us, []⟩ = pure ((["plans"] : List Str).zip us) := match us, h with | [_], _ => rfl
theorem c__law_together {P : Program} {w : World} {K : Frag} {mg : Str → Option Value} {base : Heap} (fx : Fx K mg base) : CalG P w K mg base 4 "_law_together" D__law_together ["plans"] f__law_together := by
  obtain ⟨a, fd, F, hm⟩ := fx.f__law_together
  refine calG (D := D__law_together) (N := ["plans", "found", "plan", "longer", "one", "late"]) (k := 3) (d := d__law_together) F hm S__law_together fun cdv A outer s H hr hgd => ?_
  exact pss_d1 (ps_dset (n := 1) (mu := true) S__law_together.nd rfl (.inl rfl) (.inl rfl) (pe_dlst (pa_d1 (pe_dtup (pa_d1 (pe_dint) (pa_d1 (pe_dint) (pa_d0)))) (pa_d0))) rfl)
      (pss_d1 (ps_dfor PassesOwn.never rfl (pi_dseq (pe_dvar (i := 0) rfl (.inl rfl) nd_plans nc_plans)) (pg_dname (n := 2) S__law_together.nd rfl (.inl rfl) (.inl rfl)) (pss_d1 (ps_dset (n := 3) (mu := true) S__law_together.nd rfl (.inl rfl) (.inl rfl) (pe_dlst (pa_d0)) rfl)
      (pss_d1 (ps_dfor PassesOwn.never rfl (pi_dseq (pe_dvar (i := 1) rfl (.inl rfl) nd_found nc_found)) (pg_dname (n := 4) S__law_together.nd rfl (.inr rfl) (.inl rfl)) (pss_d1 (ps_dexpr (pe_dext ⟨rfl, rfl, rfl⟩ (fun _ _ h => nomatch h) (pe_dvar (i := 3) rfl (.inl rfl) nd_longer nc_longer) (pe_dcomp (own := [("late", 5)]) (is := [5]) rfl S__law_together.nd (pi_dseq (pe_dvar (i := 2) rfl (.inl rfl) nd_plan nc_plan)) rfl (fun _ _ _ _ _ => pg_dname (n := 5) S__law_together.nd rfl (.inl rfl) (.inr rfl)) (fun _ _ _ _ _ => pts_nil) (fun _ _ _ _ _ => pe_gcall (mus := [false, false]) (c__law_times fx) hr (by decide) hgd rfl rfl b__law_times (pa_d1 (pe_dvar (i := 4) rfl (.inr (.inl rfl)) nd_one nc_one) (pa_d1 (pe_dvar (i := 5) rfl (.inl rfl) nd_late nc_late) (pa_d0))) nd__law_times) (fun _ => rfl) rfl)) rfl)
      (pss_d0)) (fun _ => rfl))
      (pss_d1 (ps_dset (n := 1) (mu := true) S__law_together.nd rfl (.inl rfl) (.inl rfl) (pe_dvar (i := 3) rfl (.inl rfl) nd_longer nc_longer) rfl)
      (pss_d0)))) (fun _ => rfl))
      (pss_d1 (ps_dret (pe_dct c_tuple rfl fx.n_tuple bb_tuple (pa_d1 (pe_dvar (i := 1) rfl (.inl rfl) nd_found nc_found) (pa_d0)) (by decide) nd_tuple))
      (pss_d0)))
theorem S_means : FnScope ["game", "lot", "row"] ["game", "lot"] D_means.scope := ⟨rfl, rfl, rfl, by decide +kernel, rfl, by decide +kernel, by decide +kernel⟩
theorem b_means (kV doc pm : Value) (an : Option Addr) (cdv ct : Value) (us : List Value) (h : us.length = (["game", "lot"] : List Str).length) : bindArgs (PySem.W.fnOf D_means.name D_means.qual D_means.params D_means.body D_means.scope .none kV doc pm an cdv ct) ⟨us, []⟩ = pure ((["game", "lot"] : List Str).zip us) := match us, h with | [_, _], _ => rfl
theorem k_means_0_lot_game (kV doc pm : Value) (an : Option Addr) (cdv ct : Value) (ws : List Value) (h2 : ws.length = 2) : bindArgs (PySem.W.fnOf D_means.name D_means.qual D_means.params D_means.body D_means.scope .none kV doc pm an cdv ct) ⟨[], (["lot", "game"] : List Str).zip ws⟩ = pure ((["game", "lot"] : List Str).zip (permL [1, 0] ws)) := match ws, h2 with | [_, _], _ => rfl
theorem c_means {P : Program} {w : World} {K : Frag} {mg : Str → Option Value} {base : Heap} (fx : Fx K mg base) : CalG P w K mg base 8 "means" D_means ["game", "lot"] f_means := by
  obtain ⟨a, fd, F, hm⟩ := fx.f_means
  refine calG (D := D_means) (N := ["game", "lot", "row"]) (k := 7) (d := d_means) F hm S_means fun cdv A outer s H hr hgd => ?_
  exact pss_d1 (ps_dexpr (pe_gcall (mus := [false, false]) (c_check_lot_of fx) hr (by decide) hgd rfl rfl b_check_lot_of (pa_d1 (pe_dvar (i := 0) rfl (.inl rfl) nd_game nc_game) (pa_d1 (pe_dvar (i := 1) rfl (.inr (.inl rfl)) nd_lot nc_lot) (pa_d0))) nd_check_lot_of) rfl)
      (pss_d1 (ps_dret (pe_dcomp (own := [("row", 2)]) (is := [2]) rfl S_means.nd (pi_dseq (pe_dix (pe_dvar (i := 0) rfl (.inl rfl) nd_game nc_game) (pe_dint) (fun _ _ _ _ h => nomatch h))) rfl (fun _ _ _ _ _ => pg_dname (n := 2) S_means.nd rfl (.inl rfl) (.inr rfl)) (fun _ _ _ _ _ => pts_nil) (fun _ _ _ _ _ => pe_gcall (mus := [false, false]) (c_mean_by fx) hr (by decide) hgd rfl rfl b_mean_by (pa_d1 (pe_dvar (i := 1) rfl (.inr (.inl rfl)) nd_lot nc_lot) (pa_d1 (pe_dvar (i := 2) rfl (.inl rfl) nd_row nc_row) (pa_d0))) nd_mean_by) (fun _ => rfl) rfl))
      (pss_d0))
theorem S_incentives : FnScope ["game"] ["game"] D_incentives.scope := ⟨rfl, rfl, rfl, by decide +kernel, rfl, by decide +kernel, by decide +kernel⟩
theorem b_incentives (kV doc pm : Value) (an : Option Addr) (cdv ct : Value) (us : List Value) (h : us.length = (["game"] : List Str).length) : bindArgs (PySem.W.fnOf D_incentives.name D_incentives.qual D_incentives.params D_incentives.body D_incentives.scope .none kV doc pm an cdv ct) ⟨us, []⟩ = pure ((["game"] : List Str).zip us) := match us, h with | [_], _ => rfl
theorem c_incentives {P : Program} {w : World} {K : Frag} {mg : Str → Option Value} {base : Heap} (fx : Fx K mg base) : CalG P w K mg base 6 "incentives" D_incentives ["game"] f_incentives := by
  obtain ⟨a, fd, F, hm⟩ := fx.f_incentives
  refine calG (D := D_incentives) (N := ["game"]) (k := 5) (d := d_incentives) F hm S_incentives fun cdv A outer s H hr hgd => ?_
  exact pss_d1 (ps_dexpr (pe_gcall (mus := [false]) (c_check_game fx) hr (by decide) hgd rfl rfl b_check_game (pa_d1 (pe_dvar (i := 0) rfl (.inl rfl) nd_game nc_game) (pa_d0)) nd_check_game) rfl)
      (pss_d1 (ps_dret (pe_gcall (mus := [false]) (c_incentives_of fx) hr (by decide) hgd rfl rfl b_incentives_of (pa_d1 (pe_dvar (i := 0) rfl (.inl rfl) nd_game nc_game) (pa_d0)) nd_incentives_of))
      (pss_d0))
theorem S_told_incentive : FnScope ["game", "lot"] ["game", "lot"] D_told_incentive.scope := ⟨rfl, rfl, rfl, by decide +kernel, rfl, by decide +kernel, by decide +kernel⟩
theorem b_told_incentive (kV doc pm : Value) (an : Option Addr) (cdv ct : Value) (us : List Value) (h : us.length = (["game", "lot"] : List Str).length) : bindArgs (PySem.W.fnOf D_told_incentive.name D_told_incentive.qual D_told_incentive.params D_told_incentive.body D_told_incentive.scope .none kV doc pm an cdv ct) ⟨us, []⟩ = pure ((["game", "lot"] : List Str).zip us) := match us, h with | [_, _], _ => rfl
theorem k_told_incentive_0_lot_game (kV doc pm : Value) (an : Option Addr) (cdv ct : Value) (ws : List Value) (h2 : ws.length = 2) : bindArgs (PySem.W.fnOf D_told_incentive.name D_told_incentive.qual D_told_incentive.params D_told_incentive.body D_told_incentive.scope .none kV doc pm an cdv ct) ⟨[], (["lot", "game"] : List Str).zip ws⟩ = pure ((["game", "lot"] : List Str).zip (permL [1, 0] ws)) := match ws, h2 with | [_, _], _ => rfl
theorem c_told_incentive {P : Program} {w : World} {K : Frag} {mg : Str → Option Value} {base : Heap} (fx : Fx K mg base) : CalG P w K mg base 9 "told_incentive" D_told_incentive ["game", "lot"] f_told_incentive := by
  obtain ⟨a, fd, F, hm⟩ := fx.f_told_incentive
  refine calG (D := D_told_incentive) (N := ["game", "lot"]) (k := 8) (d := d_told_incentive) F hm S_told_incentive fun cdv A outer s H hr hgd => ?_
  exact pss_d1 (ps_dexpr (pe_gcall (mus := [false, false]) (c_check_lot_of fx) hr (by decide) hgd rfl rfl b_check_lot_of (pa_d1 (pe_dvar (i := 0) rfl (.inl rfl) nd_game nc_game) (pa_d1 (pe_dvar (i := 1) rfl (.inl rfl) nd_lot nc_lot) (pa_d0))) nd_check_lot_of) rfl)
      (pss_d1 (ps_dret (pe_gcall (mus := [false, false]) (c_first_incentive fx) hr (by decide) hgd rfl rfl b_first_incentive (pa_d1 (pe_dvar (i := 0) rfl (.inl rfl) nd_game nc_game) (pa_d1 (pe_dvar (i := 1) rfl (.inl rfl) nd_lot nc_lot) (pa_d0))) nd_first_incentive))
      (pss_d0))
theorem S_told_outside : FnScope ["game", "lot"] ["game", "lot"] D_told_outside.scope := ⟨rfl, rfl, rfl, by decide +kernel, rfl, by decide +kernel, by decide +kernel⟩
theorem b_told_outside (kV doc pm : Value) (an : Option Addr) (cdv ct : Value) (us : List Value) (h : us.length = (["game", "lot"] : List Str).length) : bindArgs (PySem.W.fnOf D_told_outside.name D_told_outside.qual D_told_outside.params D_told_outside.body D_told_outside.scope .none kV doc pm an cdv ct) ⟨us, []⟩ = pure ((["game", "lot"] : List Str).zip us) := match us, h with | [_, _], _ => rfl
theorem k_told_outside_0_lot_game (kV doc pm : Value) (an : Option Addr) (cdv ct : Value) (ws : List Value) (h2 : ws.length = 2) : bindArgs (PySem.W.fnOf D_told_outside.name D_told_outside.qual D_told_outside.params D_told_outside.body D_told_outside.scope .none kV doc pm an cdv ct) ⟨[], (["lot", "game"] : List Str).zip ws⟩ = pure ((["game", "lot"] : List Str).zip (permL [1, 0] ws)) := match ws, h2 with | [_, _], _ => rfl
theorem c_told_outside {P : Program} {w : World} {K : Frag} {mg : Str → Option Value} {base : Heap} (fx : Fx K mg base) : CalG P w K mg base 9 "told_outside" D_told_outside ["game", "lot"] f_told_outside := by
  obtain ⟨a, fd, F, hm⟩ := fx.f_told_outside
  refine calG (D := D_told_outside) (N := ["game", "lot"]) (k := 8) (d := d_told_outside) F hm S_told_outside fun cdv A outer s H hr hgd => ?_
  exact pss_d1 (ps_dexpr (pe_gcall (mus := [false, false]) (c_check_lot_of fx) hr (by decide) hgd rfl rfl b_check_lot_of (pa_d1 (pe_dvar (i := 0) rfl (.inl rfl) nd_game nc_game) (pa_d1 (pe_dvar (i := 1) rfl (.inl rfl) nd_lot nc_lot) (pa_d0))) nd_check_lot_of) rfl)
      (pss_d1 (ps_dret (pe_gcall (mus := [false, false]) (c_first_outside fx) hr (by decide) hgd rfl rfl b_first_outside (pa_d1 (pe_dvar (i := 0) rfl (.inl rfl) nd_game nc_game) (pa_d1 (pe_dvar (i := 1) rfl (.inl rfl) nd_lot nc_lot) (pa_d0))) nd_first_outside))
      (pss_d0))
theorem S__law_plus : FnScope ["one", "other"] ["one", "other"] D__law_plus.scope := ⟨rfl, rfl, rfl, by decide +kernel, rfl, by decide +kernel, by decide +kernel⟩
theorem b__law_plus (kV doc pm : Value) (an : Option Addr) (cdv ct : Value) (us : List Value) (h : us.length = (["one", "other"] : List Str).length) : bindArgs (PySem.W.fnOf D__law_plus.name D__law_plus.qual D__law_plus.params D__law_plus.body D__law_plus.scope .none kV doc pm an cdv ct) ⟨us, []⟩ = pure ((["one", "other"] : List Str).zip us) := match us, h with | [_, _], _ => rfl
theorem c__law_plus {P : Program} {w : World} {K : Frag} {mg : Str → Option Value} {base : Heap} (fx : Fx K mg base) : CalG P w K mg base 3 "_law_plus" D__law_plus ["one", "other"] f__law_plus := by
  obtain ⟨a, fd, F, hm⟩ := fx.f__law_plus
  refine calG (D := D__law_plus) (N := ["one", "other"]) (k := 2) (d := d__law_plus) F hm S__law_plus fun cdv A outer s H hr hgd => ?_
  exact pss_d1 (ps_dret (pe_gcall (mus := [false, false]) (c__law_cut fx) hr (by decide) hgd rfl rfl b__law_cut (pa_d1 (pe_dbin o_add (pe_dbin o_mul (pe_dix (pe_dvar (i := 0) rfl (.inl rfl) nd_one nc_one) (pe_dint) (fun _ _ _ _ h => nomatch h)) (pe_dix (pe_dvar (i := 1) rfl (.inl rfl) nd_other nc_other) (pe_dint) (fun _ _ _ _ h => nomatch h))) (pe_dbin o_mul (pe_dix (pe_dvar (i := 1) rfl (.inl rfl) nd_other nc_other) (pe_dint) (fun _ _ _ _ h => nomatch h)) (pe_dix (pe_dvar (i := 0) rfl (.inl rfl) nd_one nc_one) (pe_dint) (fun _ _ _ _ h => nomatch h)))) (pa_d1 (pe_dbin o_mul (pe_dix (pe_dvar (i := 0) rfl (.inl rfl) nd_one nc_one) (pe_dint) (fun _ _ _ _ h => nomatch h)) (pe_dix (pe_dvar (i := 1) rfl (.inl rfl) nd_other nc_other) (pe_dint) (fun _ _ _ _ h => nomatch h))) (pa_d0))) nd__law_cut))
      (pss_d0)
theorem S__law_total : FnScope ["some", "found", "one"] ["some"] D__law_total.scope := ⟨rfl, rfl, rfl, by decide +kernel, rfl, by decide +kernel, by decide +kernel⟩
theorem b__law_total (kV doc pm : Value) (an : Option Addr) (cdv ct : Value) (us : List Value) (h : us.length = (["some"] : List Str).length) : bindArgs (PySem.W.fnOf D__law_total.name D__law_total.qual D__law_total.params D__law_total.body D__law_total.scope .none kV doc pm an cdv ct) ⟨us, []⟩ = pure ((["some"] : List Str).zip us) := match us, h with | [_], _ => rfl
theorem c__law_total {P : Program} {w : World} {K : Frag} {mg : Str → Option Value} {base : Heap} (fx : Fx K mg base) : CalG P w K mg base 4 "_law_total" D__law_total ["some"] f__law_total := by
  obtain ⟨a, fd, F, hm⟩ := fx.f__law_total
  refine calG (D := D__law_total) (N := ["some", "found", "one"]) (k := 3) (d := d__law_total) F hm S__law_total fun cdv A outer s H hr hgd => ?_
  exact pss_d1 (ps_dset (n := 1) (mu := false) S__law_total.nd rfl (.inl rfl) (.inl rfl) (pe_dtup (pa_d1 (pe_dint) (pa_d1 (pe_dint) (pa_d0)))) rfl)
      (pss_d1 (ps_dfor PassesOwn.never rfl (pi_dseq (pe_dvar (i := 0) rfl (.inl rfl) nd_some nc_some)) (pg_dname (n := 2) S__law_total.nd rfl (.inl rfl) (.inl rfl)) (pss_d1 (ps_dset (n := 1) (mu := false) S__law_total.nd rfl (.inl rfl) (.inl rfl) (pe_gcall (mus := [false, false]) (c__law_plus fx) hr (by decide) hgd rfl rfl b__law_plus (pa_d1 (pe_dvar (i := 1) rfl (.inl rfl) nd_found nc_found) (pa_d1 (pe_dvar (i := 2) rfl (.inl rfl) nd_one nc_one) (pa_d0))) nd__law_plus) rfl)
      (pss_d0)) (fun _ => rfl))
      (pss_d1 (ps_dret (pe_dvar (i := 1) rfl (.inl rfl) nd_found nc_found))
      (pss_d0)))
theorem S__law_index : FnScope ["sizes", "play", "found", "many", "act"] ["sizes", "play"] D__law_index.scope := ⟨rfl, rfl, rfl, by decide +kernel, rfl, by decide +kernel, by decide +kernel⟩
theorem b__law_index (kV doc pm : Value) (an : Option Addr) (cdv ct : Value) (us : List Value) (h : us.length = (["sizes", "play"] : List Str).length) : bindArgs (PySem.W.fnOf D__law_index.name D__law_index.qual D__law_index.params D__law_index.body D__law_index.scope .none kV doc pm an cdv ct) ⟨us, []⟩ = pure ((["sizes", "play"] : List Str).zip us) := match us, h with | [_, _], _ => rfl
theorem c__law_index {P : Program} {w : World} {K : Frag} {mg : Str → Option Value} {base : Heap} (fx : Fx K mg base) : CalG P w K mg base 1 "_law_index" D__law_index ["sizes", "play"] f__law_index := by
  obtain ⟨a, fd, F, hm⟩ := fx.f__law_index
  refine calG (D := D__law_index) (N := ["sizes", "play", "found", "many", "act"]) (k := 0) (d := d__law_index) F hm S__law_index fun cdv A outer s H hr hgd => ?_
  exact pss_d1 (ps_dset (n := 2) (mu := false) S__law_index.nd rfl (.inl rfl) (.inl rfl) (pe_dint) rfl)
      (pss_d1 (ps_dfor PassesOwn.never rfl (pi_dzip2 rfl fx.n_zip (pa_d1 (pe_dvar (i := 0) rfl (.inl rfl) nd_sizes nc_sizes) (pa_d1 (pe_dvar (i := 1) rfl (.inl rfl) nd_play nc_play) (pa_d0)))) (pg_dtup rfl (pgs_d1 (pg_dname (n := 3) S__law_index.nd rfl (.inl rfl) (.inl rfl)) (pgs_d1 (pg_dname (n := 4) S__law_index.nd rfl (.inl rfl) (.inl rfl)) (pgs_d0) rfl) rfl) rfl rfl) (pss_d1 (ps_dset (n := 2) (mu := false) S__law_index.nd rfl (.inl rfl) (.inl rfl) (pe_dbin o_add (pe_dbin o_mul (pe_dvar (i := 2) rfl (.inl rfl) nd_found nc_found) (pe_dvar (i := 3) rfl (.inl rfl) nd_many nc_many)) (pe_dvar (i := 4) rfl (.inl rfl) nd_act nc_act)) rfl)
      (pss_d0)) (fun _ => rfl))
      (pss_d1 (ps_dret (pe_dvar (i := 2) rfl (.inl rfl) nd_found nc_found))
      (pss_d0)))
theorem S__law_gain : FnScope ["game", "lot", "player", "act", "other", "found", "place", "play", "late", "more"] ["game", "lot", "player", "act", "other"] D__law_gain.scope := ⟨rfl, rfl, rfl, by decide +kernel, rfl, by decide +kernel, by decide +kernel⟩
theorem b__law_gain (kV doc pm : Value) (an : Option Addr) (cdv ct : Value) (us : List Value) (h : us.length = (["game", "lot", "player", "act", "other"] : List Str).length) : bindArgs (PySem.W.fnOf D__law_gain.name D__law_gain.qual D__law_gain.params D__law_gain.body D__law_gain.scope .none kV doc pm an cdv ct) ⟨us, []⟩ = pure ((["game", "lot", "player", "act", "other"] : List Str).zip us) := match us, h with | [_, _, _, _, _], _ => rfl
theorem c__law_gain {P : Program} {w : World} {K : Frag} {mg : Str → Option Value} {base : Heap} (fx : Fx K mg base) : CalG P w K mg base 5 "_law_gain" D__law_gain ["game", "lot", "player", "act", "other"] f__law_gain := by
  obtain ⟨a, fd, F, hm⟩ := fx.f__law_gain
  refine calG (D := D__law_gain) (N := ["game", "lot", "player", "act", "other", "found", "place", "play", "late", "more"]) (k := 4) (d := d__law_gain) F hm S__law_gain fun cdv A outer s H hr hgd => ?_
  exact pss_d1 (ps_dset (n := 5) (mu := true) S__law_gain.nd rfl (.inl rfl) (.inl rfl) (pe_dlst (pa_d0)) rfl)
      (pss_d1 (ps_dfor PassesOwn.never rfl (pi_denum rfl fx.n_enumerate (pe_gcall (mus := [false]) (c__law_plays fx) hr (by decide) hgd rfl rfl b__law_plays (pa_d1 (pe_dvar (i := 0) rfl (.inl rfl) nd_game nc_game) (pa_d0)) nd__law_plays)) (pg_dtup rfl (pgs_d1 (pg_dname (n := 6) S__law_gain.nd rfl (.inl rfl) (.inl rfl)) (pgs_d1 (pg_dname (n := 7) S__law_gain.nd rfl (.inl rfl) (.inl rfl)) (pgs_d0) rfl) rfl) rfl rfl) (pss_d1 (ps_dif (pt_dcmp (o_eq hr.units) (pe_dix (pe_dvar (i := 7) rfl (.inl rfl) nd_play nc_play) (pe_dvar (i := 2) rfl (.inl rfl) nd_player nc_player) (fun _ _ _ _ h => nomatch h)) (pe_dvar (i := 3) rfl (.inl rfl) nd_act nc_act) rfl) (pss_d1 (ps_dset (n := 8) (mu := false) S__law_gain.nd rfl (.inl rfl) (.inl rfl) (pe_dbin o_add (pe_dbin o_add (pe_dsli (pe_dvar (i := 7) rfl (.inl rfl) nd_play nc_play) po_d0 (po_d1 (pe_dvar (i := 2) rfl (.inl rfl) nd_player nc_player))) (pe_dtup (pa_d1 (pe_dvar (i := 4) rfl (.inl rfl) nd_other nc_other) (pa_d0)))) (pe_dsli (pe_dvar (i := 7) rfl (.inl rfl) nd_play nc_play) (po_d1 (pe_dbin o_add (pe_dvar (i := 2) rfl (.inl rfl) nd_player nc_player) (pe_dint))) po_d0)) rfl)
      (pss_d1 (ps_dset (n := 9) (mu := false) S__law_gain.nd rfl (.inl rfl) (.inl rfl) (pe_dbin o_sub (pe_dix (pe_dix (pe_dix (pe_dvar (i := 0) rfl (.inl rfl) nd_game nc_game) (pe_dint) (fun _ _ _ _ h => nomatch h)) (pe_dvar (i := 2) rfl (.inl rfl) nd_player nc_player) (fun _ _ _ _ h => nomatch h)) (pe_gcall (mus := [false, false]) (c__law_index fx) hr (by decide) hgd rfl rfl b__law_index (pa_d1 (pe_dix (pe_dvar (i := 0) rfl (.inl rfl) nd_game nc_game) (pe_dint) (fun _ _ _ _ h => nomatch h)) (pa_d1 (pe_dvar (i := 8) rfl (.inl rfl) nd_late nc_late) (pa_d0))) nd__law_index) (fun _ _ _ _ h => nomatch h)) (pe_dix (pe_dix (pe_dix (pe_dvar (i := 0) rfl (.inl rfl) nd_game nc_game) (pe_dint) (fun _ _ _ _ h => nomatch h)) (pe_dvar (i := 2) rfl (.inl rfl) nd_player nc_player) (fun _ _ _ _ h => nomatch h)) (pe_dvar (i := 6) rfl (.inl rfl) nd_place nc_place) (fun _ _ _ _ h => nomatch h))) rfl)
      (pss_d1 (ps_dexpr (pe_dapp ⟨rfl, rfl, rfl⟩ (fun _ _ h => nomatch h) (pe_dvar (i := 5) rfl (.inl rfl) nd_found nc_found) (pe_gcall (mus := [false, false]) (c__law_times fx) hr (by decide) hgd rfl rfl b__law_times (pa_d1 (pe_dix (pe_dvar (i := 1) rfl (.inl rfl) nd_lot nc_lot) (pe_dvar (i := 6) rfl (.inl rfl) nd_place nc_place) (fun _ _ _ _ h => nomatch h)) (pa_d1 (pe_dtup (pa_d1 (pe_dvar (i := 9) rfl (.inl rfl) nd_more nc_more) (pa_d1 (pe_dint) (pa_d0)))) (pa_d0))) nd__law_times)) rfl)
      (pss_d0)))) (pss_d0))
      (pss_d0)) (fun _ => rfl))
      (pss_d1 (ps_dret (pe_gcall (mus := [false]) (c__law_total fx) hr (by decide) hgd rfl rfl b__law_total (pa_d1 (pe_dvar (i := 5) rfl (.inl rfl) nd_found nc_found) (pa_d0)) nd__law_total))
      (pss_d0)))
theorem S__law_incentives : FnScope ["game", "found", "player", "many", "act", "other"] ["game"] D__law_incentives.scope := ⟨rfl, rfl, rfl, by decide +kernel, rfl, by decide +kernel, by decide +kernel⟩
theorem b__law_incentives (kV doc pm : Value) (an : Option Addr) (cdv ct : Value) (us : List Value) (h : us.length = (["game"] : List Str).length) : bindArgs (PySem.W.fnOf D__law_incentives.name D__law_incentives.qual D__law_incentives.params D__law_incentives.body D__law_incentives.scope .none kV doc pm an cdv ct) ⟨us, []⟩ = pure ((["game"] : List Str).zip us) := match us, h with | [_], _ => rfl
theorem c__law_incentives {P : Program} {w : World} {K : Frag} {mg : Str → Option Value} {base : Heap} (fx : Fx K mg base) : CalG P w K mg base 1 "_law_incentives" D__law_incentives ["game"] f__law_incentives := by
  obtain ⟨a, fd, F, hm⟩ := fx.f__law_incentives
  refine calG (D := D__law_incentives) (N := ["game", "found", "player", "many", "act", "other"]) (k := 0) (d := d__law_incentives) F hm S__law_incentives fun cdv A outer s H hr hgd => ?_
  exact pss_d1 (ps_dset (n := 1) (mu := true) S__law_incentives.nd rfl (.inl rfl) (.inl rfl) (pe_dlst (pa_d0)) rfl)
      (pss_d1 (ps_dfor PassesOwn.never rfl (pi_denum rfl fx.n_enumerate (pe_dix (pe_dvar (i := 0) rfl (.inl rfl) nd_game nc_game) (pe_dint) (fun _ _ _ _ h => nomatch h))) (pg_dtup rfl (pgs_d1 (pg_dname (n := 2) S__law_incentives.nd rfl (.inr rfl) (.inl rfl)) (pgs_d1 (pg_dname (n := 3) S__law_incentives.nd rfl (.inl rfl) (.inl rfl)) (pgs_d0) rfl) rfl) rfl rfl) (pss_d1 (ps_dfor PassesOwn.never rfl (pi_drng1 rfl fx.n_range (pa_d1 (pe_dvar (i := 3) rfl (.inl rfl) nd_many nc_many) (pa_d0))) (pg_dname (n := 4) S__law_incentives.nd rfl (.inr rfl) (.inl rfl)) (pss_d1 (ps_dexpr (pe_dext ⟨rfl, rfl, rfl⟩ (fun _ _ h => nomatch h) (pe_dvar (i := 1) rfl (.inl rfl) nd_found nc_found) (pe_dcomp (own := [("other", 5)]) (is := [5]) rfl S__law_incentives.nd (pi_drng1 rfl fx.n_range (pa_d1 (pe_dvar (i := 3) rfl (.inl rfl) nd_many nc_many) (pa_d0))) rfl (fun _ _ _ _ _ => pg_dname (n := 5) S__law_incentives.nd rfl (.inl rfl) (.inr rfl)) (fun _ _ _ _ _ => pts_one (pt_dcmp (o_ne hr.units) (pe_dvar (i := 5) rfl (.inl rfl) nd_other nc_other) (pe_dvar (i := 4) rfl (.inr (.inl rfl)) nd_act nc_act) rfl)) (fun _ _ _ _ _ => pe_dtup (pa_d1 (pe_dvar (i := 2) rfl (.inr (.inl rfl)) nd_player nc_player) (pa_d1 (pe_dvar (i := 4) rfl (.inr (.inl rfl)) nd_act nc_act) (pa_d1 (pe_dvar (i := 5) rfl (.inl rfl) nd_other nc_other) (pa_d0))))) (fun _ => rfl) rfl)) rfl)
      (pss_d0)) (fun _ => rfl))
      (pss_d0)) (fun _ => rfl))
      (pss_d1 (ps_dret (pe_dvar (i := 1) rfl (.inl rfl) nd_found nc_found))
      (pss_d0)))
theorem S__law_mean : FnScope ["lot", "numbers", "one", "late"] ["lot", "numbers"] D__law_mean.scope := ⟨rfl, rfl, rfl, by decide +kernel, rfl, by decide +kernel, by decide +kernel⟩
theorem b__law_mean (kV doc pm : Value) (an : Option Addr) (cdv ct : Value) (us : List Value) (h : us.length = (["lot", "numbers"] : List Str).length) : bindArgs (PySem.W.fnOf D__law_mean.name D__law_mean.qual D__law_mean.params D__law_mean.body D__law_mean.scope .none kV doc pm an cdv ct) ⟨us, []⟩ = pure ((["lot", "numbers"] : List Str).zip us) := match us, h with | [_, _], _ => rfl
theorem c__law_mean {P : Program} {w : World} {K : Frag} {mg : Str → Option Value} {base : Heap} (fx : Fx K mg base) : CalG P w K mg base 5 "_law_mean" D__law_mean ["lot", "numbers"] f__law_mean := by
  obtain ⟨a, fd, F, hm⟩ := fx.f__law_mean
  refine calG (D := D__law_mean) (N := ["lot", "numbers", "one", "late"]) (k := 4) (d := d__law_mean) F hm S__law_mean fun cdv A outer s H hr hgd => ?_
  exact pss_d1 (ps_dret (pe_gcall (mus := [false]) (c__law_total fx) hr (by decide) hgd rfl rfl b__law_total (pa_d1 (pe_dcomp (own := [("one", 2), ("late", 3)]) (is := ([2] ++ ([3] ++ []))) rfl S__law_mean.nd (pi_dzip2 rfl fx.n_zip (pa_d1 (pe_dvar (i := 0) rfl (.inl rfl) nd_lot nc_lot) (pa_d1 (pe_dvar (i := 1) rfl (.inl rfl) nd_numbers nc_numbers) (pa_d0)))) rfl (fun _ _ _ _ _ => pg_dtup rfl (pgs_d1 (pg_dname (n := 2) S__law_mean.nd rfl (.inl rfl) (.inr rfl)) (pgs_d1 (pg_dname (n := 3) S__law_mean.nd rfl (.inl rfl) (.inr rfl)) (pgs_d0) rfl) rfl) rfl rfl) (fun _ _ _ _ _ => pts_nil) (fun _ _ _ _ _ => pe_gcall (mus := [false, false]) (c__law_times fx) hr (by decide) hgd rfl rfl b__law_times (pa_d1 (pe_dvar (i := 2) rfl (.inl rfl) nd_one nc_one) (pa_d1 (pe_dtup (pa_d1 (pe_dvar (i := 3) rfl (.inl rfl) nd_late nc_late) (pa_d1 (pe_dint) (pa_d0)))) (pa_d0))) nd__law_times) (fun _ => rfl) rfl) (pa_d0)) nd__law_total))
      (pss_d0)
theorem S__law_outside : FnScope ["game", "lot", "player", "act", "one"] ["game", "lot", "player", "act"] D__law_outside.scope := ⟨rfl, rfl, rfl, by decide +kernel, rfl, by decide +kernel, by decide +kernel⟩
theorem b__law_outside (kV doc pm : Value) (an : Option Addr) (cdv ct : Value) (us : List Value) (h : us.length = (["game", "lot", "player", "act"] : List Str).length) : bindArgs (PySem.W.fnOf D__law_outside.name D__law_outside.qual D__law_outside.params D__law_outside.body D__law_outside.scope .none kV doc pm an cdv ct) ⟨us, []⟩ = pure ((["game", "lot", "player", "act"] : List Str).zip us) := match us, h with | [_, _, _, _], _ => rfl
theorem c__law_outside {P : Program} {w : World} {K : Frag} {mg : Str → Option Value} {base : Heap} (fx : Fx K mg base) : CalG P w K mg base 6 "_law_outside" D__law_outside ["game", "lot", "player", "act"] f__law_outside := by
  obtain ⟨a, fd, F, hm⟩ := fx.f__law_outside
  refine calG (D := D__law_outside) (N := ["game", "lot", "player", "act", "one"]) (k := 5) (d := d__law_outside) F hm S__law_outside fun cdv A outer s H hr hgd => ?_
  exact pss_d1 (ps_dret (pe_gcall (mus := [false]) (c__law_total fx) hr (by decide) hgd rfl rfl b__law_total (pa_d1 (pe_dcomp (own := [("one", 4)]) (is := [4]) rfl S__law_outside.nd (pi_drng1 rfl fx.n_range (pa_d1 (pe_dix (pe_dix (pe_dvar (i := 0) rfl (.inr (.inl rfl)) nd_game nc_game) (pe_dint) (fun _ _ _ _ h => nomatch h)) (pe_dvar (i := 2) rfl (.inr (.inl rfl)) nd_player nc_player) (fun _ _ _ _ h => nomatch h)) (pa_d0))) rfl (fun _ _ _ _ _ => pg_dname (n := 4) S__law_outside.nd rfl (.inl rfl) (.inr rfl)) (fun _ _ _ _ _ => pts_nil) (fun _ _ _ _ _ => pe_gcall (mus := [false, false, false, false, false]) (c__law_gain fx) hr (by decide) hgd rfl rfl b__law_gain (pa_d1 (pe_dvar (i := 0) rfl (.inr (.inl rfl)) nd_game nc_game) (pa_d1 (pe_dvar (i := 1) rfl (.inr (.inl rfl)) nd_lot nc_lot) (pa_d1 (pe_dvar (i := 2) rfl (.inr (.inl rfl)) nd_player nc_player) (pa_d1 (pe_dvar (i := 4) rfl (.inl rfl) nd_one nc_one) (pa_d1 (pe_dvar (i := 3) rfl (.inr (.inl rfl)) nd_act nc_act) (pa_d0)))))) nd__law_gain) (fun _ => rfl) rfl) (pa_d0)) nd__law_total))
      (pss_d0)
theorem S_check_player : FnScope ["game", "value"] ["game", "value"] D_check_player.scope := ⟨rfl, rfl, rfl, by decide +kernel, rfl, by decide +kernel, by decide +kernel⟩
theorem b_check_player (kV doc pm : Value) (an : Option Addr) (cdv ct : Value) (us : List Value) (h : us.length = (["game", "value"] : List Str).length) : bindArgs (PySem.W.fnOf D_check_player.name D_check_player.qual D_check_player.params D_check_player.body D_check_player.scope .none kV doc pm an cdv ct) ⟨us, []⟩ = pure ((["game", "value"] : List Str).zip us) := match us, h with | [_, _], _ => rfl
theorem c_check_player {P : Program} {w : World} {K : Frag} {mg : Str → Option Value} {base : Heap} (fx : Fx K mg base) : CalG P w K mg base 3 "check_player" D_check_player ["game", "value"] f_check_player := by
  obtain ⟨a, fd, F, hm⟩ := fx.f_check_player
  refine calG (D := D_check_player) (N := ["game", "value"]) (k := 2) (d := d_check_player) F hm S_check_player fun cdv A outer s H hr hgd => ?_
  exact pss_d1 (ps_dif (pt_dnot (pt_dval (pe_gcall (mus := [false, false, false]) (c_is_within fx) hr (by decide) hgd rfl rfl b_is_within (pa_d1 (pe_dvar (i := 1) rfl (.inl rfl) nd_value nc_value) (pa_d1 (pe_dint) (pa_d1 (pe_dbin o_sub (pe_dcb c_len rfl fx.n_len bb_len (pa_d1 (pe_dix (pe_dvar (i := 0) rfl (.inl rfl) nd_game nc_game) (pe_dint) (fun _ _ _ _ h => nomatch h)) (pa_d0)) (by decide) nd_len) (pe_dint)) (pa_d0)))) nd_is_within) (fun _ => rfl))) (pss_d1 (ps_dno)
      (pss_d0)) (pss_d0))
      (pss_d0)
theorem S_check_act : FnScope ["game", "player", "value"] ["game", "player", "value"] D_check_act.scope := ⟨rfl, rfl, rfl, by decide +kernel, rfl, by decide +kernel, by decide +kernel⟩
theorem b_check_act (kV doc pm : Value) (an : Option Addr) (cdv ct : Value) (us : List Value) (h : us.length = (["game", "player", "value"] : List Str).length) : bindArgs (PySem.W.fnOf D_check_act.name D_check_act.qual D_check_act.params D_check_act.body D_check_act.scope .none kV doc pm an cdv ct) ⟨us, []⟩ = pure ((["game", "player", "value"] : List Str).zip us) := match us, h with | [_, _, _], _ => rfl
theorem c_check_act {P : Program} {w : World} {K : Frag} {mg : Str → Option Value} {base : Heap} (fx : Fx K mg base) : CalG P w K mg base 3 "check_act" D_check_act ["game", "player", "value"] f_check_act := by
  obtain ⟨a, fd, F, hm⟩ := fx.f_check_act
  refine calG (D := D_check_act) (N := ["game", "player", "value"]) (k := 2) (d := d_check_act) F hm S_check_act fun cdv A outer s H hr hgd => ?_
  exact pss_d1 (ps_dif (pt_dnot (pt_dval (pe_gcall (mus := [false, false, false]) (c_is_within fx) hr (by decide) hgd rfl rfl b_is_within (pa_d1 (pe_dvar (i := 2) rfl (.inl rfl) nd_value nc_value) (pa_d1 (pe_dint) (pa_d1 (pe_dbin o_sub (pe_dix (pe_dix (pe_dvar (i := 0) rfl (.inl rfl) nd_game nc_game) (pe_dint) (fun _ _ _ _ h => nomatch h)) (pe_dvar (i := 1) rfl (.inl rfl) nd_player nc_player) (fun _ _ _ _ h => nomatch h)) (pe_dint)) (pa_d0)))) nd_is_within) (fun _ => rfl))) (pss_d1 (ps_dno)
      (pss_d0)) (pss_d0))
      (pss_d0)
theorem S_gain : FnScope ["game", "lot", "player", "act", "other"] ["game", "lot", "player", "act", "other"] D_gain.scope := ⟨rfl, rfl, rfl, by decide +kernel, rfl, by decide +kernel, by decide +kernel⟩
theorem b_gain (kV doc pm : Value) (an : Option Addr) (cdv ct : Value) (us : List Value) (h : us.length = (["game", "lot", "player", "act", "other"] : List Str).length) : bindArgs (PySem.W.fnOf D_gain.name D_gain.qual D_gain.params D_gain.body D_gain.scope .none kV doc pm an cdv ct) ⟨us, []⟩ = pure ((["game", "lot", "player", "act", "other"] : List Str).zip us) := match us, h with | [_, _, _, _, _], _ => rfl
theorem k_gain_0_other_act_player_lot_game (kV doc pm : Value) (an : Option Addr) (cdv ct : Value) (ws : List Value) (h2 : ws.length = 5) : bindArgs (PySem.W.fnOf D_gain.name D_gain.qual D_gain.params D_gain.body D_gain.scope .none kV doc pm an cdv ct) ⟨[], (["other", "act", "player", "lot", "game"] : List Str).zip ws⟩ = pure ((["game", "lot", "player", "act", "other"] : List Str).zip (permL [4, 3, 2, 1, 0] ws)) := match ws, h2 with | [_, _, _, _, _], _ => rfl
theorem c_gain {P : Program} {w : World} {K : Frag} {mg : Str → Option Value} {base : Heap} (fx : Fx K mg base) : CalG P w K mg base 8 "gain" D_gain ["game", "lot", "player", "act", "other"] f_gain := by
  obtain ⟨a, fd, F, hm⟩ := fx.f_gain
  refine calG (D := D_gain) (N := ["game", "lot", "player", "act", "other"]) (k := 7) (d := d_gain) F hm S_gain fun cdv A outer s H hr hgd => ?_
  exact pss_d1 (ps_dexpr (pe_gcall (mus := [false, false]) (c_check_lot_of fx) hr (by decide) hgd rfl rfl b_check_lot_of (pa_d1 (pe_dvar (i := 0) rfl (.inl rfl) nd_game nc_game) (pa_d1 (pe_dvar (i := 1) rfl (.inl rfl) nd_lot nc_lot) (pa_d0))) nd_check_lot_of) rfl)
      (pss_d1 (ps_dexpr (pe_gcall (mus := [false, false]) (c_check_player fx) hr (by decide) hgd rfl rfl b_check_player (pa_d1 (pe_dvar (i := 0) rfl (.inl rfl) nd_game nc_game) (pa_d1 (pe_dvar (i := 2) rfl (.inl rfl) nd_player nc_player) (pa_d0))) nd_check_player) rfl)
      (pss_d1 (ps_dexpr (pe_gcall (mus := [false, false, false]) (c_check_act fx) hr (by decide) hgd rfl rfl b_check_act (pa_d1 (pe_dvar (i := 0) rfl (.inl rfl) nd_game nc_game) (pa_d1 (pe_dvar (i := 2) rfl (.inl rfl) nd_player nc_player) (pa_d1 (pe_dvar (i := 3) rfl (.inl rfl) nd_act nc_act) (pa_d0)))) nd_check_act) rfl)
      (pss_d1 (ps_dif (pt_dnot (pt_dval (pe_gcall (mus := [false, false, false]) (c_is_within fx) hr (by decide) hgd rfl rfl b_is_within (pa_d1 (pe_dvar (i := 4) rfl (.inl rfl) nd_other nc_other) (pa_d1 (pe_dint) (pa_d1 (pe_dbin o_sub (pe_dix (pe_dix (pe_dvar (i := 0) rfl (.inl rfl) nd_game nc_game) (pe_dint) (fun _ _ _ _ h => nomatch h)) (pe_dvar (i := 2) rfl (.inl rfl) nd_player nc_player) (fun _ _ _ _ h => nomatch h)) (pe_dint)) (pa_d0)))) nd_is_within) (fun _ => rfl))) (pss_d1 (ps_dno)
      (pss_d0)) (pss_d0))
      (pss_d1 (ps_dret (pe_gcall (mus := [false, false, false]) (c_gain_of fx) hr (by decide) hgd rfl rfl b_gain_of (pa_d1 (pe_dvar (i := 0) rfl (.inl rfl) nd_game nc_game) (pa_d1 (pe_dvar (i := 1) rfl (.inl rfl) nd_lot nc_lot) (pa_d1 (pe_dtup (pa_d1 (pe_dvar (i := 2) rfl (.inl rfl) nd_player nc_player) (pa_d1 (pe_dvar (i := 3) rfl (.inl rfl) nd_act nc_act) (pa_d1 (pe_dvar (i := 4) rfl (.inl rfl) nd_other nc_other) (pa_d0))))) (pa_d0)))) nd_gain_of))
      (pss_d0)))))
theorem S_check_rule : FnScope ["game", "player", "value", "many", "one"] ["game", "player", "value"] D_check_rule.scope := ⟨rfl, rfl, rfl, by decide +kernel, rfl, by decide +kernel, by decide +kernel⟩
theorem b_check_rule (kV doc pm : Value) (an : Option Addr) (cdv ct : Value) (us : List Value) (h : us.length = (["game", "player", "value"] : List Str).length) : bindArgs (PySem.W.fnOf D_check_rule.name D_check_rule.qual D_check_rule.params D_check_rule.body D_check_rule.scope .none kV doc pm an cdv ct) ⟨us, []⟩ = pure ((["game", "player", "value"] : List Str).zip us) := match us, h with | [_, _, _], _ => rfl
theorem c_check_rule {P : Program} {w : World} {K : Frag} {mg : Str → Option Value} {base : Heap} (fx : Fx K mg base) : CalG P w K mg base 3 "check_rule" D_check_rule ["game", "player", "value"] f_check_rule := by
  obtain ⟨a, fd, F, hm⟩ := fx.f_check_rule
  refine calG (D := D_check_rule) (N := ["game", "player", "value", "many", "one"]) (k := 2) (d := d_check_rule) F hm S_check_rule fun cdv A outer s H hr hgd => ?_
  exact pss_d1 (ps_dset (n := 3) (mu := false) S_check_rule.nd rfl (.inr rfl) (.inl rfl) (pe_dix (pe_dix (pe_dvar (i := 0) rfl (.inl rfl) nd_game nc_game) (pe_dint) (fun _ _ _ _ h => nomatch h)) (pe_dvar (i := 1) rfl (.inl rfl) nd_player nc_player) (fun _ _ _ _ h => nomatch h)) rfl)
      (pss_d1 (ps_dif (PW.pt (pw_dor (pt_dnot (pt_dval (pe_gcall (mus := [false]) (c_is_list fx) hr (by decide) hgd rfl rfl b_is_list (pa_d1 (pe_dvar (i := 2) rfl (.inl rfl) nd_value nc_value) (pa_d0)) nd_is_list) (fun _ => rfl))) (pw_dor (pt_dcmp (o_ne hr.units) (pe_dcb c_len rfl fx.n_len bb_len (pa_d1 (pe_dvar (i := 2) rfl (.inl rfl) nd_value nc_value) (pa_d0)) (by decide) nd_len) (pe_dvar (i := 3) rfl (.inr (.inl rfl)) nd_many nc_many) rfl) (pw_d1 (pt_dnot (pt_dval (pe_dcb (c_all rfl) rfl fx.n_all bb_all (pa_d1 (pe_dcomp (own := [("one", 4)]) (is := [4]) rfl S_check_rule.nd (pi_dseq (pe_dvar (i := 2) rfl (.inl rfl) nd_value nc_value)) rfl (fun _ _ _ _ _ => pg_dname (n := 4) S_check_rule.nd rfl (.inl rfl) (.inr rfl)) (fun _ _ _ _ _ => pts_nil) (fun _ _ _ _ _ => pe_gcall (mus := [false, false, false]) (c_is_within fx) hr (by decide) hgd rfl rfl b_is_within (pa_d1 (pe_dvar (i := 4) rfl (.inl rfl) nd_one nc_one) (pa_d1 (pe_dint) (pa_d1 (pe_dbin o_sub (pe_dvar (i := 3) rfl (.inr (.inl rfl)) nd_many nc_many) (pe_dint)) (pa_d0)))) nd_is_within) (fun _ => rfl) rfl) (pa_d0)) (by decide) nd_all) (fun _ => rfl))))))) (pss_d1 (ps_dno)
      (pss_d0)) (pss_d0))
      (pss_d0))
theorem S_rule_gain : FnScope ["game", "lot", "player", "rule", "found", "act", "other"] ["game", "lot", "player", "rule"] D_rule_gain.scope := ⟨rfl, rfl, rfl, by decide +kernel, rfl, by decide +kernel, by decide +kernel⟩
theorem b_rule_gain (kV doc pm : Value) (an : Option Addr) (cdv ct : Value) (us : List Value) (h : us.length = (["game", "lot", "player", "rule"] : List Str).length) : bindArgs (PySem.W.fnOf D_rule_gain.name D_rule_gain.qual D_rule_gain.params D_rule_gain.body D_rule_gain.scope .none kV doc pm an cdv ct) ⟨us, []⟩ = pure ((["game", "lot", "player", "rule"] : List Str).zip us) := match us, h with | [_, _, _, _], _ => rfl
theorem k_rule_gain_0_rule_player_lot_game (kV doc pm : Value) (an : Option Addr) (cdv ct : Value) (ws : List Value) (h2 : ws.length = 4) : bindArgs (PySem.W.fnOf D_rule_gain.name D_rule_gain.qual D_rule_gain.params D_rule_gain.body D_rule_gain.scope .none kV doc pm an cdv ct) ⟨[], (["rule", "player", "lot", "game"] : List Str).zip ws⟩ = pure ((["game", "lot", "player", "rule"] : List Str).zip (permL [3, 2, 1, 0] ws)) := match ws, h2 with | [_, _, _, _], _ => rfl
theorem c_rule_gain {P : Program} {w : World} {K : Frag} {mg : Str → Option Value} {base : Heap} (fx : Fx K mg base) : CalG P w K mg base 8 "rule_gain" D_rule_gain ["game", "lot", "player", "rule"] f_rule_gain := by
  obtain ⟨a, fd, F, hm⟩ := fx.f_rule_gain
  refine calG (D := D_rule_gain) (N := ["game", "lot", "player", "rule", "found", "act", "other"]) (k := 7) (d := d_rule_gain) F hm S_rule_gain fun cdv A outer s H hr hgd => ?_
  exact pss_d1 (ps_dexpr (pe_gcall (mus := [false, false]) (c_check_lot_of fx) hr (by decide) hgd rfl rfl b_check_lot_of (pa_d1 (pe_dvar (i := 0) rfl (.inl rfl) nd_game nc_game) (pa_d1 (pe_dvar (i := 1) rfl (.inl rfl) nd_lot nc_lot) (pa_d0))) nd_check_lot_of) rfl)
      (pss_d1 (ps_dexpr (pe_gcall (mus := [false, false]) (c_check_player fx) hr (by decide) hgd rfl rfl b_check_player (pa_d1 (pe_dvar (i := 0) rfl (.inl rfl) nd_game nc_game) (pa_d1 (pe_dvar (i := 2) rfl (.inl rfl) nd_player nc_player) (pa_d0))) nd_check_player) rfl)
      (pss_d1 (ps_dexpr (pe_gcall (mus := [false, false, false]) (c_check_rule fx) hr (by decide) hgd rfl rfl b_check_rule (pa_d1 (pe_dvar (i := 0) rfl (.inl rfl) nd_game nc_game) (pa_d1 (pe_dvar (i := 2) rfl (.inl rfl) nd_player nc_player) (pa_d1 (pe_dvar (i := 3) rfl (.inl rfl) nd_rule nc_rule) (pa_d0)))) nd_check_rule) rfl)
      (pss_d1 (ps_dset (n := 4) (mu := false) S_rule_gain.nd rfl (.inl rfl) (.inl rfl) (glTup (ns := [0, 1]) rfl fx.t_NOUGHT nd_NOUGHT) rfl)
      (pss_d1 (ps_dfor PassesOwn.never rfl (pi_denum rfl fx.n_enumerate (pe_dvar (i := 3) rfl (.inl rfl) nd_rule nc_rule)) (pg_dtup rfl (pgs_d1 (pg_dname (n := 5) S_rule_gain.nd rfl (.inl rfl) (.inl rfl)) (pgs_d1 (pg_dname (n := 6) S_rule_gain.nd rfl (.inl rfl) (.inl rfl)) (pgs_d0) rfl) rfl) rfl rfl) (pss_d1 (ps_dset (n := 4) (mu := false) S_rule_gain.nd rfl (.inl rfl) (.inl rfl) (pe_gcall (mus := [false, false]) (c_add fx) hr (by decide) hgd rfl rfl b_add (pa_d1 (pe_dvar (i := 4) rfl (.inl rfl) nd_found nc_found) (pa_d1 (pe_gcall (mus := [false, false, false]) (c_gain_of fx) hr (by decide) hgd rfl rfl b_gain_of (pa_d1 (pe_dvar (i := 0) rfl (.inl rfl) nd_game nc_game) (pa_d1 (pe_dvar (i := 1) rfl (.inl rfl) nd_lot nc_lot) (pa_d1 (pe_dtup (pa_d1 (pe_dvar (i := 2) rfl (.inl rfl) nd_player nc_player) (pa_d1 (pe_dvar (i := 5) rfl (.inl rfl) nd_act nc_act) (pa_d1 (pe_dvar (i := 6) rfl (.inl rfl) nd_other nc_other) (pa_d0))))) (pa_d0)))) nd_gain_of) (pa_d0))) nd_add) rfl)
      (pss_d0)) (fun _ => rfl))
      (pss_d1 (ps_dret (pe_dvar (i := 4) rfl (.inl rfl) nd_found nc_found))
      (pss_d0))))))
theorem S_is_below : FnScope ["one", "late"] ["one", "late"] D_is_below.scope := ⟨rfl, rfl, rfl, by decide +kernel, rfl, by decide +kernel, by decide +kernel⟩
theorem b_is_below (kV doc pm : Value) (an : Option Addr) (cdv ct : Value) (us : List Value) (h : us.length = (["one", "late"] : List Str).length) : bindArgs (PySem.W.fnOf D_is_below.name D_is_below.qual D_is_below.params D_is_below.body D_is_below.scope .none kV doc pm an cdv ct) ⟨us, []⟩ = pure ((["one", "late"] : List Str).zip us) := match us, h with | [_, _], _ => rfl
theorem c_is_below {P : Program} {w : World} {K : Frag} {mg : Str → Option Value} {base : Heap} (fx : Fx K mg base) : CalG P w K mg base 1 "is_below" D_is_below ["one", "late"] f_is_below := by
  obtain ⟨a, fd, F, hm⟩ := fx.f_is_below
  refine calG (D := D_is_below) (N := ["one", "late"]) (k := 0) (d := d_is_below) F hm S_is_below fun cdv A outer s H hr hgd => ?_
  exact pss_d1 (ps_dret (pe_dcmp o_lt (pe_dbin o_mul (pe_dix (pe_dvar (i := 0) rfl (.inl rfl) nd_one nc_one) (pe_dint) (fun _ _ _ _ h => nomatch h)) (pe_dix (pe_dvar (i := 1) rfl (.inl rfl) nd_late nc_late) (pe_dint) (fun _ _ _ _ h => nomatch h))) (pe_dbin o_mul (pe_dix (pe_dvar (i := 1) rfl (.inl rfl) nd_late nc_late) (pe_dint) (fun _ _ _ _ h => nomatch h)) (pe_dix (pe_dvar (i := 0) rfl (.inl rfl) nd_one nc_one) (pe_dint) (fun _ _ _ _ h => nomatch h))) rfl))
      (pss_d0)
theorem S_best_act : FnScope ["game", "lot", "player", "act", "best", "most", "other", "own"] ["game", "lot", "player", "act"] D_best_act.scope := ⟨rfl, rfl, rfl, by decide +kernel, rfl, by decide +kernel, by decide +kernel⟩
theorem b_best_act (kV doc pm : Value) (an : Option Addr) (cdv ct : Value) (us : List Value) (h : us.length = (["game", "lot", "player", "act"] : List Str).length) : bindArgs (PySem.W.fnOf D_best_act.name D_best_act.qual D_best_act.params D_best_act.body D_best_act.scope .none kV doc pm an cdv ct) ⟨us, []⟩ = pure ((["game", "lot", "player", "act"] : List Str).zip us) := match us, h with | [_, _, _, _], _ => rfl
theorem c_best_act {P : Program} {w : World} {K : Frag} {mg : Str → Option Value} {base : Heap} (fx : Fx K mg base) : CalG P w K mg base 8 "best_act" D_best_act ["game", "lot", "player", "act"] f_best_act := by
  obtain ⟨a, fd, F, hm⟩ := fx.f_best_act
  refine calG (D := D_best_act) (N := ["game", "lot", "player", "act", "best", "most", "other", "own"]) (k := 7) (d := d_best_act) F hm S_best_act fun cdv A outer s H hr hgd => ?_
  exact pss_d1 (ps_dpar2 (i := 4) (j := 5) (mi := false) (mj := false) rfl S_best_act.nd rfl rfl (by decide) rfl rfl (pa_d1 (pe_dvar (i := 3) rfl (.inl rfl) nd_act nc_act) (pa_d1 (glTup (ns := [0, 1]) rfl fx.t_NOUGHT nd_NOUGHT) (pa_d0))) rfl)
      (pss_d1 (ps_dfor PassesOwn.never rfl (pi_drng1 rfl fx.n_range (pa_d1 (pe_dix (pe_dix (pe_dvar (i := 0) rfl (.inl rfl) nd_game nc_game) (pe_dint) (fun _ _ _ _ h => nomatch h)) (pe_dvar (i := 2) rfl (.inl rfl) nd_player nc_player) (fun _ _ _ _ h => nomatch h)) (pa_d0))) (pg_dname (n := 6) S_best_act.nd rfl (.inl rfl) (.inl rfl)) (pss_d1 (ps_dset (n := 7) (mu := false) S_best_act.nd rfl (.inl rfl) (.inl rfl) (pe_gcall (mus := [false, false, false]) (c_gain_of fx) hr (by decide) hgd rfl rfl b_gain_of (pa_d1 (pe_dvar (i := 0) rfl (.inl rfl) nd_game nc_game) (pa_d1 (pe_dvar (i := 1) rfl (.inl rfl) nd_lot nc_lot) (pa_d1 (pe_dtup (pa_d1 (pe_dvar (i := 2) rfl (.inl rfl) nd_player nc_player) (pa_d1 (pe_dvar (i := 3) rfl (.inl rfl) nd_act nc_act) (pa_d1 (pe_dvar (i := 6) rfl (.inl rfl) nd_other nc_other) (pa_d0))))) (pa_d0)))) nd_gain_of) rfl)
      (pss_d1 (ps_dif (pt_dval (pe_gcall (mus := [false, false]) (c_is_below fx) hr (by decide) hgd rfl rfl b_is_below (pa_d1 (pe_dvar (i := 5) rfl (.inl rfl) nd_most nc_most) (pa_d1 (pe_dvar (i := 7) rfl (.inl rfl) nd_own nc_own) (pa_d0))) nd_is_below) (fun _ => rfl)) (pss_d1 (ps_dpar2 (i := 4) (j := 5) (mi := false) (mj := false) rfl S_best_act.nd rfl rfl (by decide) rfl rfl (pa_d1 (pe_dvar (i := 6) rfl (.inl rfl) nd_other nc_other) (pa_d1 (pe_dvar (i := 7) rfl (.inl rfl) nd_own nc_own) (pa_d0))) rfl)
      (pss_d0)) (pss_d0))
      (pss_d0))) (fun _ => rfl))
      (pss_d1 (ps_dret (pe_dvar (i := 4) rfl (.inl rfl) nd_best nc_best))
      (pss_d0)))
theorem S_told_rule : FnScope ["game", "lot", "player", "act"] ["game", "lot", "player"] D_told_rule.scope := ⟨rfl, rfl, rfl, by decide +kernel, rfl, by decide +kernel, by decide +kernel⟩
theorem b_told_rule (kV doc pm : Value) (an : Option Addr) (cdv ct : Value) (us : List Value) (h : us.length = (["game", "lot", "player"] : List Str).length) : bindArgs (PySem.W.fnOf D_told_rule.name D_told_rule.qual D_told_rule.params D_told_rule.body D_told_rule.scope .none kV doc pm an cdv ct) ⟨us, []⟩ = pure ((["game", "lot", "player"] : List Str).zip us) := match us, h with | [_, _, _], _ => rfl
theorem k_told_rule_0_player_lot_game (kV doc pm : Value) (an : Option Addr) (cdv ct : Value) (ws : List Value) (h2 : ws.length = 3) : bindArgs (PySem.W.fnOf D_told_rule.name D_told_rule.qual D_told_rule.params D_told_rule.body D_told_rule.scope .none kV doc pm an cdv ct) ⟨[], (["player", "lot", "game"] : List Str).zip ws⟩ = pure ((["game", "lot", "player"] : List Str).zip (permL [2, 1, 0] ws)) := match ws, h2 with | [_, _, _], _ => rfl
theorem c_told_rule {P : Program} {w : World} {K : Frag} {mg : Str → Option Value} {base : Heap} (fx : Fx K mg base) : CalG P w K mg base 9 "told_rule" D_told_rule ["game", "lot", "player"] f_told_rule := by
  obtain ⟨a, fd, F, hm⟩ := fx.f_told_rule
  refine calG (D := D_told_rule) (N := ["game", "lot", "player", "act"]) (k := 8) (d := d_told_rule) F hm S_told_rule fun cdv A outer s H hr hgd => ?_
  exact pss_d1 (ps_dexpr (pe_gcall (mus := [false, false]) (c_check_lot_of fx) hr (by decide) hgd rfl rfl b_check_lot_of (pa_d1 (pe_dvar (i := 0) rfl (.inr (.inl rfl)) nd_game nc_game) (pa_d1 (pe_dvar (i := 1) rfl (.inr (.inl rfl)) nd_lot nc_lot) (pa_d0))) nd_check_lot_of) rfl)
      (pss_d1 (ps_dexpr (pe_gcall (mus := [false, false]) (c_check_player fx) hr (by decide) hgd rfl rfl b_check_player (pa_d1 (pe_dvar (i := 0) rfl (.inr (.inl rfl)) nd_game nc_game) (pa_d1 (pe_dvar (i := 2) rfl (.inr (.inl rfl)) nd_player nc_player) (pa_d0))) nd_check_player) rfl)
      (pss_d1 (ps_dret (pe_dcomp (own := [("act", 3)]) (is := [3]) rfl S_told_rule.nd (pi_drng1 rfl fx.n_range (pa_d1 (pe_dix (pe_dix (pe_dvar (i := 0) rfl (.inr (.inl rfl)) nd_game nc_game) (pe_dint) (fun _ _ _ _ h => nomatch h)) (pe_dvar (i := 2) rfl (.inr (.inl rfl)) nd_player nc_player) (fun _ _ _ _ h => nomatch h)) (pa_d0))) rfl (fun _ _ _ _ _ => pg_dname (n := 3) S_told_rule.nd rfl (.inl rfl) (.inr rfl)) (fun _ _ _ _ _ => pts_nil) (fun _ _ _ _ _ => pe_gcall (mus := [false, false, false, false]) (c_best_act fx) hr (by decide) hgd rfl rfl b_best_act (pa_d1 (pe_dvar (i := 0) rfl (.inr (.inl rfl)) nd_game nc_game) (pa_d1 (pe_dvar (i := 1) rfl (.inr (.inl rfl)) nd_lot nc_lot) (pa_d1 (pe_dvar (i := 2) rfl (.inr (.inl rfl)) nd_player nc_player) (pa_d1 (pe_dvar (i := 3) rfl (.inl rfl) nd_act nc_act) (pa_d0))))) nd_best_act) (fun _ => rfl) rfl))
      (pss_d0)))
theorem S_outside_gain : FnScope ["game", "lot", "player", "act"] ["game", "lot", "player", "act"] D_outside_gain.scope := ⟨rfl, rfl, rfl, by decide +kernel, rfl, by decide +kernel, by decide +kernel⟩
theorem b_outside_gain (kV doc pm : Value) (an : Option Addr) (cdv ct : Value) (us : List Value) (h : us.length = (["game", "lot", "player", "act"] : List Str).length) : bindArgs (PySem.W.fnOf D_outside_gain.name D_outside_gain.qual D_outside_gain.params D_outside_gain.body D_outside_gain.scope .none kV doc pm an cdv ct) ⟨us, []⟩ = pure ((["game", "lot", "player", "act"] : List Str).zip us) := match us, h with | [_, _, _, _], _ => rfl
theorem k_outside_gain_0_act_player_lot_game (kV doc pm : Value) (an : Option Addr) (cdv ct : Value) (ws : List Value) (h2 : ws.length = 4) : bindArgs (PySem.W.fnOf D_outside_gain.name D_outside_gain.qual D_outside_gain.params D_outside_gain.body D_outside_gain.scope .none kV doc pm an cdv ct) ⟨[], (["act", "player", "lot", "game"] : List Str).zip ws⟩ = pure ((["game", "lot", "player", "act"] : List Str).zip (permL [3, 2, 1, 0] ws)) := match ws, h2 with | [_, _, _, _], _ => rfl
theorem c_outside_gain {P : Program} {w : World} {K : Frag} {mg : Str → Option Value} {base : Heap} (fx : Fx K mg base) : CalG P w K mg base 8 "outside_gain" D_outside_gain ["game", "lot", "player", "act"] f_outside_gain := by
  obtain ⟨a, fd, F, hm⟩ := fx.f_outside_gain
  refine calG (D := D_outside_gain) (N := ["game", "lot", "player", "act"]) (k := 7) (d := d_outside_gain) F hm S_outside_gain fun cdv A outer s H hr hgd => ?_
  exact pss_d1 (ps_dexpr (pe_gcall (mus := [false, false]) (c_check_lot_of fx) hr (by decide) hgd rfl rfl b_check_lot_of (pa_d1 (pe_dvar (i := 0) rfl (.inl rfl) nd_game nc_game) (pa_d1 (pe_dvar (i := 1) rfl (.inl rfl) nd_lot nc_lot) (pa_d0))) nd_check_lot_of) rfl)
      (pss_d1 (ps_dexpr (pe_gcall (mus := [false, false]) (c_check_player fx) hr (by decide) hgd rfl rfl b_check_player (pa_d1 (pe_dvar (i := 0) rfl (.inl rfl) nd_game nc_game) (pa_d1 (pe_dvar (i := 2) rfl (.inl rfl) nd_player nc_player) (pa_d0))) nd_check_player) rfl)
      (pss_d1 (ps_dexpr (pe_gcall (mus := [false, false, false]) (c_check_act fx) hr (by decide) hgd rfl rfl b_check_act (pa_d1 (pe_dvar (i := 0) rfl (.inl rfl) nd_game nc_game) (pa_d1 (pe_dvar (i := 2) rfl (.inl rfl) nd_player nc_player) (pa_d1 (pe_dvar (i := 3) rfl (.inl rfl) nd_act nc_act) (pa_d0)))) nd_check_act) rfl)
      (pss_d1 (ps_dret (pe_gcall (mus := [false, false, false, false]) (c_outside_by fx) hr (by decide) hgd rfl rfl b_outside_by (pa_d1 (pe_dvar (i := 0) rfl (.inl rfl) nd_game nc_game) (pa_d1 (pe_dvar (i := 1) rfl (.inl rfl) nd_lot nc_lot) (pa_d1 (pe_dvar (i := 2) rfl (.inl rfl) nd_player nc_player) (pa_d1 (pe_dvar (i := 3) rfl (.inl rfl) nd_act nc_act) (pa_d0))))) nd_outside_by))
      (pss_d0))))
theorem S__law_below : FnScope ["one", "other"] ["one", "other"] D__law_below.scope := ⟨rfl, rfl, rfl, by decide +kernel, rfl, by decide +kernel, by decide +kernel⟩
theorem b__law_below (kV doc pm : Value) (an : Option Addr) (cdv ct : Value) (us : List Value) (h : us.length = (["one", "other"] : List Str).length) : bindArgs (PySem.W.fnOf D__law_below.name D__law_below.qual D__law_below.params D__law_below.body D__law_below.scope .none kV doc pm an cdv ct) ⟨us, []⟩ = pure ((["one", "other"] : List Str).zip us) := match us, h with | [_, _], _ => rfl
theorem c__law_below {P : Program} {w : World} {K : Frag} {mg : Str → Option Value} {base : Heap} (fx : Fx K mg base) : CalG P w K mg base 1 "_law_below" D__law_below ["one", "other"] f__law_below := by
  obtain ⟨a, fd, F, hm⟩ := fx.f__law_below
  refine calG (D := D__law_below) (N := ["one", "other"]) (k := 0) (d := d__law_below) F hm S__law_below fun cdv A outer s H hr hgd => ?_
  exact pss_d1 (ps_dret (pe_dcmp o_lt (pe_dbin o_mul (pe_dix (pe_dvar (i := 0) rfl (.inl rfl) nd_one nc_one) (pe_dint) (fun _ _ _ _ h => nomatch h)) (pe_dix (pe_dvar (i := 1) rfl (.inl rfl) nd_other nc_other) (pe_dint) (fun _ _ _ _ h => nomatch h))) (pe_dbin o_mul (pe_dix (pe_dvar (i := 1) rfl (.inl rfl) nd_other nc_other) (pe_dint) (fun _ _ _ _ h => nomatch h)) (pe_dix (pe_dvar (i := 0) rfl (.inl rfl) nd_one nc_one) (pe_dint) (fun _ _ _ _ h => nomatch h))) rfl))
      (pss_d0)
theorem S__law_rule_gain : FnScope ["game", "lot", "player", "rule", "act", "other"] ["game", "lot", "player", "rule"] D__law_rule_gain.scope := ⟨rfl, rfl, rfl, by decide +kernel, rfl, by decide +kernel, by decide +kernel⟩
theorem b__law_rule_gain (kV doc pm : Value) (an : Option Addr) (cdv ct : Value) (us : List Value) (h : us.length = (["game", "lot", "player", "rule"] : List Str).length) : bindArgs (PySem.W.fnOf D__law_rule_gain.name D__law_rule_gain.qual D__law_rule_gain.params D__law_rule_gain.body D__law_rule_gain.scope .none kV doc pm an cdv ct) ⟨us, []⟩ = pure ((["game", "lot", "player", "rule"] : List Str).zip us) := match us, h with | [_, _, _, _], _ => rfl
theorem c__law_rule_gain {P : Program} {w : World} {K : Frag} {mg : Str → Option Value} {base : Heap} (fx : Fx K mg base) : CalG P w K mg base 6 "_law_rule_gain" D__law_rule_gain ["game", "lot", "player", "rule"] f__law_rule_gain := by
  obtain ⟨a, fd, F, hm⟩ := fx.f__law_rule_gain
  refine calG (D := D__law_rule_gain) (N := ["game", "lot", "player", "rule", "act", "other"]) (k := 5) (d := d__law_rule_gain) F hm S__law_rule_gain fun cdv A outer s H hr hgd => ?_
  exact pss_d1 (ps_dret (pe_gcall (mus := [false]) (c__law_total fx) hr (by decide) hgd rfl rfl b__law_total (pa_d1 (pe_dcomp (own := [("act", 4), ("other", 5)]) (is := ([4] ++ ([5] ++ []))) rfl S__law_rule_gain.nd (pi_denum rfl fx.n_enumerate (pe_dvar (i := 3) rfl (.inl rfl) nd_rule nc_rule)) rfl (fun _ _ _ _ _ => pg_dtup rfl (pgs_d1 (pg_dname (n := 4) S__law_rule_gain.nd rfl (.inl rfl) (.inr rfl)) (pgs_d1 (pg_dname (n := 5) S__law_rule_gain.nd rfl (.inl rfl) (.inr rfl)) (pgs_d0) rfl) rfl) rfl rfl) (fun _ _ _ _ _ => pts_nil) (fun _ _ _ _ _ => pe_gcall (mus := [false, false, false, false, false]) (c__law_gain fx) hr (by decide) hgd rfl rfl b__law_gain (pa_d1 (pe_dvar (i := 0) rfl (.inr (.inl rfl)) nd_game nc_game) (pa_d1 (pe_dvar (i := 1) rfl (.inr (.inl rfl)) nd_lot nc_lot) (pa_d1 (pe_dvar (i := 2) rfl (.inr (.inl rfl)) nd_player nc_player) (pa_d1 (pe_dvar (i := 4) rfl (.inl rfl) nd_act nc_act) (pa_d1 (pe_dvar (i := 5) rfl (.inl rfl) nd_other nc_other) (pa_d0)))))) nd__law_gain) (fun _ => rfl) rfl) (pa_d0)) nd__law_total))
      (pss_d0)
theorem S__law_player_right : FnScope ["pot", "game", "lot", "player", "many", "rule", "act", "some", "best", "other", "own", "turn", "due", "told"] ["pot", "game", "lot", "player"] D__law_player_right.scope := ⟨rfl, rfl, rfl, by decide +kernel, rfl, by decide +kernel, by decide +kernel⟩
theorem b__law_player_right (kV doc pm : Value) (an : Option Addr) (cdv ct : Value) (us : List Value) (h : us.length = (["pot", "game", "lot", "player"] : List Str).length) : bindArgs (PySem.W.fnOf D__law_player_right.name D__law_player_right.qual D__law_player_right.params D__law_player_right.body D__law_player_right.scope .none kV doc pm an cdv ct) ⟨us, []⟩ = pure ((["pot", "game", "lot", "player"] : List Str).zip us) := match us, h with | [_, _, _, _], _ => rfl
theorem c__law_player_right {P : Program} {w : World} {K : Frag} {mg : Str → Option Value} {base : Heap} (fx : Fx K mg base) : CalG P w K mg base 10 "_law_player_right" D__law_player_right ["pot", "game", "lot", "player"] f__law_player_right := by
  obtain ⟨a, fd, F, hm⟩ := fx.f__law_player_right
  refine calG (D := D__law_player_right) (N := ["pot", "game", "lot", "player", "many", "rule", "act", "some", "best", "other", "own", "turn", "due", "told"]) (k := 9) (d := d__law_player_right) F hm S__law_player_right fun cdv A outer s H hr hgd => ?_
  exact pss_d1 (ps_dpar2c (i := 4) (j := 5) (mi := false) (mj := true) rfl S__law_player_right.nd rfl rfl (by decide) (.inr rfl) (.inl rfl) (.inl rfl) (.inl rfl) (pa_d1 (pe_dix (pe_dix (pe_dvar (i := 1) rfl (.inr (.inl rfl)) nd_game nc_game) (pe_dint) (fun _ _ _ _ h => nomatch h)) (pe_dvar (i := 3) rfl (.inr (.inl rfl)) nd_player nc_player) (fun _ _ _ _ h => nomatch h)) (pa_d1 (pe_dlst (pa_d0)) (pa_d0))) rfl rfl rfl rfl rfl rfl rfl)
      (pss_d1 (ps_dfor PassesOwn.never rfl (pi_drng1 rfl fx.n_range (pa_d1 (pe_dvar (i := 4) rfl (.inr (.inl rfl)) nd_many nc_many) (pa_d0))) (pg_dname (n := 6) S__law_player_right.nd rfl (.inr rfl) (.inl rfl)) (pss_d1 (ps_dpar2 (i := 7) (j := 8) (mi := false) (mj := false) rfl S__law_player_right.nd rfl rfl (by decide) rfl rfl (pa_d1 (pe_dcomp (own := [("other", 9)]) (is := [9]) rfl S__law_player_right.nd (pi_drng1 rfl fx.n_range (pa_d1 (pe_dvar (i := 4) rfl (.inr (.inl rfl)) nd_many nc_many) (pa_d0))) rfl (fun _ _ _ _ _ => pg_dname (n := 9) S__law_player_right.nd rfl (.inl rfl) (.inr rfl)) (fun _ _ _ _ _ => pts_nil) (fun _ _ _ _ _ => pe_gcall (mus := [false, false, false, false, false]) (c__law_gain fx) hr (by decide) hgd rfl rfl b__law_gain (pa_d1 (pe_dvar (i := 1) rfl (.inr (.inl rfl)) nd_game nc_game) (pa_d1 (pe_dvar (i := 2) rfl (.inr (.inl rfl)) nd_lot nc_lot) (pa_d1 (pe_dvar (i := 3) rfl (.inr (.inl rfl)) nd_player nc_player) (pa_d1 (pe_dvar (i := 6) rfl (.inr (.inl rfl)) nd_act nc_act) (pa_d1 (pe_dvar (i := 9) rfl (.inl rfl) nd_other nc_other) (pa_d0)))))) nd__law_gain) (fun _ => rfl) rfl) (pa_d1 (pe_dint) (pa_d0))) rfl)
      (pss_d1 (ps_dfor PassesOwn.never rfl (pi_denum rfl fx.n_enumerate (pe_dvar (i := 7) rfl (.inl rfl) nd_some nc_some)) (pg_dtup rfl (pgs_d1 (pg_dname (n := 9) S__law_player_right.nd rfl (.inl rfl) (.inl rfl)) (pgs_d1 (pg_dname (n := 10) S__law_player_right.nd rfl (.inl rfl) (.inl rfl)) (pgs_d0) rfl) rfl) rfl rfl) (pss_d1 (ps_dif (pt_dcmp (o_ne hr.units) (pe_drepL hgd (Room.u100 hr) fx.sys rfl fx.n_repr bb_repr (pa_d1 (pe_gcall (mus := [false, false, false, false, false]) (c_gain fx) hr (by decide) hgd rfl rfl b_gain (pa_d1 (pe_dvar (i := 1) rfl (.inr (.inl rfl)) nd_game nc_game) (pa_d1 (pe_dvar (i := 2) rfl (.inr (.inl rfl)) nd_lot nc_lot) (pa_d1 (pe_dvar (i := 3) rfl (.inr (.inl rfl)) nd_player nc_player) (pa_d1 (pe_dvar (i := 6) rfl (.inr (.inl rfl)) nd_act nc_act) (pa_d1 (pe_dvar (i := 9) rfl (.inl rfl) nd_other nc_other) (pa_d0)))))) nd_gain) (pa_d1 (pe_gcallK0 (ks := ["other", "act", "player", "lot", "game"]) (perm := [4, 3, 2, 1, 0]) (mus := [false, false, false, false, false]) (c_gain fx) hr (by decide) hgd rfl rfl rfl k_gain_0_other_act_player_lot_game (pk_d1 (pe_dvar (i := 9) rfl (.inl rfl) nd_other nc_other) (pk_d1 (pe_dvar (i := 6) rfl (.inr (.inl rfl)) nd_act nc_act) (pk_d1 (pe_dvar (i := 3) rfl (.inr (.inl rfl)) nd_player nc_player) (pk_d1 (pe_dvar (i := 2) rfl (.inr (.inl rfl)) nd_lot nc_lot) (pk_d1 (pe_dvar (i := 1) rfl (.inr (.inl rfl)) nd_game nc_game) (pk_d0)))))) rfl rfl nd_gain) (pa_d0)))) (pe_drepL hgd (Room.u100 hr) fx.sys rfl fx.n_repr bb_repr (pa_d1 (pe_dvar (i := 10) rfl (.inl rfl) nd_own nc_own) (pa_d1 (pe_dvar (i := 10) rfl (.inl rfl) nd_own nc_own) (pa_d0)))) rfl) (pss_d1 (ps_dret (pe_dbl))
      (pss_d0)) (pss_d0))
      (pss_d1 (ps_dset (n := 8) (mu := false) S__law_player_right.nd rfl (.inl rfl) (.inl rfl) (pe_dite (pt_dval (pe_gcall (mus := [false, false]) (c__law_below fx) hr (by decide) hgd rfl rfl b__law_below (pa_d1 (pe_dix (pe_dvar (i := 7) rfl (.inl rfl) nd_some nc_some) (pe_dvar (i := 8) rfl (.inl rfl) nd_best nc_best) (fun _ _ _ _ h => nomatch h)) (pa_d1 (pe_dvar (i := 10) rfl (.inl rfl) nd_own nc_own) (pa_d0))) nd__law_below) (fun _ => rfl)) (pe_dvar (i := 9) rfl (.inl rfl) nd_other nc_other) (pe_dvar (i := 8) rfl (.inl rfl) nd_best nc_best)) rfl)
      (pss_d0))) (fun _ => rfl))
      (pss_d1 (ps_dexpr (pe_dapp ⟨rfl, rfl, rfl⟩ (fun _ _ h => nomatch h) (pe_dvar (i := 5) rfl (.inl rfl) nd_rule nc_rule) (pe_dite (pt_dcmp o_gt (pe_dix (pe_dix (pe_dvar (i := 7) rfl (.inl rfl) nd_some nc_some) (pe_dvar (i := 8) rfl (.inl rfl) nd_best nc_best) (fun _ _ _ _ h => nomatch h)) (pe_dint) (fun _ _ _ _ h => nomatch h)) (pe_dint) rfl) (pe_dvar (i := 8) rfl (.inl rfl) nd_best nc_best) (pe_dvar (i := 6) rfl (.inr (.inl rfl)) nd_act nc_act))) rfl)
      (pss_d1 (ps_dset (n := 10) (mu := false) S__law_player_right.nd rfl (.inl rfl) (.inl rfl) (pe_gcall (mus := [false, false, false, false]) (c__law_outside fx) hr (by decide) hgd rfl rfl b__law_outside (pa_d1 (pe_dvar (i := 1) rfl (.inr (.inl rfl)) nd_game nc_game) (pa_d1 (pe_dvar (i := 2) rfl (.inr (.inl rfl)) nd_lot nc_lot) (pa_d1 (pe_dvar (i := 3) rfl (.inr (.inl rfl)) nd_player nc_player) (pa_d1 (pe_dvar (i := 6) rfl (.inr (.inl rfl)) nd_act nc_act) (pa_d0))))) nd__law_outside) rfl)
      (pss_d1 (ps_dif (pt_dcmp (o_ne hr.units) (pe_drepL hgd (Room.u100 hr) fx.sys rfl fx.n_repr bb_repr (pa_d1 (pe_gcall (mus := [false, false, false, false]) (c_outside_gain fx) hr (by decide) hgd rfl rfl b_outside_gain (pa_d1 (pe_dvar (i := 1) rfl (.inr (.inl rfl)) nd_game nc_game) (pa_d1 (pe_dvar (i := 2) rfl (.inr (.inl rfl)) nd_lot nc_lot) (pa_d1 (pe_dvar (i := 3) rfl (.inr (.inl rfl)) nd_player nc_player) (pa_d1 (pe_dvar (i := 6) rfl (.inr (.inl rfl)) nd_act nc_act) (pa_d0))))) nd_outside_gain) (pa_d1 (pe_gcallK0 (ks := ["act", "player", "lot", "game"]) (perm := [3, 2, 1, 0]) (mus := [false, false, false, false]) (c_outside_gain fx) hr (by decide) hgd rfl rfl rfl k_outside_gain_0_act_player_lot_game (pk_d1 (pe_dvar (i := 6) rfl (.inr (.inl rfl)) nd_act nc_act) (pk_d1 (pe_dvar (i := 3) rfl (.inr (.inl rfl)) nd_player nc_player) (pk_d1 (pe_dvar (i := 2) rfl (.inr (.inl rfl)) nd_lot nc_lot) (pk_d1 (pe_dvar (i := 1) rfl (.inr (.inl rfl)) nd_game nc_game) (pk_d0))))) rfl rfl nd_outside_gain) (pa_d0)))) (pe_drepL hgd (Room.u100 hr) fx.sys rfl fx.n_repr bb_repr (pa_d1 (pe_dvar (i := 10) rfl (.inl rfl) nd_own nc_own) (pa_d1 (pe_dvar (i := 10) rfl (.inl rfl) nd_own nc_own) (pa_d0)))) rfl) (pss_d1 (ps_dret (pe_dbl))
      (pss_d0)) (pss_d0))
      (pss_d1 (ps_dif (pt_dcmp (o_ne hr.units) (pe_gcall (mus := [false, false, false, false]) (c_rule_gain fx) hr (by decide) hgd rfl rfl b_rule_gain (pa_d1 (pe_dvar (i := 1) rfl (.inr (.inl rfl)) nd_game nc_game) (pa_d1 (pe_dvar (i := 2) rfl (.inr (.inl rfl)) nd_lot nc_lot) (pa_d1 (pe_dvar (i := 3) rfl (.inr (.inl rfl)) nd_player nc_player) (pa_d1 (pe_dbin o_mul (pe_dlst (pa_d1 (pe_dvar (i := 6) rfl (.inr (.inl rfl)) nd_act nc_act) (pa_d0))) (pe_dvar (i := 4) rfl (.inr (.inl rfl)) nd_many nc_many)) (pa_d0))))) nd_rule_gain) (pe_dvar (i := 10) rfl (.inl rfl) nd_own nc_own) rfl) (pss_d1 (ps_dret (pe_dbl))
      (pss_d0)) (pss_d0))
      (pss_d0))))))) (fun _ => rfl))
      (pss_d1 (ps_dif (pt_dcmp (o_ne hr.units) (pe_drepL hgd (Room.u100 hr) fx.sys rfl fx.n_repr bb_repr (pa_d1 (pe_gcall (mus := [false, false, false]) (c_told_rule fx) hr (by decide) hgd rfl rfl b_told_rule (pa_d1 (pe_dvar (i := 1) rfl (.inr (.inl rfl)) nd_game nc_game) (pa_d1 (pe_dvar (i := 2) rfl (.inr (.inl rfl)) nd_lot nc_lot) (pa_d1 (pe_dvar (i := 3) rfl (.inr (.inl rfl)) nd_player nc_player) (pa_d0)))) nd_told_rule) (pa_d1 (pe_gcallK0 (ks := ["player", "lot", "game"]) (perm := [2, 1, 0]) (mus := [false, false, false]) (c_told_rule fx) hr (by decide) hgd rfl rfl rfl k_told_rule_0_player_lot_game (pk_d1 (pe_dvar (i := 3) rfl (.inr (.inl rfl)) nd_player nc_player) (pk_d1 (pe_dvar (i := 2) rfl (.inr (.inl rfl)) nd_lot nc_lot) (pk_d1 (pe_dvar (i := 1) rfl (.inr (.inl rfl)) nd_game nc_game) (pk_d0)))) rfl rfl nd_told_rule) (pa_d0)))) (pe_drepL hgd (Room.u100 hr) fx.sys rfl fx.n_repr bb_repr (pa_d1 (pe_dvar (i := 5) rfl (.inl rfl) nd_rule nc_rule) (pa_d1 (pe_dvar (i := 5) rfl (.inl rfl) nd_rule nc_rule) (pa_d0)))) rfl) (pss_d1 (ps_dret (pe_dbl))
      (pss_d0)) (pss_d0))
      (pss_d1 (ps_dset (n := 10) (mu := false) S__law_player_right.nd rfl (.inl rfl) (.inl rfl) (pe_gcall (mus := [false, false, false, false]) (c__law_rule_gain fx) hr (by decide) hgd rfl rfl b__law_rule_gain (pa_d1 (pe_dvar (i := 1) rfl (.inr (.inl rfl)) nd_game nc_game) (pa_d1 (pe_dvar (i := 2) rfl (.inr (.inl rfl)) nd_lot nc_lot) (pa_d1 (pe_dvar (i := 3) rfl (.inr (.inl rfl)) nd_player nc_player) (pa_d1 (pe_dvar (i := 5) rfl (.inl rfl) nd_rule nc_rule) (pa_d0))))) nd__law_rule_gain) rfl)
      (pss_d1 (ps_dfor PassesOwn.never rfl (pi_drng1 rfl fx.n_range (pa_d1 (pe_dint) (pa_d0))) (pg_dname (n := 11) S__law_player_right.nd rfl (.inl rfl) (.inl rfl)) (pss_d1 (ps_dsetLc (i := 9) (mu := false) (own := [("act", 6)]) (is := [6]) rfl S__law_player_right.nd rfl rfl (sw_true rfl rfl rfl rfl) (pi_drng1 rfl fx.n_range (pa_d1 (pe_dvar (i := 4) rfl (.inr (.inl rfl)) nd_many nc_many) (pa_d0))) rfl (fun _ _ _ _ _ => pg_dname (n := 6) S__law_player_right.nd rfl (.inl rfl) (.inr rfl)) (fun _ _ _ _ _ => pts_nil) (fun _ _ _ _ _ => pe_gcall (mus := [true, false]) (c__law_draw fx) hr (by decide) hgd rfl rfl b__law_draw (pa_d1 (pe_dvar (i := 0) rfl (.inr (.inl rfl)) nd_pot nc_pot) (pa_d1 (pe_dvar (i := 4) rfl (.inr (.inl rfl)) nd_many nc_many) (pa_d0))) nd__law_draw) (fun _ => rfl) rfl)
      (pss_d1 (ps_dset (n := 12) (mu := false) S__law_player_right.nd rfl (.inl rfl) (.inl rfl) (pe_gcall (mus := [false, false, false, false]) (c__law_rule_gain fx) hr (by decide) hgd rfl rfl b__law_rule_gain (pa_d1 (pe_dvar (i := 1) rfl (.inr (.inl rfl)) nd_game nc_game) (pa_d1 (pe_dvar (i := 2) rfl (.inr (.inl rfl)) nd_lot nc_lot) (pa_d1 (pe_dvar (i := 3) rfl (.inr (.inl rfl)) nd_player nc_player) (pa_d1 (pe_dvar (i := 9) rfl (.inl rfl) nd_other nc_other) (pa_d0))))) nd__law_rule_gain) rfl)
      (pss_d1 (ps_dif (pt_dcmp (o_ne hr.units) (pe_drepL hgd (Room.u100 hr) fx.sys rfl fx.n_repr bb_repr (pa_d1 (pe_gcall (mus := [false, false, false, false]) (c_rule_gain fx) hr (by decide) hgd rfl rfl b_rule_gain (pa_d1 (pe_dvar (i := 1) rfl (.inr (.inl rfl)) nd_game nc_game) (pa_d1 (pe_dvar (i := 2) rfl (.inr (.inl rfl)) nd_lot nc_lot) (pa_d1 (pe_dvar (i := 3) rfl (.inr (.inl rfl)) nd_player nc_player) (pa_d1 (pe_dvar (i := 9) rfl (.inl rfl) nd_other nc_other) (pa_d0))))) nd_rule_gain) (pa_d1 (pe_gcallK0 (ks := ["rule", "player", "lot", "game"]) (perm := [3, 2, 1, 0]) (mus := [false, false, false, false]) (c_rule_gain fx) hr (by decide) hgd rfl rfl rfl k_rule_gain_0_rule_player_lot_game (pk_d1 (pe_dct c_tuple rfl fx.n_tuple bb_tuple (pa_d1 (pe_dvar (i := 9) rfl (.inl rfl) nd_other nc_other) (pa_d0)) (by decide) nd_tuple) (pk_d1 (pe_dvar (i := 3) rfl (.inr (.inl rfl)) nd_player nc_player) (pk_d1 (pe_dvar (i := 2) rfl (.inr (.inl rfl)) nd_lot nc_lot) (pk_d1 (pe_dvar (i := 1) rfl (.inr (.inl rfl)) nd_game nc_game) (pk_d0))))) rfl rfl nd_rule_gain) (pa_d0)))) (pe_drepL hgd (Room.u100 hr) fx.sys rfl fx.n_repr bb_repr (pa_d1 (pe_dvar (i := 12) rfl (.inl rfl) nd_due nc_due) (pa_d1 (pe_dvar (i := 12) rfl (.inl rfl) nd_due nc_due) (pa_d0)))) rfl) (pss_d1 (ps_dret (pe_dbl))
      (pss_d0)) (pss_d0))
      (pss_d1 (ps_dif (pt_dval (pe_gcall (mus := [false, false]) (c__law_below fx) hr (by decide) hgd rfl rfl b__law_below (pa_d1 (pe_dvar (i := 10) rfl (.inl rfl) nd_own nc_own) (pa_d1 (pe_dvar (i := 12) rfl (.inl rfl) nd_due nc_due) (pa_d0))) nd__law_below) (fun _ => rfl)) (pss_d1 (ps_dret (pe_dbl))
      (pss_d0)) (pss_d0))
      (pss_d0))))) (fun _ => rfl))
      (pss_d1 (ps_dset (n := 13) (mu := true) S__law_player_right.nd rfl (.inl rfl) (.inl rfl) (pe_gcall (mus := [false, false, false]) (c_told_rule fx) hr (by decide) hgd rfl rfl b_told_rule (pa_d1 (pe_dvar (i := 1) rfl (.inr (.inl rfl)) nd_game nc_game) (pa_d1 (pe_dvar (i := 2) rfl (.inr (.inl rfl)) nd_lot nc_lot) (pa_d1 (pe_dvar (i := 3) rfl (.inr (.inl rfl)) nd_player nc_player) (pa_d0)))) nd_told_rule) rfl)
      (pss_d1 (ps_dexpr (pe_dapp ⟨rfl, rfl, rfl⟩ (fun _ _ h => nomatch h) (pe_dvar (i := 13) rfl (.inl rfl) nd_told nc_told) (pe_dnon)) rfl)
      (pss_d1 (ps_dret (pe_dand (pe_dcmp (o_eq hr.units) (pe_gcall (mus := [false, false, false]) (c_told_rule fx) hr (by decide) hgd rfl rfl b_told_rule (pa_d1 (pe_dvar (i := 1) rfl (.inr (.inl rfl)) nd_game nc_game) (pa_d1 (pe_dvar (i := 2) rfl (.inr (.inl rfl)) nd_lot nc_lot) (pa_d1 (pe_dvar (i := 3) rfl (.inr (.inl rfl)) nd_player nc_player) (pa_d0)))) nd_told_rule) (pe_dvar (i := 5) rfl (.inl rfl) nd_rule nc_rule) rfl) (pe_d1 (pe_dcmp (o_eq hr.units) (pe_gcall (mus := [false, false, false, false]) (c_rule_gain fx) hr (by decide) hgd rfl rfl b_rule_gain (pa_d1 (pe_dvar (i := 1) rfl (.inr (.inl rfl)) nd_game nc_game) (pa_d1 (pe_dvar (i := 2) rfl (.inr (.inl rfl)) nd_lot nc_lot) (pa_d1 (pe_dvar (i := 3) rfl (.inr (.inl rfl)) nd_player nc_player) (pa_d1 (pe_dlrng rfl rfl fx.n_list rfl fx.n_range (pe_dvar (i := 4) rfl (.inr (.inl rfl)) nd_many nc_many)) (pa_d0))))) nd_rule_gain) (pe_dtup (pa_d1 (pe_dint) (pa_d1 (pe_dint) (pa_d0)))) rfl))))
      (pss_d0))))))))
theorem S__law_lot_right : FnScope ["pot", "game", "lot", "shown", "ways", "due", "some", "first", "outs", "player", "many", "out", "told", "row", "one", "act"] ["pot", "game", "lot"] D__law_lot_right.scope := ⟨rfl, rfl, rfl, by decide +kernel, rfl, by decide +kernel, by decide +kernel⟩
theorem b__law_lot_right (kV doc pm : Value) (an : Option Addr) (cdv ct : Value) (us : List Value) (h : us.length = (["pot", "game", "lot"] : List Str).length) : bindArgs (PySem.W.fnOf D__law_lot_right.name D__law_lot_right.qual D__law_lot_right.params D__law_lot_right.body D__law_lot_right.scope .none kV doc pm an cdv ct) ⟨us, []⟩ = pure ((["pot", "game", "lot"] : List Str).zip us) := match us, h with | [_, _, _], _ => rfl
theorem c__law_lot_right {P : Program} {w : World} {K : Frag} {mg : Str → Option Value} {base : Heap} (fx : Fx K mg base) : CalG P w K mg base 11 "_law_lot_right" D__law_lot_right ["pot", "game", "lot"] f__law_lot_right := by
  obtain ⟨a, fd, F, hm⟩ := fx.f__law_lot_right
  refine calG (D := D__law_lot_right) (N := ["pot", "game", "lot", "shown", "ways", "due", "some", "first", "outs", "player", "many", "out", "told", "row", "one", "act"]) (k := 10) (d := d__law_lot_right) F hm S__law_lot_right fun cdv A outer s H hr hgd => ?_
  exact pss_d1 (ps_dpar2 (i := 3) (j := 4) (mi := false) (mj := false) rfl S__law_lot_right.nd rfl rfl (by decide) rfl rfl (pa_d1 (pe_drepL hgd (Room.u100 hr) fx.sys rfl fx.n_repr bb_repr (pa_d1 (pe_dvar (i := 1) rfl (.inr (.inl rfl)) nd_game nc_game) (pa_d1 (pe_dvar (i := 2) rfl (.inr (.inl rfl)) nd_lot nc_lot) (pa_d0)))) (pa_d1 (pe_gcall (mus := [false]) (c__law_incentives fx) hr (by decide) hgd rfl rfl b__law_incentives (pa_d1 (pe_dvar (i := 1) rfl (.inr (.inl rfl)) nd_game nc_game) (pa_d0)) nd__law_incentives) (pa_d0))) rfl)
      (pss_d1 (ps_dsetLc (i := 5) (mu := false) (own := [("row", 13)]) (is := [13]) rfl S__law_lot_right.nd rfl rfl (sw_true rfl rfl rfl rfl) (pi_dseq (pe_dix (pe_dvar (i := 1) rfl (.inr (.inl rfl)) nd_game nc_game) (pe_dint) (fun _ _ _ _ h => nomatch h))) rfl (fun _ _ _ _ _ => pg_dname (n := 13) S__law_lot_right.nd rfl (.inl rfl) (.inr rfl)) (fun _ _ _ _ _ => pts_nil) (fun _ _ _ _ _ => pe_gcall (mus := [false, false]) (c__law_mean fx) hr (by decide) hgd rfl rfl b__law_mean (pa_d1 (pe_dvar (i := 2) rfl (.inr (.inl rfl)) nd_lot nc_lot) (pa_d1 (pe_dvar (i := 13) rfl (.inl rfl) nd_row nc_row) (pa_d0))) nd__law_mean) (fun _ => rfl) rfl)
      (pss_d1 (ps_dif (pt_dcmp (o_ne hr.units) (pe_drepL hgd (Room.u100 hr) fx.sys rfl fx.n_repr bb_repr (pa_d1 (pe_gcall (mus := [false, false]) (c_means fx) hr (by decide) hgd rfl rfl b_means (pa_d1 (pe_dvar (i := 1) rfl (.inr (.inl rfl)) nd_game nc_game) (pa_d1 (pe_dvar (i := 2) rfl (.inr (.inl rfl)) nd_lot nc_lot) (pa_d0))) nd_means) (pa_d1 (pe_gcallK0 (ks := ["lot", "game"]) (perm := [1, 0]) (mus := [false, false]) (c_means fx) hr (by decide) hgd rfl rfl rfl k_means_0_lot_game (pk_d1 (pe_dvar (i := 2) rfl (.inr (.inl rfl)) nd_lot nc_lot) (pk_d1 (pe_dvar (i := 1) rfl (.inr (.inl rfl)) nd_game nc_game) (pk_d0))) rfl rfl nd_means) (pa_d1 (pe_gcall (mus := [false]) (c_incentives fx) hr (by decide) hgd rfl rfl b_incentives (pa_d1 (pe_dvar (i := 1) rfl (.inr (.inl rfl)) nd_game nc_game) (pa_d0)) nd_incentives) (pa_d0))))) (pe_drepL hgd (Room.u100 hr) fx.sys rfl fx.n_repr bb_repr (pa_d1 (pe_dvar (i := 5) rfl (.inl rfl) nd_due nc_due) (pa_d1 (pe_dvar (i := 5) rfl (.inl rfl) nd_due nc_due) (pa_d1 (pe_dvar (i := 4) rfl (.inl rfl) nd_ways nc_ways) (pa_d0))))) rfl) (pss_d1 (ps_dret (pe_dbl))
      (pss_d0)) (pss_d0))
      (pss_d1 (ps_dif (pt_dnot (pt_dval (pe_dcb (c_all rfl) rfl fx.n_all bb_all (pa_d1 (pe_dcomp (own := [("player", 9)]) (is := [9]) rfl S__law_lot_right.nd (pi_drng1 rfl fx.n_range (pa_d1 (pe_dcb c_len rfl fx.n_len bb_len (pa_d1 (pe_dix (pe_dvar (i := 1) rfl (.inr (.inl rfl)) nd_game nc_game) (pe_dint) (fun _ _ _ _ h => nomatch h)) (pa_d0)) (by decide) nd_len) (pa_d0))) rfl (fun _ _ _ _ _ => pg_dname (n := 9) S__law_lot_right.nd rfl (.inl rfl) (.inr rfl)) (fun _ _ _ _ _ => pts_nil) (fun _ _ _ _ _ => pe_gcall (mus := [true, false, false, false]) (c__law_player_right fx) hr (by decide) hgd rfl rfl b__law_player_right (pa_d1 (pe_dvar (i := 0) rfl (.inr (.inl rfl)) nd_pot nc_pot) (pa_d1 (pe_dvar (i := 1) rfl (.inr (.inl rfl)) nd_game nc_game) (pa_d1 (pe_dvar (i := 2) rfl (.inr (.inl rfl)) nd_lot nc_lot) (pa_d1 (pe_dvar (i := 9) rfl (.inl rfl) nd_player nc_player) (pa_d0))))) nd__law_player_right) (fun _ => rfl) rfl) (pa_d0)) (by decide) nd_all) (fun _ => rfl))) (pss_d1 (ps_dret (pe_dbl))
      (pss_d0)) (pss_d0))
      (pss_d1 (ps_dsetLc (i := 6) (mu := false) (own := [("one", 14)]) (is := [14]) rfl S__law_lot_right.nd rfl rfl (sw_true rfl rfl rfl rfl) (pi_dseq (pe_dvar (i := 4) rfl (.inl rfl) nd_ways nc_ways)) rfl (fun _ _ _ _ _ => pg_dname (n := 14) S__law_lot_right.nd rfl (.inl rfl) (.inr rfl)) (fun _ _ _ _ _ => pts_one (pt_dcmp o_gt (pe_dix (pe_gcall (mus := [false, false, false, false, false]) (c__law_gain fx) hr (by decide) hgd rfl rfl b__law_gain (pa_d1 (pe_dvar (i := 1) rfl (.inr (.inl rfl)) nd_game nc_game) (pa_d1 (pe_dvar (i := 2) rfl (.inr (.inl rfl)) nd_lot nc_lot) (pa_d1 (pe_dix (pe_dvar (i := 14) rfl (.inl rfl) nd_one nc_one) (pe_dint) (fun _ _ _ _ h => nomatch h)) (pa_d1 (pe_dix (pe_dvar (i := 14) rfl (.inl rfl) nd_one nc_one) (pe_dint) (fun _ _ _ _ h => nomatch h)) (pa_d1 (pe_dix (pe_dvar (i := 14) rfl (.inl rfl) nd_one nc_one) (pe_dint) (fun _ _ _ _ h => nomatch h)) (pa_d0)))))) nd__law_gain) (pe_dint) (fun _ _ _ _ h => nomatch h)) (pe_dint) rfl)) (fun _ _ _ _ _ => pe_dvar (i := 14) rfl (.inl rfl) nd_one nc_one) (fun _ => rfl) rfl)
      (pss_d1 (ps_dset (n := 7) (mu := false) S__law_lot_right.nd rfl (.inl rfl) (.inl rfl) (pe_dite (pt_dcmp (o_ne hr.units) (pe_dvar (i := 6) rfl (.inl rfl) nd_some nc_some) (pe_dlst (pa_d0)) rfl) (pe_dix (pe_dvar (i := 6) rfl (.inl rfl) nd_some nc_some) (pe_dint) (fun _ _ _ _ h => nomatch h)) (pe_dnon)) rfl)
      (pss_d1 (ps_dif (pt_dcmp (o_ne hr.units) (pe_drepL hgd (Room.u100 hr) fx.sys rfl fx.n_repr bb_repr (pa_d1 (pe_gcall (mus := [false, false]) (c_told_incentive fx) hr (by decide) hgd rfl rfl b_told_incentive (pa_d1 (pe_dvar (i := 1) rfl (.inr (.inl rfl)) nd_game nc_game) (pa_d1 (pe_dvar (i := 2) rfl (.inr (.inl rfl)) nd_lot nc_lot) (pa_d0))) nd_told_incentive) (pa_d1 (pe_gcallK0 (ks := ["lot", "game"]) (perm := [1, 0]) (mus := [false, false]) (c_told_incentive fx) hr (by decide) hgd rfl rfl rfl k_told_incentive_0_lot_game (pk_d1 (pe_dvar (i := 2) rfl (.inr (.inl rfl)) nd_lot nc_lot) (pk_d1 (pe_dvar (i := 1) rfl (.inr (.inl rfl)) nd_game nc_game) (pk_d0))) rfl rfl nd_told_incentive) (pa_d0)))) (pe_drepL hgd (Room.u100 hr) fx.sys rfl fx.n_repr bb_repr (pa_d1 (pe_dvar (i := 7) rfl (.inl rfl) nd_first nc_first) (pa_d1 (pe_dvar (i := 7) rfl (.inl rfl) nd_first nc_first) (pa_d0)))) rfl) (pss_d1 (ps_dret (pe_dbl))
      (pss_d0)) (pss_d0))
      (pss_d1 (ps_dset (n := 8) (mu := true) S__law_lot_right.nd rfl (.inl rfl) (.inl rfl) (pe_dlst (pa_d0)) rfl)
      (pss_d1 (ps_dfor PassesOwn.never rfl (pi_denum rfl fx.n_enumerate (pe_dix (pe_dvar (i := 1) rfl (.inr (.inl rfl)) nd_game nc_game) (pe_dint) (fun _ _ _ _ h => nomatch h))) (pg_dtup rfl (pgs_d1 (pg_dname (n := 9) S__law_lot_right.nd rfl (.inr rfl) (.inl rfl)) (pgs_d1 (pg_dname (n := 10) S__law_lot_right.nd rfl (.inl rfl) (.inl rfl)) (pgs_d0) rfl) rfl) rfl rfl) (pss_d1 (ps_dexpr (pe_dext ⟨rfl, rfl, rfl⟩ (fun _ _ h => nomatch h) (pe_dvar (i := 8) rfl (.inl rfl) nd_outs nc_outs) (pe_dcomp (own := [("act", 15)]) (is := [15]) rfl S__law_lot_right.nd (pi_drng1 rfl fx.n_range (pa_d1 (pe_dvar (i := 10) rfl (.inl rfl) nd_many nc_many) (pa_d0))) rfl (fun _ _ _ _ _ => pg_dname (n := 15) S__law_lot_right.nd rfl (.inl rfl) (.inr rfl)) (fun _ _ _ _ _ => pts_one (pt_dcmp o_gt (pe_dix (pe_gcall (mus := [false, false, false, false]) (c__law_outside fx) hr (by decide) hgd rfl rfl b__law_outside (pa_d1 (pe_dvar (i := 1) rfl (.inr (.inl rfl)) nd_game nc_game) (pa_d1 (pe_dvar (i := 2) rfl (.inr (.inl rfl)) nd_lot nc_lot) (pa_d1 (pe_dvar (i := 9) rfl (.inr (.inl rfl)) nd_player nc_player) (pa_d1 (pe_dvar (i := 15) rfl (.inl rfl) nd_act nc_act) (pa_d0))))) nd__law_outside) (pe_dint) (fun _ _ _ _ h => nomatch h)) (pe_dint) rfl)) (fun _ _ _ _ _ => pe_dtup (pa_d1 (pe_dvar (i := 9) rfl (.inr (.inl rfl)) nd_player nc_player) (pa_d1 (pe_dvar (i := 15) rfl (.inl rfl) nd_act nc_act) (pa_d0)))) (fun _ => rfl) rfl)) rfl)
      (pss_d0)) (fun _ => rfl))
      (pss_d1 (ps_dset (n := 11) (mu := false) S__law_lot_right.nd rfl (.inl rfl) (.inl rfl) (pe_dite (pt_dcmp (o_ne hr.units) (pe_dvar (i := 8) rfl (.inl rfl) nd_outs nc_outs) (pe_dlst (pa_d0)) rfl) (pe_dix (pe_dvar (i := 8) rfl (.inl rfl) nd_outs nc_outs) (pe_dint) (fun _ _ _ _ h => nomatch h)) (pe_dnon)) rfl)
      (pss_d1 (ps_dif (pt_dcmp (o_ne hr.units) (pe_drepL hgd (Room.u100 hr) fx.sys rfl fx.n_repr bb_repr (pa_d1 (pe_gcall (mus := [false, false]) (c_told_outside fx) hr (by decide) hgd rfl rfl b_told_outside (pa_d1 (pe_dvar (i := 1) rfl (.inr (.inl rfl)) nd_game nc_game) (pa_d1 (pe_dvar (i := 2) rfl (.inr (.inl rfl)) nd_lot nc_lot) (pa_d0))) nd_told_outside) (pa_d1 (pe_gcallK0 (ks := ["lot", "game"]) (perm := [1, 0]) (mus := [false, false]) (c_told_outside fx) hr (by decide) hgd rfl rfl rfl k_told_outside_0_lot_game (pk_d1 (pe_dvar (i := 2) rfl (.inr (.inl rfl)) nd_lot nc_lot) (pk_d1 (pe_dvar (i := 1) rfl (.inr (.inl rfl)) nd_game nc_game) (pk_d0))) rfl rfl nd_told_outside) (pa_d0)))) (pe_drepL hgd (Room.u100 hr) fx.sys rfl fx.n_repr bb_repr (pa_d1 (pe_dvar (i := 11) rfl (.inl rfl) nd_out nc_out) (pa_d1 (pe_dvar (i := 11) rfl (.inl rfl) nd_out nc_out) (pa_d0)))) rfl) (pss_d1 (ps_dret (pe_dbl))
      (pss_d0)) (pss_d0))
      (pss_d1 (ps_dif (pt_dcmp (o_ne hr.units) (pe_drepL hgd (Room.u100 hr) fx.sys rfl fx.n_repr bb_repr (pa_d1 (pe_gcall (mus := [false, false]) (c_is_obeyed fx) hr (by decide) hgd rfl rfl b_is_obeyed (pa_d1 (pe_dvar (i := 1) rfl (.inr (.inl rfl)) nd_game nc_game) (pa_d1 (pe_dvar (i := 2) rfl (.inr (.inl rfl)) nd_lot nc_lot) (pa_d0))) nd_is_obeyed) (pa_d1 (pe_gcallK0 (ks := ["lot", "game"]) (perm := [1, 0]) (mus := [false, false]) (c_is_obeyed fx) hr (by decide) hgd rfl rfl rfl k_is_obeyed_0_lot_game (pk_d1 (pe_dvar (i := 2) rfl (.inr (.inl rfl)) nd_lot nc_lot) (pk_d1 (pe_dvar (i := 1) rfl (.inr (.inl rfl)) nd_game nc_game) (pk_d0))) rfl rfl nd_is_obeyed) (pa_d0)))) (pe_dcb (c_repr hgd (Room.u100 hr) fx.sys) rfl fx.n_repr bb_repr (pa_d1 (pe_dbin o_mul (pe_dlst (pa_d1 (pe_dcmp o_is (pe_dvar (i := 7) rfl (.inl rfl) nd_first nc_first) (pe_dnon) rfl) (pa_d0))) (pe_dint)) (pa_d0)) (by decide) nd_repr) rfl) (pss_d1 (ps_dret (pe_dbl))
      (pss_d0)) (pss_d0))
      (pss_d1 (ps_dif (PW.pt (pw_dor (pt_dcmp (o_ne hr.units) (pe_drepL hgd (Room.u100 hr) fx.sys rfl fx.n_repr bb_repr (pa_d1 (pe_gcall (mus := [false, false]) (c_is_accepted fx) hr (by decide) hgd rfl rfl b_is_accepted (pa_d1 (pe_dvar (i := 1) rfl (.inr (.inl rfl)) nd_game nc_game) (pa_d1 (pe_dvar (i := 2) rfl (.inr (.inl rfl)) nd_lot nc_lot) (pa_d0))) nd_is_accepted) (pa_d1 (pe_gcallK0 (ks := ["lot", "game"]) (perm := [1, 0]) (mus := [false, false]) (c_is_accepted fx) hr (by decide) hgd rfl rfl rfl k_is_accepted_0_lot_game (pk_d1 (pe_dvar (i := 2) rfl (.inr (.inl rfl)) nd_lot nc_lot) (pk_d1 (pe_dvar (i := 1) rfl (.inr (.inl rfl)) nd_game nc_game) (pk_d0))) rfl rfl nd_is_accepted) (pa_d0)))) (pe_dcb (c_repr hgd (Room.u100 hr) fx.sys) rfl fx.n_repr bb_repr (pa_d1 (pe_dbin o_mul (pe_dlst (pa_d1 (pe_dcmp o_is (pe_dvar (i := 11) rfl (.inl rfl) nd_out nc_out) (pe_dnon) rfl) (pa_d0))) (pe_dint)) (pa_d0)) (by decide) nd_repr) rfl) (pw_d1 (PW.pt (pw_dand (pt_dcmp o_is (pe_dvar (i := 7) rfl (.inl rfl) nd_first nc_first) (pe_dnon) rfl) (pw_d1 (pt_dcmp o_isn (pe_dvar (i := 11) rfl (.inl rfl) nd_out nc_out) (pe_dnon) rfl))))))) (pss_d1 (ps_dret (pe_dbl))
      (pss_d0)) (pss_d0))
      (pss_d1 (ps_dset (n := 12) (mu := true) S__law_lot_right.nd rfl (.inl rfl) (.inl rfl) (pe_gcall (mus := [false, false]) (c_means fx) hr (by decide) hgd rfl rfl b_means (pa_d1 (pe_dvar (i := 1) rfl (.inr (.inl rfl)) nd_game nc_game) (pa_d1 (pe_dvar (i := 2) rfl (.inr (.inl rfl)) nd_lot nc_lot) (pa_d0))) nd_means) rfl)
      (pss_d1 (ps_dexpr (pe_dapp ⟨rfl, rfl, rfl⟩ (fun _ _ h => nomatch h) (pe_dvar (i := 12) rfl (.inl rfl) nd_told nc_told) (pe_dnon)) rfl)
      (pss_d1 (ps_dret (pe_dand (pe_dcmp (o_eq hr.units) (pe_dcb (c_repr hgd (Room.u100 hr) fx.sys) rfl fx.n_repr bb_repr (pa_d1 (pe_gcall (mus := [false, false]) (c_means fx) hr (by decide) hgd rfl rfl b_means (pa_d1 (pe_dvar (i := 1) rfl (.inr (.inl rfl)) nd_game nc_game) (pa_d1 (pe_dvar (i := 2) rfl (.inr (.inl rfl)) nd_lot nc_lot) (pa_d0))) nd_means) (pa_d0)) (by decide) nd_repr) (pe_dcb (c_repr hgd (Room.u100 hr) fx.sys) rfl fx.n_repr bb_repr (pa_d1 (pe_dvar (i := 5) rfl (.inl rfl) nd_due nc_due) (pa_d0)) (by decide) nd_repr) rfl) (pe_d1 (pe_dcmp (o_eq hr.units) (pe_drepL hgd (Room.u100 hr) fx.sys rfl fx.n_repr bb_repr (pa_d1 (pe_dvar (i := 1) rfl (.inr (.inl rfl)) nd_game nc_game) (pa_d1 (pe_dvar (i := 2) rfl (.inr (.inl rfl)) nd_lot nc_lot) (pa_d0)))) (pe_dvar (i := 3) rfl (.inl rfl) nd_shown nc_shown) rfl))))
      (pss_d0))))))))))))))))
theorem S__law_right : FnScope ["pot", "game", "plans", "due", "many"] ["pot"] D__law_right.scope := ⟨rfl, rfl, rfl, by decide +kernel, rfl, by decide +kernel, by decide +kernel⟩
theorem b__law_right (kV doc pm : Value) (an : Option Addr) (cdv ct : Value) (us : List Value) (h : us.length = (["pot"] : List Str).length) : bindArgs (PySem.W.fnOf D__law_right.name D__law_right.qual D__law_right.params D__law_right.body D__law_right.scope .none kV doc pm an cdv ct) ⟨us, []⟩ = pure ((["pot"] : List Str).zip us) := match us, h with | [_], _ => rfl
theorem c__law_right {P : Program} {w : World} {K : Frag} {mg : Str → Option Value} {base : Heap} (fx : Fx K mg base) : CalG P w K mg base 12 "_law_right" D__law_right ["pot"] f__law_right := by
  obtain ⟨a, fd, F, hm⟩ := fx.f__law_right
  refine calG (D := D__law_right) (N := ["pot", "game", "plans", "due", "many"]) (k := 11) (d := d__law_right) F hm S__law_right fun cdv A outer s H hr hgd => ?_
  exact pss_d1 (ps_dset (n := 1) (mu := false) S__law_right.nd rfl (.inl rfl) (.inl rfl) (pe_gcall (mus := [true, false]) (c__law_game fx) hr (by decide) hgd rfl rfl b__law_game (pa_d1 (pe_dvar (i := 0) rfl (.inr (.inl rfl)) nd_pot nc_pot) (pa_d1 (pe_dint) (pa_d0))) nd__law_game) rfl)
      (pss_d1 (ps_dif (pt_dnot (pt_dval (pe_gcall (mus := [true, false, false]) (c__law_lot_right fx) hr (by decide) hgd rfl rfl b__law_lot_right (pa_d1 (pe_dvar (i := 0) rfl (.inr (.inl rfl)) nd_pot nc_pot) (pa_d1 (pe_dvar (i := 1) rfl (.inl rfl) nd_game nc_game) (pa_d1 (pe_gcall (mus := [true, false]) (c__law_lot fx) hr (by decide) hgd rfl rfl b__law_lot (pa_d1 (pe_dvar (i := 0) rfl (.inr (.inl rfl)) nd_pot nc_pot) (pa_d1 (pe_dcb c_len rfl fx.n_len bb_len (pa_d1 (pe_gcall (mus := [false]) (c__law_plays fx) hr (by decide) hgd rfl rfl b__law_plays (pa_d1 (pe_dvar (i := 1) rfl (.inl rfl) nd_game nc_game) (pa_d0)) nd__law_plays) (pa_d0)) (by decide) nd_len) (pa_d0))) nd__law_lot) (pa_d0)))) nd__law_lot_right) (fun _ => rfl))) (pss_d1 (ps_dret (pe_dbl))
      (pss_d0)) (pss_d0))
      (pss_d1 (ps_dsetLc (i := 2) (mu := false) (own := [("many", 4)]) (is := [4]) rfl S__law_right.nd rfl rfl (sw_true rfl rfl rfl rfl) (pi_dseq (pe_dix (pe_dvar (i := 1) rfl (.inl rfl) nd_game nc_game) (pe_dint) (fun _ _ _ _ h => nomatch h))) rfl (fun _ _ _ _ _ => pg_dname (n := 4) S__law_right.nd rfl (.inl rfl) (.inr rfl)) (fun _ _ _ _ _ => pts_nil) (fun _ _ _ _ _ => pe_gcall (mus := [true, false]) (c__law_lot fx) hr (by decide) hgd rfl rfl b__law_lot (pa_d1 (pe_dvar (i := 0) rfl (.inr (.inl rfl)) nd_pot nc_pot) (pa_d1 (pe_dvar (i := 4) rfl (.inl rfl) nd_many nc_many) (pa_d0))) nd__law_lot) (fun _ => rfl) rfl)
      (pss_d1 (ps_dset (n := 3) (mu := false) S__law_right.nd rfl (.inl rfl) (.inl rfl) (pe_gcall (mus := [false]) (c__law_together fx) hr (by decide) hgd rfl rfl b__law_together (pa_d1 (pe_dvar (i := 2) rfl (.inl rfl) nd_plans nc_plans) (pa_d0)) nd__law_together) rfl)
      (pss_d1 (ps_dif (pt_dcmp (o_ne hr.units) (pe_drepL hgd (Room.u100 hr) fx.sys rfl fx.n_repr bb_repr (pa_d1 (pe_gcall (mus := [false, false]) (c_together fx) hr (by decide) hgd rfl rfl b_together (pa_d1 (pe_dvar (i := 1) rfl (.inl rfl) nd_game nc_game) (pa_d1 (pe_dvar (i := 2) rfl (.inl rfl) nd_plans nc_plans) (pa_d0))) nd_together) (pa_d1 (pe_gcallK0 (ks := ["plans", "game"]) (perm := [1, 0]) (mus := [false, false]) (c_together fx) hr (by decide) hgd rfl rfl rfl k_together_0_plans_game (pk_d1 (pe_dct c_tuple rfl fx.n_tuple bb_tuple (pa_d1 (pe_dvar (i := 2) rfl (.inl rfl) nd_plans nc_plans) (pa_d0)) (by decide) nd_tuple) (pk_d1 (pe_dvar (i := 1) rfl (.inl rfl) nd_game nc_game) (pk_d0))) rfl rfl nd_together) (pa_d0)))) (pe_drepL hgd (Room.u100 hr) fx.sys rfl fx.n_repr bb_repr (pa_d1 (pe_dvar (i := 3) rfl (.inl rfl) nd_due nc_due) (pa_d1 (pe_dvar (i := 3) rfl (.inl rfl) nd_due nc_due) (pa_d0)))) rfl) (pss_d1 (ps_dret (pe_dbl))
      (pss_d0)) (pss_d0))
      (pss_d1 (ps_dret (pe_dand (pe_gcall (mus := [true, false, false]) (c__law_lot_right fx) hr (by decide) hgd rfl rfl b__law_lot_right (pa_d1 (pe_dvar (i := 0) rfl (.inr (.inl rfl)) nd_pot nc_pot) (pa_d1 (pe_dvar (i := 1) rfl (.inl rfl) nd_game nc_game) (pa_d1 (pe_dvar (i := 3) rfl (.inl rfl) nd_due nc_due) (pa_d0)))) nd__law_lot_right) (pe_d1 (pe_dcmp (o_eq hr.units) (pe_gcall (mus := [false, false]) (c_is_obeyed fx) hr (by decide) hgd rfl rfl b_is_obeyed (pa_d1 (pe_dvar (i := 1) rfl (.inl rfl) nd_game nc_game) (pa_d1 (pe_dvar (i := 3) rfl (.inl rfl) nd_due nc_due) (pa_d0))) nd_is_obeyed) (pe_gcall (mus := [false, false]) (c_is_accepted fx) hr (by decide) hgd rfl rfl b_is_accepted (pa_d1 (pe_dvar (i := 1) rfl (.inl rfl) nd_game nc_game) (pa_d1 (pe_dvar (i := 3) rfl (.inl rfl) nd_due nc_due) (pa_d0))) nd_is_accepted) rfl))))
      (pss_d0))))))
theorem S_law : FnScope ["script", "k"] ["script"] D_law.scope := ⟨rfl, rfl, rfl, by decide +kernel, rfl, by decide +kernel, by decide +kernel⟩
theorem b_law (kV doc pm : Value) (an : Option Addr) (cdv ct : Value) (us : List Value) (h : us.length = (["script"] : List Str).length) : bindArgs (PySem.W.fnOf D_law.name D_law.qual D_law.params D_law.body D_law.scope .none kV doc pm an cdv ct) ⟨us, []⟩ = pure ((["script"] : List Str).zip us) := match us, h with | [_], _ => rfl
theorem c_law {P : Program} {w : World} {K : Frag} {mg : Str → Option Value} {base : Heap} (fx : Fx K mg base) : CalG P w K mg base 13 "law" D_law ["script"] f_law := by
  obtain ⟨a, fd, F, hm⟩ := fx.f_law
  refine calG (D := D_law) (N := ["script", "k"]) (k := 12) (d := d_law) F hm S_law fun cdv A outer s H hr hgd => ?_
  exact pss_d1 (ps_dret (pe_dcb (c_all rfl) rfl fx.n_all bb_all (pa_d1 (pe_dcomp (own := [("k", 1)]) (is := [1]) rfl S_law.nd (pi_drng1 rfl fx.n_range (pa_d1 (pe_dcb (c_max2 rfl) rfl fx.n_max bb_max (pa_d1 (pe_dint) (pa_d1 (pe_dcb (c_min2 rfl) rfl fx.n_min bb_min (pa_d1 (pe_dint) (pa_d1 (pe_dcb c_len rfl fx.n_len bb_len (pa_d1 (pe_dvar (i := 0) rfl (.inr (.inl rfl)) nd_script nc_script) (pa_d0)) (by decide) nd_len) (pa_d0))) (by decide) nd_min) (pa_d0))) (by decide) nd_max) (pa_d0))) rfl (fun _ _ _ _ _ => pg_dname (n := 1) S_law.nd rfl (.inl rfl) (.inr rfl)) (fun _ _ _ _ _ => pts_nil) (fun _ _ _ _ _ => pe_gcall (mus := [true]) (c__law_right fx) hr (by decide) hgd rfl rfl b__law_right (pa_d1 (pe_gcall (mus := [false, false]) (c__law_pot fx) hr (by decide) hgd rfl rfl b__law_pot (pa_d1 (pe_dvar (i := 0) rfl (.inr (.inl rfl)) nd_script nc_script) (pa_d1 (pe_dvar (i := 1) rfl (.inl rfl) nd_k nc_k) (pa_d0))) nd__law_pot) (pa_d0)) nd__law_right) (fun _ => rfl) rfl) (pa_d0)) (by decide) nd_all))
      (pss_d0)
theorem fnG_law {P : Program} {w : World} {K : Frag} {mg : Str → Option Value} {base : Heap} {a : Addr} {fd : FuncData} (F : FunD K D_law.name D_law.qual D_law.params D_law.body D_law.scope [] [] a fd) (fx : Fx K mg base) : FnG P w K mg base 13 a fd ["script"] (spF K f_law) := by
  refine fnG_body (N := ["script", "k"]) (k := 12) (d := d_law) F S_law fun cdv A outer s H hr hgd => ?_
  exact pss_d1 (ps_dret (pe_dcb (c_all rfl) rfl fx.n_all bb_all (pa_d1 (pe_dcomp (own := [("k", 1)]) (is := [1]) rfl S_law.nd (pi_drng1 rfl fx.n_range (pa_d1 (pe_dcb (c_max2 rfl) rfl fx.n_max bb_max (pa_d1 (pe_dint) (pa_d1 (pe_dcb (c_min2 rfl) rfl fx.n_min bb_min (pa_d1 (pe_dint) (pa_d1 (pe_dcb c_len rfl fx.n_len bb_len (pa_d1 (pe_dvar (i := 0) rfl (.inr (.inl rfl)) nd_script nc_script) (pa_d0)) (by decide) nd_len) (pa_d0))) (by decide) nd_min) (pa_d0))) (by decide) nd_max) (pa_d0))) rfl (fun _ _ _ _ _ => pg_dname (n := 1) S_law.nd rfl (.inl rfl) (.inr rfl)) (fun _ _ _ _ _ => pts_nil) (fun _ _ _ _ _ => pe_gcall (mus := [true]) (c__law_right fx) hr (by decide) hgd rfl rfl b__law_right (pa_d1 (pe_gcall (mus := [false, false]) (c__law_pot fx) hr (by decide) hgd rfl rfl b__law_pot (pa_d1 (pe_dvar (i := 0) rfl (.inr (.inl rfl)) nd_script nc_script) (pa_d1 (pe_dvar (i := 1) rfl (.inl rfl) nd_k nc_k) (pa_d0))) nd__law_pot) (pa_d0)) nd__law_right) (fun _ => rfl) rfl) (pa_d0)) (by decide) nd_all))
      (pss_d0)
end K41
end
section
set_option Elab.async false
set_option linter.all false
set_option maxHeartbeats 1000000
set_option maxRecDepth 100000
set_option autoImplicit false
namespace K41
open PySem Pf
@[simp] theorem v_is_integer (v : PV) : f_is_integer [.val v] = .ok (.val (.bl (isI v))) [] := by
  cases v <;> rfl
@[simp] theorem v_is_within (v : PV) (a b : Int) : f_is_within [.val v, .val (.int a), .val (.int b)] = .ok (.val (.bl (inR a b v))) [] := by
  simp [f_is_within, d_is_within, v_is_integer]
  cases v <;> simp [isI, inR]
  next i =>
    by_cases h : a ≤ i <;> simp [h]
@[simp] theorem v_is_list (v : PV) : f_is_list [.val v] = .ok (.val (.bl (isL v))) [] := by
  cases v <;> rfl
/-! sizes, plays -/
def allSz : List (List Nat) := [1, 2, 3, 4].flatMap fun a => [a] :: [1, 2, 3, 4].flatMap fun b => [a, b] :: [1, 2, 3, 4].map fun c => [a, b, c]
def playsL (sz : List Nat) : List (List Nat) := sz.foldl (fun found many => found.flatMap fun p => (List.range many).map fun n => p ++ [n]) [[]]
def okPlays (F : Fn) : Bool := allSz.all fun sz => match F [.val (tupN sz)] with
  | .ok (.own p) [] => same p (.lst ((playsL sz).map tupN))
  | _ => false
theorem plays1 : okPlays f__law_tuples = true := by decide +kernel
theorem plays2 : okPlays f_plays_of = true := by decide +kernel
theorem plays_of {F : Fn} (h : okPlays F = true) {sz : List Nat} (hs : sz ∈ allSz) : F [.val (tupN sz)] = .ok (.own (.lst ((playsL sz).map tupN))) [] := by
  have h1 := List.all_eq_true.mp h sz hs
  split at h1
  · next p e => rw [e, same_eq _ _ h1]
  · cases h1
theorem plays_len : ∀ sz ∈ allSz, 1 ≤ (playsL sz).length ∧ (playsL sz).length ≤ 64 ∧ 1 ≤ sz.length ∧ sz.length ≤ 3 := by decide +kernel
theorem sz1 {x : PV} (h : inR 1 4 x = true) : ∃ n : Nat, x = .int n ∧ n ∈ [1, 2, 3, 4] := by
  cases x <;> simp [inR] at h
  next i => exact ⟨i.toNat, by congr 1; omega, by simp; omega⟩
theorem szs_of {xs : List PV} (h1 : 1 ≤ xs.length) (h3 : xs.length ≤ 3) (h : xs.all (inR 1 4) = true) : ∃ sz ∈ allSz, PV.tup xs = tupN sz := by
  match xs, h1, h3, h with
  | [a], _, _, h =>
    simp at h
    obtain ⟨n, rfl, hn⟩ := sz1 h
    exact ⟨[n], List.mem_flatMap.mpr ⟨n, hn, List.mem_cons_self⟩, rfl⟩
  | [a, b], _, _, h =>
    simp at h
    obtain ⟨n, rfl, hn⟩ := sz1 h.1
    obtain ⟨m, rfl, hm⟩ := sz1 h.2
    exact ⟨[n, m], List.mem_flatMap.mpr ⟨n, hn, List.mem_cons_of_mem _ (List.mem_flatMap.mpr ⟨m, hm, List.mem_cons_self⟩)⟩, rfl⟩
  | [a, b, c], _, _, h =>
    simp at h
    obtain ⟨n, rfl, hn⟩ := sz1 h.1
    obtain ⟨m, rfl, hm⟩ := sz1 h.2.1
    obtain ⟨k, rfl, hk⟩ := sz1 h.2.2
    exact ⟨[n, m, k], List.mem_flatMap.mpr ⟨n, hn, List.mem_cons_of_mem _ (List.mem_flatMap.mpr ⟨m, hm, List.mem_cons_of_mem _ (List.mem_map.mpr ⟨k, hk, rfl⟩)⟩)⟩, rfl⟩
theorem all_sz {sz : List Nat} (h : sz ∈ allSz) : (sz.map fun n => PV.int (n : Nat)).all (inR 1 4) = true := by
  have : ∀ sz ∈ allSz, (sz.map fun n => PV.int (n : Nat)).all (inR 1 4) = true := by decide +kernel
  exact this sz h
/-! what a game is -/
def toN : PV → Nat
  | .int i => i.toNat
  | _ => 0
def nPl (xs : List PV) : Nat := (playsL (xs.map toN)).length
def areS : PV → Bool
  | .tup xs => decide (1 ≤ xs.length) && decide (xs.length ≤ 3) && xs.all (inR 1 4)
  | _ => false
def isRow (many : Nat) (r : PV) : Bool := isL r && decide ((rowsOf r).length = many) && (rowsOf r).all (inR (-99) 99)
def isG : PV → Bool
  | .tup [.tup xs, b] => areS (.tup xs) && (isL b && (decide ((rowsOf b).length = xs.length) && (rowsOf b).all (isRow (nPl xs))))
  | _ => false
@[simp] theorem v_are_sizes (v : PV) : f_are_sizes [.val v] = .ok (.val (.bl (areS v))) [] := by
  simp [f_are_sizes, d_are_sizes]
  cases v with
  | tup xs =>
    simp [isTu, areS]
    by_cases h1 : 1 ≤ xs.length
    · by_cases h3 : xs.length ≤ 3
      · have h1' : (1 : Int) ≤ xs.length := by omega
        have h3' : (xs.length : Int) ≤ 3 := by omega
        simp [h1', h3', h1, h3]
        rw [dComp_map (xs := xs) (gs := []) (fun x => .bl (inR 1 4 x)) (by simp) (by unfold sizeLine; omega) rfl (fun x _ => by simp [v_is_within])]
        simp [fall_ok]
      · have h3' : ¬ (xs.length : Int) ≤ 3 := by omega
        by_cases h1' : (1 : Int) ≤ xs.length <;> simp [h1', h3', h3]
    · have h1' : ¬ (1 : Int) ≤ xs.length := by omega
      simp [h1', h1]
  | _ => simp [isTu, areS]
end K41
end
section
set_option Elab.async false
set_option linter.all false
set_option maxHeartbeats 1000000
set_option maxRecDepth 100000
set_option autoImplicit false
namespace K41
open PySem Pf
theorem int_eq_nat (a b : Nat) : decide ((a : Int) = (b : Int)) = decide (a = b) := by
  rw [Bool.eq_iff_iff]; simp; omega
@[simp] theorem v_is_worth_row (many : Nat) (hm : many ≤ 64) (v : PV) : f_is_worth_row [.val (.int many), .val v] = .ok (.val (.bl (isRow many v))) [] := by
  simp [f_is_worth_row, d_is_worth_row, v_is_list]
  have key : ∀ xs : List PV, itemsOf v = some xs → fLen v = some (.val (.int xs.length)) → isL v = true → f_is_worth_row [.val (.int many), .val v] = .ok (.val (.bl (isRow many v))) [] := fun xs h1 h2 h3 => by
    simp [f_is_worth_row, d_is_worth_row, v_is_list, h2, h3, isRow, rowsOf, h1]
    by_cases h : xs.length = many
    · have h' : (xs.length : Int) = many := by omega
      simp [h', h]
      rw [dComp_map (xs := xs) (gs := []) (fun x => .bl (inR (-99) 99 x)) (by simp [h1]) (by unfold sizeLine; omega) rfl (fun x _ => by simp [v_is_within])]
      simp [fall_ok]
    · have h' : ¬ (xs.length : Int) = many := by omega
      simp [h', h]
  cases v with
  | lst xs => simpa [f_is_worth_row, d_is_worth_row, v_is_list] using key xs rfl rfl rfl
  | tup xs => simpa [f_is_worth_row, d_is_worth_row, v_is_list] using key xs rfl rfl rfl
  | scr ns => simpa [f_is_worth_row, d_is_worth_row, v_is_list] using key (ns.map .int) rfl (by simp) rfl
  | _ => simp [isL, isRow]
theorem len_tup {xs : List PV} {sz : List Nat} (e : PV.tup xs = tupN sz) : xs = sz.map fun n => PV.int (n : Nat) := by
  unfold tupN at e
  cases e
  rfl
theorem nPl_sz (sz : List Nat) : nPl (sz.map fun n => PV.int (n : Nat)) = (playsL sz).length := by
  unfold nPl
  congr 2
  rw [List.map_map]
  have : (toN ∘ fun n : Nat => PV.int (n : Nat)) = id := by
    funext n
    simp [toN]
  rw [this, List.map_id]
@[simp] theorem v_is_game_of (v : PV) : f_is_game_of [.val v] = .ok (.val (.bl (isG v))) [] := by
  simp [f_is_game_of, d_is_game_of]
  cases v with
  | tup zs =>
    match zs with
    | [] => simp [isTu, isG]
    | [a] => simp [isTu, isG]
    | a :: b :: c :: r =>
      have h : ¬ ((r.length : Int) + 1 + 1 + 1 = 2) := by omega
      simp [isTu, isG, h]
    | [a, b] =>
      simp [isTu, v_are_sizes, v_is_list]
      cases ha : areS a with
      | false =>
        simp
        cases a <;> simp [isG, ha]
      | true =>
        cases a with
        | tup xs =>
          cases hb : isL b with
          | false => simp [isG, hb]
          | true =>
            have ha2 := ha
            simp [areS] at ha2
            obtain ⟨⟨h1, h3⟩, hr⟩ := ha2
            obtain ⟨sz, hs, e⟩ := szs_of h1 h3 (by simpa using hr)
            have ex := len_tup e
            have ha' := ha
            rw [e] at ha'
            obtain ⟨p1, p2, p3, p4⟩ := plays_len sz hs
            obtain ⟨ys, i1, i2, i3⟩ := isL_items hb
            simp [isG, ha, ha', hb, i2, i3, e, plays_of plays2 hs]
            subst ex
            simp [nPl_sz]
            by_cases hl : ys.length = sz.length
            · have hl' : (ys.length : Int) = sz.length := by omega
              simp [hl', hl, ha']
              rw [dComp_map (xs := ys) (gs := []) (fun x => .bl (isRow (playsL sz).length x)) (by simp [i1]) (by unfold sizeLine; omega) rfl (fun x _ => by simp [v_is_worth_row _ p2])]
              simp [fall_ok]
            · have hl' : ¬ (ys.length : Int) = sz.length := by omega
              simp [hl', hl, ha']
        | _ => cases ha
  | _ => simp [isTu, isG]
end K41
end
section
set_option Elab.async false
set_option linter.all false
set_option maxHeartbeats 1000000
set_option maxRecDepth 100000
set_option autoImplicit false
namespace K41
open PySem Pf
theorem v_law_draw {p : PV} (hp : PotOk p) {many : Int} (h1 : 1 ≤ many) (h2 : many < 1073741824) :
    ∃ (p' : PV) (d : Int), f__law_draw [.cel p, .val (.int many)] = .ok (.val (.int d)) [.live p'] ∧ PotOk p' ∧ 0 ≤ d ∧ d < many := by
  obtain ⟨a, b, rfl, hb0, hb⟩ := hp
  by_cases ha : 0 < a
  · refine ⟨.lst [.int (a / many), .int b], a % many, ?_, ⟨_, _, rfl, hb0, hb⟩, Int.emod_nonneg _ (by omega), Int.emod_lt_of_pos _ (by omega)⟩
    simp [f__law_draw, d__law_draw, ha, dm_ok (show 0 < many by omega) h2]
  · have e0 : 0 ≤ (b * 40487 + 10567) % 2147483563 := Int.emod_nonneg _ (by omega)
    have e1 : (b * 40487 + 10567) % 2147483563 < 2147483563 := Int.emod_lt_of_pos _ (by omega)
    refine ⟨.lst [.int a, .int ((b * 40487 + 10567) % 2147483563)], _, ?_, ⟨_, _, rfl, e0, by omega⟩, Int.emod_nonneg (((b * 40487 + 10567) % 2147483563 * ((b * 40487 + 10567) % 2147483563)) % 2147483549 / 19) (by omega), Int.emod_lt_of_pos _ (by omega)⟩
    have m1 : bMul (.int b) (.int 40487) = some (.val (.int (b * 40487))) := mul_ok (by omega) (by omega)
    have m2 : bMul (.int ((b * 40487 + 10567) % 2147483563)) (.int ((b * 40487 + 10567) % 2147483563)) = some (.val (.int ((b * 40487 + 10567) % 2147483563 * ((b * 40487 + 10567) % 2147483563)))) := mul_ok (by omega) (by omega)
    have m3 : ∀ i : Int, bDiv (.int i) (.int 19) = some (.val (.int (i / 19))) := fun i => div_ok (by omega) (by omega)
    have m4 : ∀ i : Int, bMod (.int i) (.int 2147483563) = some (.val (.int (i % 2147483563))) := fun i => mod_ok (by omega)
    have m5 : ∀ i : Int, bMod (.int i) (.int 2147483549) = some (.val (.int (i % 2147483549))) := fun i => mod_ok (by omega)
    have m6 : ∀ i : Int, bMod (.int i) (.int many) = some (.val (.int (i % many))) := fun i => mod_ok (by omega)
    simp [f__law_draw, d__law_draw, ha, m1, m2, m3, m4, m5, m6]
theorem v_law_pot (ns : List Int) (k : Nat) (hk : k < 1000) : ∃ p, f__law_pot [.val (.scr ns), .val (.int (k : Nat))] = .ok (.own p) [] ∧ PotOk p := by
  have m1 : bMul (.int 2767) (.int (k : Int)) = some (.val (.int (2767 * (k : Int)))) := mul_ok (by omega) (by omega)
  have m1' : bMul (.int 22901) (.int (k : Int)) = some (.val (.int (22901 * (k : Int)))) := mul_ok (by omega) (by omega)
  have m2 : ∀ i : Int, bMul (.int (i % 2147483549)) (.int 40692) = some (.val (.int (i % 2147483549 * 40692))) := fun i => by
    have e0 : 0 ≤ i % 2147483549 := Int.emod_nonneg _ (by omega)
    have e1 : i % 2147483549 < 2147483549 := Int.emod_lt_of_pos _ (by omega)
    exact mul_ok (by omega) (by omega)
  have m4 : ∀ i : Int, bMod (.int i) (.int 2147483549) = some (.val (.int (i % 2147483549))) := fun i => mod_ok (by omega)
  have m5 : ∀ i : Int, bMod (.int i) (.int 2147483563) = some (.val (.int (i % 2147483563))) := fun i => mod_ok (by omega)
  have m6 : bPow (.int 10) (.int 18) = some (.val (.int 1000000000000000000)) := rfl
  have key : ∀ c : Int, PotOk (.lst [.int (if 0 < c - 1000000000000000000 then c - 1000000000000000000 else 0), .int ((c % 2147483549 * 40692 + 22901 * (k : Int) + 1439) % 2147483563 + 1)]) := fun c => by
    have e0 : 0 ≤ (c % 2147483549 * 40692 + 22901 * (k : Int) + 1439) % 2147483563 := Int.emod_nonneg _ (by omega)
    have e1 : (c % 2147483549 * 40692 + 22901 * (k : Int) + 1439) % 2147483563 < 2147483563 := Int.emod_lt_of_pos _ (by omega)
    exact ⟨_, _, rfl, by omega, by omega⟩
  by_cases h : (k : Int) < ns.length
  · have hk2 : k < ns.length := by omega
    refine ⟨_, ?_, key (if ns[k] < 0 then -ns[k] else ns[k])⟩
    have hx : bIdx (.scr ns) (.int (k : Int)) = some (.val (.int ns[k])) := idx_s (List.getElem?_eq_getElem hk2)
    simp [f__law_pot, d__law_pot, m1, m1', m2, m4, m5, m6, h, hx, lenOk, sizeLine]
  · refine ⟨_, ?_, key (2767 * (k : Int) + 2111)⟩
    simp [f__law_pot, d__law_pot, m1, m1', m2, m4, m5, m6, h, lenOk, sizeLine]
theorem v_law_pick {p : PV} (hp : PotOk p) {xs : List PV} (h1 : 1 ≤ xs.length) (h2 : xs.length < 1000000) :
    ∃ (p' x : PV), f__law_pick [.cel p, .val (.lst xs)] = .ok (.val x) [.live p'] ∧ PotOk p' ∧ x ∈ xs := by
  obtain ⟨p', d, h, hp', d0, d1⟩ := v_law_draw hp (many := xs.length) (by omega) (by omega)
  obtain ⟨n, rfl⟩ := Int.eq_ofNat_of_zero_le d0
  have hn : n < xs.length := by omega
  have hx : bIdx (.lst xs) (.int ((n : Nat) : Int)) = some (.val xs[n]) := idx_l (List.getElem?_eq_getElem hn)
  exact ⟨p', xs[n], by simp [f__law_pick, d__law_pick, h, hx], hp', List.getElem_mem hn⟩
end K41
end
section
set_option Elab.async false
set_option linter.all false
set_option maxHeartbeats 1000000
set_option maxRecDepth 100000
set_option autoImplicit false
namespace K41
open PySem Pf
/-! plays: what can be gone through is -/
def place (sz pl : List Nat) : Nat := (sz.zip pl).foldl (fun f x => f * x.1 + x.2) 0
def okPlace : Bool := allSz.all fun sz => (playsL sz).all fun pl => match f_place_of [.val (tupN sz), .val (tupN pl)] with
  | .ok (.val (.int n)) [] => decide (n = (place sz pl : Nat))
  | _ => false
theorem place1 : okPlace = true := by decide +kernel
theorem v_place_of {sz pl : List Nat} (h : sz ∈ allSz) (hp : pl ∈ playsL sz) : f_place_of [.val (tupN sz), .val (tupN pl)] = .ok (.val (.int (place sz pl : Nat))) [] := by
  have h1 := List.all_eq_true.mp (List.all_eq_true.mp place1 sz h) pl hp
  split at h1
  · next n e => rw [e, of_decide_eq_true h1]
  · cases h1
def okIndex : Bool := allSz.all fun sz => (playsL sz).all fun pl => match f__law_index [.val (tupN sz), .val (tupN pl)] with
  | .ok (.val (.int n)) [] => decide (n = (place sz pl : Nat))
  | _ => false
theorem index1 : okIndex = true := by decide +kernel
theorem v_law_index {sz pl : List Nat} (h : sz ∈ allSz) (hp : pl ∈ playsL sz) : f__law_index [.val (tupN sz), .val (tupN pl)] = .ok (.val (.int (place sz pl : Nat))) [] := by
  have h1 := List.all_eq_true.mp (List.all_eq_true.mp index1 sz h) pl hp
  split at h1
  · next n e => rw [e, of_decide_eq_true h1]
  · cases h1
def okWith (F : Fn) : Bool := allSz.all fun sz => (playsL sz).all fun pl => (List.range sz.length).all fun p => (List.range (sz.getD p 0)).all fun a => match F [.val (tupN pl), .val (.int (p : Nat)), .val (.int (a : Nat))] with
  | .ok (.val q) [] => same q (tupN (pl.set p a))
  | _ => false
theorem with1 : okWith f_with_act = true := by decide +kernel
theorem v_with {F : Fn} (ok : okWith F = true) {sz pl : List Nat} (h : sz ∈ allSz) (hp : pl ∈ playsL sz) {p a : Nat} (h1 : p < sz.length) (h2 : a < sz.getD p 0) : F [.val (tupN pl), .val (.int (p : Nat)), .val (.int (a : Nat))] = .ok (.val (tupN (pl.set p a))) [] := by
  have h3 := List.all_eq_true.mp (List.all_eq_true.mp (List.all_eq_true.mp (List.all_eq_true.mp ok sz h) pl hp) p (List.mem_range.mpr h1)) a (List.mem_range.mpr h2)
  split at h3
  · next q e => rw [e, same_eq _ _ h3]
  · cases h3
/-- the plays' own facts -/
def okPl : Bool := allSz.all fun sz => (playsL sz).all fun pl => decide (pl.length = sz.length) && (pl.zip sz).all (fun x => decide (x.1 < x.2)) && decide (place sz pl < (playsL sz).length) && (List.range sz.length).all fun p => (List.range (sz.getD p 0)).all fun a => (playsL sz).contains (pl.set p a)
theorem pl1 : okPl = true := by decide +kernel
theorem v_pl {sz pl : List Nat} (h : sz ∈ allSz) (hp : pl ∈ playsL sz) : pl.length = sz.length ∧ (∀ x ∈ pl.zip sz, x.1 < x.2) ∧ place sz pl < (playsL sz).length ∧ ∀ p a, p < sz.length → a < sz.getD p 0 → pl.set p a ∈ playsL sz := by
  have h1 := List.all_eq_true.mp (List.all_eq_true.mp pl1 sz h) pl hp
  simp only [Bool.and_eq_true, decide_eq_true_eq, List.all_eq_true] at h1
  obtain ⟨⟨⟨a1, a2⟩, a3⟩, a4⟩ := h1
  exact ⟨a1, a2, a3, fun p a e1 e2 => by simpa using a4 p (List.mem_range.mpr e1) a (List.mem_range.mpr e2)⟩
end K41
end
section
set_option Elab.async false
set_option linter.all false
set_option maxHeartbeats 1000000
set_option maxRecDepth 100000
set_option autoImplicit false
namespace K41
open PySem Pf
/-- a drawn game -/
def rowP (r : List Int) : PV := .lst (r.map .int)
def gameP (sz : List Nat) (rows : List (List Int)) : PV := .tup [tupN sz, .lst (rows.map rowP)]
def rowAt (rows : List (List Int)) (p : Nat) : List Int := rows.getD p []
def szAt (sz : List Nat) (p : Nat) : Nat := sz.getD p 0
structure GOk (sz : List Nat) (rows : List (List Int)) : Prop where
  mem : sz ∈ allSz
  len : rows.length = sz.length
  row : ∀ r ∈ rows, r.length = (playsL sz).length ∧ ∀ i ∈ r, -99 ≤ i ∧ i ≤ 99
def worth (rows : List (List Int)) (p k : Nat) : Int := (rowAt rows p).getD k 0
section
variable {sz pl : List Nat} {rows : List (List Int)}
theorem GOk.idx (g : GOk sz rows) {p k : Nat} (hp : p < sz.length) (hk : k < (playsL sz).length) : bIdx (.lst (rows.map rowP)) (.int (p : Nat)) = some (.val (rowP (rowAt rows p))) ∧ bIdx (rowP (rowAt rows p)) (.int (k : Nat)) = some (.val (.int (worth rows p k))) := by
  have hp2 : p < rows.length := by rw [g.len]; exact hp
  have e1 : rows[p]? = some (rowAt rows p) := by
    unfold rowAt
    rw [List.getD_eq_getElem?_getD, List.getElem?_eq_getElem hp2]; rfl
  have hr := (g.row _ (List.mem_of_getElem? e1)).1
  have e2 : (rowAt rows p)[k]? = some (worth rows p k) := by
    unfold worth
    rw [List.getD_eq_getElem?_getD (l := rowAt rows p), List.getElem?_eq_getElem (by rw [hr]; exact hk)]; rfl
  exact ⟨idx_l (by rw [List.getElem?_map, e1]; rfl), idx_l (by rw [List.getElem?_map, e2]; rfl)⟩
theorem v_worth_at (g : GOk sz rows) (hpl : pl ∈ playsL sz) {p : Nat} (hp : p < sz.length) : f_worth_at [.val (gameP sz rows), .val (.int (p : Nat)), .val (tupN pl)] = .ok (.val (.int (worth rows p (place sz pl)))) [] := by
  obtain ⟨a1, a2, a3, a4⟩ := v_pl g.mem hpl
  obtain ⟨i1, i2⟩ := g.idx hp a3
  simp [f_worth_at, d_worth_at, gameP, i1, i2, v_place_of g.mem hpl]
/-- what player p gains by -/
theorem sz_get (h : sz ∈ allSz) {k : Nat} (hk : k < sz.length) : sz[k]? = some (szAt sz k) ∧ szAt sz k ≤ 4 := by
  have : ∀ sz ∈ allSz, ∀ k < sz.length, szAt sz k ≤ 4 := by decide +kernel
  exact ⟨by unfold szAt; rw [List.getD_eq_getElem?_getD, List.getElem?_eq_getElem hk]; rfl, this sz h k hk⟩
theorem isG_game (g : GOk sz rows) : isG (gameP sz rows) = true := by
  obtain ⟨p1, p2, p3, p4⟩ := plays_len sz g.mem
  have h1 : areS (.tup (sz.map fun n => PV.int (n : Nat))) = true := by
    simp only [areS, List.length_map]
    rw [all_sz g.mem]
    simp [p3, p4]
  have h2 : (rows.map rowP).all (isRow (playsL sz).length) = true := by
    rw [List.all_map, List.all_eq_true]
    intro r hr
    obtain ⟨e1, e2⟩ := g.row r hr
    have h3 : (r.map PV.int).all (inR (-99) 99) = true := by
      rw [List.all_map, List.all_eq_true]
      intro i hi
      have := e2 i hi
      simp [inR]
      omega
    show (isL (rowP r) && decide ((rowsOf (rowP r)).length = (playsL sz).length) && (rowsOf (rowP r)).all (inR (-99) 99)) = true
    have e3 : rowsOf (rowP r) = r.map PV.int := rfl
    rw [e3, h3, List.length_map, e1]
    simp [rowP, isL]
  have e : gameP sz rows = .tup [.tup (sz.map fun n => PV.int (n : Nat)), .lst (rows.map rowP)] := rfl
  have e4 : rowsOf (.lst (rows.map rowP)) = rows.map rowP := rfl
  rw [e]
  show (areS (.tup (sz.map fun n => PV.int (n : Nat))) && (isL (.lst (rows.map rowP)) && (decide ((rowsOf (.lst (rows.map rowP))).length = (sz.map fun n => PV.int (n : Nat)).length) && (rowsOf (.lst (rows.map rowP))).all (isRow (nPl (sz.map fun n => PV.int (n : Nat))))))) = true
  rw [h1, nPl_sz, e4, h2, List.length_map, List.length_map, g.len]
  simp [isL]
theorem v_check_game (g : GOk sz rows) : f_check_game [.val (gameP sz rows)] = .ok (.val .non) [] := by
  simp [f_check_game, d_check_game, isG_game g]
end
end K41
end
section
set_option Elab.async false
set_option linter.all false
set_option maxHeartbeats 4000000
set_option maxRecDepth 100000
set_option autoImplicit false
namespace K41
open PySem Pf
theorem v_divisor (a b : Nat) (hb : Sz 1900 (b : Nat)) : f_divisor [.val (.int (a : Nat)), .val (.int (b : Nat))] = .ok (.val (.int (Nat.gcd b a : Nat))) [] := by
  have hE := euclid (c := dBin bGt (dVar 1) (dCst (.int 0))) (b := dsSeq (dsPar2 0 1 false false [dVar 1, dBin bMod (dCl (n1 fInt) [dVar 0]) (dVar 1)]) (dsNx))
    (E := fun a l => [some (.val (.int (a : Nat))), some (.val (.int (l : Nat)))]) (S := []) (fun a => by simp) (fun a l h => by simp; omega) (fun a l h => by
      have hm : bMod (.int (a : Nat)) (.int (l : Nat)) = some (.val (.int ((a : Int) % (l : Nat)))) := mod_ok (by omega)
      simp [hm]) 1900 4000 a b (by unfold Sz at hb; rwa [Int.natAbs_natCast] at hb) (by omega)
  simp [f_divisor, d_divisor, hE]
theorem v_reduced (t : Int) (b : Nat) (hb0 : 0 < b) (hb : Sz 1900 (b : Nat)) : f_reduced [.val (.int t), .val (.int (b : Nat))] = .ok (.val (frac (mkRat t b))) [] := by
  have ha : (if t < 0 then -t else t) = ((t.natAbs : Nat) : Int) := by split <;> omega
  have hg : 0 < Nat.gcd b t.natAbs := Nat.gcd_pos_of_pos_left _ hb0
  have hgs : Sz 1900 ((Nat.gcd b t.natAbs : Nat) : Int) := by
    have : Nat.gcd b t.natAbs ≤ b := Nat.gcd_le_left _ hb0
    unfold Sz at *
    omega
  have h1 : ∀ x : Int, bDiv (.int x) (.int ((Nat.gcd b t.natAbs : Nat) : Int)) = some (.val (.int (x / ((Nat.gcd b t.natAbs : Nat) : Int)))) := fun x => div_sz (by omega) hgs (by omega)
  have hn : ¬ ((b : Int) < 0) := by omega
  simp [f_reduced, d_reduced, hn, ha, v_divisor _ _ hb, h1, lenOk, sizeLine]
  rw [frac_mk hb0, Nat.gcd_comm]
theorem fs_bot {k : Nat} {p q : Rat} (hp : FS k p) (hq : FS k q) : Sz (2 * k) ((p.den * q.den : Nat) : Int) := by
  rw [Int.natCast_mul]
  exact (hp.2.mul hq.2).mono (by omega)
theorem v_is_below {k : Nat} {p q : Rat} (hp : FS k p) (hq : FS k q) (hk : k ≤ 900) : f_is_below [.val (frac p), .val (frac q)] = .ok (.val (.bl (decide (p < q)))) [] := by
  have m1 : bMul (.int p.num) (.int (q.den : Nat)) = some (.val (.int (p.num * (q.den : Nat)))) := mul_sz hp.1 hq.2 (by omega)
  have m2 : bMul (.int q.num) (.int (p.den : Nat)) = some (.val (.int (q.num * (p.den : Nat)))) := mul_sz hq.1 hp.2 (by omega)
  rw [← rat_lt_mk]
  simp [f_is_below, d_is_below, m1, m2, frac]
theorem v_add {k : Nat} {p q : Rat} (hp : FS k p) (hq : FS k q) (hk : k ≤ 900) : f_add [.val (frac p), .val (frac q)] = .ok (.val (frac (p + q))) [] := by
  have m1 : bMul (.int p.num) (.int (q.den : Nat)) = some (.val (.int (p.num * (q.den : Nat)))) := mul_sz hp.1 hq.2 (by omega)
  have m2 : bMul (.int q.num) (.int (p.den : Nat)) = some (.val (.int (q.num * (p.den : Nat)))) := mul_sz hq.1 hp.2 (by omega)
  have m3 : bMul (.int (p.den : Nat)) (.int (q.den : Nat)) = some (.val (.int ((p.den * q.den : Nat) : Int))) := by
    rw [Int.natCast_mul]
    exact mul_sz hp.2 hq.2 (by omega)
  have h := v_reduced (p.num * (q.den : Nat) + q.num * (p.den : Nat)) (p.den * q.den) (Nat.mul_pos p.den_pos q.den_pos) ((fs_bot hp hq).mono (by omega))
  rw [rat_add_mk] at h
  simp only [frac, Int.natCast_mul] at h m3 ⊢
  simp [f_add, d_add, m1, m2, m3, h]
theorem v_multiply {k : Nat} {p q : Rat} (hp : FS k p) (hq : FS k q) (hk : k ≤ 900) : f_multiply [.val (frac p), .val (frac q)] = .ok (.val (frac (p * q))) [] := by
  have m1 : bMul (.int p.num) (.int q.num) = some (.val (.int (p.num * q.num))) := mul_sz hp.1 hq.1 (by omega)
  have m3 : bMul (.int (p.den : Nat)) (.int (q.den : Nat)) = some (.val (.int ((p.den * q.den : Nat) : Int))) := by
    rw [Int.natCast_mul]
    exact mul_sz hp.2 hq.2 (by omega)
  have h := v_reduced (p.num * q.num) (p.den * q.den) (Nat.mul_pos p.den_pos q.den_pos) ((fs_bot hp hq).mono (by omega))
  rw [rat_mul_mk] at h
  simp only [frac, Int.natCast_mul] at h m3 ⊢
  simp [f_multiply, d_multiply, m1, m3, h]
theorem v_law_divisor (a b : Nat) (hb : Sz 1900 (b : Nat)) : f__law_divisor [.val (.int (a : Nat)), .val (.int (b : Nat))] = .ok (.val (.int (Nat.gcd b a : Nat))) [] := by
  have hE := euclid (c := dBin bGt (dVar 1) (dCst (.int 0))) (b := dsSeq (dsPar2 0 1 false false [dVar 1, dBin bMod (dCl (n1 fInt) [dVar 0]) (dVar 1)]) (dsNx))
    (E := fun a l => [some (.val (.int (a : Nat))), some (.val (.int (l : Nat)))]) (S := []) (fun a => by simp) (fun a l h => by simp; omega) (fun a l h => by
      have hm : bMod (.int (a : Nat)) (.int (l : Nat)) = some (.val (.int ((a : Int) % (l : Nat)))) := mod_ok (by omega)
      simp [hm]) 1900 4000 a b (by unfold Sz at hb; rwa [Int.natAbs_natCast] at hb) (by omega)
  simp [f__law_divisor, d__law_divisor, hE]
theorem v_law_cut (t : Int) (b : Nat) (hb0 : 0 < b) (hb : Sz 1900 (b : Nat)) : f__law_cut [.val (.int t), .val (.int (b : Nat))] = .ok (.val (frac (mkRat t b))) [] := by
  have ha : (if t < 0 then -t else t) = ((t.natAbs : Nat) : Int) := by split <;> omega
  have hg : 0 < Nat.gcd b t.natAbs := Nat.gcd_pos_of_pos_left _ hb0
  have hgs : Sz 1900 ((Nat.gcd b t.natAbs : Nat) : Int) := by
    have : Nat.gcd b t.natAbs ≤ b := Nat.gcd_le_left _ hb0
    unfold Sz at *
    omega
  have h1 : ∀ x : Int, bDiv (.int x) (.int ((Nat.gcd b t.natAbs : Nat) : Int)) = some (.val (.int (x / ((Nat.gcd b t.natAbs : Nat) : Int)))) := fun x => div_sz (by omega) hgs (by omega)
  have hn : ¬ ((b : Int) < 0) := by omega
  simp [f__law_cut, d__law_cut, hn, ha, v_law_divisor _ _ hb, h1, lenOk, sizeLine]
  rw [frac_mk hb0, Nat.gcd_comm]
theorem v_law_plus {k : Nat} {p q : Rat} (hp : FS k p) (hq : FS k q) (hk : k ≤ 900) : f__law_plus [.val (frac p), .val (frac q)] = .ok (.val (frac (p + q))) [] := by
  have m1 : bMul (.int p.num) (.int (q.den : Nat)) = some (.val (.int (p.num * (q.den : Nat)))) := mul_sz hp.1 hq.2 (by omega)
  have m2 : bMul (.int q.num) (.int (p.den : Nat)) = some (.val (.int (q.num * (p.den : Nat)))) := mul_sz hq.1 hp.2 (by omega)
  have m3 : bMul (.int (p.den : Nat)) (.int (q.den : Nat)) = some (.val (.int ((p.den * q.den : Nat) : Int))) := by
    rw [Int.natCast_mul]
    exact mul_sz hp.2 hq.2 (by omega)
  have h := v_law_cut (p.num * (q.den : Nat) + q.num * (p.den : Nat)) (p.den * q.den) (Nat.mul_pos p.den_pos q.den_pos) ((fs_bot hp hq).mono (by omega))
  rw [rat_add_mk] at h
  simp only [frac, Int.natCast_mul] at h m3 ⊢
  simp [f__law_plus, d__law_plus, m1, m2, m3, h]
theorem v_law_times {k : Nat} {p q : Rat} (hp : FS k p) (hq : FS k q) (hk : k ≤ 900) : f__law_times [.val (frac p), .val (frac q)] = .ok (.val (frac (p * q))) [] := by
  have m1 : bMul (.int p.num) (.int q.num) = some (.val (.int (p.num * q.num))) := mul_sz hp.1 hq.1 (by omega)
  have m3 : bMul (.int (p.den : Nat)) (.int (q.den : Nat)) = some (.val (.int ((p.den * q.den : Nat) : Int))) := by
    rw [Int.natCast_mul]
    exact mul_sz hp.2 hq.2 (by omega)
  have h := v_law_cut (p.num * q.num) (p.den * q.den) (Nat.mul_pos p.den_pos q.den_pos) ((fs_bot hp hq).mono (by omega))
  rw [rat_mul_mk] at h
  simp only [frac, Int.natCast_mul] at h m3 ⊢
  simp [f__law_times, d__law_times, m1, m3, h]
theorem v_law_below {k : Nat} {p q : Rat} (hp : FS k p) (hq : FS k q) (hk : k ≤ 900) : f__law_below [.val (frac p), .val (frac q)] = .ok (.val (.bl (decide (p < q)))) [] := by
  have m1 : bMul (.int p.num) (.int (q.den : Nat)) = some (.val (.int (p.num * (q.den : Nat)))) := mul_sz hp.1 hq.2 (by omega)
  have m2 : bMul (.int q.num) (.int (p.den : Nat)) = some (.val (.int (q.num * (p.den : Nat)))) := mul_sz hq.1 hp.2 (by omega)
  rw [← rat_lt_mk]
  simp [f__law_below, d__law_below, m1, m2, frac]
/-! sums whose bottoms are known -/
theorem v_total {v : PV} {qs : List Rat} (hv : itemsOf v = some (qs.map frac)) {k : Nat} (hk : k ≤ 900) (hq : ∀ q ∈ qs, FS k q) (hs : ∀ j, j ≤ qs.length → FS k (rsum (qs.take j))) : f_total [.val v] = .ok (.val (frac (rsum qs))) [] := by
  have h0 : frac 0 = .tup [.int 0, .int 1] := rfl
  simp [f_total, d_total, hv, -frac_0]
  generalize hx : loop _ _ _ _ _ _ = x
  obtain ⟨ρ', S', rfl, rfl, y2, rfl⟩ := loop_inv_of hx (fun j ρ S => S = [] ∧ ∃ y2, ρ = [some (.val v), some (.val (frac (rsum (qs.take j)))), y2]) (fun _ _ _ _ => rfl) ⟨rfl, none, by simp [rsum]⟩ (fun j y hj ρ S hI => by
    obtain ⟨rfl, y2, rfl⟩ := hI
    have hjl : j < qs.length := by have := (List.getElem?_eq_some_iff.mp hj).1; simpa using this
    rw [List.getElem?_map, List.getElem?_eq_getElem hjl] at hj
    cases hj
    have ha := v_add (hs j (by omega)) (hq _ (List.getElem_mem hjl)) hk
    rw [rsum_take hjl]
    generalize rsum (qs.take j) = s at *
    generalize qs[j] = q at *
    simp [ha]
    exact .mk ⟨rfl, _, rfl⟩)
  simp
theorem v_law_total {v : PV} {qs : List Rat} (hv : itemsOf v = some (qs.map frac)) {k : Nat} (hk : k ≤ 900) (hq : ∀ q ∈ qs, FS k q) (hs : ∀ j, j ≤ qs.length → FS k (rsum (qs.take j))) : f__law_total [.val v] = .ok (.val (frac (rsum qs))) [] := by
  have h0 : frac 0 = .tup [.int 0, .int 1] := rfl
  simp [f__law_total, d__law_total, hv, lenOk, sizeLine, -frac_0]
  generalize hx : loop _ _ _ _ _ _ = x
  obtain ⟨ρ', S', rfl, rfl, y2, rfl⟩ := loop_inv_of hx (fun j ρ S => S = [] ∧ ∃ y2, ρ = [some (.val v), some (.val (frac (rsum (qs.take j)))), y2]) (fun _ _ _ _ => rfl) ⟨rfl, none, by simp [rsum]⟩ (fun j y hj ρ S hI => by
    obtain ⟨rfl, y2, rfl⟩ := hI
    have hjl : j < qs.length := by have := (List.getElem?_eq_some_iff.mp hj).1; simpa using this
    rw [List.getElem?_map, List.getElem?_eq_getElem hjl] at hj
    cases hj
    have ha := v_law_plus (hs j (by omega)) (hq _ (List.getElem_mem hjl)) hk
    rw [rsum_take hjl]
    generalize rsum (qs.take j) = s at *
    generalize qs[j] = q at *
    simp [ha]
    exact .mk ⟨rfl, _, rfl⟩)
  simp
end K41
end
section
set_option Elab.async false
set_option linter.all false
set_option maxHeartbeats 4000000
set_option maxRecDepth 100000
set_option autoImplicit false
namespace K41
open PySem Pf
/-! fractions over one bottom -/
def CD (D M : Nat) (q : Rat) : Prop := ∃ z : Int, z.natAbs ≤ M ∧ q = mkRat z D
theorem CD.fs {D M k : Nat} {q : Rat} (h : CD D M q) (h0 : 0 < D) (hD : D < 2 ^ k) (hM : M < 2 ^ k) : FS k q := by
  obtain ⟨z, hz, rfl⟩ := h
  exact fs_mk h0 (by unfold Sz; omega) (by unfold Sz; rw [Int.natAbs_natCast]; exact hD)
theorem CD.mono {D M N : Nat} {q : Rat} (h : CD D M q) (hMN : M ≤ N) : CD D N q := let ⟨z, hz, e⟩ := h; ⟨z, Nat.le_trans hz hMN, e⟩
theorem CD.add {D M N : Nat} {p q : Rat} (h : CD D M p) (g : CD D N q) : CD D (M + N) (p + q) := by
  obtain ⟨z, hz, rfl⟩ := h
  obtain ⟨w, hw, rfl⟩ := g
  refine ⟨z + w, by omega, ?_⟩
  rw [Rat.mkRat_eq_div, Rat.mkRat_eq_div, Rat.mkRat_eq_div, Rat.intCast_add]
  grind
theorem CD.mulI {D M N : Nat} {q : Rat} (h : CD D M q) {n : Int} (hn : n.natAbs ≤ N) : CD D (M * N) (q * (n : Rat)) := by
  obtain ⟨z, hz, rfl⟩ := h
  refine ⟨z * n, by rw [Int.natAbs_mul]; exact Nat.mul_le_mul hz hn, ?_⟩
  rw [Rat.mkRat_eq_div, Rat.mkRat_eq_div, Rat.intCast_mul]
  grind
theorem CD.zero {D : Nat} : CD D 0 0 := ⟨0, by simp, by rw [Rat.mkRat_eq_div]; grind⟩
theorem cd_rsum {D M : Nat} : ∀ {qs : List Rat}, (∀ q ∈ qs, CD D M q) → CD D (M * qs.length) (rsum qs)
  | [], _ => CD.zero
  | q :: qs, h => by
    have := (h q List.mem_cons_self).add (cd_rsum fun p hp => h p (List.mem_cons_of_mem _ hp))
    exact this.mono (by rw [List.length_cons, Nat.mul_succ]; omega)
theorem v_total' {v : PV} {qs : List Rat} (hv : itemsOf v = some (qs.map frac)) {D M k : Nat} (hk : k ≤ 900) (h0 : 0 < D) (hD : D < 2 ^ k) (h1 : M < 2 ^ k) (hM : M * qs.length < 2 ^ k) (hq : ∀ q ∈ qs, CD D M q) : f_total [.val v] = .ok (.val (frac (rsum qs))) [] :=
  v_total hv hk (fun q hm => (hq q hm).fs h0 hD h1) fun j hj => (cd_rsum fun q hm => hq q (List.mem_of_mem_take hm)).fs h0 hD (by
    rw [List.length_take]
    exact Nat.lt_of_le_of_lt (Nat.mul_le_mul_left _ (Nat.min_le_right _ _)) hM)
theorem v_law_total' {v : PV} {qs : List Rat} (hv : itemsOf v = some (qs.map frac)) {D M k : Nat} (hk : k ≤ 900) (h0 : 0 < D) (hD : D < 2 ^ k) (h1 : M < 2 ^ k) (hM : M * qs.length < 2 ^ k) (hq : ∀ q ∈ qs, CD D M q) : f__law_total [.val v] = .ok (.val (frac (rsum qs))) [] :=
  v_law_total hv hk (fun q hm => (hq q hm).fs h0 hD h1) fun j hj => (cd_rsum fun q hm => hq q (List.mem_of_mem_take hm)).fs h0 hD (by
    rw [List.length_take]
    exact Nat.lt_of_le_of_lt (Nat.mul_le_mul_left _ (Nat.min_le_right _ _)) hM)
/-- a lot -/
structure LotOk (qs : List Rat) (m D : Nat) : Prop where
  len : qs.length = m
  d0 : 0 < D
  d1 : D ≤ 40000
  cd : ∀ q ∈ qs, CD D D q
  nn : ∀ q ∈ qs, 0 ≤ q.num
  one : rsum qs = 1
def lotP (qs : List Rat) : PV := .tup (qs.map frac)
variable {qs : List Rat} {m D : Nat}
theorem LotOk.fs (h : LotOk qs m D) : ∀ q ∈ qs, FS 60 q := fun q hq => (h.cd q hq).fs h.d0 (Nat.lt_of_le_of_lt h.d1 (by decide)) (Nat.lt_of_le_of_lt h.d1 (by decide))
theorem fs_small {n : Int} (hn : n.natAbs ≤ 1000) : FS 60 ((n : Int) : Rat) := fs_int (sz_of 1000 hn (by decide)) (by omega)
/-- the sum of products with whole numbers -/
def dotI (qs : List Rat) (ns : List Int) : Rat := rsum ((qs.zip ns).map fun p => p.1 * (p.2 : Rat))
theorem dot_cd (h : LotOk qs m D) {ns : List Int} (hn : ∀ n ∈ ns, n.natAbs ≤ 1000) : ∀ q ∈ (qs.zip ns).map fun p => p.1 * ((p.2 : Int) : Rat), CD D (D * 1000) q := fun q hq => by
  obtain ⟨p, hp, rfl⟩ := List.mem_map.mp hq
  have := List.of_mem_zip hp
  exact (h.cd _ this.1).mulI (hn _ this.2)
theorem big_ok (h : LotOk qs m D) {l : Nat} (hl : l ≤ 100) : D * 1000 * l < 2 ^ 60 := by
  have h1 := h.d1
  have h2 : D * 1000 * l ≤ 40000 * 1000 * 100 := Nat.mul_le_mul (Nat.mul_le_mul h1 (Nat.le_refl _)) hl
  exact Nat.lt_of_le_of_lt h2 (by decide)
theorem D_ok (h : LotOk qs m D) : D < 2 ^ 60 := Nat.lt_of_le_of_lt h.d1 (by decide)
theorem v_psum (h : LotOk qs m D) (hm : m ≤ 64) {ns : List Int} (hl : ns.length ≤ 100) (hn : ∀ n ∈ ns, n.natAbs ≤ 1000) : f_products_sum [.val (lotP qs), .val (.lst (ns.map fun n => .tup [.int n, .int 1]))] = .ok (.val (frac (dotI qs ns))) [] := by
  have hlen := h.len
  have ht := v_total' (v := .lst (((qs.zip ns).map fun p => p.1 * ((p.2 : Int) : Rat)).map frac)) rfl (k := 60) (by omega) h.d0 (D_ok h) (M := D * 1000) (by have := big_ok h (l := 1) (by omega); omega) (big_ok h (by simp; omega)) (dot_cd h hn)
  simp [f_products_sum, d_products_sum]
  have e2 : zip2 (qs.map frac) (ns.map fun n => PV.tup [.int n, .int 1]) = (qs.zip ns).map fun p => .tup [frac p.1, .tup [.int p.2, .int 1]] := zip2_map frac (fun n : Int => PV.tup [.int n, .int 1]) qs ns
  have hil : itemsOf (lotP qs) = some (qs.map frac) := rfl
  rw [dComp_mapG (ys := qs.zip ns) (g := fun p => .tup [frac p.1, .tup [.int p.2, .int 1]]) (gs := []) (fun p => frac (p.1 * ((p.2 : Int) : Rat))) (by simp [hil, e2]) (by simp; unfold sizeLine; omega) rfl (fun p hp => by
    have hp2 := List.of_mem_zip hp
    have hmul := v_multiply (h.fs _ hp2.1) (fs_small (hn _ hp2.2)) (by omega)
    rw [frac_int] at hmul
    generalize frac p.1 = fp at *
    simp [hmul])]
  rw [List.map_map] at ht
  have e : (qs.zip ns).map (fun p => frac (p.1 * ((p.2 : Int) : Rat))) = (qs.zip ns).map (frac ∘ fun p => p.1 * ((p.2 : Int) : Rat)) := rfl
  rw [e]
  simp [ht, dotI]
theorem v_mean_by (h : LotOk qs m D) (hm : m ≤ 64) {w : PV} {ns : List Int} (hw : itemsOf w = some (ns.map .int)) (hl : ns.length ≤ 100) (hn : ∀ n ∈ ns, n.natAbs ≤ 1000) : f_mean_by [.val (lotP qs), .val w] = .ok (.val (frac (dotI qs ns))) [] := by
  have hp := v_psum h hm hl hn
  simp [f_mean_by, d_mean_by]
  rw [dComp_mapG (ys := ns) (g := .int) (gs := []) (fun n => .tup [.int n, .int 1]) (by simp [hw]) (by unfold sizeLine; omega) rfl (fun n hn => by simp [lenOk, sizeLine])]
  simp [hp]
theorem v_mean_byC (h : LotOk qs m D) (hm : m ≤ 64) {ns : List Int} (hl : ns.length ≤ 100) (hn : ∀ n ∈ ns, n.natAbs ≤ 1000) : f_mean_by [.val (lotP qs), .cel (.lst (ns.map .int))] = .ok (.val (frac (dotI qs ns))) [.live (.lst (ns.map .int))] := by
  have hp := v_psum h hm hl hn
  simp [f_mean_by, d_mean_by]
  rw [dComp_mapG (ys := ns) (g := .int) (gs := [(0, .lst (ns.map .int))]) (fun n => .tup [.int n, .int 1]) (by simp) (by unfold sizeLine; omega) (by simp [chkG, same_refl]) (fun n hn => by simp [lenOk, sizeLine])]
  simp [hp]
theorem v_law_mean (h : LotOk qs m D) (hm : m ≤ 64) {w : PV} {ns : List Int} (hw : itemsOf w = some (ns.map .int)) (hl : ns.length ≤ 100) (hn : ∀ n ∈ ns, n.natAbs ≤ 1000) : f__law_mean [.val (lotP qs), .val w] = .ok (.val (frac (dotI qs ns))) [] := by
  have hlen := h.len
  have ht := v_law_total' (v := .lst (((qs.zip ns).map fun p => p.1 * ((p.2 : Int) : Rat)).map frac)) rfl (k := 60) (by omega) h.d0 (D_ok h) (M := D * 1000) (by have := big_ok h (l := 1) (by omega); omega) (big_ok h (by simp; omega)) (dot_cd h hn)
  simp [f__law_mean, d__law_mean]
  have e2 : zip2 (qs.map frac) (ns.map .int) = (qs.zip ns).map fun p => .tup [frac p.1, .int p.2] := zip2_map frac PV.int qs ns
  have hil : itemsOf (lotP qs) = some (qs.map frac) := rfl
  rw [dComp_mapG (ys := qs.zip ns) (g := fun p => .tup [frac p.1, .int p.2]) (gs := []) (fun p => frac (p.1 * ((p.2 : Int) : Rat))) (by simp [hil, hw, e2]) (by simp; unfold sizeLine; omega) rfl (fun p hp => by
    have hp2 := List.of_mem_zip hp
    have hmul := v_law_times (h.fs _ hp2.1) (fs_small (hn _ hp2.2)) (by omega)
    rw [frac_int] at hmul
    generalize frac p.1 = fp at *
    simp [hmul, lenOk, sizeLine])]
  rw [List.map_map] at ht
  have e : (qs.zip ns).map (fun p => frac (p.1 * ((p.2 : Int) : Rat))) = (qs.zip ns).map (frac ∘ fun p => p.1 * ((p.2 : Int) : Rat)) := rfl
  rw [e]
  simp [ht, dotI]
end K41
end
section
set_option Elab.async false
set_option linter.all false
set_option maxHeartbeats 4000000
set_option maxRecDepth 100000
set_option autoImplicit false
namespace K41
open PySem Pf
def isFr (v : PV) : Bool := match v with
  | .tup [.int a, .int b] => decide (1 ≤ b) && decide (Nat.gcd a.natAbs b.natAbs = 1)
  | _ => false
def NumS (v : PV) : Prop := ∀ a b : Int, v = .tup [.int a, .int b] → a.natAbs ≤ 10 ^ 40 ∧ b.natAbs ≤ 10 ^ 40
theorem isFr_frac (q : Rat) : isFr (frac q) = true := by
  have h1 := q.den_pos
  have h2 := q.reduced
  simp only [isFr, frac, Int.natAbs_natCast, Bool.and_eq_true, decide_eq_true_eq]
  exact ⟨by omega, h2⟩
theorem eqv_ii2 (a b c d : Int) : eqv (.tup [.int a, .int b]) (.tup [.int c, .int d]) = (decide (a = c) && decide (b = d)) := by
  rw [Bool.eq_iff_iff]
  simp [eqv, toD, toDs, PyData.eqv, PyData.eqvAll]
theorem v_is_fraction_of {v : PV} (hv : NumS v) : f_is_fraction_of [.val v] = .ok (.val (.bl (isFr v))) [] := by
  simp [f_is_fraction_of, d_is_fraction_of]
  match v with
  | .tup [x, y] =>
    cases hx : isI x with
    | false => 
      have : isFr (.tup [x, y]) = false := by cases x <;> first | rfl | (simp [isI] at hx)
      simp [isTu, hx, this]
    | true =>
      cases hy : isI y with
      | false =>
        have : isFr (.tup [x, y]) = false := by cases y <;> first | (cases x <;> rfl) | (simp [isI] at hy)
        simp [isTu, hx, hy, this]
      | true =>
        cases x <;> simp [isI] at hx
        cases y <;> simp [isI] at hy
        next a b =>
        have ha : (if a < 0 then -a else a) = ((a.natAbs : Nat) : Int) := by split <;> omega
        simp [isTu, isI, ha]
        by_cases hb : 1 ≤ b
        · obtain ⟨n, rfl⟩ := Int.eq_ofNat_of_zero_le (show 0 ≤ b by omega)
          have hs : Sz 1900 (n : Nat) := (sz_of (k := 200) _ (hv _ _ rfl).2 (by decide)).mono (by omega)
          have := v_divisor a.natAbs n hs
          have e : isFr (.tup [.int a, .int (n : Nat)]) = decide (Nat.gcd n a.natAbs = 1) := by
            simp [isFr, Nat.gcd_comm]
            omega
          simp [hb, ha, this, e]
          omega
        · have e : isFr (.tup [.int a, .int b]) = false := by simp [isFr, hb]
          simp [hb, e]
  | .tup [] => simp [isFr, isTu]
  | .tup [a] => simp [isFr, isTu]
  | .tup (a :: b :: c :: ds) =>
    have h : ¬ ((ds.length : Int) + 1 + 1 + 1 = 2) := by omega
    simp [isFr, isTu, h]
  | .non => simp [isFr, isTu]
  | .bl _ => simp [isFr, isTu]
  | .int _ => simp [isFr, isTu]
  | .str _ => simp [isFr, isTu]
  | .lst _ => simp [isFr, isTu]
  | .dct _ => simp [isFr, isTu]
  | .scr _ => simp [isFr, isTu]
variable {qs : List Rat} {m D : Nat} {sz : List Nat} {rows : List (List Int)}
theorem fr_ok (h : LotOk qs m D) : ∀ q ∈ qs, f_is_fraction_of [.val (frac q)] = .ok (.val (.bl true)) [] := fun q hq => by
  have := h.fs q hq
  rw [v_is_fraction_of (fun a b e => by
    simp only [frac, PV.tup.injEq, List.cons.injEq, PV.int.injEq, and_true] at e
    obtain ⟨e1, e2⟩ := e
    have h1 := this.1
    have h2 := this.2
    rw [e1] at h1
    rw [e2] at h2
    unfold Sz at h1 h2
    omega), isFr_frac]
theorem short_ok (h : LotOk qs m D) : ∀ q ∈ qs, f_is_short [.val (frac q)] = .ok (.val (.bl true)) [] := fun q hq => by
  have h5 : FS 39 q := (h.cd q hq).fs h.d0 (Nat.lt_of_le_of_lt h.d1 (by decide)) (Nat.lt_of_le_of_lt h.d1 (by decide))
  have h6 := h5.2
  have h5 := h5.1
  unfold Sz at h5 h6
  have h7 : (if q.num < 0 then -q.num else q.num) < 1000000000000 := by split <;> omega
  have h8 : (q.den : Int) < 1000000000000 := by omega
  simp [f_is_short, d_is_short, fr_ok h q hq, idx_f0, idx_f1, h7, h8]
theorem total_lot (h : LotOk qs m D) (hm : m ≤ 64) : f_total [.val (lotP qs)] = .ok (.val (.tup [.int 1, .int 1])) [] := by
  have hlen := h.len
  have hd := h.d1
  have ht := v_total' (v := lotP qs) rfl (k := 60) (by omega) h.d0 (D_ok h) (M := D) (D_ok h) (Nat.lt_of_le_of_lt (Nat.mul_le_mul hd (show qs.length ≤ 64 by omega)) (by decide)) h.cd
  rw [h.one] at ht
  exact ht
theorem fall_true {α : Type} (xs : List α) : fAll (.lst (xs.map fun _ => .bl true)) = some (.val (.bl true)) := by rw [fall_mapG (fun _ => true)]; simp
theorem v_check_lot_of (g : GOk sz rows) (h : LotOk qs (playsL sz).length D) : f_check_lot_of [.val (gameP sz rows), .val (lotP qs)] = .ok (.val .non) [] := by
  obtain ⟨p1, p2, p3, p4⟩ := plays_len sz g.mem
  have hlen := h.len
  have hP := plays_of plays2 g.mem
  have hg := v_check_game g
  have htot := total_lot h p2
  have hone := eqv_frac 1 1
  simp only [frac_1, decide_true] at hone
  have il : itemsOf (lotP qs) = some (qs.map frac) := rfl
  have fl : fLen (lotP qs) = some (.val (.int (qs.length : Nat))) := by simp [lotP]
  have it : isTu (lotP qs) = true := rfl
  have g0 : bIdx (gameP sz rows) (.int 0) = some (.val (tupN sz)) := rfl
  have hc1 : dComp (itSeq (dVar 1)) (tgName 2 false) none (dAnd (dCall 1 f_is_fraction_of [false] [dVar 2]) (dBin bGe (dBin bIdx (dVar 2) (dCst (.int 0))) (dCst (.int 0)))) [2] [some (.val (gameP sz rows)), some (.val (lotP qs)), none] [] = .ok (.own (.lst (qs.map fun _ => .bl true))) [] := by
    rw [dComp_mapG (ys := qs) (g := frac) (gs := []) (fun _ => .bl true) (by simp [il]) (by unfold sizeLine; omega) rfl (fun q hq => by
      have := h.nn q hq
      simp [fr_ok h q hq, idx_f0, this])]
  have hc2 : dComp (itSeq (dVar 1)) (tgName 2 false) none (dCall 1 f_is_short [false] [dVar 2]) [2] [some (.val (gameP sz rows)), some (.val (lotP qs)), none] [] = .ok (.own (.lst (qs.map fun _ => .bl true))) [] := by
    rw [dComp_mapG (ys := qs) (g := frac) (gs := []) (fun _ => .bl true) (by simp [il]) (by unfold sizeLine; omega) rfl (fun q hq => by simp [short_ok h q hq])]
  have hle : (qs.length : Int) = ((playsL sz).length : Nat) := by omega
  simp [f_check_lot_of, d_check_lot_of, f_check_told, d_check_told, f_is_any_lot, d_is_any_lot, hg, it, fl, g0, hP, hle, hc1, hc2, fall_true, htot, hone]
/-! gains -/
def ac (pl : List Nat) (p : Nat) : Nat := pl.getD p 0
def dif (sz : List Nat) (rows : List (List Int)) (p b : Nat) (pl : List Nat) : Int := worth rows p (place sz (pl.set p b)) - worth rows p (place sz pl)
def xs (qs : List Rat) (sz : List Nat) : List (Rat × List Nat) := qs.zip (playsL sz)
def gnR (qs : List Rat) (sz : List Nat) (rows : List (List Int)) (p a b : Nat) : Rat := rsum ((xs qs sz).map fun x => if ac x.2 p = a then x.1 * (dif sz rows p b x.2 : Rat) else 0)
def ogR (qs : List Rat) (sz : List Nat) (rows : List (List Int)) (p b : Nat) : Rat := rsum ((xs qs sz).map fun x => x.1 * (dif sz rows p b x.2 : Rat))
theorem dotI_map (f : List Nat → Int) : dotI qs ((playsL sz).map f) = rsum ((xs qs sz).map fun x => x.1 * (f x.2 : Rat)) := by
  unfold dotI xs
  rw [List.zip_map_right, List.map_map]
  rfl
theorem worth_bd (g : GOk sz rows) {p k : Nat} (hp : p < sz.length) (hk : k < (playsL sz).length) : (worth rows p k).natAbs ≤ 99 := by
  have hp2 : p < rows.length := by rw [g.len]; exact hp
  have e1 : rows[p]? = some (rowAt rows p) := by
    unfold rowAt
    rw [List.getD_eq_getElem?_getD, List.getElem?_eq_getElem hp2]; rfl
  obtain ⟨hr, hb⟩ := g.row _ (List.mem_of_getElem? e1)
  have e2 : (rowAt rows p)[k]? = some (worth rows p k) := by
    unfold worth
    rw [List.getD_eq_getElem?_getD (l := rowAt rows p), List.getElem?_eq_getElem (by rw [hr]; exact hk)]; rfl
  have := hb _ (List.mem_of_getElem? e2)
  omega
theorem dif_bd (g : GOk sz rows) {p b : Nat} {pl : List Nat} (hpl : pl ∈ playsL sz) (hp : p < sz.length) (hb : b < sz.getD p 0) : (dif sz rows p b pl).natAbs ≤ 198 := by
  obtain ⟨a1, a2, a3, a4⟩ := v_pl g.mem hpl
  obtain ⟨b1, b2, b3, b4⟩ := v_pl g.mem (a4 p b hp hb)
  have h1 := worth_bd g hp a3
  have h2 := worth_bd g hp b3
  unfold dif
  omega
theorem tup_at {pl : List Nat} {p : Nat} (hp : p < pl.length) : bIdx (tupN pl) (.int (p : Nat)) = some (.val (.int (ac pl p : Nat))) := idx_N (by simp [ac, hp])
theorem v_losses_of (g : GOk sz rows) {p a b : Nat} (hp : p < sz.length) (ha : a < sz.getD p 0) (hb : b < sz.getD p 0) :
    f_losses_of [.val (gameP sz rows), .val (.tup [.int (p : Nat), .int (a : Nat), .int (b : Nat)])] = .ok (.own (.lst ((playsL sz).map fun pl => .int (if ac pl p = a then -(dif sz rows p b pl) else 0)))) [] := by
  obtain ⟨p1, p2, p3, p4⟩ := plays_len sz g.mem
  have hP := plays_of plays2 g.mem
  have g0 : bIdx (gameP sz rows) (.int 0) = some (.val (tupN sz)) := rfl
  simp [f_losses_of, d_losses_of, g0, hP, lenOk, sizeLine]
  generalize hx : loop _ _ _ _ _ _ = x
  have hl := loop_inv_of hx (fun j ρ S => ∃ y6 y7, S = [.live (.lst (((playsL sz).take j).map fun pl => .int (if ac pl p = a then -(dif sz rows p b pl) else 0)))] ∧ ρ = [some (.val (gameP sz rows)), some (.val (.tup [.int (p : Nat), .int (a : Nat), .int (b : Nat)])), some (.val (.int (p : Nat))), some (.val (.int (a : Nat))), some (.val (.int (b : Nat))), some (.ref 0), y6, y7]) (fun _ _ _ _ => rfl) ⟨none, none, rfl, rfl⟩ (fun j y hj ρ S hI => by
    obtain ⟨y6, y7, rfl, rfl⟩ := hI
    have hjl : j < (playsL sz).length := by have := (List.getElem?_eq_some_iff.mp hj).1; simpa using this
    obtain ⟨pl, hpl, rfl⟩ : ∃ pl, (playsL sz)[j]? = some pl ∧ y = tupN pl := by
      rw [List.getElem?_map] at hj
      cases h : (playsL sz)[j]? with
      | none => rw [h] at hj; cases hj
      | some pl => rw [h] at hj; cases hj; exact ⟨pl, rfl, rfl⟩
    have hmem := List.mem_of_getElem? hpl
    obtain ⟨a1, a2, a3, a4⟩ := v_pl g.mem hmem
    have hw := v_with with1 g.mem hmem hp hb
    have hw1 := v_worth_at g (a4 p b hp hb) hp
    have hw2 := v_worth_at g hmem hp
    have hat := tup_at (pl := pl) (p := p) (by omega)
    have htk : (playsL sz).take (j + 1) = (playsL sz).take j ++ [pl] := by
      rw [List.take_succ_eq_append_getElem hjl]
      congr 2
      have := List.getElem?_eq_getElem hjl
      rw [hpl] at this
      exact (Option.some.inj this).symm
    have happ : ∀ z, appF (.int z) (.lst (((playsL sz).take j).map fun pl => .int (if ac pl p = a then -(dif sz rows p b pl) else 0))) = some (.lst ((((playsL sz).take j).map fun pl => .int (if ac pl p = a then -(dif sz rows p b pl) else 0)) ++ [.int z]), .non) := fun z => app_ok (by simp; omega)
    rw [htk, List.map_append]
    have hd : dif sz rows p b pl = worth rows p (place sz (pl.set p b)) - worth rows p (place sz pl) := rfl
    generalize ((playsL sz).take j).map (fun pl => PV.int (if ac pl p = a then -(dif sz rows p b pl) else 0)) = L at *
    by_cases hac : ac pl p = a
    · have hac2 : ((ac pl p : Nat) : Int) = (a : Nat) := by omega
      have e : worth rows p (place sz pl) - worth rows p (place sz (pl.set p b)) = -(dif sz rows p b pl) := by omega
      simp [hw, hw1, hw2, hat, hac2, hac, e, happ]
      exact .mk ⟨rfl, _, _, rfl⟩
    · have hac2 : ¬ ((ac pl p : Nat) : Int) = (a : Nat) := by omega
      simp [hw, hw1, hw2, hat, hac2, hac, happ]
      exact .mk ⟨rfl, _, _, rfl⟩)
  obtain ⟨ρ', S', rfl, y6, y7, rfl, rfl⟩ := hl
  simp
theorem v_gain_of (g : GOk sz rows) (h : LotOk qs (playsL sz).length D) {p a b : Nat} (hp : p < sz.length) (ha : a < sz.getD p 0) (hb : b < sz.getD p 0) :
    f_gain_of [.val (gameP sz rows), .val (lotP qs), .val (.tup [.int (p : Nat), .int (a : Nat), .int (b : Nat)])] = .ok (.val (frac (gnR qs sz rows p a b))) [] := by
  obtain ⟨p1, p2, p3, p4⟩ := plays_len sz g.mem
  have hlo := v_losses_of g hp ha hb
  have hm := v_mean_by h p2 (w := .lst (((playsL sz).map fun pl => if ac pl p = a then dif sz rows p b pl else 0).map .int)) rfl (by simp; omega) (fun n hn => by
    obtain ⟨pl, hpl, rfl⟩ := List.mem_map.mp hn
    have := dif_bd g hpl hp hb
    split <;> omega)
  have e : dotI qs ((playsL sz).map fun pl => if ac pl p = a then dif sz rows p b pl else 0) = gnR qs sz rows p a b := by
    rw [dotI_map]
    unfold gnR
    congr 1
    exact List.map_congr_left fun x _ => by
      by_cases h : ac x.2 p = a <;> simp [h]
  rw [e] at hm
  simp [f_gain_of, d_gain_of]
  rw [dComp_mapG (ys := playsL sz) (g := fun pl => .int (if ac pl p = a then -(dif sz rows p b pl) else 0)) (gs := []) (fun pl => .int (if ac pl p = a then dif sz rows p b pl else 0)) (by simp [hlo]) (by unfold sizeLine; omega) rfl (fun pl _ => by
    by_cases h : ac pl p = a <;> simp [h])]
  rw [List.map_map] at hm
  have e2 : (playsL sz).map (fun pl => PV.int (if ac pl p = a then dif sz rows p b pl else 0)) = (playsL sz).map (PV.int ∘ fun pl => if ac pl p = a then dif sz rows p b pl else 0) := rfl
  rw [e2]
  simp [hm]
end K41
end
section
set_option Elab.async false
set_option linter.all false
set_option maxHeartbeats 4000000
set_option maxRecDepth 100000
set_option autoImplicit false
namespace K41
open PySem Pf
variable {qs : List Rat} {m D : Nat} {sz : List Nat} {rows : List (List Int)}
/-! sums -/
theorem rsum_filter {α : Type} (P : α → Prop) [DecidablePred P] (f : α → Rat) : ∀ l : List α, rsum ((l.filter fun x => decide (P x)).map f) = rsum (l.map fun x => if P x then f x else 0)
  | [] => rfl
  | x :: l => by
    have ih := rsum_filter P f l
    by_cases h : P x
    · rw [List.filter_cons_of_pos (by simpa using h), List.map_cons, List.map_cons, rsum, rsum, ih, if_pos h]
    · rw [List.filter_cons_of_neg (by simpa using h), List.map_cons, rsum, ih, if_neg h, Rat.zero_add]
theorem rsum_add {α : Type} (f g : α → Rat) : ∀ l : List α, rsum (l.map fun x => f x + g x) = rsum (l.map f) + rsum (l.map g)
  | [] => by simp [rsum, Rat.zero_add]
  | x :: l => by
    have ih := rsum_add f g l
    simp only [List.map_cons, rsum]
    rw [ih]
    grind
theorem rsum_zero {α : Type} : ∀ l : List α, rsum (l.map fun _ => (0 : Rat)) = 0
  | [] => rfl
  | x :: l => by rw [List.map_cons, rsum, rsum_zero l, Rat.zero_add]
theorem rsum_single (v : Rat) (c : Nat) : ∀ m, rsum ((List.range m).map fun a => if c = a then v else 0) = if c < m then v else 0
  | 0 => by simp [rsum]
  | m + 1 => by
    rw [List.range_succ, List.map_append, rsum_append, rsum_single v c m]
    simp only [List.map_cons, List.map_nil, rsum]
    by_cases h : c = m
    · subst h
      rw [if_neg (by omega), if_pos rfl, if_pos (by omega)]
      grind
    · rw [if_neg h]
      by_cases h2 : c < m
      · rw [if_pos h2, if_pos (by omega)]; grind
      · rw [if_neg h2, if_neg (by omega)]; grind
theorem rsum_swap {α : Type} (c : α → Nat) (f : α → Rat) (m : Nat) : ∀ X : List α, (∀ x ∈ X, c x < m) → rsum ((List.range m).map fun a => rsum (X.map fun x => if c x = a then f x else 0)) = rsum (X.map f)
  | [], _ => rsum_zero _
  | x :: X, h => by
    have ih := rsum_swap c f m X fun y hy => h y (List.mem_cons_of_mem _ hy)
    have e : (List.range m).map (fun a => rsum ((x :: X).map fun x => if c x = a then f x else 0)) = (List.range m).map fun a => (if c x = a then f x else 0) + rsum (X.map fun x => if c x = a then f x else 0) := rfl
    rw [e, rsum_add, ih, rsum_single, if_pos (h x List.mem_cons_self)]
    rfl
theorem rsum_le {α : Type} {f g : α → Rat} : ∀ {l : List α}, (∀ x ∈ l, f x ≤ g x) → rsum (l.map f) ≤ rsum (l.map g)
  | [], _ => Rat.le_refl
  | x :: l, h => by
    have ih := rsum_le (l := l) fun y hy => h y (List.mem_cons_of_mem _ hy)
    have := h x List.mem_cons_self
    simp only [List.map_cons, rsum]
    grind
theorem rsum_congr {α : Type} {f g : α → Rat} {l : List α} (h : ∀ x ∈ l, f x = g x) : rsum (l.map f) = rsum (l.map g) := by rw [List.map_congr_left h]
/-! gains' sizes -/
theorem xs_mem {x : Rat × List Nat} (hx : x ∈ xs qs sz) : x.1 ∈ qs ∧ x.2 ∈ playsL sz := by
  obtain ⟨a, b⟩ := x
  exact List.of_mem_zip hx
theorem ac_lt (g : GOk sz rows) {pl : List Nat} (hpl : pl ∈ playsL sz) {p : Nat} (hp : p < sz.length) : ac pl p < sz.getD p 0 := by
  obtain ⟨a1, a2, a3, a4⟩ := v_pl g.mem hpl
  have h1 : p < pl.length := by omega
  have := a2 (pl[p], sz[p]) (List.mem_of_getElem? (i := p) (by rw [List.getElem?_zip_eq_some]; exact ⟨List.getElem?_eq_getElem h1, List.getElem?_eq_getElem hp⟩))
  simpa [ac, h1, hp] using this
theorem sz_le (g : GOk sz rows) {p : Nat} (hp : p < sz.length) : 1 ≤ sz.getD p 0 ∧ sz.getD p 0 ≤ 4 := by
  have h : ∀ sz ∈ allSz, ∀ n ∈ sz, 1 ≤ n ∧ n ≤ 4 := by decide +kernel
  have e : sz.getD p 0 = sz[p] := by simp [hp]
  rw [e]
  exact h sz g.mem _ (List.getElem_mem hp)
theorem xs_len (h : LotOk qs (playsL sz).length D) : (xs qs sz).length = (playsL sz).length := by
  have := h.len
  simp [xs]
  omega
theorem term_cd (g : GOk sz rows) (h : LotOk qs (playsL sz).length D) {p b : Nat} (hp : p < sz.length) (hb : b < sz.getD p 0) {x : Rat × List Nat} (hx : x ∈ xs qs sz) : CD D (D * 198) (x.1 * (dif sz rows p b x.2 : Rat)) :=
  (h.cd _ (xs_mem hx).1).mulI (dif_bd g (xs_mem hx).2 hp hb)
theorem gn_cd (g : GOk sz rows) (h : LotOk qs (playsL sz).length D) {p a b : Nat} (hp : p < sz.length) (hb : b < sz.getD p 0) : CD D (D * 198 * 64) (gnR qs sz rows p a b) := by
  obtain ⟨p1, p2, p3, p4⟩ := plays_len sz g.mem
  refine (cd_rsum (M := D * 198) (fun q hq => ?_)).mono (Nat.mul_le_mul_left _ (by rw [List.length_map, xs_len h]; exact p2))
  obtain ⟨x, hx, rfl⟩ := List.mem_map.mp hq
  by_cases hc : ac x.2 p = a
  · rw [if_pos hc]; exact term_cd g h hp hb hx
  · rw [if_neg hc]; exact CD.zero.mono (Nat.zero_le _)
theorem big2 (h : LotOk qs m D) {l : Nat} (hl : l ≤ 64) : D * 198 * 64 * l < 2 ^ 60 := by
  have h1 := h.d1
  have h2 : D * 198 * 64 * l ≤ 40000 * 198 * 64 * 64 := Nat.mul_le_mul (Nat.mul_le_mul (Nat.mul_le_mul h1 (Nat.le_refl _)) (Nat.le_refl _)) hl
  exact Nat.lt_of_le_of_lt h2 (by decide)
theorem big1 (h : LotOk qs m D) : D * 198 * 64 < 2 ^ 60 := by have := big2 h (l := 1) (by omega); omega
theorem gn_fs (g : GOk sz rows) (h : LotOk qs (playsL sz).length D) {p a b : Nat} (hp : p < sz.length) (hb : b < sz.getD p 0) : FS 60 (gnR qs sz rows p a b) := (gn_cd g h hp hb).fs h.d0 (D_ok h) (big1 h)
theorem og_sum (g : GOk sz rows) {p b : Nat} (hp : p < sz.length) : rsum ((List.range (sz.getD p 0)).map fun a => gnR qs sz rows p a b) = ogR qs sz rows p b :=
  rsum_swap (fun x : Rat × List Nat => ac x.2 p) _ _ _ fun x hx => ac_lt g (xs_mem hx).2 hp
/-! outside -/
theorem v_outside_by (g : GOk sz rows) (h : LotOk qs (playsL sz).length D) {p b : Nat} (hp : p < sz.length) (hb : b < sz.getD p 0) :
    f_outside_by [.val (gameP sz rows), .val (lotP qs), .val (.int (p : Nat)), .val (.int (b : Nat))] = .ok (.val (frac (ogR qs sz rows p b))) [] := by
  obtain ⟨p1, p2, p3, p4⟩ := plays_len sz g.mem
  have hP := plays_of plays2 g.mem
  have g0 : bIdx (gameP sz rows) (.int 0) = some (.val (tupN sz)) := rfl
  have hm := v_mean_by h p2 (w := .lst (((playsL sz).map fun pl => dif sz rows p b pl).map .int)) rfl (by simp; omega) (fun n hn => by
    obtain ⟨pl, hpl, rfl⟩ := List.mem_map.mp hn
    have := dif_bd g hpl hp hb
    omega)
  rw [dotI_map, List.map_map] at hm
  simp [f_outside_by, d_outside_by, g0, hP, lenOk, sizeLine]
  generalize hx : loop _ _ _ _ _ _ = x
  have hl := loop_inv_of hx (fun j ρ S => ∃ y5, S = [.live (.lst (((playsL sz).take j).map fun pl => .int (dif sz rows p b pl)))] ∧ ρ = [some (.val (gameP sz rows)), some (.val (lotP qs)), some (.val (.int (p : Nat))), some (.val (.int (b : Nat))), some (.ref 0), y5]) (fun _ _ _ _ => rfl) ⟨none, rfl, rfl⟩ (fun j y hj ρ S hI => by
    obtain ⟨y5, rfl, rfl⟩ := hI
    have hjl : j < (playsL sz).length := by have := (List.getElem?_eq_some_iff.mp hj).1; simpa using this
    obtain ⟨pl, hpl, rfl⟩ : ∃ pl, (playsL sz)[j]? = some pl ∧ y = tupN pl := by
      rw [List.getElem?_map] at hj
      cases h : (playsL sz)[j]? with
      | none => rw [h] at hj; cases hj
      | some pl => rw [h] at hj; cases hj; exact ⟨pl, rfl, rfl⟩
    have hmem := List.mem_of_getElem? hpl
    obtain ⟨a1, a2, a3, a4⟩ := v_pl g.mem hmem
    have hw := v_with with1 g.mem hmem hp hb
    have hw1 := v_worth_at g (a4 p b hp hb) hp
    have hw2 := v_worth_at g hmem hp
    have htk : (playsL sz).take (j + 1) = (playsL sz).take j ++ [pl] := by
      rw [List.take_succ_eq_append_getElem hjl]
      congr 2
      have := List.getElem?_eq_getElem hjl
      rw [hpl] at this
      exact (Option.some.inj this).symm
    have happ : ∀ z, appF (.int z) (.lst (((playsL sz).take j).map fun pl => .int (dif sz rows p b pl))) = some (.lst ((((playsL sz).take j).map fun pl => .int (dif sz rows p b pl)) ++ [.int z]), .non) := fun z => app_ok (by simp; omega)
    rw [htk, List.map_append]
    have hd : worth rows p (place sz (pl.set p b)) - worth rows p (place sz pl) = dif sz rows p b pl := rfl
    generalize ((playsL sz).take j).map (fun pl => PV.int (dif sz rows p b pl)) = L at *
    simp [hw, hw1, hw2, hd, happ]
    exact .mk ⟨rfl, _, rfl⟩)
  obtain ⟨ρ', S', rfl, y5, rfl, rfl⟩ := hl
  have e2 : (playsL sz).map (fun pl => PV.int (dif sz rows p b pl)) = (playsL sz).map (PV.int ∘ fun pl => dif sz rows p b pl) := rfl
  have e3 : ((playsL sz).map tupN).length = (playsL sz).length := by simp
  rw [e3, List.take_length, e2]
  have hm := v_mean_byC h p2 (ns := (playsL sz).map fun pl => dif sz rows p b pl) (by simp; omega) (fun n hn => by
    obtain ⟨pl, hpl, rfl⟩ := List.mem_map.mp hn
    have := dif_bd g hpl hp hb
    omega)
  rw [dotI_map, List.map_map] at hm
  generalize (playsL sz).map (PV.int ∘ fun pl => dif sz rows p b pl) = L at *
  simp [hm]
  rfl
end K41
end
section
set_option Elab.async false
set_option linter.all false
set_option maxHeartbeats 4000000
set_option maxRecDepth 100000
set_option autoImplicit false
namespace K41
open PySem Pf
variable {qs : List Rat} {m D : Nat} {sz : List Nat} {rows : List (List Int)}
theorem lot_idx (h : LotOk qs m D) {j : Nat} (hj : j < qs.length) : bIdx (lotP qs) (.int (j : Nat)) = some (.val (frac qs[j])) := idx_t (by rw [List.getElem?_map, List.getElem?_eq_getElem hj]; rfl)
theorem pl_place : ∀ sz ∈ allSz, (playsL sz).map (place sz) = List.range (playsL sz).length := by decide +kernel
theorem place_get (g : GOk sz rows) {j : Nat} {pl : List Nat} (h : (playsL sz)[j]? = some pl) : place sz pl = j := by
  have h1 := pl_place sz g.mem
  have hj := (List.getElem?_eq_some_iff.mp h).1
  have h2 : ((playsL sz).map (place sz))[j]? = some (place sz pl) := by rw [List.getElem?_map, h]; rfl
  rw [h1] at h2
  simpa [hj] using h2.symm
theorem set_parts (pl : List Nat) {p : Nat} (hp : p < pl.length) (b : Nat) : (tupN pl = .tup (pl.map fun n => .int (n : Nat))) ∧ (((pl.map fun n => PV.int (n : Nat)).take p ++ [.int (b : Nat)]) ++ (pl.map fun n => PV.int (n : Nat)).drop (p + 1)) = (pl.set p b).map fun n => PV.int (n : Nat) := by
  refine ⟨rfl, ?_⟩
  rw [List.set_eq_take_append_cons_drop, if_pos hp, List.map_append, List.map_cons, List.map_take, List.map_drop, List.append_assoc]
  rfl
def lgL (qs : List Rat) (sz : List Nat) (rows : List (List Int)) (p a b j : Nat) : List Rat := (((xs qs sz).take j).filter fun x => decide (ac x.2 p = a)).map fun x => x.1 * (dif sz rows p b x.2 : Rat)
theorem v_law_totalC {qs : List Rat} {D M k : Nat} (hk : k ≤ 900) (h0 : 0 < D) (hD : D < 2 ^ k) (h1 : M < 2 ^ k) (hM : M * qs.length < 2 ^ k) (hq : ∀ q ∈ qs, CD D M q) : f__law_total [.cel (.lst (qs.map frac))] = .ok (.val (frac (rsum qs))) [.live (.lst (qs.map frac))] := by
  have hfs : ∀ q ∈ qs, FS k q := fun q hm => (hq q hm).fs h0 hD h1
  have hs : ∀ j, j ≤ qs.length → FS k (rsum (qs.take j)) := fun j hj => (cd_rsum fun q hm => hq q (List.mem_of_mem_take hm)).fs h0 hD (by
    rw [List.length_take]
    exact Nat.lt_of_le_of_lt (Nat.mul_le_mul_left _ (Nat.min_le_right _ _)) hM)
  have hz : frac 0 = .tup [.int 0, .int 1] := rfl
  simp [f__law_total, d__law_total, lenOk, sizeLine, -frac_0]
  generalize hx : loop _ _ _ _ _ _ = x
  obtain ⟨ρ', S', rfl, rfl, y2, rfl⟩ := loop_inv_of hx (fun j ρ S => S = [.live (.lst (qs.map frac))] ∧ ∃ y2, ρ = [some (.ref 0), some (.val (frac (rsum (qs.take j)))), y2]) (fun i ρ S hI => by rw [hI.1]; simp [chkG, same_refl]) ⟨rfl, none, by simp [rsum]⟩ (fun j y hj ρ S hI => by
    obtain ⟨rfl, y2, rfl⟩ := hI
    have hjl : j < qs.length := by have := (List.getElem?_eq_some_iff.mp hj).1; simpa using this
    rw [List.getElem?_map, List.getElem?_eq_getElem hjl] at hj
    cases hj
    have ha := v_law_plus (hs j (by omega)) (hfs _ (List.getElem_mem hjl)) hk
    rw [rsum_take hjl]
    generalize rsum (qs.take j) = s at *
    generalize qs[j] = q at *
    simp [ha]
    exact .mk ⟨rfl, _, rfl⟩)
  simp
theorem v_law_gain (g : GOk sz rows) (h : LotOk qs (playsL sz).length D) {p a b : Nat} (hp : p < sz.length) (ha : a < sz.getD p 0) (hb : b < sz.getD p 0) :
    f__law_gain [.val (gameP sz rows), .val (lotP qs), .val (.int (p : Nat)), .val (.int (a : Nat)), .val (.int (b : Nat))] = .ok (.val (frac (gnR qs sz rows p a b))) [] := by
  obtain ⟨p1, p2, p3, p4⟩ := plays_len sz g.mem
  have hP := plays_of plays1 g.mem
  have hlen := h.len
  have hxl := xs_len h
  have g0 : bIdx (gameP sz rows) (.int 0) = some (.val (tupN sz)) := rfl
  have g1 : bIdx (gameP sz rows) (.int 1) = some (.val (.lst (rows.map rowP))) := rfl
  have hpl0 : f__law_plays [.val (gameP sz rows)] = .ok (.own (.lst ((playsL sz).map tupN))) [] := by simp [f__law_plays, d__law_plays, g0, hP]
  simp [f__law_gain, d__law_gain, hpl0, lenOk, sizeLine]
  generalize hx : loop _ _ _ _ _ _ = x
  have hl := loop_inv_of hx (fun j ρ S => ∃ y6 y7 y8 y9, S = [.live (.lst ((lgL qs sz rows p a b j).map frac))] ∧ ρ = [some (.val (gameP sz rows)), some (.val (lotP qs)), some (.val (.int (p : Nat))), some (.val (.int (a : Nat))), some (.val (.int (b : Nat))), some (.ref 0), y6, y7, y8, y9]) (fun _ _ _ _ => rfl) ⟨none, none, none, none, rfl, rfl⟩ (fun j y hj ρ S hI => by
    obtain ⟨y6, y7, y8, y9, rfl, rfl⟩ := hI
    have hjl : j < (playsL sz).length := by have := (List.getElem?_eq_some_iff.mp hj).1; simpa [numd_len] using this
    obtain ⟨pl, hpl⟩ : ∃ pl, (playsL sz)[j]? = some pl := ⟨_, List.getElem?_eq_getElem hjl⟩
    obtain rfl : y = .tup [.int (j : Nat), tupN pl] := by
      have := hj
      rw [numd_get, List.getElem?_map, hpl] at this
      simpa using this.symm
    have hmem := List.mem_of_getElem? hpl
    obtain ⟨a1, a2, a3, a4⟩ := v_pl g.mem hmem
    have hjq : j < qs.length := by omega
    have hxj : (xs qs sz)[j]? = some (qs[j], pl) := by
      unfold xs
      rw [List.getElem?_zip_eq_some]
      exact ⟨List.getElem?_eq_getElem hjq, hpl⟩
    have hjx : j < (xs qs sz).length := by omega
    have hat := tup_at (pl := pl) (p := p) (by omega)
    have htk : (xs qs sz).take (j + 1) = (xs qs sz).take j ++ [(qs[j], pl)] := by
      rw [List.take_succ_eq_append_getElem hjx]
      congr 2
      have := List.getElem?_eq_getElem hjx
      rw [hxj] at this
      exact (Option.some.inj this).symm
    by_cases hac : ac pl p = a
    · have hlg : lgL qs sz rows p a b (j + 1) = lgL qs sz rows p a b j ++ [qs[j] * (dif sz rows p b pl : Rat)] := by
        unfold lgL
        rw [htk, List.filter_append, List.map_append, List.filter_cons_of_pos (by simpa using hac)]
        rfl
      rw [hlg, List.map_append]
      have happ : ∀ z, appF z (.lst ((lgL qs sz rows p a b j).map frac)) = some (.lst (((lgL qs sz rows p a b j).map frac) ++ [z]), .non) := fun z => app_ok (by
        unfold lgL
        rw [List.length_map, List.length_map]
        exact Nat.lt_of_le_of_lt (Nat.le_trans (List.length_filter_le _ _) (by rw [List.length_take]; omega)) (show 64 < 100000 by omega))
      generalize (lgL qs sz rows p a b j).map frac = L at *
      have hac2 : ((ac pl p : Nat) : Int) = (a : Nat) := by omega
      obtain ⟨i1, i2⟩ := g.idx hp (a4 p b hp hb |> fun hm => (v_pl g.mem hm).2.2.1)
      obtain ⟨i3, i4⟩ := g.idx hp a3
      rw [place_get g hpl] at i4
      have hli := v_law_index g.mem (a4 p b hp hb)
      obtain ⟨s1, s2⟩ := set_parts pl (p := p) (by omega) b
      have hpq : ((p : Nat) : Int) + 1 = ((p + 1 : Nat) : Int) := by omega
      have t1 : sCut (tupN pl) none (some ((p : Nat) : Int)) = some (.val (.tup ((pl.map fun n => PV.int (n : Nat)).take p))) := by rw [s1, cut_t, cut_take]
      have t2 : sCut (tupN pl) (some (((p : Nat) : Int) + 1)) none = some (.val (.tup ((pl.map fun n => PV.int (n : Nat)).drop (p + 1)))) := by rw [s1, hpq, cut_t, cut_drop]
      have t3 : bAdd (.tup ((pl.map fun n => PV.int (n : Nat)).take p)) (.tup [.int (b : Nat)]) = some (.val (.tup ((pl.map fun n => PV.int (n : Nat)).take p ++ [.int (b : Nat)]))) := add_tt (by simp; omega)
      have t4 : bAdd (.tup ((pl.map fun n => PV.int (n : Nat)).take p ++ [.int (b : Nat)])) (.tup ((pl.map fun n => PV.int (n : Nat)).drop (p + 1))) = some (.val (tupN (pl.set p b))) := by
        rw [add_tt (by simp; omega), s2]
        rfl
      have hlt := v_law_times (h.fs _ (List.getElem_mem hjq)) (fs_small (show (dif sz rows p b pl).natAbs ≤ 1000 by have := dif_bd g hmem hp hb; omega)) (by omega)
      rw [frac_int] at hlt
      have hd : worth rows p (place sz (pl.set p b)) - worth rows p j = dif sz rows p b pl := by unfold dif; rw [place_get g hpl]
      have hq := lot_idx h hjq
      generalize tupN (pl.set p b) = late at *
      generalize tupN pl = tpl at *
      simp [hat, hac2, t1, t2, t3, t4, g1, g0, i1, i2, i3, i4, hli, hd, hq, hlt, happ, lenOk, sizeLine]
      exact .mk ⟨rfl, _, _, _, _, rfl⟩
    · have hlg : lgL qs sz rows p a b (j + 1) = lgL qs sz rows p a b j := by
        unfold lgL
        rw [htk, List.filter_append, List.filter_cons_of_neg (by simpa using hac)]
        simp
      rw [hlg]
      have hac2 : ¬ ((ac pl p : Nat) : Int) = (a : Nat) := by omega
      simp [hat, hac2]
      exact .mk ⟨rfl, _, _, _, _, rfl⟩)
  obtain ⟨ρ', S', rfl, y6, y7, y8, y9, rfl, rfl⟩ := hl
  have e3 : (numd 0 ((playsL sz).map tupN)).length = (xs qs sz).length := by rw [numd_len, List.length_map, hxl]
  rw [e3]
  have hcd : ∀ q ∈ lgL qs sz rows p a b (xs qs sz).length, CD D (D * 198 * 64) q := fun q hq => by
    unfold lgL at hq
    obtain ⟨x, hx, rfl⟩ := List.mem_map.mp hq
    have hx := List.mem_of_mem_take (List.mem_filter.mp hx).1
    exact (term_cd g h hp hb hx).mono (by omega)
  have hll : (lgL qs sz rows p a b (xs qs sz).length).length ≤ 64 := by
    unfold lgL
    rw [List.length_map]
    exact Nat.le_trans (List.length_filter_le _ _) (by rw [List.length_take]; omega)
  have hrs : rsum (lgL qs sz rows p a b (xs qs sz).length) = gnR qs sz rows p a b := by
    unfold lgL gnR
    rw [List.take_length]
    exact rsum_filter (fun x : Rat × List Nat => ac x.2 p = a) _ _
  generalize lgL qs sz rows p a b (xs qs sz).length = L at *
  have ht := v_law_totalC (qs := L) (k := 60) (by omega) h.d0 (D_ok h) (big1 h) (big2 h hll) hcd
  rw [hrs] at ht
  generalize L.map frac = LL at *
  simp [ht]
/-! the program's own -/
theorem v_check_player (g : GOk sz rows) {p : Nat} (hp : p < sz.length) : f_check_player [.val (gameP sz rows), .val (.int (p : Nat))] = .ok (.val .non) [] := by
  have g0 : bIdx (gameP sz rows) (.int 0) = some (.val (tupN sz)) := rfl
  have h : inR 0 ((sz.length : Int) - 1) (.int (p : Nat)) = true := by simp [inR]; omega
  simp [f_check_player, d_check_player, g0, h]
theorem sz_idx {p : Nat} (hp : p < sz.length) : bIdx (tupN sz) (.int (p : Nat)) = some (.val (.int (sz.getD p 0 : Nat))) := idx_N (by simp [hp])
theorem v_check_act (g : GOk sz rows) {p a : Nat} (hp : p < sz.length) (ha : a < sz.getD p 0) : f_check_act [.val (gameP sz rows), .val (.int (p : Nat)), .val (.int (a : Nat))] = .ok (.val .non) [] := by
  have g0 : bIdx (gameP sz rows) (.int 0) = some (.val (tupN sz)) := rfl
  have h : inR 0 (((sz.getD p 0 : Nat) : Int) - 1) (.int (a : Nat)) = true := by simp only [inR, Bool.and_eq_true, decide_eq_true_eq]; omega
  have hs := sz_idx hp
  generalize sz.getD p 0 = n at *
  simp [f_check_act, d_check_act, g0, hs, h]
theorem v_gain (g : GOk sz rows) (h : LotOk qs (playsL sz).length D) {p a b : Nat} (hp : p < sz.length) (ha : a < sz.getD p 0) (hb : b < sz.getD p 0) :
    f_gain [.val (gameP sz rows), .val (lotP qs), .val (.int (p : Nat)), .val (.int (a : Nat)), .val (.int (b : Nat))] = .ok (.val (frac (gnR qs sz rows p a b))) [] := by
  have g0 : bIdx (gameP sz rows) (.int 0) = some (.val (tupN sz)) := rfl
  have h1 := v_check_lot_of g h
  have h2 := v_check_player g hp
  have h3 := v_check_act g hp ha
  have h4 : inR 0 (((sz.getD p 0 : Nat) : Int) - 1) (.int (b : Nat)) = true := by simp only [inR, Bool.and_eq_true, decide_eq_true_eq]; omega
  have h5 := v_gain_of g h hp ha hb
  have hs := sz_idx hp
  generalize sz.getD p 0 = n at *
  simp [f_gain, d_gain, h1, h2, h3, g0, hs, h4, h5, lenOk, sizeLine]
theorem v_outside_gain (g : GOk sz rows) (h : LotOk qs (playsL sz).length D) {p b : Nat} (hp : p < sz.length) (hb : b < sz.getD p 0) :
    f_outside_gain [.val (gameP sz rows), .val (lotP qs), .val (.int (p : Nat)), .val (.int (b : Nat))] = .ok (.val (frac (ogR qs sz rows p b))) [] := by
  simp [f_outside_gain, d_outside_gain, v_check_lot_of g h, v_check_player g hp, v_check_act g hp hb, v_outside_by g h hp hb]
theorem v_law_outside (g : GOk sz rows) (h : LotOk qs (playsL sz).length D) {p b : Nat} (hp : p < sz.length) (hb : b < sz.getD p 0) :
    f__law_outside [.val (gameP sz rows), .val (lotP qs), .val (.int (p : Nat)), .val (.int (b : Nat))] = .ok (.val (frac (ogR qs sz rows p b))) [] := by
  have g0 : bIdx (gameP sz rows) (.int 0) = some (.val (tupN sz)) := rfl
  obtain ⟨z1, z4⟩ := sz_le g hp
  have hs := sz_idx hp
  have hgn : ∀ a, a < sz.getD p 0 → f__law_gain [.val (gameP sz rows), .val (lotP qs), .val (.int (p : Nat)), .val (.int (a : Nat)), .val (.int (b : Nat))] = .ok (.val (frac (gnR qs sz rows p a b))) [] := fun a ha => v_law_gain g h hp ha hb
  have ht := v_law_total' (v := .lst (((List.range (sz.getD p 0)).map fun a => gnR qs sz rows p a b).map frac)) rfl (k := 60) (by omega) h.d0 (D_ok h) (big1 h) (big2 h (by simp only [List.length_map, List.length_range]; omega)) (fun q hq => by
    obtain ⟨a, ha, rfl⟩ := List.mem_map.mp hq
    exact gn_cd g h hp hb)
  rw [og_sum g hp, List.map_map] at ht
  have hr := rng1_nat (sz.getD p 0) (by omega)
  generalize sz.getD p 0 = n at *
  simp [f__law_outside, d__law_outside, g0, hs]
  rw [dComp_mapG (ys := List.range n) (g := fun i => .int (i : Nat)) (gs := []) (fun a => frac (gnR qs sz rows p a b)) (by simp [g0, hs, hr]) (by simp; unfold sizeLine; omega) rfl (fun a ha => by
    have ha := List.mem_range.mp ha
    simp [hgn a ha])]
  have e2 : (List.range n).map (fun a => frac (gnR qs sz rows p a b)) = (List.range n).map (frac ∘ fun a => gnR qs sz rows p a b) := rfl
  rw [e2]
  simp [ht]
/-! rules -/
def rgR (qs : List Rat) (sz : List Nat) (rows : List (List Int)) (p : Nat) (r : List Nat) : Rat := rsum ((List.range r.length).map fun a => gnR qs sz rows p a (r.getD a 0))
def natP (r : List Nat) : PV := .lst (r.map fun n => .int (n : Nat))
theorem v_law_rule_gain (g : GOk sz rows) (h : LotOk qs (playsL sz).length D) {p : Nat} (hp : p < sz.length) {r : List Nat} (hr : r.length = sz.getD p 0) (hb : ∀ n ∈ r, n < sz.getD p 0) :
    f__law_rule_gain [.val (gameP sz rows), .val (lotP qs), .val (.int (p : Nat)), .val (natP r)] = .ok (.val (frac (rgR qs sz rows p r))) [] := by
  obtain ⟨z1, z4⟩ := sz_le g hp
  have hat : ∀ a, a < r.length → r.getD a 0 < sz.getD p 0 := fun a ha => by
    have : r.getD a 0 = r[a] := by simp [ha]
    rw [this]
    exact hb _ (List.getElem_mem ha)
  have hgn : ∀ a, a < r.length → f__law_gain [.val (gameP sz rows), .val (lotP qs), .val (.int (p : Nat)), .val (.int (a : Nat)), .val (.int (r.getD a 0 : Nat))] = .ok (.val (frac (gnR qs sz rows p a (r.getD a 0)))) [] := fun a ha => v_law_gain g h hp (by omega) (hat a ha)
  have ht := v_law_total' (v := .lst (((List.range r.length).map fun a => gnR qs sz rows p a (r.getD a 0)).map frac)) rfl (k := 60) (by omega) h.d0 (D_ok h) (big1 h) (big2 h (by simp only [List.length_map, List.length_range]; omega)) (fun q hq => by
    obtain ⟨a, ha, rfl⟩ := List.mem_map.mp hq
    exact gn_cd g h hp (hat a (List.mem_range.mp ha)))
  rw [List.map_map] at ht
  have e0 : r.map (fun n => PV.int (n : Nat)) = (List.range r.length).map fun i => .int (r.getD i 0 : Nat) := map_rng (fun n : Nat => PV.int (n : Nat)) r 0
  have e1 : numd 0 (r.map fun n => PV.int (n : Nat)) = (List.range r.length).map fun i => .tup [.int (i : Nat), .int (r.getD i 0 : Nat)] := by rw [e0, numd_rng]
  have hrl : r.length ≤ 4 := by omega
  simp [f__law_rule_gain, d__law_rule_gain, natP]
  rw [dComp_mapG (ys := List.range r.length) (g := fun i => .tup [.int (i : Nat), .int (r.getD i 0 : Nat)]) (gs := []) (fun a => frac (gnR qs sz rows p a (r.getD a 0))) (by simp [e1]) (by simp; unfold sizeLine; omega) rfl (fun a ha => by
    have ha := List.mem_range.mp ha
    have := hgn a ha
    generalize r.getD a 0 = o at *
    simp [this])]
  have e2 : (List.range r.length).map (fun a => frac (gnR qs sz rows p a (r.getD a 0))) = (List.range r.length).map (frac ∘ fun a => gnR qs sz rows p a (r.getD a 0)) := rfl
  rw [e2]
  have ht2 : f__law_total [.val (.lst ((List.range r.length).map (frac ∘ fun a => gnR qs sz rows p a (r.getD a 0))))] = .ok (.val (frac (rgR qs sz rows p r))) [] := ht
  generalize (List.range r.length).map (frac ∘ fun a => gnR qs sz rows p a (r.getD a 0)) = LL at *
  simp [ht2]
end K41
end
section
set_option Elab.async false
set_option linter.all false
set_option maxHeartbeats 4000000
set_option maxRecDepth 100000
set_option autoImplicit false
namespace K41
open PySem Pf
variable {qs : List Rat} {m D : Nat} {sz : List Nat} {rows : List (List Int)}
theorem r_rng (r : List Nat) : r.map (fun n => PV.int (n : Nat)) = (List.range r.length).map fun i => .int (r.getD i 0 : Nat) := map_rng (fun n : Nat => PV.int (n : Nat)) r 0
theorem take_rng {n j : Nat} (hj : j < n) : (List.range n).take (j + 1) = (List.range n).take j ++ [j] := by
  rw [List.take_succ_eq_append_getElem (by simpa using hj)]
  simp
/-- a list or a tuple of acts -/
def RuP (v : PV) (r : List Nat) : Prop := v = .lst (r.map fun n => .int (n : Nat)) ∨ v = .tup (r.map fun n => .int (n : Nat))
theorem v_rule_gain (g : GOk sz rows) (h : LotOk qs (playsL sz).length D) {p : Nat} (hp : p < sz.length) {r : List Nat} (hr : r.length = sz.getD p 0) (hb : ∀ n ∈ r, n < sz.getD p 0) {v : PV} (hv : RuP v r) :
    f_rule_gain [.val (gameP sz rows), .val (lotP qs), .val (.int (p : Nat)), .val v] = .ok (.val (frac (rgR qs sz rows p r))) [] := by
  have g0 : bIdx (gameP sz rows) (.int 0) = some (.val (tupN sz)) := rfl
  obtain ⟨z1, z4⟩ := sz_le g hp
  have hs := sz_idx hp
  have hat : ∀ a, a < r.length → r.getD a 0 < sz.getD p 0 := fun a ha => by
    have : r.getD a 0 = r[a] := by simp [ha]
    rw [this]
    exact hb _ (List.getElem_mem ha)
  have hil : itemsOf v = some (r.map fun n => .int (n : Nat)) := by rcases hv with rfl | rfl <;> rfl
  have hfl : fLen v = some (.val (.int (r.length : Nat))) := by rcases hv with rfl | rfl <;> simp
  have hL : isL v = true := by rcases hv with rfl | rfl <;> rfl
  have hgn : ∀ a, a < r.length → f_gain_of [.val (gameP sz rows), .val (lotP qs), .val (.tup [.int (p : Nat), .int (a : Nat), .int (r.getD a 0 : Nat)])] = .ok (.val (frac (gnR qs sz rows p a (r.getD a 0)))) [] := fun a ha => v_gain_of g h hp (by omega) (hat a ha)
  have hcd : ∀ q ∈ (List.range r.length).map fun a => gnR qs sz rows p a (r.getD a 0), CD D (D * 198 * 64) q := fun q hq => by
    obtain ⟨a, ha, rfl⟩ := List.mem_map.mp hq
    exact gn_cd g h hp (hat a (List.mem_range.mp ha))
  have hfs : ∀ j, j ≤ r.length → FS 60 (rsum (((List.range r.length).take j).map fun a => gnR qs sz rows p a (r.getD a 0))) := fun j hj => by
    rw [List.map_take]
    exact (cd_rsum fun q hq => hcd q (List.mem_of_mem_take hq)).fs h.d0 (D_ok h) (big2 h (by rw [List.length_take]; simp only [List.length_map, List.length_range]; omega))
  have hfg : ∀ a, a < r.length → FS 60 (gnR qs sz rows p a (r.getD a 0)) := fun a ha => gn_fs g h hp (hat a ha)
  have hall : fAll (.lst (r.map fun n => .bl (inR 0 (((sz.getD p 0 : Nat) : Int) - 1) (.int (n : Nat))))) = some (.val (.bl true)) := by
    rw [fall_mapG]
    congr 3
    rw [List.all_eq_true]
    intro n hn
    have := hb n hn
    simp only [inR, Bool.and_eq_true, decide_eq_true_eq]
    omega
  have hnd : numd 0 (r.map fun n => PV.int (n : Nat)) = (List.range r.length).map fun i => .tup [.int (i : Nat), .int (r.getD i 0 : Nat)] := by rw [r_rng, numd_rng]
  have hz : frac 0 = .tup [.int 0, .int 1] := rfl
  have hck : f_check_rule [.val (gameP sz rows), .val (.int (p : Nat)), .val v] = .ok (.val .non) [] := by
    generalize sz.getD p 0 = n at *
    subst hr
    simp [f_check_rule, d_check_rule, g0, hs, hL, hfl]
    rw [dComp_mapG (ys := r) (g := fun n => .int (n : Nat)) (gs := []) (fun n => .bl (inR 0 ((r.length : Int) - 1) (.int (n : Nat)))) (by simp [hil]) (by unfold sizeLine; omega) rfl (fun n hn => by simp)]
    simp [hall]
  simp [f_rule_gain, d_rule_gain, v_check_lot_of g h, v_check_player g hp, hck, hil, hnd, -frac_0]
  rw [← hz]
  generalize hx : loop _ _ _ _ _ _ = x
  have hl := loop_inv_of hx (fun j ρ S => S = [] ∧ ∃ y5 y6, ρ = [some (.val (gameP sz rows)), some (.val (lotP qs)), some (.val (.int (p : Nat))), some (.val v), some (.val (frac (rsum (((List.range r.length).take j).map fun a => gnR qs sz rows p a (r.getD a 0))))), y5, y6]) (fun i ρ S hI => by rw [hI.1]; rfl) ⟨rfl, none, none, by simp [rsum]⟩ (fun j y hj ρ S hI => by
    obtain ⟨rfl, y5, y6, rfl⟩ := hI
    have hjl : j < r.length := by have := (List.getElem?_eq_some_iff.mp hj).1; simpa using this
    obtain rfl : y = .tup [.int (j : Nat), .int (r.getD j 0 : Nat)] := by
      rw [List.getElem?_map, List.getElem?_range hjl] at hj
      exact (Option.some.inj hj).symm
    have ha := v_add (hfs j (by omega)) (hfg j hjl) (by omega)
    have hg1 := hgn j hjl
    rw [take_rng hjl, List.map_append, rsum_append]
    simp only [List.map_cons, List.map_nil, rsum, Rat.add_zero]
    generalize rsum (((List.range r.length).take j).map fun a => gnR qs sz rows p a (r.getD a 0)) = s at *
    generalize r.getD j 0 = o at *
    generalize frac (gnR qs sz rows p j o) = fg at *
    simp [hg1, ha, lenOk, sizeLine]
    exact .mk ⟨rfl, _, _, rfl⟩)
  obtain ⟨ρ', S', rfl, rfl, y5, y6, rfl⟩ := hl
  rw [List.length_map, List.take_length]
  unfold rgR
  generalize rsum _ = s
  simp
/-! the best act -/
def bp (G : Nat → Rat) (a : Nat) : Nat → Nat × Rat
  | 0 => (a, 0)
  | k + 1 => if (bp G a k).2 < G k then (k, G k) else bp G a k
def bl (G : Nat → Rat) : Nat → Nat
  | 0 => 0
  | k + 1 => if G (bl G k) < G k then k else bl G k
theorem bp_bl (G : Nat → Rat) (a : Nat) : ∀ k, 1 ≤ k → (G (bl G k) ≤ 0 → bp G a k = (a, 0)) ∧ (0 < G (bl G k) → bp G a k = (bl G k, G (bl G k)))
  | 1, _ => by
    have e : bl G 1 = 0 := by
      show (if G (bl G 0) < G 0 then 0 else bl G 0) = 0
      split <;> rfl
    rw [e]
    have e2 : bp G a 1 = if (0 : Rat) < G 0 then (0, G 0) else (a, 0) := rfl
    rw [e2]
    exact ⟨fun h => if_neg (Rat.not_lt.mpr h), fun h => if_pos h⟩
  | k + 2, _ => by
    obtain ⟨h1, h2⟩ := bp_bl G a (k + 1) (by omega)
    have e1 : bl G (k + 2) = if G (bl G (k + 1)) < G (k + 1) then k + 1 else bl G (k + 1) := rfl
    have e2 : bp G a (k + 2) = if (bp G a (k + 1)).2 < G (k + 1) then (k + 1, G (k + 1)) else bp G a (k + 1) := rfl
    rw [e1, e2]
    by_cases hp : 0 < G (bl G (k + 1))
    · rw [h2 hp]
      by_cases hc : G (bl G (k + 1)) < G (k + 1)
      · simp only [hc, if_true]
        refine ⟨fun h => absurd hc (by grind), fun _ => by first | rfl | trivial⟩
      · simp only [hc, if_false]
        exact ⟨fun h => absurd hp (Rat.not_lt.mpr h), fun _ => by first | rfl | trivial⟩
    · have hp' := Rat.not_lt.mp hp
      rw [h1 hp']
      by_cases hz : 0 < G (k + 1)
      · have hc : G (bl G (k + 1)) < G (k + 1) := by grind
        simp only [hc, hz, if_true]
        exact ⟨fun h => absurd hz (Rat.not_lt.mpr h), fun _ => by first | rfl | trivial⟩
      · simp only [hz, if_false]
        refine ⟨fun _ => by first | rfl | trivial, fun h => ?_⟩
        split at h
        · exact absurd h hz
        · exact absurd h hp
theorem bl_lt (G : Nat → Rat) : ∀ k, 1 ≤ k → bl G k < k
  | k + 1, _ => by
    show (if G (bl G k) < G k then k else bl G k) < k + 1
    split
    · omega
    · by_cases hk : k = 0
      · subst hk; exact Nat.zero_lt_one
      · have := bl_lt G k (by omega); omega
theorem bl_max (G : Nat → Rat) : ∀ k o, o < k → G o ≤ G (bl G k)
  | k + 1, o, h => by
    have e1 : bl G (k + 1) = if G (bl G k) < G k then k else bl G k := rfl
    rw [e1]
    by_cases hc : G (bl G k) < G k
    · rw [if_pos hc]
      by_cases ho : o = k
      · subst ho; exact Rat.le_refl
      · have := bl_max G k o (by omega); grind
    · rw [if_neg hc]
      by_cases ho : o = k
      · subst ho; exact Rat.not_lt.mp hc
      · exact bl_max G k o (by omega)
/-- the told rule -/
def bestA (qs : List Rat) (sz : List Nat) (rows : List (List Int)) (p a : Nat) : Nat := (bp (fun o => gnR qs sz rows p a o) a (sz.getD p 0)).1
theorem v_best_act (g : GOk sz rows) (h : LotOk qs (playsL sz).length D) {p a : Nat} (hp : p < sz.length) (ha : a < sz.getD p 0) :
    f_best_act [.val (gameP sz rows), .val (lotP qs), .val (.int (p : Nat)), .val (.int (a : Nat))] = .ok (.val (.int (bestA qs sz rows p a : Nat))) [] := by
  have g0 : bIdx (gameP sz rows) (.int 0) = some (.val (tupN sz)) := rfl
  obtain ⟨z1, z4⟩ := sz_le g hp
  have hs := sz_idx hp
  have hr := rng1_nat (sz.getD p 0) (by omega)
  have hgn : ∀ b, b < sz.getD p 0 → f_gain_of [.val (gameP sz rows), .val (lotP qs), .val (.tup [.int (p : Nat), .int (a : Nat), .int (b : Nat)])] = .ok (.val (frac (gnR qs sz rows p a b))) [] := fun b hb => v_gain_of g h hp ha hb
  have hfg : ∀ b, b < sz.getD p 0 → FS 60 (gnR qs sz rows p a b) := fun b hb => gn_fs g h hp hb
  have hfb : ∀ k, k ≤ sz.getD p 0 → FS 60 (bp (fun o => gnR qs sz rows p a o) a k).2 := fun k => by
    induction k with
    | zero => exact fun _ => fs_0 (by omega)
    | succ k ih =>
      intro hk
      show FS 60 (if _ then _ else _ : Nat × Rat).2
      split
      · exact hfg k (by omega)
      · exact ih (by omega)
  unfold bestA
  generalize sz.getD p 0 = n at *
  have hz : frac 0 = .tup [.int 0, .int 1] := rfl
  simp [f_best_act, d_best_act, g0, hs, hr, -frac_0]
  rw [← hz]
  generalize hx : loop _ _ _ _ _ _ = x
  have hl := loop_inv_of hx (fun j ρ S => S = [] ∧ ∃ y6 y7, ρ = [some (.val (gameP sz rows)), some (.val (lotP qs)), some (.val (.int (p : Nat))), some (.val (.int (a : Nat))), some (.val (.int ((bp (fun o => gnR qs sz rows p a o) a j).1 : Nat))), some (.val (frac (bp (fun o => gnR qs sz rows p a o) a j).2)), y6, y7]) (fun i ρ S hI => by rw [hI.1]; rfl) ⟨rfl, none, none, rfl⟩ (fun j y hj ρ S hI => by
    obtain ⟨rfl, y6, y7, rfl⟩ := hI
    have hjl : j < n := by have := (List.getElem?_eq_some_iff.mp hj).1; simpa using this
    obtain rfl : y = .int (j : Nat) := by
      rw [List.getElem?_map, List.getElem?_range hjl] at hj
      exact (Option.some.inj hj).symm
    have hb := v_is_below (hfb j (by omega)) (hfg j hjl) (by omega)
    have hg1 := hgn j hjl
    have e2 : bp (fun o => gnR qs sz rows p a o) a (j + 1) = if (bp (fun o => gnR qs sz rows p a o) a j).2 < gnR qs sz rows p a j then (j, gnR qs sz rows p a j) else bp (fun o => gnR qs sz rows p a o) a j := rfl
    rw [e2]
    generalize bp (fun o => gnR qs sz rows p a o) a j = B at *
    obtain ⟨B1, B2⟩ := B
    generalize gnR qs sz rows p a j = G at *
    by_cases hc : B2 < G
    · simp [hg1, hb, hc, lenOk, sizeLine]
      exact .mk ⟨rfl, _, _, rfl⟩
    · simp [hg1, hb, hc, lenOk, sizeLine]
      exact .mk ⟨rfl, _, _, rfl⟩)
  obtain ⟨ρ', S', rfl, rfl, y6, y7, rfl⟩ := hl
  simp
def ruleR (qs : List Rat) (sz : List Nat) (rows : List (List Int)) (p : Nat) : List Nat := (List.range (sz.getD p 0)).map fun a => bestA qs sz rows p a
theorem v_told_rule (g : GOk sz rows) (h : LotOk qs (playsL sz).length D) {p : Nat} (hp : p < sz.length) :
    f_told_rule [.val (gameP sz rows), .val (lotP qs), .val (.int (p : Nat))] = .ok (.own (natP (ruleR qs sz rows p))) [] := by
  have g0 : bIdx (gameP sz rows) (.int 0) = some (.val (tupN sz)) := rfl
  obtain ⟨z1, z4⟩ := sz_le g hp
  have hs := sz_idx hp
  have hr := rng1_nat (sz.getD p 0) (by omega)
  have hb : ∀ a, a < sz.getD p 0 → f_best_act [.val (gameP sz rows), .val (lotP qs), .val (.int (p : Nat)), .val (.int (a : Nat))] = .ok (.val (.int (bestA qs sz rows p a : Nat))) [] := fun a ha => v_best_act g h hp ha
  have e : natP (ruleR qs sz rows p) = .lst ((List.range (sz.getD p 0)).map fun a => .int (bestA qs sz rows p a : Nat)) := by simp [natP, ruleR]
  rw [e]
  generalize sz.getD p 0 = n at *
  simp [f_told_rule, d_told_rule, v_check_lot_of g h, v_check_player g hp]
  rw [dComp_mapG (ys := List.range n) (g := fun i => .int (i : Nat)) (gs := []) (fun a => .int (bestA qs sz rows p a : Nat)) (by simp [g0, hs, hr]) (by simp; unfold sizeLine; omega) rfl (fun a ha => by simp [hb a (List.mem_range.mp ha)])]
  simp
end K41
end
section
set_option Elab.async false
set_option linter.all false
set_option maxHeartbeats 4000000
set_option maxRecDepth 100000
set_option autoImplicit false
namespace K41
open PySem Pf
def TrP (r : FRes) : Prop := ∃ p', r = .ok (.val (.bl true)) [.live p'] ∧ PotOk p'
theorem TrP.mk {p : PV} (h : PotOk p) : TrP (.ok (.val (.bl true)) [.live p]) := ⟨p, rfl, h⟩
theorem rng_at (n : Nat) (h : n < 1000) : rng1 [.int (n : Int)] = some ((List.range n).map fun i => .int (i : Nat)) := rng1_nat n (by omega)
theorem eqvAll_ints : ∀ xs ys : List Int, PyData.eqvAll (toDs (xs.map .int)) (toDs (ys.map .int)) = decide (xs = ys)
  | [], [] => by simp [toDs, PyData.eqvAll]
  | [], y :: ys => by simp [toDs, PyData.eqvAll]
  | x :: xs, [] => by simp [toDs, PyData.eqvAll]
  | x :: xs, y :: ys => by
    have ih := eqvAll_ints xs ys
    simp only [List.map_cons, toDs, toD, PyData.eqvAll, ih]
    rw [Bool.eq_iff_iff]
    simp [PyData.eqv]
theorem dat_i : ∀ zs : List Int, (zs.map PV.int).all (dat 59) = true := fun zs => by rw [List.all_map, List.all_eq_true]; exact fun x _ => rfl
theorem beq_ints (xs ys : List Int) : bEq (.lst (xs.map .int)) (.lst (ys.map .int)) = some (.val (.bl (decide (xs = ys)))) := by
  have e : eqv (.lst (xs.map .int)) (.lst (ys.map .int)) = decide (xs = ys) := by
    rw [← eqvAll_ints]
    simp [eqv, toD, PyData.eqv]
  have d : ∀ zs : List Int, dat 60 (.lst (zs.map .int)) = true := fun zs => by
    unfold dat
    exact dat_i zs
  simp [bEq, isS, d, e]
theorem bne_frac (p q : Rat) : bNe (frac p) (frac q) = some (.val (.bl (!decide (p = q)))) := by
  have e : eqv (frac p) (frac q) = decide (p = q) := by
    rw [Bool.eq_iff_iff]
    simp only [eqv, frac, toD, toDs, PyData.eqv, PyData.eqvAll, Bool.and_true, Bool.and_eq_true, beq_iff_eq, decide_eq_true_eq]
    constructor
    · rintro ⟨h1, h2⟩
      exact Rat.ext h1 (by omega)
    · rintro rfl; exact ⟨rfl, rfl⟩
  have d : ∀ q : Rat, dat 60 (frac q) = true := fun q => by simp [frac, dat]
  have s : ∀ q : Rat, isS (frac q) = false := fun q => rfl
  simp [bNe, s, d, e]
variable {qs : List Rat} {m D : Nat} {sz : List Nat} {rows : List (List Int)}
/-! rules that are told -/
theorem bestA_eq (g : GOk sz rows) {p a : Nat} (hp : p < sz.length) : bestA qs sz rows p a = if 0 < gnR qs sz rows p a (bl (fun o => gnR qs sz rows p a o) (sz.getD p 0)) then bl (fun o => gnR qs sz rows p a o) (sz.getD p 0) else a := by
  obtain ⟨z1, z4⟩ := sz_le g hp
  obtain ⟨h1, h2⟩ := bp_bl (fun o => gnR qs sz rows p a o) a (sz.getD p 0) z1
  unfold bestA
  split
  · next h => rw [h2 h]
  · next h => rw [h1 (Rat.not_lt.mp h)]
theorem bestA_lt (g : GOk sz rows) {p a : Nat} (hp : p < sz.length) (ha : a < sz.getD p 0) : bestA qs sz rows p a < sz.getD p 0 := by
  rw [bestA_eq g hp]
  obtain ⟨z1, z4⟩ := sz_le g hp
  split
  · exact bl_lt _ _ z1
  · exact ha
theorem gn_self (g : GOk sz rows) {p a : Nat} (hp : p < sz.length) : gnR qs sz rows p a a = 0 := by
  unfold gnR
  rw [rsum_congr (g := fun _ => (0 : Rat)) fun x hx => ?_]
  · exact rsum_zero _
  · by_cases hc : ac x.2 p = a
    · rw [if_pos hc]
      have hmem := (xs_mem hx).2
      obtain ⟨a1, a2, a3, a4⟩ := v_pl g.mem hmem
      have hs : x.2.set p a = x.2 := by
        have h1 : p < x.2.length := by omega
        have h2 : x.2[p] = a := by simpa [ac, h1] using hc
        rw [← h2]
        exact List.set_getElem_self h1
      unfold dif
      rw [hs, Int.sub_self]
      grind
    · rw [if_neg hc]
theorem best_max (g : GOk sz rows) {p a o : Nat} (hp : p < sz.length) (ho : o < sz.getD p 0) : gnR qs sz rows p a o ≤ gnR qs sz rows p a (bestA qs sz rows p a) := by
  have h1 := bl_max (fun o => gnR qs sz rows p a o) (sz.getD p 0) o ho
  rw [bestA_eq g hp]
  split
  · exact h1
  · next h =>
    rw [gn_self g hp]
    have := Rat.not_lt.mp h
    exact Rat.le_trans h1 this
theorem rule_len {p : Nat} : (ruleR qs sz rows p).length = sz.getD p 0 := by simp [ruleR]
theorem rule_at {p a : Nat} (ha : a < sz.getD p 0) : (ruleR qs sz rows p).getD a 0 = bestA qs sz rows p a := by
  have h : (ruleR qs sz rows p)[a]? = some (bestA qs sz rows p a) := by
    unfold ruleR
    rw [List.getElem?_map, List.getElem?_range ha]
    rfl
  rw [List.getD_eq_getElem?_getD, h]
  rfl
theorem rule_lt (g : GOk sz rows) {p : Nat} (hp : p < sz.length) : ∀ n ∈ ruleR qs sz rows p, n < sz.getD p 0 := fun n hn => by
  obtain ⟨a, ha, rfl⟩ := List.mem_map.mp hn
  exact bestA_lt g hp (List.mem_range.mp ha)
theorem rule_most (g : GOk sz rows) {p : Nat} (hp : p < sz.length) {r : List Nat} (hr : r.length = sz.getD p 0) (hb : ∀ n ∈ r, n < sz.getD p 0) : rgR qs sz rows p r ≤ rgR qs sz rows p (ruleR qs sz rows p) := by
  unfold rgR
  rw [rule_len, hr]
  refine rsum_le fun a ha => ?_
  have ha := List.mem_range.mp ha
  rw [rule_at ha]
  refine best_max g hp (hb _ ?_)
  have h1 : a < r.length := by omega
  have : r.getD a 0 = r[a] := by simp [h1]
  rw [this]
  exact List.getElem_mem h1
theorem rg_same (g : GOk sz rows) {p b : Nat} (hp : p < sz.length) : rgR qs sz rows p (List.replicate (sz.getD p 0) b) = ogR qs sz rows p b := by
  rw [← og_sum g hp]
  unfold rgR
  rw [List.length_replicate]
  exact rsum_congr fun a ha => by
    have ha := List.mem_range.mp ha
    have : (List.replicate (sz.getD p 0) b).getD a 0 = b := by rw [List.getD_eq_getElem?_getD, List.getElem?_replicate, if_pos ha]; rfl
    rw [this]
theorem rg_id (g : GOk sz rows) {p : Nat} (hp : p < sz.length) : rgR qs sz rows p (List.range (sz.getD p 0)) = 0 := by
  unfold rgR
  rw [List.length_range, rsum_congr (g := fun _ => (0 : Rat)) fun a ha => ?_]
  · exact rsum_zero _
  · have ha := List.mem_range.mp ha
    have : (List.range (sz.getD p 0)).getD a 0 = a := by rw [List.getD_eq_getElem?_getD, List.getElem?_range ha]; rfl
    rw [this]
    exact gn_self g hp
theorem og_fs (g : GOk sz rows) (h : LotOk qs (playsL sz).length D) {p b : Nat} (hp : p < sz.length) (hb : b < sz.getD p 0) : FS 60 (ogR qs sz rows p b) := by
  obtain ⟨z1, z4⟩ := sz_le g hp
  rw [← og_sum g hp]
  exact (cd_rsum fun q hq => by
    obtain ⟨a, ha, rfl⟩ := List.mem_map.mp hq
    exact gn_cd g h hp hb).fs h.d0 (D_ok h) (big2 h (by simp only [List.length_map, List.length_range]; omega))
theorem rg_fs (g : GOk sz rows) (h : LotOk qs (playsL sz).length D) {p : Nat} (hp : p < sz.length) {r : List Nat} (hr : r.length = sz.getD p 0) (hb : ∀ n ∈ r, n < sz.getD p 0) : FS 60 (rgR qs sz rows p r) := by
  obtain ⟨z1, z4⟩ := sz_le g hp
  exact (cd_rsum fun q hq => by
    obtain ⟨a, ha, rfl⟩ := List.mem_map.mp hq
    have ha := List.mem_range.mp ha
    have : r.getD a 0 = r[a] := by simp [ha]
    rw [this]
    exact gn_cd g h hp (hb _ (List.getElem_mem ha))).fs h.d0 (D_ok h) (big2 h (by simp only [List.length_map, List.length_range]; omega))
end K41
end
section
set_option Elab.async false
set_option linter.all false
set_option maxHeartbeats 4000000
set_option maxRecDepth 100000
set_option autoImplicit false
namespace K41
open PySem Pf
variable {qs : List Rat} {m D : Nat} {sz : List Nat} {rows : List (List Int)}
def natC (xs : List Nat) : List Int := xs.map fun n : Nat => (n : Int)
theorem natC_P (xs : List Nat) : natP xs = .lst ((natC xs).map .int) := by simp [natP, natC]
theorem beq_natP (xs : List Nat) : bEq (natP xs) (natP xs) = some (.val (.bl true)) := by
  rw [natC_P]
  simpa using beq_ints (natC xs) (natC xs)
theorem bd_natP {xs : List Nat} (h : ∀ n ∈ xs, n < 1000) (hl : xs.length ≤ 20) : Bd 1 1000 (natP xs) := (bd_lst (m := 20) (n := 0) (k := 20) (fun x hx => by
  obtain ⟨n, hn, rfl⟩ := List.mem_map.mp hx
  have := h n hn
  exact bd_int (by omega)) (by rw [List.length_map]; exact hl)).mono (by omega) (by omega)
theorem v_law_rule_gainC (g : GOk sz rows) (h : LotOk qs (playsL sz).length D) {p : Nat} (hp : p < sz.length) {r : List Nat} (hr : r.length = sz.getD p 0) (hb : ∀ n ∈ r, n < sz.getD p 0) :
    f__law_rule_gain [.val (gameP sz rows), .val (lotP qs), .val (.int (p : Nat)), .cel (natP r)] = .ok (.val (frac (rgR qs sz rows p r))) [.live (natP r)] := by
  obtain ⟨z1, z4⟩ := sz_le g hp
  have hat : ∀ a, a < r.length → r.getD a 0 < sz.getD p 0 := fun a ha => by
    have : r.getD a 0 = r[a] := by simp [ha]
    rw [this]
    exact hb _ (List.getElem_mem ha)
  have hgn : ∀ a, a < r.length → f__law_gain [.val (gameP sz rows), .val (lotP qs), .val (.int (p : Nat)), .val (.int (a : Nat)), .val (.int (r.getD a 0 : Nat))] = .ok (.val (frac (gnR qs sz rows p a (r.getD a 0)))) [] := fun a ha => v_law_gain g h hp (by omega) (hat a ha)
  have ht := v_law_total' (v := .lst (((List.range r.length).map fun a => gnR qs sz rows p a (r.getD a 0)).map frac)) rfl (k := 60) (by omega) h.d0 (D_ok h) (big1 h) (big2 h (by simp only [List.length_map, List.length_range]; omega)) (fun q hq => by
    obtain ⟨a, ha, rfl⟩ := List.mem_map.mp hq
    exact gn_cd g h hp (hat a (List.mem_range.mp ha)))
  rw [List.map_map] at ht
  have e0 : r.map (fun n => PV.int (n : Nat)) = (List.range r.length).map fun i => .int (r.getD i 0 : Nat) := map_rng (fun n : Nat => PV.int (n : Nat)) r 0
  have e1 : numd 0 (r.map fun n => PV.int (n : Nat)) = (List.range r.length).map fun i => .tup [.int (i : Nat), .int (r.getD i 0 : Nat)] := by rw [e0, numd_rng]
  have hrl : r.length ≤ 4 := by omega
  simp [f__law_rule_gain, d__law_rule_gain, natP]
  rw [dComp_mapG (ys := List.range r.length) (g := fun i => .tup [.int (i : Nat), .int (r.getD i 0 : Nat)]) (gs := [(0, .lst (r.map fun n => .int (n : Nat)))]) (fun a => frac (gnR qs sz rows p a (r.getD a 0))) (by simp [e1]) (by simp; unfold sizeLine; omega) (by simp [chkG, same_refl]) (fun a ha => by
    have ha := List.mem_range.mp ha
    have := hgn a ha
    generalize r.getD a 0 = o at *
    simp [this])]
  have e2 : (List.range r.length).map (fun a => frac (gnR qs sz rows p a (r.getD a 0))) = (List.range r.length).map (frac ∘ fun a => gnR qs sz rows p a (r.getD a 0)) := rfl
  rw [e2]
  have ht2 : f__law_total [.val (.lst ((List.range r.length).map (frac ∘ fun a => gnR qs sz rows p a (r.getD a 0))))] = .ok (.val (frac (rgR qs sz rows p r))) [] := ht
  generalize (List.range r.length).map (frac ∘ fun a => gnR qs sz rows p a (r.getD a 0)) = LL at *
  simp [ht2]
theorem app_natP {xs : List Nat} {n : Nat} (h : xs.length ≤ 1000) : appF (.int (n : Nat)) (natP xs) = some (natP (xs ++ [n]), .non) := by
  unfold natP
  rw [app_ok (by rw [List.length_map]; omega), List.map_append]
  rfl
theorem v_player_right (g : GOk sz rows) (h : LotOk qs (playsL sz).length D) {p : Nat} (hp : p < sz.length) {pot : PV} (hpot : PotOk pot) :
    TrP (f__law_player_right [.cel pot, .val (gameP sz rows), .val (lotP qs), .val (.int (p : Nat))]) := by
  have g0 : bIdx (gameP sz rows) (.int 0) = some (.val (tupN sz)) := rfl
  obtain ⟨z1, z4⟩ := sz_le g hp
  have hs := sz_idx hp
  have hr := rng_at (sz.getD p 0) (by omega)
  have hgain : ∀ a o, a < sz.getD p 0 → o < sz.getD p 0 → f_gain [.val (gameP sz rows), .val (lotP qs), .val (.int (p : Nat)), .val (.int (a : Nat)), .val (.int (o : Nat))] = .ok (.val (frac (gnR qs sz rows p a o))) [] := fun a o ha ho => v_gain g h hp ha ho
  have hlgain : ∀ a o, a < sz.getD p 0 → o < sz.getD p 0 → f__law_gain [.val (gameP sz rows), .val (lotP qs), .val (.int (p : Nat)), .val (.int (a : Nat)), .val (.int (o : Nat))] = .ok (.val (frac (gnR qs sz rows p a o))) [] := fun a o ha ho => v_law_gain g h hp ha ho
  have hgfs : ∀ a o, o < sz.getD p 0 → FS 60 (gnR qs sz rows p a o) := fun a o ho => gn_fs g h hp ho
  have hout : ∀ a, a < sz.getD p 0 → f_outside_gain [.val (gameP sz rows), .val (lotP qs), .val (.int (p : Nat)), .val (.int (a : Nat))] = .ok (.val (frac (ogR qs sz rows p a))) [] := fun a ha => v_outside_gain g h hp ha
  have hlout : ∀ a, a < sz.getD p 0 → f__law_outside [.val (gameP sz rows), .val (lotP qs), .val (.int (p : Nat)), .val (.int (a : Nat))] = .ok (.val (frac (ogR qs sz rows p a))) [] := fun a ha => v_law_outside g h hp ha
  have hofs : ∀ a, a < sz.getD p 0 → FS 60 (ogR qs sz rows p a) := fun a ha => og_fs g h hp ha
  have hrg : ∀ r : List Nat, r.length = sz.getD p 0 → (∀ n ∈ r, n < sz.getD p 0) → ∀ v, RuP v r → f_rule_gain [.val (gameP sz rows), .val (lotP qs), .val (.int (p : Nat)), .val v] = .ok (.val (frac (rgR qs sz rows p r))) [] := fun r h1 h2 v h3 => v_rule_gain g h hp h1 h2 h3
  have hlrg : ∀ r : List Nat, r.length = sz.getD p 0 → (∀ n ∈ r, n < sz.getD p 0) → f__law_rule_gain [.val (gameP sz rows), .val (lotP qs), .val (.int (p : Nat)), .val (natP r)] = .ok (.val (frac (rgR qs sz rows p r))) [] := fun r h1 h2 => v_law_rule_gain g h hp h1 h2
  have hlrgC : ∀ r : List Nat, r.length = sz.getD p 0 → (∀ n ∈ r, n < sz.getD p 0) → f__law_rule_gain [.val (gameP sz rows), .val (lotP qs), .val (.int (p : Nat)), .cel (natP r)] = .ok (.val (frac (rgR qs sz rows p r))) [.live (natP r)] := fun r h1 h2 => v_law_rule_gainC g h hp h1 h2
  have hrfs : ∀ r : List Nat, r.length = sz.getD p 0 → (∀ n ∈ r, n < sz.getD p 0) → FS 60 (rgR qs sz rows p r) := fun r h1 h2 => rg_fs g h hp h1 h2
  have htold := v_told_rule g h hp
  have hsame : ∀ b, rgR qs sz rows p (List.replicate (sz.getD p 0) b) = ogR qs sz rows p b := fun b => rg_same g hp
  have hid := rg_id (qs := qs) g hp
  have hmost : ∀ r : List Nat, r.length = sz.getD p 0 → (∀ n ∈ r, n < sz.getD p 0) → rgR qs sz rows p r ≤ rgR qs sz rows p (ruleR qs sz rows p) := fun r h1 h2 => rule_most g hp h1 h2
  have hrl : (ruleR qs sz rows p).length = sz.getD p 0 := rule_len
  have hrlt := rule_lt (qs := qs) g hp
  have hbest : ∀ a, bestA qs sz rows p a = if 0 < gnR qs sz rows p a (bl (fun o => gnR qs sz rows p a o) (sz.getD p 0)) then bl (fun o => gnR qs sz rows p a o) (sz.getD p 0) else a := fun a => bestA_eq g hp
  have hrt : ∀ j, j < sz.getD p 0 → (ruleR qs sz rows p).take (j + 1) = (ruleR qs sz rows p).take j ++ [bestA qs sz rows p j] := fun j hj => by
    unfold ruleR
    rw [← List.map_take, take_rng hj, List.map_append, List.map_take]
    rfl
  generalize ruleR qs sz rows p = rule at *
  generalize sz.getD p 0 = n at *
  simp [f__law_player_right, d__law_player_right, g0, hs, hr, lenOk, sizeLine]
  generalize hx : loop _ _ _ _ _ _ = x
  have hl := loop_inv_of hx (fun j ρ S => ∃ y6 y7 y8 y9 y10, S = [.live pot, .live (natP (rule.take j))] ∧ ρ = [some (.ref 0), some (.val (gameP sz rows)), some (.val (lotP qs)), some (.val (.int (p : Nat))), some (.val (.int (n : Nat))), some (.ref 1), y6, y7, y8, y9, y10, none, none, none]) (fun _ _ _ _ => rfl) ⟨none, none, none, none, none, rfl, rfl⟩ (fun j y hj ρ S hI => by
    obtain ⟨y6, y7, y8, y9, y10, rfl, rfl⟩ := hI
    have hjn : j < n := by have := (List.getElem?_eq_some_iff.mp hj).1; simpa using this
    obtain rfl : y = .int (j : Nat) := by
      rw [List.getElem?_map, List.getElem?_range hjn] at hj
      exact (Option.some.inj hj).symm
    obtain ⟨G, hG⟩ : ∃ G : Nat → Rat, G = fun o => gnR qs sz rows p j o := ⟨_, rfl⟩
    have hGe : ∀ o, gnR qs sz rows p j o = G o := fun o => by rw [hG]
    have hb1 := hbest j
    rw [← hG, hGe] at hb1
    simp
    rw [dComp_mapG (ys := List.range n) (g := fun i => .int (i : Nat)) (gs := []) (fun o => frac (G o)) (by simp [hr]) (by simp; unfold sizeLine; omega) rfl (fun o ho => by
      have := hlgain j o hjn (List.mem_range.mp ho)
      rw [hGe] at this
      simp [this])]
    have hnd : numd 0 ((List.range n).map fun o => frac (G o)) = (List.range n).map fun o => .tup [.int (o : Nat), frac (G o)] := numd_rng _ n
    have hix : ∀ o, o < n → bIdx (.lst ((List.range n).map fun o => frac (G o))) (.int (o : Nat)) = some (.val (frac (G o))) := fun o ho => idx_rngL ho
    generalize hSM : PV.lst ((List.range n).map fun o => frac (G o)) = SM at *
    have hil : itemsOf SM = some ((List.range n).map fun o => frac (G o)) := by rw [← hSM]; rfl
    simp [hil, hnd]
    generalize hx2 : loop _ _ _ _ _ _ = x2
    have hl2 := loop_inv_of hx2 (fun k ρ S => S = [.live pot, .live (natP (rule.take j))] ∧ ∃ y9 y10, ρ = [some (.ref 0), some (.val (gameP sz rows)), some (.val (lotP qs)), some (.val (.int (p : Nat))), some (.val (.int (n : Nat))), some (.ref 1), some (.val (.int (j : Nat))), some (.val SM), some (.val (.int (bl G k : Nat))), y9, y10, none, none, none]) (fun _ _ _ hI => by rw [hI.1]; rfl) ⟨rfl, y9, y10, rfl⟩ (fun k z hk ρ S hI => by
      obtain ⟨rfl, y9, y10, rfl⟩ := hI
      have hkn : k < n := by have := (List.getElem?_eq_some_iff.mp hk).1; simpa using this
      obtain rfl : z = .tup [.int (k : Nat), frac (G k)] := by
        rw [List.getElem?_map, List.getElem?_range hkn] at hk
        exact (Option.some.inj hk).symm
      have hblk : bl G k < n := by
        by_cases h0 : k = 0
        · subst h0; exact z1
        · have := bl_lt G k (by omega); omega
      have e1 := hgain j k hjn hkn
      rw [hGe] at e1
      have f1 := hgfs j k hkn
      have f2 := hgfs j (bl G k) hblk
      rw [hGe] at f1 f2
      have hrep := repB2 (bd_frac f1 (by omega)) (bd_frac f1 (by omega)) (by omega) (by omega)
      have hbel := v_law_below f2 f1 (by omega)
      have hi := hix _ hblk
      have ebl : bl G (k + 1) = if G (bl G k) < G k then k else bl G k := rfl
      rw [ebl]
      generalize frac (G k) = fk at *
      generalize frac (G (bl G k)) = fb at *
      by_cases hc : G (bl G k) < G k
      · simp [e1, permL, hrep, hi, hbel, hc]
        exact .mk ⟨rfl, _, _, rfl⟩
      · simp [e1, permL, hrep, hi, hbel, hc]
        exact .mk ⟨rfl, _, _, rfl⟩)
    obtain ⟨ρ', S', rfl, rfl, y9, y10, rfl⟩ := hl2
    clear hx2
    have e3 : ((List.range n).map fun o => PV.tup [.int (o : Nat), frac (G o)]).length = n := by simp
    rw [e3]
    have hbn : bl G n < n := bl_lt G n z1
    have hib := hix _ hbn
    have hi0 := idx_f0 (G (bl G n))
    have hnp : (0 < (G (bl G n)).num) ↔ 0 < G (bl G n) := by rw [Rat.lt_iff]; simp
    have e4 := hlout j hjn
    have e5 := hout j hjn
    have f4 := hofs j hjn
    have hrep4 := repB2 (bd_frac f4 (by omega)) (bd_frac f4 (by omega)) (by omega) (by omega)
    have e6 := hrg (List.replicate n j) (by simp) (fun k hk => by rw [(List.mem_replicate.mp hk).2]; exact hjn) _ (.inl rfl)
    rw [hsame] at e6
    have hmul : bMul (.lst [.int (j : Nat)]) (.int (n : Nat)) = some (.own (.lst ((List.replicate n j).map fun n => .int (n : Nat)))) := by
      rw [mul_l (by simp; omega) (by omega)]
      simp
    have hne := bne_frac (ogR qs sz rows p j) (ogR qs sz rows p j)
    simp at hne
    have happ : ∀ b, appF (.int (b : Nat)) (natP (rule.take j)) = some (natP (rule.take j ++ [b]), .non) := fun b => app_natP (by rw [List.length_take]; omega)
    have hck : ∃ xs, natP (rule.take j) = .lst xs := ⟨_, rfl⟩
    obtain ⟨NL, hNL⟩ := hck
    rw [hNL] at happ ⊢
    rw [hrt j hjn]
    have hbb : bestA qs sz rows p j = if 0 < G (bl G n) then bl G n else j := hb1
    rw [hbb]
    generalize frac (ogR qs sz rows p j) = fo at *
    generalize frac (G (bl G n)) = fg at *
    generalize PV.lst ((List.replicate n j).map fun n => PV.int (n : Nat)) = RL at *
    by_cases hpos : 0 < G (bl G n)
    · have hn0 := hnp.mpr hpos
      simp [hib, hi0, hn0, happ, e4, e5, e6, permL, hrep4, hmul, hne, lenOk, sizeLine]
      rw [if_pos hpos]
      exact .mk ⟨rfl, _, _, _, _, _, rfl⟩
    · have hn0 : ¬ 0 < (G (bl G n)).num := fun z => hpos (hnp.mp z)
      simp [hib, hi0, hn0, happ, e4, e5, e6, permL, hrep4, hmul, hne, lenOk, sizeLine]
      rw [if_neg hpos]
      exact .mk ⟨rfl, _, _, _, _, _, rfl⟩)
  obtain ⟨ρ', S', rfl, y6, y7, y8, y9, y10, rfl, rfl⟩ := hl
  clear hx
  have e7 : ((List.range n).map fun i => PV.int (i : Nat)).length = rule.length := by simp [hrl]
  rw [e7, List.take_length]
  have hrn : ∀ k ∈ rule, k < 1000 := fun k hk => by have := hrlt k hk; omega
  have hrepR := repB2 (bd_natP hrn (by omega)) (bd_natP hrn (by omega)) (by omega) (by omega)
  have hown := hlrgC rule hrl hrlt
  have fown := hrfs rule hrl hrlt
  have hr4 := rng_at 4 (by omega)
  simp only [Int.cast_ofNat_Int] at hr4
  simp [htold, permL, hrepR, hown, hr4]
  generalize hx : loop _ _ _ _ _ _ = x
  have hl := loop_keep_of hx (fun ρ S => ∃ q y9 y11 y12 y6, PotOk q ∧ S = [.live q, .live (natP rule)] ∧ ρ = [some (.ref 0), some (.val (gameP sz rows)), some (.val (lotP qs)), some (.val (.int (p : Nat))), some (.val (.int (n : Nat))), some (.ref 1), y6, y7, y8, y9, some (.val (frac (rgR qs sz rows p rule))), y11, y12, none]) (fun ρ S ⟨_, _, _, _, _, _, e, _⟩ => by rw [e]; rfl) ⟨pot, _, _, _, _, hpot, rfl, rfl⟩ (fun y hy ρ S hI => by
    obtain ⟨q, y9, y11, y12, y6, hq, rfl, rfl⟩ := hI
    simp
    generalize hx3 : dComp _ _ _ _ _ _ _ = x3
    obtain ⟨ps, q', rfl, hq', hps⟩ := dComp_pot_of hx3 ((List.range n).map fun i => .int (i : Nat)) (fun _ y => ∃ d : Nat, y = .int (d : Nat) ∧ d < n) (by simp [hr]) (by simp; unfold sizeLine; omega) hq (fun x hx q hq => by
      obtain ⟨q', d, e, hq', d0, d1⟩ := v_law_draw hq (many := n) (by omega) (by omega)
      obtain ⟨d, rfl⟩ := Int.eq_ofNat_of_zero_le d0
      exact ⟨q', .val (.int (d : Nat)), .int (d : Nat), by simp [e], .inl rfl, hq', d, rfl, by omega⟩)
    clear hx3
    obtain ⟨r, rfl, hrb⟩ : ∃ r : List Nat, ps = r.map (fun n => PV.int (n : Nat)) ∧ ∀ k ∈ r, k < n := by
      have hall := paired_all hps fun x y h => h
      clear hps
      induction ps with
      | nil => exact ⟨[], rfl, fun k hk => by cases hk⟩
      | cons y ps ih =>
        obtain ⟨d, rfl, hd⟩ := hall y List.mem_cons_self
        obtain ⟨r, rfl, hr⟩ := ih fun z hz => hall z (List.mem_cons_of_mem _ hz)
        exact ⟨d :: r, rfl, fun k hk => by
          rcases List.mem_cons.mp hk with e | hk
          · subst e; exact hd
          · exact hr k hk⟩
    have hrl2 : r.length = n := by have := paired_len hps; simpa using this.symm
    have e1 := hlrg r hrl2 hrb
    have e2 := hrg r hrl2 hrb _ (.inl rfl)
    have e3 := hrg r hrl2 hrb _ (.inr rfl)
    have f1 := hrfs r hrl2 hrb
    have hrep := repB2 (bd_frac f1 (by omega)) (bd_frac f1 (by omega)) (by omega) (by omega)
    have hbel := v_law_below fown f1 (by omega)
    have hnb : ¬ rgR qs sz rows p rule < rgR qs sz rows p r := Rat.not_lt.mpr (hmost r hrl2 hrb)
    have hck : natP r = .lst (r.map fun n => .int (n : Nat)) := rfl
    rw [hck] at e1
    generalize frac (rgR qs sz rows p r) = fr at *
    generalize frac (rgR qs sz rows p rule) = fru at *
    generalize r.map (fun n => PV.int (n : Nat)) = RL at *
    simp [e1, e2, e3, permL, hrep, hbel, hnb]
    exact .mk ⟨q', hq', rfl, _, _, _, _, rfl⟩)
  obtain ⟨ρ', S', rfl, q', y9', y11, y12, y6', hq', rfl, rfl⟩ := hl
  clear hx
  have hbeq := beq_natP rule
  have hidr := hrg (List.range n) (by simp) (fun k hk => List.mem_range.mp hk) _ (.inl rfl)
  rw [hid] at hidr
  have hlr : ∀ S, lrM (.val (.int (n : Nat))) S = .ok (.own (.lst ((List.range n).map fun i => .int (i : Nat)))) S := fun S => lrM_ok (by omega)
  have heq0 := eqv_frac 0 0
  have hz : frac 0 = .tup [.int 0, .int 1] := rfl
  rw [hz] at heq0 hidr
  simp at heq0
  have happ : appF .non (natP rule) = some (.lst ((rule.map fun n => .int (n : Nat)) ++ [.non]), .non) := by
    unfold natP
    exact app_ok (by rw [List.length_map]; omega)
  obtain ⟨NL, hNL⟩ : ∃ xs, natP rule = .lst xs := ⟨_, rfl⟩
  rw [hNL] at htold happ hbeq ⊢
  simp [htold, happ, hbeq, hlr, hidr, heq0, lenOk, sizeLine]
  exact TrP.mk hq'
end K41
end
section
set_option Elab.async false
set_option linter.all false
set_option maxHeartbeats 4000000
set_option maxRecDepth 100000
set_option autoImplicit false
namespace K41
open PySem Pf
variable {qs : List Rat} {m D : Nat} {sz : List Nat} {rows : List (List Int)}
/-! incentives -/
def trip (x : Nat × Nat × Nat) : PV := .tup [.int (x.1 : Nat), .int (x.2.1 : Nat), .int (x.2.2 : Nat)]
def incA (p n a : Nat) : List (Nat × Nat × Nat) := ((List.range n).filter fun o => decide (o ≠ a)).map fun o => (p, a, o)
def incP (sz : List Nat) (p : Nat) : List (Nat × Nat × Nat) := (List.range (sz.getD p 0)).flatMap (incA p (sz.getD p 0))
def incL (sz : List Nat) (k : Nat) : List (Nat × Nat × Nat) := (List.range k).flatMap (incP sz)
theorem fm_succ {α : Type} (f : Nat → List α) (k : Nat) : (List.range (k + 1)).flatMap f = (List.range k).flatMap f ++ f k := by rw [List.range_succ, List.flatMap_append]; simp
theorem fm_len {α : Type} (f : Nat → List α) (b : Nat) : ∀ k, (∀ i, i < k → (f i).length ≤ b) → ((List.range k).flatMap f).length ≤ b * k
  | 0, _ => by simp
  | k + 1, h => by
    rw [fm_succ, List.length_append]
    have := fm_len f b k fun i hi => h i (by omega)
    have := h k (by omega)
    rw [Nat.mul_succ]
    omega
theorem incA_len {p n a : Nat} : (incA p n a).length ≤ n := by
  unfold incA
  rw [List.length_map]
  exact Nat.le_trans (List.length_filter_le _ _) (by simp)
theorem incP_len (g : GOk sz rows) {p : Nat} (hp : p < sz.length) : (incP sz p).length ≤ 16 := by
  obtain ⟨z1, z4⟩ := sz_le g hp
  have := fm_len (incA p (sz.getD p 0)) 4 (sz.getD p 0) fun i _ => Nat.le_trans incA_len z4
  unfold incP
  omega
theorem sz_enum (sz : List Nat) : numd 0 (sz.map fun n => PV.int (n : Nat)) = (List.range sz.length).map fun i => .tup [.int (i : Nat), .int (sz.getD i 0 : Nat)] := by rw [r_rng, numd_rng]
theorem v_incentives_of (g : GOk sz rows) : f_incentives_of [.val (gameP sz rows)] = .ok (.own (.lst ((incL sz sz.length).map trip))) [] := by
  have g0 : bIdx (gameP sz rows) (.int 0) = some (.val (tupN sz)) := rfl
  have hil : itemsOf (tupN sz) = some (sz.map fun n => .int (n : Nat)) := rfl
  obtain ⟨p1, p2, p3, p4⟩ := plays_len sz g.mem
  simp [f_incentives_of, d_incentives_of, g0, hil, sz_enum, lenOk, sizeLine]
  generalize hx : loop _ _ _ _ _ _ = x
  have hl := loop_inv_of hx (fun k ρ S => ∃ y2 y3 y4 y5, S = [.live (.lst ((incL sz k).map trip))] ∧ ρ = [some (.val (gameP sz rows)), some (.ref 0), y2, y3, y4, y5]) (fun _ _ _ _ => rfl) ⟨none, none, none, none, rfl, rfl⟩ (fun j y hj ρ S hI => by
    obtain ⟨y2, y3, y4, y5, rfl, rfl⟩ := hI
    have hjl : j < sz.length := by have := (List.getElem?_eq_some_iff.mp hj).1; simpa using this
    obtain rfl : y = .tup [.int (j : Nat), .int (sz.getD j 0 : Nat)] := by
      rw [List.getElem?_map, List.getElem?_range hjl] at hj
      exact (Option.some.inj hj).symm
    obtain ⟨z1, z4⟩ := sz_le g hjl
    have hr := rng_at (sz.getD j 0) (by omega)
    have hiP : incP sz j = (List.range (sz.getD j 0)).flatMap (incA j (sz.getD j 0)) := rfl
    have hsuc : incL sz (j + 1) = incL sz j ++ incP sz j := fm_succ _ _
    have hlen := fm_len (incP sz) 16 j fun i hi => incP_len g (by omega)
    have hlen : (incL sz j).length ≤ 48 := by unfold incL; omega
    rw [hsuc, hiP]
    generalize incL sz j = A at *
    generalize sz.getD j 0 = n at *
    simp [hr]
    generalize hx2 : loop _ _ _ _ _ _ = x2
    have hl2 := loop_inv_of hx2 (fun k ρ S => ∃ y4 y5, S = [.live (.lst ((A ++ (List.range k).flatMap (incA j n)).map trip))] ∧ ρ = [some (.val (gameP sz rows)), some (.ref 0), some (.val (.int (j : Nat))), some (.val (.int (n : Nat))), y4, y5]) (fun _ _ _ _ => rfl) ⟨y4, y5, by simp, rfl⟩ (fun k z hk ρ S hI => by
      obtain ⟨y4, y5, rfl, rfl⟩ := hI
      have hkn : k < n := by have := (List.getElem?_eq_some_iff.mp hk).1; simpa using this
      obtain rfl : z = .int (k : Nat) := by
        rw [List.getElem?_map, List.getElem?_range hkn] at hk
        exact (Option.some.inj hk).symm
      have hll := fm_len (incA j n) 4 k fun i _ => Nat.le_trans incA_len (by omega)
      rw [fm_succ, ← List.append_assoc]
      generalize hB : A ++ (List.range k).flatMap (incA j n) = B at *
      have hBl : B.length ≤ 100 := by rw [← hB, List.length_append]; omega
      have hext : extF (.lst ((incA j n k).map trip)) (.lst (B.map trip)) = some (.lst ((B ++ incA j n k).map trip), .non) := by
        have := incA_len (p := j) (n := n) (a := k)
        rw [List.map_append]
        exact ext_ok (by simp only [List.length_map]; omega)
      obtain ⟨BL, hBL⟩ : ∃ xs, xs = B.map trip := ⟨_, rfl⟩
      rw [← hBL] at hext ⊢
      simp
      rw [dComp_filtO (ys := List.range n) (g := fun o => .int (o : Nat)) (gs := []) (fun o => decide (o ≠ k)) (fun o => trip (j, k, o)) (by simp [hr]) (by simp; unfold sizeLine; omega) rfl (fun o ho => by
        refine ⟨?_, fun _ => ⟨_, by simp [lenOk, sizeLine]; rfl, .v⟩⟩
        by_cases h : o = k
        · subst h; simp
        · have h2 : ¬ (o : Int) = (k : Nat) := by omega
          simp [h, h2])]
      have e : ((List.range n).filter fun o => decide (o ≠ k)).map (fun o => trip (j, k, o)) = (incA j n k).map trip := by unfold incA; rw [List.map_map]; rfl
      rw [e]
      simp [hext]
      exact .mk ⟨rfl, _, _, rfl⟩)
    obtain ⟨ρ', S', rfl, y4, y5, rfl, rfl⟩ := hl2
    have e7 : ((List.range n).map fun i => PV.int (i : Nat)).length = n := by simp
    rw [e7]
    simp
    exact .mk ⟨rfl, _, _, _, _, rfl⟩)
  obtain ⟨ρ', S', rfl, y2, y3, y4, y5, rfl, rfl⟩ := hl
  rw [List.length_map, List.length_range]
  simp
theorem v_law_incentives (g : GOk sz rows) : f__law_incentives [.val (gameP sz rows)] = .ok (.own (.lst ((incL sz sz.length).map trip))) [] := v_incentives_of g
theorem v_incentives (g : GOk sz rows) : f_incentives [.val (gameP sz rows)] = .ok (.own (.lst ((incL sz sz.length).map trip))) [] := by simp [f_incentives, d_incentives, v_check_game g, v_incentives_of g]
theorem inc_mem {x : Nat × Nat × Nat} (hx : x ∈ incL sz sz.length) : x.1 < sz.length ∧ x.2.1 < sz.getD x.1 0 ∧ x.2.2 < sz.getD x.1 0 ∧ x.2.2 ≠ x.2.1 := by
  obtain ⟨p, hp, hx⟩ := List.mem_flatMap.mp hx
  obtain ⟨a, ha, hx⟩ := List.mem_flatMap.mp hx
  unfold incA at hx
  obtain ⟨o, ho, rfl⟩ := List.mem_map.mp hx
  obtain ⟨h1, h2⟩ := List.mem_filter.mp ho
  exact ⟨List.mem_range.mp hp, List.mem_range.mp ha, List.mem_range.mp h1, by simpa using h2⟩
theorem inc_of {p a o : Nat} (hp : p < sz.length) (ha : a < sz.getD p 0) (ho : o < sz.getD p 0) (h : o ≠ a) : (p, a, o) ∈ incL sz sz.length :=
  List.mem_flatMap.mpr ⟨p, List.mem_range.mpr hp, List.mem_flatMap.mpr ⟨a, List.mem_range.mpr ha, List.mem_map.mpr ⟨o, List.mem_filter.mpr ⟨List.mem_range.mpr ho, by simpa using h⟩, rfl⟩⟩⟩
theorem inc_len (g : GOk sz rows) : (incL sz sz.length).length ≤ 48 := by
  obtain ⟨p1, p2, p3, p4⟩ := plays_len sz g.mem
  have := fm_len (incP sz) 16 sz.length fun i hi => incP_len g hi
  unfold incL
  omega
/-- the first incentive that gains -/
def incG (qs : List Rat) (sz : List Nat) (rows : List (List Int)) (x : Nat × Nat × Nat) : Bool := decide (0 < gnR qs sz rows x.1 x.2.1 x.2.2)
def optP {α : Type} (f : α → PV) : Option α → PV
  | none => .non
  | some x => f x
theorem num_pos' (q : Rat) : decide (0 < q.num) = decide (0 < q) := by
  rw [Bool.eq_iff_iff]
  simp only [decide_eq_true_eq]
  rw [Rat.lt_iff]; simp
theorem find_not {α : Type} (P : α → Bool) : ∀ l : List α, l.find? (fun y => !(!P y)) = l.find? P := fun l => by simp
theorem v_first_incentive (g : GOk sz rows) (h : LotOk qs (playsL sz).length D) : f_first_incentive [.val (gameP sz rows), .val (lotP qs)] = .ok (.val (optP trip ((incL sz sz.length).find? (incG qs sz rows)))) [] := by
  simp [f_first_incentive, d_first_incentive, v_incentives_of g]
  generalize hx : loop _ _ _ _ _ _ = x
  obtain ⟨ρ', ⟨y2, rfl⟩, rfl⟩ := loop_find_of (g := trip) (fun ρ => ∃ y2, ρ = [some (.val (gameP sz rows)), some (.val (lotP qs)), y2]) (fun x => !incG qs sz rows x) (fun x => .val (trip x)) rfl hx ⟨none, rfl⟩ (fun x hx ρ hI => by
    obtain ⟨y2, rfl⟩ := hI
    obtain ⟨h1, h2, h3, -⟩ := inc_mem hx
    have hg := v_gain_of g h h1 h2 h3
    have hn := num_pos' (gnR qs sz rows x.1 x.2.1 x.2.2)
    have hi := idx_f0 (gnR qs sz rows x.1 x.2.1 x.2.2)
    have ht : PV.tup [.int (x.1 : Nat), .int (x.2.1 : Nat), .int (x.2.2 : Nat)] = trip x := rfl
    rw [ht] at hg
    unfold incG
    rw [← hn]
    generalize gnR qs sz rows x.1 x.2.1 x.2.2 = q at *
    generalize frac q = fq at *
    by_cases hc : 0 < q.num
    · simp [hg, hi, hc]
      exact ⟨_, rfl, _, rfl⟩
    · simp [hg, hi, hc]
      exact ⟨_, rfl, _, rfl⟩)
  rw [find_not]
  cases (incL sz sz.length).find? (incG qs sz rows) with
  | none => simp [optP]
  | some y => simp [optP]
theorem v_told_incentive (g : GOk sz rows) (h : LotOk qs (playsL sz).length D) : f_told_incentive [.val (gameP sz rows), .val (lotP qs)] = .ok (.val (optP trip ((incL sz sz.length).find? (incG qs sz rows)))) [] := by
  simp [f_told_incentive, d_told_incentive, v_check_lot_of g h, v_first_incentive g h]
theorem v_is_obeyed (g : GOk sz rows) (h : LotOk qs (playsL sz).length D) : f_is_obeyed [.val (gameP sz rows), .val (lotP qs)] = .ok (.val (.bl ((incL sz sz.length).find? (incG qs sz rows)).isNone)) [] := by
  have hb : ∀ o : Option (Nat × Nat × Nat), bIs (optP trip o) .non = some (.val (.bl o.isNone)) := fun o => by cases o <;> rfl
  simp [f_is_obeyed, d_is_obeyed, v_check_lot_of g h, v_first_incentive g h, hb]
end K41
end
section
set_option Elab.async false
set_option linter.all false
set_option maxHeartbeats 4000000
set_option maxRecDepth 100000
set_option autoImplicit false
namespace K41
open PySem Pf
variable {qs : List Rat} {m D : Nat} {sz : List Nat} {rows : List (List Int)}
/-! ways outside -/
def duo (x : Nat × Nat) : PV := .tup [.int (x.1 : Nat), .int (x.2 : Nat)]
def outP (sz : List Nat) (p : Nat) : List (Nat × Nat) := (List.range (sz.getD p 0)).map fun a => (p, a)
def outL (sz : List Nat) (k : Nat) : List (Nat × Nat) := (List.range k).flatMap (outP sz)
def outG (qs : List Rat) (sz : List Nat) (rows : List (List Int)) (x : Nat × Nat) : Bool := decide (0 < ogR qs sz rows x.1 x.2)
theorem out_mem {x : Nat × Nat} (hx : x ∈ outL sz sz.length) : x.1 < sz.length ∧ x.2 < sz.getD x.1 0 := by
  obtain ⟨p, hp, hx⟩ := List.mem_flatMap.mp hx
  obtain ⟨a, ha, rfl⟩ := List.mem_map.mp hx
  exact ⟨List.mem_range.mp hp, List.mem_range.mp ha⟩
theorem out_of {p a : Nat} (hp : p < sz.length) (ha : a < sz.getD p 0) : (p, a) ∈ outL sz sz.length := List.mem_flatMap.mpr ⟨p, List.mem_range.mpr hp, List.mem_map.mpr ⟨a, List.mem_range.mpr ha, rfl⟩⟩
theorem v_first_outside (g : GOk sz rows) (h : LotOk qs (playsL sz).length D) : f_first_outside [.val (gameP sz rows), .val (lotP qs)] = .ok (.val (optP duo ((outL sz sz.length).find? (outG qs sz rows)))) [] := by
  have g0 : bIdx (gameP sz rows) (.int 0) = some (.val (tupN sz)) := rfl
  have hil : itemsOf (tupN sz) = some (sz.map fun n => .int (n : Nat)) := rfl
  simp [f_first_outside, d_first_outside, g0, hil, sz_enum]
  generalize hx : loop _ _ _ _ _ _ = x
  have hl := loop_pick_of hx (fun k ρ S => S = [] ∧ ∃ y2 y3 y4, ρ = [some (.val (gameP sz rows)), some (.val (lotP qs)), y2, y3, y4]) (fun ρ S => S = []) (fun j => ((outP sz j).find? (outG qs sz rows)).map fun x => .val (duo x)) (fun _ _ _ hI => by rw [hI.1]; rfl) ⟨rfl, none, none, none, rfl⟩ (fun j y hj ρ S hI => by
    obtain ⟨rfl, y2, y3, y4, rfl⟩ := hI
    have hjl : j < sz.length := by have := (List.getElem?_eq_some_iff.mp hj).1; simpa using this
    obtain rfl : y = .tup [.int (j : Nat), .int (sz.getD j 0 : Nat)] := by
      rw [List.getElem?_map, List.getElem?_range hjl] at hj
      exact (Option.some.inj hj).symm
    obtain ⟨z1, z4⟩ := sz_le g hjl
    have hr := rng_at (sz.getD j 0) (by omega)
    have hout : ∀ a, a < sz.getD j 0 → f_outside_by [.val (gameP sz rows), .val (lotP qs), .val (.int (j : Nat)), .val (.int (a : Nat))] = .ok (.val (frac (ogR qs sz rows j a))) [] := fun a ha => v_outside_by g h hjl ha
    have hoP : outP sz j = (List.range (sz.getD j 0)).map fun a => (j, a) := rfl
    rw [hoP, List.find?_map]
    generalize sz.getD j 0 = n at *
    simp [hr]
    generalize hx2 : loop _ _ _ _ _ _ = x2
    obtain ⟨ρ', ⟨y4, rfl⟩, rfl⟩ := loop_find_of (g := fun a : Nat => .int (a : Nat)) (fun ρ => ∃ y4, ρ = [some (.val (gameP sz rows)), some (.val (lotP qs)), some (.val (.int (j : Nat))), some (.val (.int (n : Nat))), y4]) (fun a => !outG qs sz rows (j, a)) (fun a => .val (duo (j, a))) rfl hx2 ⟨y4, rfl⟩ (fun a ha ρ hI => by
      obtain ⟨y4, rfl⟩ := hI
      have ho := hout a (List.mem_range.mp ha)
      have hn := num_pos' (ogR qs sz rows j a)
      have hi := idx_f0 (ogR qs sz rows j a)
      have hd : duo (j, a) = .tup [.int (j : Nat), .int (a : Nat)] := rfl
      rw [hd]
      unfold outG
      rw [← hn]
      generalize ogR qs sz rows j a = q at *
      generalize frac q = fq at *
      by_cases hc : 0 < q.num
      · simp [ho, hi, hc, lenOk, sizeLine]
        exact ⟨_, rfl, _, rfl⟩
      · simp [ho, hi, hc]
        exact ⟨_, rfl, _, rfl⟩)
    rw [find_not]
    have e : (outG qs sz rows ∘ fun a => (j, a)) = fun a => outG qs sz rows (j, a) := rfl
    rw [e]
    cases (List.range n).find? (fun a => outG qs sz rows (j, a)) with
    | none => simp; exact PkOk.nx rfl ⟨rfl, _, _, _, rfl⟩
    | some a => simp; exact PkOk.rt rfl rfl)
  rw [List.length_map, List.length_range] at hl
  have e : (outL sz sz.length).find? (outG qs sz rows) = (List.range sz.length).findSome? fun j => (outP sz j).find? (outG qs sz rows) := by unfold outL; rw [List.find?_flatMap]
  have e2 : (List.range sz.length).findSome? (fun j => ((outP sz j).find? (outG qs sz rows)).map fun x => RV.val (duo x)) = ((List.range sz.length).findSome? fun j => (outP sz j).find? (outG qs sz rows)).map fun x => RV.val (duo x) := by rw [List.map_findSome?]; rfl
  rw [e2, ← e] at hl
  obtain ⟨ρ', S', hl⟩ := hl
  cases hf : (outL sz sz.length).find? (outG qs sz rows) with
  | none =>
    rw [hf] at hl
    obtain ⟨rfl, rfl, y2, y3, y4, rfl⟩ := hl
    simp [optP]
  | some x =>
    rw [hf] at hl
    obtain ⟨rfl, rfl⟩ := hl
    simp [optP]
theorem v_told_outside (g : GOk sz rows) (h : LotOk qs (playsL sz).length D) : f_told_outside [.val (gameP sz rows), .val (lotP qs)] = .ok (.val (optP duo ((outL sz sz.length).find? (outG qs sz rows)))) [] := by
  simp [f_told_outside, d_told_outside, v_check_lot_of g h, v_first_outside g h]
theorem v_is_accepted (g : GOk sz rows) (h : LotOk qs (playsL sz).length D) : f_is_accepted [.val (gameP sz rows), .val (lotP qs)] = .ok (.val (.bl ((outL sz sz.length).find? (outG qs sz rows)).isNone)) [] := by
  have hb : ∀ o : Option (Nat × Nat), bIs (optP duo o) .non = some (.val (.bl o.isNone)) := fun o => by cases o <;> rfl
  simp [f_is_accepted, d_is_accepted, v_check_lot_of g h, v_first_outside g h, hb]
/-! means -/
def mnL (qs : List Rat) (rows : List (List Int)) : List Rat := rows.map (dotI qs)
theorem v_means (g : GOk sz rows) (h : LotOk qs (playsL sz).length D) : f_means [.val (gameP sz rows), .val (lotP qs)] = .ok (.own (.lst ((mnL qs rows).map frac))) [] := by
  have g1 : bIdx (gameP sz rows) (.int 1) = some (.val (.lst (rows.map rowP))) := rfl
  obtain ⟨p1, p2, p3, p4⟩ := plays_len sz g.mem
  have hrl := g.len
  simp [f_means, d_means, v_check_lot_of g h]
  rw [dComp_mapG (ys := rows) (g := rowP) (gs := []) (fun r => frac (dotI qs r)) (by simp [g1]) (by unfold sizeLine; omega) rfl (fun r hr => by
    obtain ⟨r1, r2⟩ := g.row r hr
    simp [v_mean_by h p2 (w := rowP r) rfl (by omega) (fun n hn => by have := r2 n hn; omega)])]
  simp [mnL]
theorem v_law_means (g : GOk sz rows) (h : LotOk qs (playsL sz).length D) {r : List Int} (hr : r ∈ rows) : f__law_mean [.val (lotP qs), .val (rowP r)] = .ok (.val (frac (dotI qs r))) [] := by
  obtain ⟨p1, p2, p3, p4⟩ := plays_len sz g.mem
  obtain ⟨r1, r2⟩ := g.row r hr
  exact v_law_mean h p2 (w := rowP r) rfl (by omega) (fun n hn => by have := r2 n hn; omega)
theorem mn_fs (g : GOk sz rows) (h : LotOk qs (playsL sz).length D) : ∀ q ∈ mnL qs rows, FS 60 q := fun q hq => by
  obtain ⟨r, hr, rfl⟩ := List.mem_map.mp hq
  obtain ⟨p1, p2, p3, p4⟩ := plays_len sz g.mem
  obtain ⟨r1, r2⟩ := g.row r hr
  have hl := h.len
  exact (cd_rsum (dot_cd h (ns := r) fun n hn => by have := r2 n hn; omega)).fs h.d0 (D_ok h) (big_ok h (by simp; omega))
end K41
end
section
set_option Elab.async false
set_option linter.all false
set_option maxHeartbeats 4000000
set_option maxRecDepth 100000
set_option autoImplicit false
namespace K41
open PySem Pf
variable {qs : List Rat} {m D : Nat} {sz : List Nat} {rows : List (List Int)}
theorem repBn {xs : List PV} {n k : Nat} (h : ∀ x ∈ xs, Bd n k x) (hl : xs.length ≤ 4) (hn : n ≤ 50) (hk : k ≤ 1000000) : fRepL xs = some (.val (.str (shT (.lst xs)))) := by
  have g := bd_lst (m := 4) h hl
  have h := repr_ok (g.mono (by omega : n + 1 ≤ 60) (by unfold sizeLine; omega))
  have h2 : lenOk xs.length = true := by unfold lenOk sizeLine; exact decide_eq_true (by omega)
  simp [fRepL, h2, h, shT]
theorem obeyed_accepted (g : GOk sz rows) (h : (incL sz sz.length).find? (incG qs sz rows) = none) : (outL sz sz.length).find? (outG qs sz rows) = none := by
  rw [List.find?_eq_none] at h ⊢
  intro x hx
  obtain ⟨h1, h2⟩ := out_mem hx
  simp only [outG, decide_eq_true_eq, Rat.not_lt]
  rw [← og_sum g h1]
  have := rsum_le (l := List.range (sz.getD x.1 0)) (f := fun a => gnR qs sz rows x.1 a x.2) (g := fun _ => (0 : Rat)) fun a ha => ?_
  · rw [rsum_zero] at this
    exact this
  · have ha := List.mem_range.mp ha
    by_cases he : x.2 = a
    · rw [← he, gn_self g h1]; exact Rat.le_refl
    · have := h _ (inc_of h1 ha h2 he)
      exact Rat.not_lt.mp (by simpa [incG] using this)
theorem dat_trip (L : List (Nat × Nat × Nat)) : dat 60 (.lst (L.map trip)) = true := by
  unfold dat
  rw [List.all_map, List.all_eq_true]
  exact fun x _ => rfl
theorem dat_duo (L : List (Nat × Nat)) : dat 60 (.lst (L.map duo)) = true := by
  unfold dat
  rw [List.all_map, List.all_eq_true]
  exact fun x _ => rfl
theorem bne_nil {L : List PV} (h : dat 60 (.lst L) = true) : bNe (.lst L) (.lst []) = some (.val (.bl (!L.isEmpty))) := by
  have d : dat 60 (.lst []) = true := rfl
  have e : eqv (.lst L) (.lst []) = L.isEmpty := by
    cases L with
    | nil => rfl
    | cons x L => simp [eqv, toD, toDs, PyData.eqv, PyData.eqvAll]
  simp [bNe, isS, h, d, e]
theorem bd_game (g : GOk sz rows) : Bd 3 200000 (gameP sz rows) := by
  obtain ⟨p1, p2, p3, p4⟩ := plays_len sz g.mem
  have hrl := g.len
  have b1 : Bd 2 50000 (tupN sz) := (bd_tup (m := 3) (n := 0) (k := 20) (fun x hx => by
    obtain ⟨n, hn, rfl⟩ := List.mem_map.mp hx
    have h : ∀ sz ∈ allSz, ∀ n ∈ sz, 1 ≤ n ∧ n ≤ 4 := by decide +kernel
    have := h sz g.mem n hn
    exact bd_int (by omega)) (by rw [List.length_map]; exact p4)).mono (by omega) (by omega)
  have bR : ∀ r ∈ rows, Bd 1 2000 (rowP r) := fun r hr => by
    obtain ⟨r1, r2⟩ := g.row r hr
    have hl : (r.map PV.int).length ≤ 64 := by rw [List.length_map, r1]; exact p2
    exact (bd_lst (m := 64) (n := 0) (k := 20) (fun y hy => by
      obtain ⟨i, hi, rfl⟩ := List.mem_map.mp hy
      have := r2 i hi
      exact bd_int (by omega)) hl).mono (by omega) (by omega)
  have b2 : Bd 2 50000 (.lst (rows.map rowP)) := (bd_lst (m := 3) (n := 1) (k := 2000) (fun x hx => by
    obtain ⟨r, hr, rfl⟩ := List.mem_map.mp hx
    exact bR r hr) (by rw [List.length_map]; omega)).mono (by omega) (by omega)
  exact (bd_tup (m := 2) (bd_cons b1 (bd_cons b2 bd_nil)) (by simp)).mono (by omega) (by omega)
theorem bd_lot (h : LotOk qs m D) (hm : m ≤ 64) : Bd 3 300000 (lotP qs) := (bd_tup (m := 64) (n := 1) (k := 4010) (fun x hx => by
  obtain ⟨q, hq, rfl⟩ := List.mem_map.mp hx
  exact bd_frac (h.fs q hq) (by omega)) (by rw [List.length_map, h.len]; exact hm)).mono (by omega) (by omega)
theorem bd_trip (g : GOk sz rows) {x : Nat × Nat × Nat} (hx : x ∈ incL sz sz.length) : Bd 1 100 (trip x) := by
  obtain ⟨p1, p2, p3, p4⟩ := plays_len sz g.mem
  obtain ⟨h1, h2, h3, -⟩ := inc_mem hx
  obtain ⟨z1, z4⟩ := sz_le g h1
  exact (bd_tup (m := 3) (bd_cons (bd_int (by omega)) (bd_cons (bd_int (by omega)) (bd_cons (bd_int (by omega)) bd_nil))) (by simp)).mono (by omega) (by omega)
theorem bd_duo (g : GOk sz rows) {x : Nat × Nat} (hx : x ∈ outL sz sz.length) : Bd 1 100 (duo x) := by
  obtain ⟨p1, p2, p3, p4⟩ := plays_len sz g.mem
  obtain ⟨h1, h2⟩ := out_mem hx
  obtain ⟨z1, z4⟩ := sz_le g h1
  exact (bd_tup (m := 2) (bd_cons (bd_int (by omega)) (bd_cons (bd_int (by omega)) bd_nil)) (by simp)).mono (by omega) (by omega)
theorem head_find {α : Type} (P : α → Bool) : ∀ l : List α, (l.filter P).head? = l.find? P := fun l => by
  induction l with
  | nil => rfl
  | cons x l ih =>
    cases h : P x with
    | true => rw [List.filter_cons_of_pos h, List.find?_cons, h]; rfl
    | false => rw [List.filter_cons_of_neg (by simp [h]), List.find?_cons, h]; exact ih
theorem v_lot_right (g : GOk sz rows) (h : LotOk qs (playsL sz).length D) {pot : PV} (hpot : PotOk pot) : TrP (f__law_lot_right [.cel pot, .val (gameP sz rows), .val (lotP qs)]) := by
  obtain ⟨p1, p2, p3, p4⟩ := plays_len sz g.mem
  have g0 : bIdx (gameP sz rows) (.int 0) = some (.val (tupN sz)) := rfl
  have g1 : bIdx (gameP sz rows) (.int 1) = some (.val (.lst (rows.map rowP))) := rfl
  have hrl := g.len
  have hinc := v_incentives g
  have hlinc := v_law_incentives g
  have hmeans := v_means g h
  have hilen := inc_len g
  have bM : Bd 2 20000 (.lst ((mnL qs rows).map frac)) := (bd_lst (m := 3) (n := 1) (k := 4010) (fun x hx => by
    obtain ⟨q, hq, rfl⟩ := List.mem_map.mp hx
    exact bd_frac (mn_fs g h q hq) (by omega)) (by rw [List.length_map, mnL, List.length_map]; omega)).mono (by omega) (by omega)
  have bI : Bd 2 20000 (.lst ((incL sz sz.length).map trip)) := (bd_lst (m := 48) (n := 1) (k := 100) (fun x hx => by
    obtain ⟨q, hq, rfl⟩ := List.mem_map.mp hx
    exact bd_trip g hq) (by rw [List.length_map]; exact hilen)).mono (by omega) (by omega)
  have r0 := repB2 ((bd_game g).mono (by omega) (show 200000 ≤ 300000 by omega)) (bd_lot h p2) (by omega) (by omega)
  have r1 := repBn (xs := [.lst ((mnL qs rows).map frac), .lst ((mnL qs rows).map frac), .lst ((incL sz sz.length).map trip)]) (bd_cons bM (bd_cons bM (bd_cons bI bd_nil))) (by simp) (by omega) (by omega)
  simp [f__law_lot_right, d__law_lot_right, r0, hlinc, g1]
  rw [dComp_mapG (ys := rows) (g := rowP) (gs := []) (fun r => frac (dotI qs r)) (by simp [g1]) (by unfold sizeLine; omega) rfl (fun r hr => by simp [v_law_means g h hr])]
  have e1 : rows.map (fun r => frac (dotI qs r)) = (mnL qs rows).map frac := by simp [mnL]
  rw [e1]
  have fl : fLen (tupN sz) = some (.val (.int (sz.length : Nat))) := by simp [tupN]
  have hr := rng_at sz.length (by omega)
  simp [hmeans, hinc, permL, r1, g0, fl, hr]
  generalize hx : dComp _ _ _ _ _ _ _ = x
  obtain ⟨ps, pot2, rfl, hpot2, hq2⟩ := dComp_pot_of hx ((List.range sz.length).map fun i => .int (i : Nat)) (fun _ y => y = .bl true) (by simp [g0, fl, hr]) (by simp; unfold sizeLine; omega) hpot (fun x hx q hq => by
    obtain ⟨j, hj, rfl⟩ := List.mem_map.mp hx
    obtain ⟨q2, e, hq2⟩ := v_player_right g h (List.mem_range.mp hj) hq
    exact ⟨q2, .val (.bl true), .bl true, by simp [e], .inl rfl, hq2, rfl⟩)
  have hall : ∀ y ∈ ps, y = .bl true := paired_all hq2 fun x y h => h
  have hb : ps = ps.map fun _ => PV.bl true := by
    have : ∀ l : List PV, (∀ y ∈ l, y = .bl true) → l = l.map fun _ => PV.bl true := fun l => by
      induction l with
      | nil => intro _; rfl
      | cons a l ih => intro h; rw [List.map_cons, ← ih fun y hy => h y (List.mem_cons_of_mem _ hy), h a List.mem_cons_self]
    exact this ps hall
  have hf : fAll (.lst ps) = some (.val (.bl true)) := by
    rw [hb]
    exact fall_true ps
  simp [hf]
  -- the incentives that gain
  have hgf : ∀ x ∈ incL sz sz.length, f__law_gain [.val (gameP sz rows), .val (lotP qs), .val (.int (x.1 : Nat)), .val (.int (x.2.1 : Nat)), .val (.int (x.2.2 : Nat))] = .ok (.val (frac (gnR qs sz rows x.1 x.2.1 x.2.2))) [] := fun x hx => by
    obtain ⟨h1, h2, h3, -⟩ := inc_mem hx
    exact v_law_gain g h h1 h2 h3
  have hti := v_told_incentive g h
  have hto := v_told_outside g h
  have hio := v_is_obeyed g h
  have hia := v_is_accepted g h
  have hoa := obeyed_accepted (qs := qs) g
  have hfm : ∀ x ∈ incL sz sz.length, Bd 1 100 (trip x) := fun x hx => bd_trip g hx
  have hlout : ∀ p a, p < sz.length → a < sz.getD p 0 → f__law_outside [.val (gameP sz rows), .val (lotP qs), .val (.int (p : Nat)), .val (.int (a : Nat))] = .ok (.val (frac (ogR qs sz rows p a))) [] := fun p a hp ha => v_law_outside g h hp ha
  have hmemI : ∀ x, (incL sz sz.length).find? (incG qs sz rows) = some x → Bd 1 100 (trip x) := fun x hx => hfm x (List.mem_of_find?_eq_some hx)
  have hmemO : ∀ x, (outL sz sz.length).find? (outG qs sz rows) = some x → Bd 1 100 (duo x) := fun x hx => bd_duo g (List.mem_of_find?_eq_some hx)
  have hhI := head_find (incG qs sz rows) (incL sz sz.length)
  have hhO := head_find (outG qs sz rows) (outL sz sz.length)
  rw [dComp_filtO (ys := incL sz sz.length) (g := trip) (gs := []) (incG qs sz rows) trip (by simp) (by unfold sizeLine; omega) rfl (fun x hx => by
    have e := hgf x hx
    have hn := num_pos' (gnR qs sz rows x.1 x.2.1 x.2.2)
    have hi := idx_f0 (gnR qs sz rows x.1 x.2.1 x.2.2)
    have ht0 : bIdx (trip x) (.int 0) = some (.val (.int (x.1 : Nat))) := idx_t0 _ _
    have ht1 : bIdx (trip x) (.int 1) = some (.val (.int (x.2.1 : Nat))) := idx_t1 _ _ _
    have ht2 : bIdx (trip x) (.int 2) = some (.val (.int (x.2.2 : Nat))) := idx_t (k := 2) rfl
    refine ⟨?_, fun _ => ⟨.val (trip x), by simp, .v⟩⟩
    unfold incG
    rw [← hn]
    generalize gnR qs sz rows x.1 x.2.1 x.2.2 = q at *
    generalize frac q = fq at *
    generalize trip x = tx at *
    simp [e, hi, ht0, ht1, ht2])]
  generalize hI : incL sz sz.length = I at *
  generalize hFI : I.filter (incG qs sz rows) = FI at *
  have hbn := bne_nil (dat_trip FI)
  -- its first one
  have hb3 : ∀ o : Option (Nat × Nat × Nat), (∀ x, o = some x → Bd 1 100 (trip x)) → Bd 1 100 (optP trip o) := fun o ho => by
    cases o with
    | none => exact ⟨by rfl, by decide⟩
    | some x => exact ho x rfl
  have hb2 : ∀ o : Option (Nat × Nat), (∀ x, o = some x → Bd 1 100 (duo x)) → Bd 1 100 (optP duo o) := fun o ho => by
    cases o with
    | none => exact ⟨by rfl, by decide⟩
    | some x => exact ho x rfl
  have hcase : (FI = [] ∧ I.find? (incG qs sz rows) = none) ∨ ∃ x t, FI = x :: t ∧ I.find? (incG qs sz rows) = some x := by
    rw [← hhI]
    cases FI with
    | nil => exact .inl ⟨rfl, rfl⟩
    | cons x t => exact .inr ⟨x, t, rfl, rfl⟩
  generalize I.find? (incG qs sz rows) = oI at *
  have rI := repB2 (hb3 oI hmemI) (hb3 oI hmemI) (by omega) (by omega)
  clear hFI hhI hmemI
  have hil : itemsOf (tupN sz) = some (sz.map fun n => .int (n : Nat)) := rfl
  have rBB : ∀ b : Bool, fRepL [.bl b, .bl b] = some (.val (.str (shT (.lst [.bl b, .bl b])))) ∧ fRepr (.lst [.bl b, .bl b]) = some (.val (.str (shT (.lst [.bl b, .bl b])))) := fun b => by
    have hbd : Bd 0 20 (.bl b) := by cases b <;> exact ⟨rfl, by decide⟩
    have hb1 := bd_lst (m := 2) (bd_cons hbd (bd_cons hbd bd_nil)) (by simp)
    exact ⟨repBn (bd_cons hbd (bd_cons hbd bd_nil)) (by simp) (by omega) (by omega), repr_ok (hb1.mono (by omega) (by unfold sizeLine; omega))⟩
  have mBB : ∀ b : Bool, bMul (.lst [.bl b]) (.int 2) = some (.own (.lst [.bl b, .bl b])) := fun b => mul_l (k := 2) (by simp) (by omega)
  have rMM := repr_ok (bM.mono (by omega : 2 ≤ 60) (by unfold sizeLine; omega))
  have outlen : ∀ k, k ≤ sz.length → (outL sz k).length ≤ 12 := fun k hk => by
    have := fm_len (outP sz) 4 k fun i hi => by
      obtain ⟨z1, z4⟩ := sz_le g (show i < sz.length by omega)
      unfold outP
      rw [List.length_map, List.length_range]
      exact z4
    unfold outL
    omega
  have tail : ∀ (z6 z7 : PV) (x : Res (Pf.Env × Fl)), loop [] (tgTup [tgName 9 false, tgName 10 false]) (dsSeq (dsExpr (dExt (dVar 8) (dComp (itRng rng1 [dVar 10]) (tgName 15 false) (some (dBin bGt (dBin bIdx (dCall 4 f__law_outside [false, false, false, false] [dVar 1, dVar 2, dVar 9, dVar 15]) (dCst (.int 0))) (dCst (.int 0)))) (dTup [dVar 9, dVar 15]) [15]))) dsNx)
      ((List.range sz.length).map fun i => .tup [.int (i : Nat), .int (sz.getD i 0 : Nat)])
      [some (.ref 0), some (.val (gameP sz rows)), some (.val (lotP qs)), some (.val (.str (shT (.lst [gameP sz rows, lotP qs])))), some (.val (.lst (I.map trip))), some (.val (.lst ((mnL qs rows).map frac))), some (.val z6), some (.val z7), some (.ref 1), none, none, none, none, none, none, none] [.live pot2, .live (.lst [])] = x →
      ∃ y9 y10 y15, x = .ok ([some (.ref 0), some (.val (gameP sz rows)), some (.val (lotP qs)), some (.val (.str (shT (.lst [gameP sz rows, lotP qs])))), some (.val (.lst (I.map trip))), some (.val (.lst ((mnL qs rows).map frac))), some (.val z6), some (.val z7), some (.ref 1), y9, y10, none, none, none, none, y15], .nx) [.live pot2, .live (.lst (((outL sz sz.length).filter (outG qs sz rows)).map duo))] := fun z6 z7 x hx => by
    have hl := loop_inv_of hx (fun k ρ S => ∃ y9 y10 y15, S = [.live pot2, .live (.lst (((outL sz k).filter (outG qs sz rows)).map duo))] ∧ ρ = [some (.ref 0), some (.val (gameP sz rows)), some (.val (lotP qs)), some (.val (.str (shT (.lst [gameP sz rows, lotP qs])))), some (.val (.lst (I.map trip))), some (.val (.lst ((mnL qs rows).map frac))), some (.val z6), some (.val z7), some (.ref 1), y9, y10, none, none, none, none, y15]) (fun _ _ _ _ => rfl) ⟨none, none, none, rfl, rfl⟩ (fun j y hj ρ S hI => by
      obtain ⟨y9, y10, y15, rfl, rfl⟩ := hI
      have hjl : j < sz.length := by have := (List.getElem?_eq_some_iff.mp hj).1; simpa using this
      obtain rfl : y = .tup [.int (j : Nat), .int (sz.getD j 0 : Nat)] := by
        rw [List.getElem?_map, List.getElem?_range hjl] at hj
        exact (Option.some.inj hj).symm
      obtain ⟨z1, z4⟩ := sz_le g hjl
      have hr := rng_at (sz.getD j 0) (by omega)
      have ho := fun a => hlout j a hjl
      have hsuc : outL sz (j + 1) = outL sz j ++ outP sz j := fm_succ _ _
      have hoP : outP sz j = (List.range (sz.getD j 0)).map fun a => (j, a) := rfl
      have hext : extF (.lst (((outP sz j).filter (outG qs sz rows)).map duo)) (.lst (((outL sz j).filter (outG qs sz rows)).map duo)) = some (.lst ((((outL sz j).filter (outG qs sz rows)) ++ ((outP sz j).filter (outG qs sz rows))).map duo), .non) := by
        rw [List.map_append]
        have h1 := outlen j (by omega)
        have h2 := List.length_filter_le (outG qs sz rows) (outL sz j)
        have h3 := List.length_filter_le (outG qs sz rows) (outP sz j)
        have h4 : (outP sz j).length ≤ 4 := by rw [hoP, List.length_map, List.length_range]; exact z4
        exact ext_ok (by simp only [List.length_map]; omega)
      rw [hsuc, List.filter_append]
      rw [hoP, List.filter_map, List.map_map] at hext
      rw [hoP, List.filter_map]
      generalize (outL sz j).filter (outG qs sz rows) = A at *
      generalize sz.getD j 0 = n at *
      obtain ⟨AL, hAL⟩ : ∃ xs, xs = A.map duo := ⟨_, rfl⟩
      rw [← hAL] at hext ⊢
      simp
      rw [dComp_filtO (ys := List.range n) (g := fun o => .int (o : Nat)) (gs := []) (fun a => outG qs sz rows (j, a)) (fun a => duo (j, a)) (by simp [hr]) (by simp; unfold sizeLine; omega) rfl (fun a ha => by
        have hoa := ho a (List.mem_range.mp ha)
        have hn := num_pos' (ogR qs sz rows j a)
        have hi := idx_f0 (ogR qs sz rows j a)
        refine ⟨?_, fun _ => ⟨.val (duo (j, a)), by simp [lenOk, sizeLine, duo], .v⟩⟩
        unfold outG
        rw [← hn]
        generalize ogR qs sz rows j a = q at *
        generalize frac q = fq at *
        simp [hoa, hi])]
      have e : ((List.range n).filter fun a => outG qs sz rows (j, a)).map (fun a => duo (j, a)) = ((List.range n).filter (outG qs sz rows ∘ fun a => (j, a))).map (duo ∘ fun a => (j, a)) := rfl
      rw [e]
      simp [hext]
      exact .mk ⟨rfl, _, _, _, rfl⟩)
    obtain ⟨ρ', S', rfl, y9, y10, y15, rfl, rfl⟩ := hl
    refine ⟨y9, y10, y15, ?_⟩
    rw [List.length_map, List.length_range]
  generalize hFO : (outL sz sz.length).filter (outG qs sz rows) = FO at *
  have hcaseO : (FO = [] ∧ (outL sz sz.length).find? (outG qs sz rows) = none) ∨ ∃ x t, FO = x :: t ∧ (outL sz sz.length).find? (outG qs sz rows) = some x := by
    rw [← hhO]
    cases FO with
    | nil => exact .inl ⟨rfl, rfl⟩
    | cons x t => exact .inr ⟨x, t, rfl, rfl⟩
  generalize (outL sz sz.length).find? (outG qs sz rows) = oO at *
  have rO := repB2 (hb2 oO hmemO) (hb2 oO hmemO) (by omega) (by omega)
  have b1 : bIs .non .non = some (.val (.bl true)) := rfl
  have b2 : bIsN .non .non = some (.val (.bl false)) := rfl
  have b3 : ∀ x, bIs (trip x) .non = some (.val (.bl false)) := fun _ => rfl
  have b4 : ∀ x, bIs (duo x) .non = some (.val (.bl false)) := fun _ => rfl
  have b5 : ∀ x, bIsN (duo x) .non = some (.val (.bl true)) := fun _ => rfl
  have o1 : optP trip none = .non := rfl
  have o2 : ∀ x, optP trip (some x) = trip x := fun _ => rfl
  have o3 : optP duo none = .non := rfl
  have o4 : ∀ x, optP duo (some x) = duo x := fun _ => rfl
  have hbnO := bne_nil (dat_duo FO)
  clear hFO hhO hmemO
  have happ : appF .non (.lst ((mnL qs rows).map frac)) = some (.lst ((mnL qs rows).map frac ++ [.non]), .non) := app_ok (by rw [List.length_map, mnL, List.length_map]; omega)
  generalize (mnL qs rows).map frac = ML at *
  rcases hcase with ⟨rfl, rfl⟩ | ⟨x, t, rfl, rfl⟩ <;> simp at hbn <;> rcases hcaseO with ⟨rfl, rfl⟩ | ⟨x2, t2, rfl, rfl⟩ <;> simp at hbnO <;> simp only [o1, o2, o3, o4, Option.isNone_none, Option.isNone_some] at hti hto hio hia rI rO
  rotate_left
  · exact absurd (hoa rfl) (by simp)
  all_goals
    simp [hbn, hti, permL, rI, lenOk, sizeLine, g0, hil, sz_enum]
    generalize hx : loop _ _ _ _ _ _ = x
    obtain ⟨y9, y10, y15, rfl⟩ := tail _ _ _ hx
    clear hx tail
    simp [hbnO, hto, permL, rO, lenOk, sizeLine, hio, hia, (rBB _).1, (rBB _).2, mBB, b1, b2, b3, b4, b5, hmeans, happ, rMM, r0]
    exact TrP.mk hpot2
end K41
end
section
set_option Elab.async false
set_option linter.all false
set_option maxHeartbeats 4000000
set_option maxRecDepth 100000
set_option autoImplicit false
namespace K41
open PySem Pf
/-- a lot by parts -/
theorem lot_parts {ms : List Int} {m s : Nat} (hl : ms.length = m) (h0 : ∀ i ∈ ms, 0 ≤ i ∧ i ≤ ms.sum) (hs : ms.sum = (s : Nat)) (hs1 : 0 < s) (hs2 : s ≤ 40000) : LotOk (ms.map fun n => mkRat n s) m s where
  len := by simp [hl]
  d0 := hs1
  d1 := hs2
  cd := fun q hq => by
    obtain ⟨n, hn, rfl⟩ := List.mem_map.mp hq
    have := h0 n hn
    exact ⟨n, by omega, rfl⟩
  nn := fun q hq => by
    obtain ⟨n, hn, rfl⟩ := List.mem_map.mp hq
    have := h0 n hn
    have e := frac_mk (t := n) hs1
    simp only [frac, PV.tup.injEq, List.cons.injEq, PV.int.injEq] at e
    rw [e.1]
    exact Int.ediv_nonneg this.1 (by omega)
  one := by
    rw [rsum_parts, hs]
    exact rat_self hs1
theorem sum_nn {b : Int} : ∀ zs : List Int, (∀ i ∈ zs, 0 ≤ i ∧ i ≤ b) → 0 ≤ zs.sum ∧ zs.sum ≤ b * zs.length ∧ ∀ i ∈ zs, i ≤ zs.sum := fun zs => by
  induction zs with
  | nil => intro _; simp
  | cons z zs ih =>
    intro h
    obtain ⟨i1, i2, i3⟩ := ih fun i hi => h i (List.mem_cons_of_mem _ hi)
    have hz := h z List.mem_cons_self
    rw [List.sum_cons, List.length_cons]
    have e : b * ((zs.length + 1 : Nat) : Int) = b * (zs.length : Int) + b := by rw [Int.natCast_add, Int.mul_add]; simp
    refine ⟨by omega, by rw [e]; omega, fun i hi => ?_⟩
    rcases List.mem_cons.mp hi with rfl | hi
    · omega
    · have := i3 i hi; omega
theorem v_law_lot {p : PV} (hp : PotOk p) {m : Nat} (h1 : 1 ≤ m) (h64 : m ≤ 64) : ∃ p' qs D, f__law_lot [.cel p, .val (.int (m : Nat))] = .ok (.val (lotP qs)) [.live p'] ∧ PotOk p' ∧ LotOk qs m D ∧ D ≤ 8 * m := by
  have hr := rng_at m (by omega)
  obtain ⟨p0, mv, e0, hp0, m0⟩ := v_law_pick hp (xs := [.int 2, .int 4, .int 9]) (by simp) (by simp)
  obtain ⟨w, rfl, hw1, hw9⟩ : ∃ w : Nat, mv = .int (w : Nat) ∧ 1 ≤ w ∧ w ≤ 9 := by
    simp only [List.mem_cons, List.not_mem_nil, or_false] at m0
    rcases m0 with h | h | h <;> subst h
    · exact ⟨2, rfl, by omega, by omega⟩
    · exact ⟨4, rfl, by omega, by omega⟩
    · exact ⟨9, rfl, by omega, by omega⟩
  simp [f__law_lot, d__law_lot, e0, lenOk, sizeLine]
  generalize hx : dComp _ _ _ _ _ _ _ = x
  obtain ⟨ps, p1, rfl, hp1, hq1⟩ := dComp_pot_of hx ((List.range m).map fun i => .int (i : Nat)) (fun _ y => ∃ d : Int, y = .int d ∧ 0 ≤ d ∧ d ≤ 8) (by simp [hr]) (by simp; unfold sizeLine; omega) hp0 (fun x hx q hq => by
    obtain ⟨q', d, e, hq', d0, d1⟩ := v_law_draw hq (many := w) (by omega) (by omega)
    exact ⟨q', .val (.int d), .int d, by simp [e], .inl rfl, hq', d, rfl, by omega, by omega⟩)
  clear hx
  have hpl := paired_len hq1
  obtain ⟨ns, rfl, hns⟩ := ints_of (paired_all hq1 fun x y h => h)
  have hnl : ns.length = m := by simp at hpl; omega
  clear hq1
  -- the end, by parts whose sum is not 0
  have fin : ∀ (ms : List Int) (pot : PV), ms.length = m → (∀ i ∈ ms, 0 ≤ i ∧ i ≤ 8) → ms.sum ≠ 0 → ∃ qs D,
      (∀ y4 y5 : Option SV, dComp (itSeq (dVar 3)) (tgName 5 false) none (dCall 2 f__law_cut [false, false] [dVar 5, dCl (n1 fSum) [dVar 3]]) [5] [some (.ref 0), some (.val (.int (m : Nat))), some (.val (.int (w : Nat))), some (.ref 1), y4, y5] [.live pot, .live (.lst (ms.map .int))] = .ok (.own (.lst (qs.map frac))) [.live pot, .live (.lst (ms.map .int))]) ∧ LotOk qs m D ∧ D ≤ 8 * m := fun ms pot hl hb hne => by
    obtain ⟨s0, s1, s2⟩ := sum_nn (b := 8) ms hb
    obtain ⟨s, hs⟩ := Int.eq_ofNat_of_zero_le s0
    have hs1 : 0 < s := by omega
    have hs2 : s ≤ 8 * m := by omega
    refine ⟨ms.map fun n => mkRat n s, s, fun y4 y5 => ?_, lot_parts hl (fun i hi => ⟨(hb i hi).1, s2 i hi⟩) hs hs1 (by omega), hs2⟩
    have hfsum := fsum_int ms
    rw [hs] at hfsum
    have hcut : ∀ n ∈ ms, f__law_cut [.val (.int n), .val (.int (s : Nat))] = .ok (.val (frac (mkRat n s))) [] := fun n hn => v_law_cut n s hs1 ((sz_of (k := 20) 1000 (by omega) (by decide)).mono (by omega))
    have hit : itemsOf (.lst (ms.map .int)) = some (ms.map .int) := rfl
    generalize hM : PV.lst (ms.map .int) = M at *
    rw [dComp_mapG (ys := ms) (g := PV.int) (gs := [(1, M)]) (fun n => frac (mkRat n s)) (by simp [hit]) (by unfold sizeLine; omega) (by simp [chkG, same_refl]) (fun n hn => by simp [hfsum, hcut n hn])]
    simp
  have hfsum := fsum_int ns
  by_cases hz : ns.sum = 0
  · rw [hz] at hfsum
    obtain ⟨p2, d, e2, hp2, d0, d1⟩ := v_law_draw hp1 (many := m) (by omega) (by omega)
    obtain ⟨k, rfl⟩ := Int.eq_ofNat_of_zero_le d0
    have hk : k < ns.length := by omega
    have hset : setF (.int (k : Nat)) (.int 1) (.lst (ns.map .int)) = some (.lst ((ns.set k 1).map .int), .non) := by
      rw [setF_nat (by simpa using hk), List.map_set]
    have hms : ∀ i ∈ ns.set k 1, 0 ≤ i ∧ i ≤ 8 := fun i hi => by
      rcases List.mem_or_eq_of_mem_set hi with h | h
      · exact hns i h
      · omega
    have hne : (ns.set k 1).sum ≠ 0 := by
      obtain ⟨-, -, s2⟩ := sum_nn (b := 8) _ hms
      have := s2 1 (List.mem_set hk _)
      omega
    obtain ⟨qs, D, hf, lot, hD⟩ := fin (ns.set k 1) p2 (by rw [List.length_set]; exact hnl) hms hne
    refine ⟨p2, qs, ?_, hp2, D, lot, hD⟩
    obtain ⟨NL, hNL⟩ : ∃ xs, xs = (ns.set k 1).map PV.int := ⟨_, rfl⟩
    rw [← hNL] at hf hset
    obtain ⟨NM, hNM⟩ : ∃ xs, xs = ns.map PV.int := ⟨_, rfl⟩
    rw [← hNM] at hset hfsum ⊢
    simp [hfsum, e2, hset, hf, lotP]
  · obtain ⟨qs, D, hf, lot, hD⟩ := fin ns p1 hnl hns hz
    refine ⟨p1, qs, ?_, hp1, D, lot, hD⟩
    have hz2 : ¬ ns.sum = 0 := hz
    obtain ⟨NM, hNM⟩ : ∃ xs, xs = ns.map PV.int := ⟨_, rfl⟩
    rw [← hNM] at hf hfsum ⊢
    simp [hfsum, hz2, hf, lotP]
end K41
end
section
set_option Elab.async false
set_option linter.all false
set_option maxHeartbeats 4000000
set_option maxRecDepth 100000
set_option autoImplicit false
namespace K41
open PySem Pf
/-! drawn games -/
def lastN (sz : List Nat) : Nat := sz.getLastD 0
def shr (sz : List Nat) : List Nat := if 1 < lastN sz then sz.dropLast ++ [lastN sz - 1] else sz.dropLast
def okLast : Bool := allSz.all fun sz => match bIdx (tupN sz) (.int (-1)), sCut (tupN sz) none (some (-1)) with
  | some (.val (.int n)), some (.val q) => decide (n = (lastN sz : Nat)) && same q (tupN sz.dropLast)
  | _, _ => false
theorem last1 : okLast = true := by decide +kernel
theorem last_ok {sz : List Nat} (h : sz ∈ allSz) : bIdx (tupN sz) (.int (-1)) = some (.val (.int (lastN sz : Nat))) ∧ sCut (tupN sz) none (some (-1)) = some (.val (tupN sz.dropLast)) := by
  have h1 := List.all_eq_true.mp last1 sz h
  split at h1
  · next n q e1 e2 =>
    rw [Bool.and_eq_true] at h1
    rw [e1, e2, of_decide_eq_true h1.1, same_eq _ _ h1.2]
    exact ⟨rfl, rfl⟩
  · cases h1
theorem shr_ok : ∀ sz ∈ allSz, 24 < (playsL sz).length → shr sz ∈ allSz ∧ (playsL (shr sz)).length < (playsL sz).length := by decide +kernel
abbrev gB : DenS := dsSeq (dsAsg (tgName 2 false) (dIte (dBin bGt (dBin bIdx (dVar 2) (dUn uNeg (dCst (.int 1)))) (dCst (.int 1))) (dBin bAdd (dSli (dVar 2) none (some (dUn uNeg (dCst (.int 1))))) (dTup [dBin bSub (dBin bIdx (dVar 2) (dUn uNeg (dCst (.int 1)))) (dCst (.int 1))])) (dSli (dVar 2) none (some (dUn uNeg (dCst (.int 1)))))))
      (dsSeq (dsAsg (tgName 3 false) (dCl (n1 fLen) [dCall 1 f__law_tuples [false] [dVar 2]]))
      (dsNx))
abbrev gE (sz : List Nat) : Pf.Env := [some (.ref 0), some (.val (.int 24)), some (.val (tupN sz)), some (.val (.int ((playsL sz).length : Nat))), none, none, none]
theorem gB_ok {sz : List Nat} (h : sz ∈ allSz) (hl : 24 < (playsL sz).length) (S : Sto) : gB (gE sz) S = .ok (gE (shr sz), .nx) S := by
  obtain ⟨i1, i2⟩ := last_ok h
  obtain ⟨h1, h2⟩ := shr_ok sz h hl
  have hP := plays_of plays1 h1
  have hadd : bAdd (tupN sz.dropLast) (.tup [.int ((lastN sz : Int) - 1)]) = some (.val (.tup ((sz.dropLast.map fun n => PV.int (n : Nat)) ++ [.int ((lastN sz : Int) - 1)]))) := by
    obtain ⟨-, -, -, p4⟩ := plays_len sz h
    exact add_tt (by simp; omega)
  by_cases hc : 1 < lastN sz
  · have e : PV.tup ((sz.dropLast.map fun n => PV.int (n : Nat)) ++ [.int ((lastN sz : Int) - 1)]) = tupN (shr sz) := by
      have e1 : (lastN sz : Int) - 1 = ((lastN sz - 1 : Nat) : Int) := by omega
      unfold shr tupN
      rw [if_pos hc, List.map_append, e1]
      rfl
    rw [e] at hadd
    have hc2 : (1 : Int) < (lastN sz : Nat) := by omega
    unfold gE gB
    generalize tupN (shr sz) = T2 at *
    generalize tupN sz = T1 at *
    simp [i1, i2, hc2, hadd, hP, lenOk, sizeLine]
  · have hc2 : ¬ (1 : Int) < (lastN sz : Nat) := by omega
    have e : shr sz = sz.dropLast := by unfold shr; rw [if_neg hc]
    rw [← e] at i2
    unfold gE gB
    generalize tupN (shr sz) = T2 at *
    generalize tupN sz = T1 at *
    simp [i1, i2, hc2, hP, lenOk, sizeLine]
theorem g_while (S : Sto) : ∀ (k n : Nat) (sz : List Nat), sz ∈ allSz → (playsL sz).length ≤ 24 + k → k < n → ∃ sz', sz' ∈ allSz ∧ (playsL sz').length ≤ 24 ∧ loopW (dBin bGt (dVar 3) (dVar 1)) gB n (gE sz) S = .ok (gE sz', .nx) S
  | k, n + 1, sz, h, hl, hk => by
    by_cases hc : 24 < (playsL sz).length
    · cases k with
      | zero => omega
      | succ k =>
        obtain ⟨h1, h2⟩ := shr_ok sz h hc
        obtain ⟨sz', h3, h4, h5⟩ := g_while S k n (shr sz) h1 (by omega) (by omega)
        refine ⟨sz', h3, h4, ?_⟩
        have hc2 : (24 : Int) < ((playsL sz).length : Nat) := by omega
        have hb := gB_ok h hc S
        have ht : dTest (dBin bGt (dVar 3) (dVar 1)) (gE sz) S = .ok true S := by simp [gE, hc2]
        exact (while_more (n := n) ht hb).trans h5
    · refine ⟨sz, h, by omega, ?_⟩
      have hc2 : ¬ (24 : Int) < ((playsL sz).length : Nat) := by omega
      exact while_done (n := n) (by simp [gE, hc2])
theorem rowsP_of {n : Nat} : ∀ {ps : List PV}, (∀ p ∈ ps, ∃ r : List Int, p = rowP r ∧ r.length = n ∧ ∀ i ∈ r, -99 ≤ i ∧ i ≤ 99) → ∃ rows : List (List Int), ps = rows.map rowP ∧ ∀ r ∈ rows, r.length = n ∧ ∀ i ∈ r, -99 ≤ i ∧ i ≤ 99
  | [], _ => ⟨[], rfl, fun i h => by cases h⟩
  | p :: ps, h => by
    obtain ⟨i, rfl, h1⟩ := h p List.mem_cons_self
    obtain ⟨r, rfl, h2⟩ := rowsP_of (ps := ps) fun q hq => h q (List.mem_cons_of_mem _ hq)
    exact ⟨i :: r, rfl, fun j hj => by
      rcases List.mem_cons.mp hj with e | hj
      · subst e; exact h1
      · exact h2 j hj⟩
theorem drawnG {i v : Nat} {e1 e2 : Den} {vs : List Nat} {ρ : Pf.Env} {T : Sto} {p : PV} {x : Res RV} {o many less : Nat} (hx : dComp (itRng rng1 [dVar v]) (tgName i false) none (dBin bSub (dCall 2 f__law_draw [true, false] [dVar 0, e1]) e2) vs ρ (.live p :: T) = x) (hp : PotOk p) (ho : o ≤ 100) (hm : 1 ≤ many) (hm2 : many < 10000)
    (hv : ρ[v]? = some (some (.val (.int (o : Nat))))) (h0 : ∀ z, ((wipeE ρ vs).set i z)[0]? = some (some (.ref 0))) (h1 : ∀ z S, e1 ((wipeE ρ vs).set i z) S = .ok (.val (.int (many : Nat))) S) (h2 : ∀ z S, e2 ((wipeE ρ vs).set i z) S = .ok (.val (.int (less : Nat))) S) :
    ∃ (r : List Int) (p' : PV), x = .ok (.own (rowP r)) (.live p' :: T) ∧ PotOk p' ∧ r.length = o ∧ ∀ i ∈ r, -(less : Int) ≤ i ∧ i ≤ (many : Int) - 1 - less := by
  obtain ⟨ps, p', e, hp', hq⟩ := dComp_pot_of hx ((List.range o).map fun i => .int (i : Nat)) (fun _ y => ∃ i : Int, y = .int i ∧ -(less : Int) ≤ i ∧ i ≤ (many : Int) - 1 - less) (by simp [hv, rng_at o (by omega)]) (by simp; unfold sizeLine; omega) hp (fun x hx q hq => by
    obtain ⟨q', d, e, hq', d0, d1⟩ := v_law_draw hq (many := many) (by omega) (by omega)
    have h00 := h0 (some (.val x))
    have h11 := h1 (some (.val x))
    have h22 := h2 (some (.val x))
    generalize ((wipeE ρ vs).set i (some (.val x))) = ρ' at *
    exact ⟨q', .val (.int (d - less)), .int (d - less), by simp [h00, h11, h22, e], .inl rfl, hq', d - less, rfl, by omega, by omega⟩)
  have hl := paired_len hq
  obtain ⟨r, rfl, hr2⟩ := ints_of (paired_all hq fun x y h => h)
  refine ⟨r, p', e, hp', ?_, hr2⟩
  simp at hl
  omega
theorem v_law_game {p : PV} (hp : PotOk p) : ∃ (p' : PV) (sz : List Nat) (rows : List (List Int)), f__law_game [.cel p, .val (.int 24)] = .ok (.val (gameP sz rows)) [.live p'] ∧ PotOk p' ∧ GOk sz rows ∧ (playsL sz).length ≤ 24 := by
  obtain ⟨p1, d, e1, hp1, d0, d1⟩ := v_law_draw hp (many := 3) (by omega) (by omega)
  obtain ⟨n, hn⟩ := Int.eq_ofNat_of_zero_le (show 0 ≤ 1 + d by omega)
  have hr := rng_at n (by omega)
  have hcomp : ∀ x, dComp (itRng rng1 [dBin bAdd (dCst (.int 1)) (dCall 2 f__law_draw [true, false] [dVar 0, dCst (.int 3)])]) (tgName 5 false) none (dBin bAdd (dCst (.int 1)) (dCall 2 f__law_draw [true, false] [dVar 0, dCst (.int 4)])) [5] [some (.ref 0), some (.val (.int 24)), none, none, none, none, none] [.live p] = x →
      ∃ xs p2, x = .ok (.own (.lst xs)) [.live p2] ∧ PotOk p2 ∧ xs.length = n ∧ xs.all (inR 1 4) = true := fun x hx => by
    obtain ⟨xs, S2, e2, ⟨p2, rfl, hp2⟩, q2⟩ := dComp_inv (ρ := [some (.ref 0), some (.val (.int 24)), none, none, none, none, none]) (S := [.live p]) (it := itRng rng1 [dBin bAdd (dCst (.int 1)) (dCall 2 f__law_draw [true, false] [dVar 0, dCst (.int 3)])]) (t := tgName 5 false) (c := none)
      (e := dBin bAdd (dCst (.int 1)) (dCall 2 f__law_draw [true, false] [dVar 0, dCst (.int 4)])) (vs := [5]) (xs := (List.range n).map fun i => .int (i : Nat)) (gs := []) (S1 := [.live p1]) (fun S => ∃ p, S = [.live p] ∧ PotOk p) (fun _ y => inR 1 4 y = true)
      (by simp [e1, hn, hr]) (by simp [sizeLine]; omega) (fun _ _ => rfl) ⟨p1, rfl, hp1⟩ (fun x hx S hS => by
        obtain ⟨p, rfl, hp⟩ := hS
        obtain ⟨p', d, e, hp', d0, d1⟩ := v_law_draw hp (many := 4) (by omega) (by omega)
        refine ⟨.int (1 + d), [.live p'], by simp [turnC, condM, chk, e], ⟨p', rfl, hp'⟩, ?_⟩
        simp [inR]
        omega)
    have hl := paired_len q2
    rw [List.length_map, List.length_range] at hl
    exact ⟨xs, p2, hx ▸ e2, hp2, hl.symm, List.all_eq_true.mpr (paired_all q2 fun x y h => h)⟩
  simp [f__law_game, d__law_game]
  generalize hx : dComp _ _ _ _ _ _ _ = x
  obtain ⟨xs, p2, rfl, hp2, hxl, hall⟩ := hcomp x hx
  clear hx hcomp
  obtain ⟨sz0, hs0, e3⟩ := szs_of (xs := xs) (by omega) (by omega) hall
  have hP0 := plays_of plays1 hs0
  obtain ⟨l1, l2, l3, l4⟩ := plays_len sz0 hs0
  obtain ⟨sz, hs, h24, hw⟩ := g_while [.live p2] 40 4000 sz0 hs0 (by omega) (by omega)
  obtain ⟨p3, wv, e4, hp3, m3⟩ := v_law_pick hp2 (xs := [.int 1, .int 2, .int 9, .int 99]) (by simp) (by simp)
  obtain ⟨w, rfl, hw1, hw9⟩ : ∃ w : Nat, wv = .int (w : Nat) ∧ 1 ≤ w ∧ w ≤ 99 := by
    simp only [List.mem_cons, List.not_mem_nil, or_false] at m3
    rcases m3 with h | h | h | h <;> subst h
    · exact ⟨1, rfl, by omega, by omega⟩
    · exact ⟨2, rfl, by omega, by omega⟩
    · exact ⟨9, rfl, by omega, by omega⟩
    · exact ⟨99, rfl, by omega, by omega⟩
  simp [e3, hP0]
  have hw2 : dsWhile 4000 (dBin bGt (dVar 3) (dVar 1)) gB (gE sz0) [.live p2] = .ok (gE sz, .nx) [.live p2] := hw
  unfold gB gE at hw2
  rw [hw2]
  have mw : bMul (.int 2) (.int (w : Nat)) = some (.val (.int (2 * w))) := mul_ok (by omega) (by omega)
  have hil : itemsOf (tupN sz) = some (sz.map fun n => .int (n : Nat)) := rfl
  simp [e4, lenOk, sizeLine]
  obtain ⟨k1, k2, k3, k4⟩ := plays_len sz hs
  generalize hx : dComp _ _ _ _ _ _ _ = x
  obtain ⟨ps, p4, rfl, hp4, hq4⟩ := dComp_pot_of hx (sz.map fun n => .int (n : Nat)) (fun _ y => ∃ r : List Int, y = rowP r ∧ r.length = (playsL sz).length ∧ ∀ i ∈ r, -99 ≤ i ∧ i ≤ 99) (by simp [hil]) (by simp; unfold sizeLine; omega) hp3 (fun x hx q hq => by
    simp
    generalize hx : dComp _ _ _ _ _ _ _ = x
    obtain ⟨r, p', rfl, hp', hl, hb⟩ := drawnG (o := (playsL sz).length) (many := 2 * w + 1) (less := w) hx hq (by omega) (by omega) (by omega) rfl (fun _ => rfl) (fun _ S => by simp [mw]) (fun _ S => by simp)
    exact ⟨p', .own (rowP r), rfl, rowP r, .inr rfl, hp', r, rfl, hl, fun i hi => by have := hb i hi; omega⟩)
  obtain ⟨rows, rfl, hrows⟩ := rowsP_of (paired_all hq4 fun x y h => h)
  have hl4 := paired_len hq4
  rw [List.length_map, List.length_map] at hl4
  refine ⟨p4, sz, rows, ?_, hp4, ⟨hs, hl4.symm, hrows⟩, h24⟩
  simp [gameP]
end K41
end
section
set_option Elab.async false
set_option linter.all false
set_option maxHeartbeats 4000000
set_option maxRecDepth 100000
set_option autoImplicit false
namespace K41
open PySem Pf
/-! sums by plans -/
def xat (x : List Rat) (n : Nat) : Rat := x.getD n 0
def Sm : List (List Rat) → (List Nat → Rat) → Rat
  | [], f => f []
  | x :: r, f => rsum ((List.range x.length).map fun n => xat x n * Sm r fun pl => f (n :: pl))
theorem Sm_congr : ∀ (r : List (List Rat)) {f g : List Nat → Rat}, (∀ pl, f pl = g pl) → Sm r f = Sm r g := fun r f g h => by rw [funext h]
theorem Sm_sub : ∀ (r : List (List Rat)) (f g : List Nat → Rat), Sm r (fun pl => f pl - g pl) = Sm r f - Sm r g
  | [], f, g => rfl
  | x :: r, f, g => by
    unfold Sm
    have e : (List.range x.length).map (fun n => xat x n * Sm r fun pl => f (n :: pl) - g (n :: pl)) = (List.range x.length).map fun n => (xat x n * Sm r fun pl => f (n :: pl)) + -(xat x n * Sm r fun pl => g (n :: pl)) := List.map_congr_left fun n _ => by
      rw [Sm_sub r (fun pl => f (n :: pl)) fun pl => g (n :: pl)]
      grind
    have e2 : ∀ (l : List Nat) (h : Nat → Rat), rsum (l.map fun n => -(h n)) = -(rsum (l.map h)) := fun l h => by
      induction l with
      | nil => simp [rsum]
      | cons y l ih => simp only [List.map_cons, rsum, ih]; grind
    rw [e, rsum_add, e2]
    grind
theorem Sm_zero : ∀ r : List (List Rat), Sm r (fun _ => 0) = 0
  | [] => rfl
  | x :: r => by
    show rsum ((List.range x.length).map fun n => xat x n * Sm r fun _ => 0) = 0
    rw [Sm_zero r, rsum_congr (g := fun _ => (0 : Rat)) fun n _ => by grind]
    exact rsum_zero _
theorem rsum_mul {α : Type} (c : Rat) (f : α → Rat) : ∀ l : List α, rsum (l.map fun x => c * f x) = c * rsum (l.map f)
  | [] => by simp [rsum]
  | x :: l => by
    have ih := rsum_mul c f l
    simp only [List.map_cons, rsum, ih]
    grind
def Rm : Nat → Nat → List (List Rat) → (List Nat → Rat) → Rat
  | _, _, [], g => g []
  | 0, c, _ :: r, g => Sm r fun pl => g (c :: pl)
  | p + 1, c, x :: r, g => rsum ((List.range x.length).map fun n => xat x n * Rm p c r fun pl => g (n :: pl))
theorem Sm_gain : ∀ (p : Nat) (pls : List (List Rat)) (g : List Nat → Rat) (a b : Nat), p < pls.length → a < (pls.getD p []).length →
    Sm pls (fun pl => if ac pl p = a then g (pl.set p b) - g pl else 0) = xat (pls.getD p []) a * (Rm p b pls g - Rm p a pls g)
  | 0, x :: r, g, a, b, _, ha => by
    have ha : a < x.length := by simpa using ha
    unfold Sm Rm
    have e : (List.range x.length).map (fun n => xat x n * Sm r fun pl => if ac (n :: pl) 0 = a then g ((n :: pl).set 0 b) - g (n :: pl) else 0) = (List.range x.length).map fun n => if a = n then xat x a * ((Sm r fun pl => g (b :: pl)) - Sm r fun pl => g (a :: pl)) else 0 := List.map_congr_left fun n _ => by
      by_cases h : a = n
      · subst h
        rw [if_pos rfl]
        have : (fun pl => if ac (a :: pl) 0 = a then g ((a :: pl).set 0 b) - g (a :: pl) else 0) = fun pl => g (b :: pl) - g (a :: pl) := funext fun pl => by
          have : ac (a :: pl) 0 = a := rfl
          rw [if_pos this]
          rfl
        rw [this, Sm_sub]
      · rw [if_neg h]
        have : (fun pl => if ac (n :: pl) 0 = a then g ((n :: pl).set 0 b) - g (n :: pl) else 0) = fun _ => 0 := funext fun pl => if_neg fun z => h (by have z : n = a := z; exact z.symm)
        rw [this, Sm_zero]
        grind
    rw [e, rsum_single, if_pos ha]
    rfl
  | p + 1, x :: r, g, a, b, hp, ha => by
    have hp : p < r.length := by simpa using hp
    have ha : a < (r.getD p []).length := by simpa using ha
    have eg : (x :: r).getD (p + 1) [] = r.getD p [] := by simp
    rw [eg]
    unfold Sm Rm
    have e : (List.range x.length).map (fun n => xat x n * Sm r fun pl => if ac (n :: pl) (p + 1) = a then g ((n :: pl).set (p + 1) b) - g (n :: pl) else 0) = (List.range x.length).map fun n => xat (r.getD p []) a * (xat x n * (Rm p b r fun pl => g (n :: pl)) + -(xat x n * Rm p a r fun pl => g (n :: pl))) := List.map_congr_left fun n _ => by
      have h := Sm_gain p r (fun pl => g (n :: pl)) a b hp ha
      have e0 : (fun pl => if ac (n :: pl) (p + 1) = a then g ((n :: pl).set (p + 1) b) - g (n :: pl) else 0) = fun pl => if ac pl p = a then g (n :: pl.set p b) - g (n :: pl) else 0 := funext fun pl => by
        have : ac (n :: pl) (p + 1) = ac pl p := by simp [ac]
        rw [this]
        rfl
      rw [e0, h]
      grind
    have e2 : ∀ (l : List Nat) (h : Nat → Rat), rsum (l.map fun n => -(h n)) = -(rsum (l.map h)) := fun l h => by
      induction l with
      | nil => simp [rsum]
      | cons y l ih => simp only [List.map_cons, rsum, ih]; grind
    rw [e, rsum_mul, rsum_add, e2]
    grind
/-- by plans: nobody gains by an exchange just if nobody gains by one act always -/
theorem plain_law {n : Nat} {x R : Nat → Rat} (h0 : ∀ a, a < n → 0 ≤ x a) (h1 : rsum ((List.range n).map x) = 1) (h2 : ∀ b, b < n → rsum ((List.range n).map fun a => x a * (R b - R a)) ≤ 0) : ∀ a b, a < n → b < n → x a * (R b - R a) ≤ 0 := fun a b ha hb => by
  obtain ⟨V, hV⟩ : ∃ V, V = rsum ((List.range n).map fun a => x a * R a) := ⟨_, rfl⟩
  have key : ∀ c, rsum ((List.range n).map fun a => x a * (c - R a)) = c - V := fun c => by
    have e : (List.range n).map (fun a => x a * (c - R a)) = (List.range n).map fun a => c * x a + -(x a * R a) := List.map_congr_left fun a _ => by grind
    have e2 : ∀ (l : List Nat) (h : Nat → Rat), rsum (l.map fun n => -(h n)) = -(rsum (l.map h)) := fun l h => by
      induction l with
      | nil => simp [rsum]
      | cons y l ih => simp only [List.map_cons, rsum, ih]; grind
    rw [e, rsum_add, rsum_mul, e2, h1, hV]
    grind
  have hle : ∀ b, b < n → R b ≤ V := fun b hb => by
    have := h2 b hb
    rw [key] at this
    grind
  -- each part of V's own sum is 0
  have hnn : ∀ a, a < n → 0 ≤ x a * (V - R a) := fun a ha => by
    have h3 := h0 a ha
    have h4 := hle a ha
    exact Rat.mul_nonneg h3 (by grind)
  have hsum : rsum ((List.range n).map fun a => x a * (V - R a)) = 0 := by rw [key]; grind
  have hz : x a * (V - R a) = 0 := by
    have le : rsum ((List.range n).map fun i => if a = i then x a * (V - R a) else 0) ≤ rsum ((List.range n).map fun i => x i * (V - R i)) := rsum_le fun i hi => by
      by_cases h : a = i
      · subst h; rw [if_pos rfl]; exact Rat.le_refl
      · rw [if_neg h]; exact hnn i (List.mem_range.mp hi)
    rw [rsum_single, if_pos ha, hsum] at le
    have := hnn a ha
    grind
  have h5 := hle b hb
  have h6 := h0 a ha
  have : x a * (R b - R a) = x a * (V - R a) + -(x a * (V - R b)) := by grind
  rw [this, hz]
  have := Rat.mul_nonneg h6 (show (0 : Rat) ≤ V - R b by grind)
  grind
end K41
end
section
set_option Elab.async false
set_option linter.all false
set_option maxHeartbeats 4000000
set_option maxRecDepth 100000
set_option autoImplicit false
namespace K41
open PySem Pf
/-! plans put together -/
def stepL (f x : List Rat) : List Rat := f.flatMap fun one => x.map fun l => one * l
def prodL (pls : List (List Rat)) : List Rat := pls.foldl stepL [1]
def stepN (g : List (List Nat)) (m : Nat) : List (List Nat) := g.flatMap fun p => (List.range m).map fun n => p ++ [n]
theorem playsL_step (sz : List Nat) : playsL sz = sz.foldl stepN [[]] := rfl
def Pc : List (List Rat) → List (Rat × List Nat)
  | [] => [(1, [])]
  | x :: r => (List.range x.length).flatMap fun n => (Pc r).map fun y => (xat x n * y.1, n :: y.2)
theorem x_rng (x : List Rat) : x = (List.range x.length).map (xat x) := by
  apply List.ext_getElem
  · simp
  · intro i h1 h2
    simp [xat, h1]
theorem step_len : ∀ (f x : List Rat), (stepL f x).length = f.length * x.length
  | [], x => by simp [stepL]
  | y :: f, x => by
    have ih := step_len f x
    unfold stepL at ih ⊢
    rw [List.flatMap_cons, List.length_append, List.length_map, ih, List.length_cons, Nat.succ_mul]
    omega
theorem stepN_len : ∀ (g : List (List Nat)) (m : Nat), (stepN g m).length = g.length * m
  | [], m => by simp [stepN]
  | y :: g, m => by
    have ih := stepN_len g m
    unfold stepN at ih ⊢
    rw [List.flatMap_cons, List.length_append, List.length_map, List.length_range, ih, List.length_cons, Nat.succ_mul]
    omega
theorem step_zip : ∀ (f : List Rat) (g : List (List Nat)) (x : List Rat), f.length = g.length → (stepL f x).zip (stepN g x.length) = (f.zip g).flatMap fun z => (List.range x.length).map fun n => (z.1 * xat x n, z.2 ++ [n])
  | [], [], x, _ => rfl
  | y :: f, p :: g, x, h => by
    have ih := step_zip f g x (by simpa using h)
    unfold stepL stepN at ih ⊢
    rw [List.flatMap_cons, List.flatMap_cons, List.zip_append (by simp), ih, List.zip_cons_cons, List.flatMap_cons]
    congr 1
    have e : x.map (fun l => y * l) = (List.range x.length).map fun n => y * xat x n := by
      conv => lhs; rw [x_rng x]
      rw [List.map_map]
      rfl
    rw [e, List.zip_map']
theorem fold_zip : ∀ (pls : List (List Rat)) (f : List Rat) (g : List (List Nat)), f.length = g.length → (pls.foldl stepL f).length = ((pls.map List.length).foldl stepN g).length ∧ (pls.foldl stepL f).zip ((pls.map List.length).foldl stepN g) = (f.zip g).flatMap fun z => (Pc pls).map fun y => (z.1 * y.1, z.2 ++ y.2)
  | [], f, g, h => by
    refine ⟨h, ?_⟩
    show f.zip g = (f.zip g).flatMap fun z => [(z.1 * 1, z.2 ++ [])]
    have : (fun z : Rat × List Nat => [(z.1 * 1, z.2 ++ [])]) = fun z => [z] := funext fun z => by rw [Rat.mul_one, List.append_nil]
    rw [this]
    simp
  | x :: r, f, g, h => by
    have hl : (stepL f x).length = (stepN g x.length).length := by rw [step_len, stepN_len, h]
    obtain ⟨h1, h2⟩ := fold_zip r (stepL f x) (stepN g x.length) hl
    refine ⟨h1, ?_⟩
    show (r.foldl stepL (stepL f x)).zip ((r.map List.length).foldl stepN (stepN g x.length)) = _
    rw [h2, step_zip f g x h, List.flatMap_assoc]
    congr 1
    funext z
    show ((List.range x.length).map fun n => (z.1 * xat x n, z.2 ++ [n])).flatMap (fun z => (Pc r).map fun y => (z.1 * y.1, z.2 ++ y.2)) = ((List.range x.length).flatMap fun n => (Pc r).map fun y => (xat x n * y.1, n :: y.2)).map fun y => (z.1 * y.1, z.2 ++ y.2)
    rw [List.flatMap_map, List.map_flatMap]
    congr 1
    funext n
    rw [List.map_map]
    exact List.map_congr_left fun y _ => by
      show (z.1 * xat x n * y.1, z.2 ++ [n] ++ y.2) = (z.1 * (xat x n * y.1), z.2 ++ (n :: y.2))
      rw [Rat.mul_assoc, List.append_assoc]
      rfl
theorem prod_zip (pls : List (List Rat)) : (prodL pls).length = (playsL (pls.map List.length)).length ∧ (prodL pls).zip (playsL (pls.map List.length)) = Pc pls := by
  obtain ⟨h1, h2⟩ := fold_zip pls [1] [[]] rfl
  refine ⟨h1, h2.trans ?_⟩
  show ([((1 : Rat), ([] : List Nat))]).flatMap (fun z => (Pc pls).map fun y => (z.1 * y.1, z.2 ++ y.2)) = Pc pls
  rw [List.flatMap_cons, List.flatMap_nil, List.append_nil]
  exact (List.map_congr_left (g := id) fun y _ => by show ((1 : Rat) * y.1, [] ++ y.2) = y; rw [Rat.one_mul]; rfl).trans (List.map_id _)
theorem rsum_flat {α : Type} (f : α → List Rat) : ∀ l : List α, rsum (l.flatMap f) = rsum (l.map fun x => rsum (f x))
  | [] => rfl
  | x :: l => by rw [List.flatMap_cons, rsum_append, List.map_cons, rsum, rsum_flat f l]
theorem Pc_Sm : ∀ (pls : List (List Rat)) (f : List Nat → Rat), rsum ((Pc pls).map fun y => y.1 * f y.2) = Sm pls f
  | [], f => by show 1 * f [] + 0 = f []; grind
  | x :: r, f => by
    unfold Sm
    show rsum (((List.range x.length).flatMap fun n => (Pc r).map fun y => (xat x n * y.1, n :: y.2)).map fun y => y.1 * f y.2) = _
    rw [List.map_flatMap, rsum_flat]
    exact rsum_congr fun n _ => by
      rw [List.map_map, ← Pc_Sm r, ← rsum_mul]
      exact rsum_congr fun y _ => by
        show xat x n * y.1 * f (n :: y.2) = xat x n * (y.1 * f (n :: y.2))
        rw [Rat.mul_assoc]
theorem Sm_one : ∀ pls : List (List Rat), (∀ x ∈ pls, rsum x = 1) → Sm pls (fun _ => 1) = 1
  | [], _ => rfl
  | x :: r, h => by
    show rsum ((List.range x.length).map fun n => xat x n * Sm r fun _ => 1) = 1
    rw [Sm_one r fun y hy => h y (List.mem_cons_of_mem _ hy)]
    have e : (List.range x.length).map (fun n => xat x n * 1) = x := by
      conv => rhs; rw [x_rng x]
      exact List.map_congr_left fun n _ => Rat.mul_one _
    rw [e]
    exact h x List.mem_cons_self
theorem CD.mul {A B M N : Nat} {p q : Rat} (h : CD A M p) (g : CD B N q) : CD (A * B) (M * N) (p * q) := by
  obtain ⟨z, hz, rfl⟩ := h
  obtain ⟨w, hw, rfl⟩ := g
  refine ⟨z * w, by rw [Int.natAbs_mul]; exact Nat.mul_le_mul hz hw, ?_⟩
  exact Rat.mkRat_mul_mkRat _ _ _ _
theorem prod_ok : ∀ (pls : List (List Rat)) (f : List Rat) (A : Nat), 0 < A → (∀ q ∈ f, CD A A q ∧ 0 ≤ q) → (∀ x ∈ pls, ∃ B, 0 < B ∧ B ≤ 32 ∧ ∀ q ∈ x, CD B B q ∧ 0 ≤ q) → ∃ D, 0 < D ∧ D ≤ A * 32 ^ pls.length ∧ ∀ q ∈ pls.foldl stepL f, CD D D q ∧ 0 ≤ q
  | [], f, A, h0, h, _ => ⟨A, h0, by simp, h⟩
  | x :: r, f, A, h0, h, hp => by
    obtain ⟨B, b0, b1, hb⟩ := hp x List.mem_cons_self
    obtain ⟨D, d0, d1, hd⟩ := prod_ok r (stepL f x) (A * B) (Nat.mul_pos h0 b0) (fun q hq => by
      obtain ⟨y, hy, hq⟩ := List.mem_flatMap.mp hq
      obtain ⟨l, hl, rfl⟩ := List.mem_map.mp hq
      obtain ⟨h1, h2⟩ := h y hy
      obtain ⟨h3, h4⟩ := hb l hl
      exact ⟨h1.mul h3, Rat.mul_nonneg h2 h4⟩) fun z hz => hp z (List.mem_cons_of_mem _ hz)
    refine ⟨D, d0, Nat.le_trans d1 ?_, hd⟩
    rw [List.length_cons, Nat.pow_succ, Nat.mul_assoc, Nat.mul_comm (32 ^ r.length) 32]
    exact Nat.mul_le_mul_left _ (Nat.mul_le_mul_right _ b1)
end K41
end
section
set_option Elab.async false
set_option linter.all false
set_option maxHeartbeats 4000000
set_option maxRecDepth 100000
set_option autoImplicit false
namespace K41
open PySem Pf
variable {sz : List Nat} {rows : List (List Int)}
structure PlOk (pls : List (List Rat)) (sz : List Nat) : Prop where
  len : pls.map List.length = sz
  ok : ∀ x ∈ pls, ∃ D, D ≤ 32 ∧ LotOk x x.length D
theorem pl_len {pls : List (List Rat)} (h : PlOk pls sz) : pls.length = sz.length := by rw [← h.len, List.length_map]
theorem pl_at {pls : List (List Rat)} (h : PlOk pls sz) {p : Nat} (hp : p < sz.length) : (pls.getD p []).length = sz.getD p 0 ∧ pls.getD p [] ∈ pls := by
  have hl := pl_len h
  have h1 : p < pls.length := by omega
  have e : pls.getD p [] = pls[p] := by simp [h1]
  rw [e]
  refine ⟨?_, List.getElem_mem h1⟩
  have := h.len
  subst this
  simp [h1]
theorem nn_of {q : Rat} (h : 0 ≤ q.num) : 0 ≤ q := Rat.num_nonneg.mp h
theorem lot_prod {pls : List (List Rat)} (g : GOk sz rows) (h : PlOk pls sz) : ∃ D, LotOk (prodL pls) (playsL sz).length D := by
  obtain ⟨p1, p2, p3, p4⟩ := plays_len sz g.mem
  obtain ⟨z1, z2⟩ := prod_zip pls
  rw [h.len] at z1 z2
  obtain ⟨D, d0, d1, hd⟩ := prod_ok pls [1] 1 (by omega) (fun q hq => by
    rw [List.mem_singleton] at hq
    subst hq
    exact ⟨⟨1, by simp, by decide +kernel⟩, by decide +kernel⟩) (fun x hx => by
    obtain ⟨B, b1, lot⟩ := h.ok x hx
    exact ⟨B, lot.d0, b1, fun q hq => ⟨lot.cd q hq, nn_of (lot.nn q hq)⟩⟩)
  have hD : D ≤ 40000 := by
    have h1 : 1 * 32 ^ pls.length ≤ 1 * 32 ^ 3 := Nat.mul_le_mul_left _ (Nat.pow_le_pow_right (by omega) (by rw [pl_len h]; exact p4))
    exact Nat.le_trans (Nat.le_trans d1 h1) (by decide)
  refine ⟨D, z1, d0, hD, fun q hq => (hd q hq).1, fun q hq => Rat.num_nonneg.mpr (hd q hq).2, ?_⟩
  have e : prodL pls = (Pc pls).map fun y => y.1 * 1 := by
    have e1 : ((prodL pls).zip (playsL sz)).map Prod.fst = prodL pls := List.map_fst_zip (by omega)
    rw [← e1, z2]
    exact List.map_congr_left fun y _ => (Rat.mul_one _).symm
  rw [e, Pc_Sm pls fun _ => 1]
  exact Sm_one pls fun x hx => by
    obtain ⟨B, b1, lot⟩ := h.ok x hx
    exact lot.one
theorem gn_prod {pls : List (List Rat)} (h : PlOk pls sz) {p a b : Nat} (hp : p < sz.length) (ha : a < sz.getD p 0) :
    gnR (prodL pls) sz rows p a b = xat (pls.getD p []) a * (Rm p b pls (fun pl => (worth rows p (place sz pl) : Rat)) - Rm p a pls fun pl => (worth rows p (place sz pl) : Rat)) := by
  obtain ⟨z1, z2⟩ := prod_zip pls
  rw [h.len] at z1 z2
  have hg := Sm_gain p pls (fun pl => (worth rows p (place sz pl) : Rat)) a b (by rw [pl_len h]; exact hp) (by rw [(pl_at h hp).1]; exact ha)
  rw [← hg, ← Pc_Sm]
  unfold gnR xs
  rw [z2]
  exact rsum_congr fun y _ => by
    by_cases hc : ac y.2 p = a
    · rw [if_pos hc, if_pos hc]
      unfold dif
      rw [Rat.intCast_sub]
    · rw [if_neg hc, if_neg hc, Rat.mul_zero]
theorem same_plans {pls : List (List Rat)} (g : GOk sz rows) (h : PlOk pls sz) : ((incL sz sz.length).find? (incG (prodL pls) sz rows)).isNone = ((outL sz sz.length).find? (outG (prodL pls) sz rows)).isNone := by
  rw [Bool.eq_iff_iff, Option.isNone_iff_eq_none, Option.isNone_iff_eq_none]
  refine ⟨obeyed_accepted g, fun ho => ?_⟩
  rw [List.find?_eq_none] at ho ⊢
  intro x hx
  obtain ⟨h1, h2, h3, -⟩ := inc_mem hx
  obtain ⟨e1, e2⟩ := pl_at h h1
  obtain ⟨D, hD, lot⟩ := h.ok _ e2
  simp only [incG, decide_eq_true_eq, Rat.not_lt]
  rw [gn_prod h h1 h2]
  refine plain_law (n := sz.getD x.1 0) (x := xat (pls.getD x.1 [])) (R := fun c => Rm x.1 c pls fun pl => (worth rows x.1 (place sz pl) : Rat)) (fun a ha => ?_) ?_ (fun b hb => ?_) x.2.1 x.2.2 h2 h3
  · have : xat (pls.getD x.1 []) a = (pls.getD x.1 [])[a]'(by rw [e1]; exact ha) := by
      unfold xat
      rw [List.getD_eq_getElem?_getD, List.getElem?_eq_getElem (by rw [e1]; exact ha)]
      rfl
    rw [this]
    exact nn_of (lot.nn _ (List.getElem_mem _))
  · rw [← e1, ← x_rng]
    exact lot.one
  · have := ho (x.1, b) (out_of h1 hb)
    simp only [outG, decide_eq_true_eq, Rat.not_lt] at this
    rw [← og_sum g h1] at this
    rw [rsum_congr (g := fun a => gnR (prodL pls) sz rows x.1 a b) fun a ha => (gn_prod h h1 (List.mem_range.mp ha)).symm]
    exact this
end K41
end
section
set_option Elab.async false
set_option linter.all false
set_option maxHeartbeats 4000000
set_option maxRecDepth 100000
set_option autoImplicit false
namespace K41
open PySem Pf
variable {sz : List Nat} {rows : List (List Int)}
theorem set_last {S : Sto} {c d : Cell} : (S ++ [c]).set S.length d = S ++ [d] := by rw [List.set_append_right _ _ (Nat.le_refl _), Nat.sub_self]; rfl
theorem get_last {S : Sto} {c : Cell} : (S ++ [c])[S.length]? = some c := by rw [List.getElem?_append_right (Nat.le_refl _), Nat.sub_self]; rfl
theorem fold_fs {pls : List (List Rat)} (h : PlOk pls sz) (h3 : sz.length ≤ 3) (j : Nat) : ∀ q ∈ (pls.take j).foldl stepL [1], FS 60 q := fun q hq => by
  obtain ⟨D, d0, d1, hd⟩ := prod_ok (pls.take j) [1] 1 (by omega) (fun q hq => by
    rw [List.mem_singleton] at hq
    subst hq
    exact ⟨⟨1, by simp, by decide +kernel⟩, by decide +kernel⟩) (fun x hx => by
    obtain ⟨B, b1, lot⟩ := h.ok x (List.mem_of_mem_take hx)
    exact ⟨B, lot.d0, b1, fun q hq => ⟨lot.cd q hq, nn_of (lot.nn q hq)⟩⟩)
  have hl := pl_len h
  have h1 : 1 * 32 ^ (pls.take j).length ≤ 1 * 32 ^ 3 := Nat.mul_le_mul_left _ (Nat.pow_le_pow_right (by omega) (by rw [List.length_take]; omega))
  have hD : D ≤ 32768 := Nat.le_trans (Nat.le_trans d1 h1) (by decide)
  exact (hd q hq).1.fs d0 (Nat.lt_of_le_of_lt hD (by decide)) (Nat.lt_of_le_of_lt hD (by decide))
theorem fold_len {pls : List (List Rat)} (g : GOk sz rows) (h : PlOk pls sz) : ∀ j, j ≤ sz.length → ((pls.take j).foldl stepL [1]).length ≤ 4 ^ j
  | 0, _ => by simp
  | j + 1, hj => by
    have ih := fold_len g h j (by omega)
    have hl := pl_len h
    have h1 : j < pls.length := by omega
    rw [List.take_succ_eq_append_getElem h1, List.foldl_append]
    show (stepL _ _).length ≤ _
    rw [step_len, Nat.pow_succ]
    obtain ⟨e1, e2⟩ := pl_at h (p := j) (by omega)
    have e : pls.getD j [] = pls[j] := by simp [h1]
    rw [e] at e1
    obtain ⟨z1, z4⟩ := sz_le g (p := j) (by omega)
    exact Nat.mul_le_mul ih (by omega)
theorem v_law_together (g : GOk sz rows) {pls : List (List Rat)} (h : PlOk pls sz) : f__law_together [.val (.lst (pls.map lotP))] = .ok (.val (lotP (prodL pls))) [] := by
  obtain ⟨p1, p2, p3, p4⟩ := plays_len sz g.mem
  have hl := pl_len h
  have f1 : frac 1 = .tup [.int 1, .int 1] := rfl
  simp [f__law_together, d__law_together, lenOk, sizeLine, -frac_1]
  generalize hx : loop _ _ _ _ _ _ = x
  have hlp := loop_inv_of hx (fun j ρ S => ∃ T y2 y3 y4 y5, S = T ++ [.live (.lst (((pls.take j).foldl stepL [1]).map frac))] ∧ ρ = [some (.val (.lst (pls.map lotP))), some (.ref T.length), y2, y3, y4, y5]) (fun i ρ S ⟨_, _, _, _, _, e, _⟩ => rfl) ⟨[], none, none, none, none, by simp [f1], rfl⟩ (fun j y hj ρ S hI => by
    obtain ⟨T, y2, y3, y4, y5, rfl, rfl⟩ := hI
    have hjl : j < pls.length := by have := (List.getElem?_eq_some_iff.mp hj).1; simpa using this
    obtain rfl : y = lotP pls[j] := by
      rw [List.getElem?_map, List.getElem?_eq_getElem hjl] at hj
      exact (Option.some.inj hj).symm
    have hF := fold_fs h p4 j
    have hFl := fold_len g h j (by omega)
    have hsuc : (pls.take (j + 1)).foldl stepL [1] = stepL ((pls.take j).foldl stepL [1]) pls[j] := by rw [List.take_succ_eq_append_getElem hjl, List.foldl_append]; rfl
    rw [hsuc]
    obtain ⟨B, b1, lot⟩ := h.ok _ (List.getElem_mem hjl)
    have hxl : pls[j].length ≤ 4 := by
      obtain ⟨e1, e2⟩ := pl_at h (p := j) (by omega)
      have e : pls.getD j [] = pls[j] := by simp [hjl]
      rw [e] at e1
      obtain ⟨z1, z4⟩ := sz_le g (p := j) (by omega)
      omega
    have hF4 : ((pls.take j).foldl stepL [1]).length ≤ 64 := Nat.le_trans hFl (Nat.le_trans (Nat.pow_le_pow_right (by omega) (show j ≤ 3 by omega)) (by decide))
    generalize (pls.take j).foldl stepL [1] = F at *
    generalize pls[j] = X at *
    have hfx : ∀ q ∈ X, FS 60 q := lot.fs
    have hilX : itemsOf (lotP X) = some (X.map frac) := rfl
    generalize hU : T ++ [Cell.live (.lst (F.map frac))] = U at *
    have hUl : U.length = T.length + 1 := by rw [← hU]; simp
    have hUT : U[T.length]? = some (.live (.lst (F.map frac))) := by rw [← hU]; exact get_last
    have hUT2 : ∀ c : Cell, (U ++ [c])[T.length]? = some (.live (.lst (F.map frac))) := fun c => by rw [List.getElem?_append_left (by omega)]; exact hUT
    simp [lenOk, sizeLine, hUT2]
    generalize hx2 : loop _ _ _ _ _ _ = x2
    have hlp2 := loop_inv_of hx2 (fun k ρ S => ∃ y4 y5, S = U ++ [.live (.lst ((stepL (F.take k) X).map frac))] ∧ ρ = [some (.val (.lst (pls.map lotP))), some (.ref T.length), some (.val (lotP X)), some (.ref U.length), y4, y5]) (fun k ρ S ⟨_, _, e, _⟩ => by rw [e]; simp [chkG, hUT2, same_refl]) ⟨y4, y5, by simp [stepL], rfl⟩ (fun k z hk ρ S hI => by
      obtain ⟨y4, y5, rfl, rfl⟩ := hI
      have hkl : k < F.length := by have := (List.getElem?_eq_some_iff.mp hk).1; simpa using this
      obtain rfl : z = frac F[k] := by
        rw [List.getElem?_map, List.getElem?_eq_getElem hkl] at hk
        exact (Option.some.inj hk).symm
      have hq := hF _ (List.getElem_mem hkl)
      have hst : stepL (F.take (k + 1)) X = stepL (F.take k) X ++ X.map fun l => F[k] * l := by
        rw [List.take_succ_eq_append_getElem hkl]
        unfold stepL
        rw [List.flatMap_append]
        simp
      have hll : (stepL (F.take k) X).length ≤ 1000 := by
        rw [step_len, List.length_take]
        exact Nat.le_trans (Nat.mul_le_mul (Nat.le_trans (Nat.min_le_right _ _) hF4) hxl) (by decide)
      rw [hst, List.map_append]
      have hext : extF (.lst ((X.map fun l => F[k] * l).map frac)) (.lst ((stepL (F.take k) X).map frac)) = some (.lst ((stepL (F.take k) X).map frac ++ (X.map fun l => F[k] * l).map frac), .non) := ext_ok (by simp only [List.length_map]; omega)
      generalize (stepL (F.take k) X).map frac = L at *
      have hmu : ∀ l ∈ X, f__law_times [.val (frac F[k]), .val (frac l)] = .ok (.val (frac (F[k] * l))) [] := fun l hl => v_law_times hq (hfx l hl) (by omega)
      generalize F[k] = q0 at *
      rw [List.map_map] at hext
      generalize hfq : frac q0 = fq at *
      simp [get_last]
      rw [dComp_mapG (ys := X) (g := frac) (gs := []) (fun l => frac (q0 * l)) (by simp [hilX]) (by unfold sizeLine; omega) rfl (fun l hl => by simp [hmu l hl])]
      have e : X.map (fun l => frac (q0 * l)) = X.map (frac ∘ fun l => q0 * l) := rfl
      rw [e]
      generalize X.map (frac ∘ fun l => q0 * l) = M at *
      simp [get_last, set_last, hext]
      exact .mk ⟨rfl, _, _, rfl⟩)
    obtain ⟨ρ', S', rfl, y4, y5, rfl, rfl⟩ := hlp2
    rw [List.length_map, List.take_length]
    generalize (stepL F X).map frac = L2 at *
    simp
    exact .mk ⟨U, rfl, _, _, _, _, rfl⟩)
  obtain ⟨ρ', S', rfl, T, y2, y3, y4, y5, rfl, rfl⟩ := hlp
  rw [List.length_map, List.take_length]
  have e : lotP (prodL pls) = .tup ((pls.foldl stepL [1]).map frac) := rfl
  rw [e]
  generalize (pls.foldl stepL [1]).map frac = L at *
  simp [get_last]
theorem v_chances_of (g : GOk sz rows) {pls : List (List Rat)} (h : PlOk pls sz) {v : PV} (hv : itemsOf v = some (pls.map lotP)) : f_chances_of [.val (tupN sz), .val v] = .ok (.own (.lst ((prodL pls).map frac))) [] := by
  obtain ⟨p1, p2, p3, p4⟩ := plays_len sz g.mem
  have hl := pl_len h
  have f1 : frac 1 = .tup [.int 1, .int 1] := rfl
  simp [f_chances_of, d_chances_of, hv, lenOk, sizeLine, -frac_1]
  generalize hx : loop _ _ _ _ _ _ = x
  have hlp := loop_inv_of hx (fun j ρ S => ∃ T y2 y3 y4 y5, S = T ++ [.live (.lst (((pls.take j).foldl stepL [1]).map frac))] ∧ ρ = [some (.val (tupN sz)), some (.val v), some (.ref T.length), y2, y3, y4, y5]) (fun i ρ S ⟨_, _, _, _, _, e, _⟩ => rfl) ⟨[], none, none, none, none, by simp [f1], rfl⟩ (fun j y hj ρ S hI => by
    obtain ⟨T, y2, y3, y4, y5, rfl, rfl⟩ := hI
    have hjl : j < pls.length := by have := (List.getElem?_eq_some_iff.mp hj).1; simpa using this
    obtain rfl : y = lotP pls[j] := by
      rw [List.getElem?_map, List.getElem?_eq_getElem hjl] at hj
      exact (Option.some.inj hj).symm
    have hF := fold_fs h p4 j
    have hFl := fold_len g h j (by omega)
    have hsuc : (pls.take (j + 1)).foldl stepL [1] = stepL ((pls.take j).foldl stepL [1]) pls[j] := by rw [List.take_succ_eq_append_getElem hjl, List.foldl_append]; rfl
    rw [hsuc]
    obtain ⟨B, b1, lot⟩ := h.ok _ (List.getElem_mem hjl)
    have hxl : pls[j].length ≤ 4 := by
      obtain ⟨e1, e2⟩ := pl_at h (p := j) (by omega)
      have e : pls.getD j [] = pls[j] := by simp [hjl]
      rw [e] at e1
      obtain ⟨z1, z4⟩ := sz_le g (p := j) (by omega)
      omega
    have hF4 : ((pls.take j).foldl stepL [1]).length ≤ 64 := Nat.le_trans hFl (Nat.le_trans (Nat.pow_le_pow_right (by omega) (show j ≤ 3 by omega)) (by decide))
    generalize (pls.take j).foldl stepL [1] = F at *
    generalize pls[j] = X at *
    have hfx : ∀ q ∈ X, FS 60 q := lot.fs
    have hilX : itemsOf (lotP X) = some (X.map frac) := rfl
    generalize hU : T ++ [Cell.live (.lst (F.map frac))] = U at *
    have hUl : U.length = T.length + 1 := by rw [← hU]; simp
    have hUT : U[T.length]? = some (.live (.lst (F.map frac))) := by rw [← hU]; exact get_last
    have hUT2 : ∀ c : Cell, (U ++ [c])[T.length]? = some (.live (.lst (F.map frac))) := fun c => by rw [List.getElem?_append_left (by omega)]; exact hUT
    simp [lenOk, sizeLine, hUT2]
    generalize hx2 : loop _ _ _ _ _ _ = x2
    have hlp2 := loop_inv_of hx2 (fun k ρ S => ∃ y4 y5, S = U ++ [.live (.lst ((stepL (F.take k) X).map frac))] ∧ ρ = [some (.val (tupN sz)), some (.val v), some (.ref T.length), some (.val (lotP X)), some (.ref U.length), y4, y5]) (fun k ρ S ⟨_, _, e, _⟩ => by rw [e]; simp [chkG, hUT2, same_refl]) ⟨y4, y5, by simp [stepL], rfl⟩ (fun k z hk ρ S hI => by
      obtain ⟨y4, y5, rfl, rfl⟩ := hI
      have hkl : k < F.length := by have := (List.getElem?_eq_some_iff.mp hk).1; simpa using this
      obtain rfl : z = frac F[k] := by
        rw [List.getElem?_map, List.getElem?_eq_getElem hkl] at hk
        exact (Option.some.inj hk).symm
      have hq := hF _ (List.getElem_mem hkl)
      have hst : stepL (F.take (k + 1)) X = stepL (F.take k) X ++ X.map fun l => F[k] * l := by
        rw [List.take_succ_eq_append_getElem hkl]
        unfold stepL
        rw [List.flatMap_append]
        simp
      have hll : (stepL (F.take k) X).length ≤ 1000 := by
        rw [step_len, List.length_take]
        exact Nat.le_trans (Nat.mul_le_mul (Nat.le_trans (Nat.min_le_right _ _) hF4) hxl) (by decide)
      rw [hst, List.map_append]
      have hext : extF (.lst ((X.map fun l => F[k] * l).map frac)) (.lst ((stepL (F.take k) X).map frac)) = some (.lst ((stepL (F.take k) X).map frac ++ (X.map fun l => F[k] * l).map frac), .non) := ext_ok (by simp only [List.length_map]; omega)
      generalize (stepL (F.take k) X).map frac = L at *
      have hmu : ∀ l ∈ X, f_multiply [.val (frac F[k]), .val (frac l)] = .ok (.val (frac (F[k] * l))) [] := fun l hl => v_multiply hq (hfx l hl) (by omega)
      generalize F[k] = q0 at *
      rw [List.map_map] at hext
      generalize hfq : frac q0 = fq at *
      simp [get_last]
      rw [dComp_mapG (ys := X) (g := frac) (gs := []) (fun l => frac (q0 * l)) (by simp [hilX]) (by unfold sizeLine; omega) rfl (fun l hl => by simp [hmu l hl])]
      have e : X.map (fun l => frac (q0 * l)) = X.map (frac ∘ fun l => q0 * l) := rfl
      rw [e]
      generalize X.map (frac ∘ fun l => q0 * l) = M at *
      simp [get_last, set_last, hext]
      exact .mk ⟨rfl, _, _, rfl⟩)
    obtain ⟨ρ', S', rfl, y4, y5, rfl, rfl⟩ := hlp2
    rw [List.length_map, List.take_length]
    generalize (stepL F X).map frac = L2 at *
    simp
    exact .mk ⟨U, rfl, _, _, _, _, rfl⟩)
  obtain ⟨ρ', S', rfl, T, y2, y3, y4, y5, rfl, rfl⟩ := hlp
  rw [List.length_map, List.take_length]
  have e : (prodL pls).map frac = (pls.foldl stepL [1]).map frac := rfl
  rw [e]
  generalize (pls.foldl stepL [1]).map frac = L at *
  simp [get_last]
end K41
end
section
set_option Elab.async false
set_option linter.all false
set_option maxHeartbeats 4000000
set_option maxRecDepth 100000
set_option autoImplicit false
namespace K41
open PySem Pf
variable {sz : List Nat} {rows : List (List Int)}
theorem v_is_short_lot {qs : List Rat} {m D : Nat} (h : LotOk qs m D) (h1 : 1 ≤ m) (h4 : m ≤ 4) : f_is_short_lot [.val (lotP qs)] = .ok (.val (.bl true)) [] := by
  have hlen := h.len
  have h1' : (1 : Int) ≤ qs.length := by omega
  have h16 : (qs.length : Int) ≤ 16 := by omega
  have htot := total_lot h (by omega)
  have hone := eqv_frac 1 1
  simp only [frac_1, decide_true] at hone
  have il : itemsOf (lotP qs) = some (qs.map frac) := rfl
  have fl : fLen (lotP qs) = some (.val (.int (qs.length : Nat))) := by simp [lotP]
  have it : isTu (lotP qs) = true := rfl
  have hc1 : dComp (itSeq (dVar 0)) (tgName 1 false) none (dAnd (dCall 1 f_is_fraction_of [false] [dVar 1]) (dBin bGe (dBin bIdx (dVar 1) (dCst (.int 0))) (dCst (.int 0)))) [1] [some (.val (lotP qs)), none] [] = .ok (.own (.lst (qs.map fun _ => .bl true))) [] := by
    rw [dComp_mapG (ys := qs) (g := frac) (gs := []) (fun _ => .bl true) (by simp [il]) (by unfold sizeLine; omega) rfl (fun q hq => by
      have := h.nn q hq
      simp [fr_ok h q hq, idx_f0, this])]
  have hc2 : dComp (itSeq (dVar 0)) (tgName 1 false) none (dCall 1 f_is_short [false] [dVar 1]) [1] [some (.val (lotP qs)), none] [] = .ok (.own (.lst (qs.map fun _ => .bl true))) [] := by
    rw [dComp_mapG (ys := qs) (g := frac) (gs := []) (fun _ => .bl true) (by simp [il]) (by unfold sizeLine; omega) rfl (fun q hq => by simp [short_ok h q hq])]
  simp [f_is_short_lot, d_is_short_lot, f_is_lot_of, d_is_lot_of, it, fl, h1', h16, hc1, hc2, fall_true, htot, hone]
theorem v_is_plan_of (g : GOk sz rows) {qs : List Rat} {p D : Nat} (hp : p < sz.length) (h : LotOk qs (sz.getD p 0) D) : f_is_plan_of [.val (gameP sz rows), .val (.int (p : Nat)), .val (lotP qs)] = .ok (.val (.bl true)) [] := by
  have g0 : bIdx (gameP sz rows) (.int 0) = some (.val (tupN sz)) := rfl
  obtain ⟨z1, z4⟩ := sz_le g hp
  have hs := sz_idx hp
  have hsl := v_is_short_lot h z1 z4
  have fl : fLen (lotP qs) = some (.val (.int (qs.length : Nat))) := by simp [lotP]
  have hl := h.len
  generalize sz.getD p 0 = n at *
  have e : (qs.length : Int) = (n : Nat) := by omega
  simp [f_is_plan_of, d_is_plan_of, hsl, fl, g0, hs, e]
theorem v_together (g : GOk sz rows) {pls : List (List Rat)} (h : PlOk pls sz) {v : PV} (hv : v = .lst (pls.map lotP) ∨ v = .tup (pls.map lotP)) : f_together [.val (gameP sz rows), .val v] = .ok (.val (lotP (prodL pls))) [] := by
  have g0 : bIdx (gameP sz rows) (.int 0) = some (.val (tupN sz)) := rfl
  have hil : itemsOf v = some (pls.map lotP) := by rcases hv with rfl | rfl <;> rfl
  have hfl : fLen v = some (.val (.int (pls.length : Nat))) := by rcases hv with rfl | rfl <;> simp
  have hL : isL v = true := by rcases hv with rfl | rfl <;> rfl
  have fl : fLen (tupN sz) = some (.val (.int (sz.length : Nat))) := by simp [tupN]
  have hl := pl_len h
  have hl2 : (pls.length : Int) = (sz.length : Nat) := by omega
  obtain ⟨p1, p2, p3, p4⟩ := plays_len sz g.mem
  have hnd : numd 0 (pls.map lotP) = (List.range pls.length).map fun i => .tup [.int (i : Nat), lotP (pls.getD i [])] := by
    rw [map_rng lotP pls [], numd_rng]
  have hip : ∀ i, i < pls.length → f_is_plan_of [.val (gameP sz rows), .val (.int (i : Nat)), .val (lotP (pls.getD i []))] = .ok (.val (.bl true)) [] := fun i hi => by
    obtain ⟨e1, e2⟩ := pl_at h (p := i) (by omega)
    obtain ⟨D, hD, lot⟩ := h.ok _ e2
    rw [e1] at lot
    exact v_is_plan_of g (by omega) lot
  have hck : f_check_plans [.val (gameP sz rows), .val v] = .ok (.val .non) [] := by
    simp [f_check_plans, d_check_plans, hL, hfl, g0, fl, hl2]
    rw [dComp_mapG (ys := List.range pls.length) (g := fun i => .tup [.int (i : Nat), lotP (pls.getD i [])]) (gs := []) (fun _ => .bl true) (by simp [hil, hnd]) (by simp; unfold sizeLine; omega) rfl (fun i hi => by
      have := hip i (List.mem_range.mp hi)
      generalize lotP (pls.getD i []) = lp at *
      simp [this])]
    simp [fall_true]
  have hch := v_chances_of g h hil
  have e : lotP (prodL pls) = .tup ((prodL pls).map frac) := rfl
  rw [e]
  generalize (prodL pls).map frac = L at *
  simp [f_together, d_together, v_check_game g, hck, g0, hch]
end K41
end
section
set_option Elab.async false
set_option linter.all false
set_option maxHeartbeats 4000000
set_option maxRecDepth 100000
set_option autoImplicit false
namespace K41
open PySem Pf
variable {sz : List Nat} {rows : List (List Int)}
theorem plans_of : ∀ {sz : List Nat} {ps : List PV}, (∀ n ∈ sz, n ≤ 4) → Paired (fun x y => ∃ n qs D, x = PV.int (n : Nat) ∧ y = lotP qs ∧ LotOk qs n D ∧ D ≤ 8 * n) (sz.map fun n => PV.int (n : Nat)) ps → ∃ pls, ps = pls.map lotP ∧ PlOk pls sz
  | [], _, _, h => by
    cases h
    exact ⟨[], rfl, rfl, fun x hx => by cases hx⟩
  | n :: sz, _, h4, h => by
    cases h with
    | cons a b =>
      obtain ⟨k, qs, D, e, rfl, lot, hD⟩ := a
      have e : n = k := by have : (n : Int) = (k : Nat) := by simpa using e
                           omega
      subst e
      obtain ⟨pls, rfl, hp⟩ := plans_of (fun m hm => h4 m (List.mem_cons_of_mem _ hm)) b
      refine ⟨qs :: pls, rfl, ?_, fun x hx => ?_⟩
      · rw [List.map_cons, hp.len, lot.len]
      · rcases List.mem_cons.mp hx with rfl | hx
        · have := h4 n List.mem_cons_self
          have hl := lot.len
          subst hl
          exact ⟨D, by omega, lot⟩
        · exact hp.ok x hx
theorem v_law_right {p : PV} (hp : PotOk p) : Tr (f__law_right [.cel p]) := by
  obtain ⟨p1, sz, rows, e1, hp1, g, h24⟩ := v_law_game hp
  obtain ⟨k1, k2, k3, k4⟩ := plays_len sz g.mem
  have g0 : bIdx (gameP sz rows) (.int 0) = some (.val (tupN sz)) := rfl
  have hil : itemsOf (tupN sz) = some (sz.map fun n => .int (n : Nat)) := rfl
  have hP := plays_of plays1 g.mem
  have hpl0 : f__law_plays [.val (gameP sz rows)] = .ok (.own (.lst ((playsL sz).map tupN))) [] := by simp [f__law_plays, d__law_plays, g0, hP]
  obtain ⟨p2, qs, D, e2, hp2, lot, -⟩ := v_law_lot hp1 k1 k2
  obtain ⟨p3, e3, hp3⟩ := v_lot_right g lot hp2
  have hs4 : ∀ n ∈ sz, 1 ≤ n ∧ n ≤ 4 := by
    have h : ∀ sz ∈ allSz, ∀ n ∈ sz, 1 ≤ n ∧ n ≤ 4 := by decide +kernel
    exact h sz g.mem
  simp [f__law_right, d__law_right, e1, hpl0, e2, e3, g0]
  generalize hx : dComp _ _ _ _ _ _ _ = x
  obtain ⟨ps, p4, rfl, hp4, hq4⟩ := dComp_pot_of hx (sz.map fun n => .int (n : Nat)) (fun x y => ∃ n qs D, x = PV.int (n : Nat) ∧ y = lotP qs ∧ LotOk qs n D ∧ D ≤ 8 * n) (by simp [g0, hil]) (by simp; unfold sizeLine; omega) hp3 (fun x hx q hq => by
    obtain ⟨n, hn, rfl⟩ := List.mem_map.mp hx
    obtain ⟨n1, n4⟩ := hs4 n hn
    obtain ⟨q', qs, D, e, hq', lot, hD⟩ := v_law_lot hq n1 (by omega)
    exact ⟨q', .val (lotP qs), lotP qs, by simp [e], .inl rfl, hq', n, qs, D, rfl, rfl, lot, hD⟩)
  clear hx
  obtain ⟨pls, rfl, hpl⟩ := plans_of (fun n hn => (hs4 n hn).2) hq4
  obtain ⟨E, lotE⟩ := lot_prod g hpl
  have e5 := v_law_together g hpl
  have e6 := v_together g hpl (.inl rfl)
  have e7 := v_together g hpl (.inr rfl)
  have bL := bd_lot lotE k2
  have hrep := repB2 bL bL (by omega) (by omega)
  obtain ⟨p5, e8, hp5⟩ := v_lot_right g lotE hp4
  have e9 := v_is_obeyed g lotE
  have e10 := v_is_accepted g lotE
  rw [same_plans g hpl] at e9
  generalize lotP (prodL pls) = LP at *
  generalize pls.map lotP = PL at *
  simp [e5, e6, e7, permL, hrep, e8, e9, e10, beq_bb]
  exact .mk
theorem law_ok : LawOk f_law := fun ns hn => by
  obtain ⟨m, hm1, hm2, hm⟩ : ∃ m : Nat, 1 ≤ m ∧ m ≤ 2 ∧ (if (if (ns.length : Int) < 2 then (ns.length : Int) else 2) > 1 then (if (ns.length : Int) < 2 then (ns.length : Int) else 2) else 1) = (m : Int) := by
    by_cases h : 2 ≤ ns.length
    · exact ⟨2, by omega, by omega, by rw [if_neg (by omega : ¬ (ns.length : Int) < 2)]; rfl⟩
    · exact ⟨1, by omega, by omega, by rw [if_pos (by omega : (ns.length : Int) < 2)]; rw [if_neg (by omega)]; rfl⟩
  obtain ⟨bs, S2, e2, _, q2⟩ := dComp_inv (ρ := [some (.val (.scr ns)), none]) (S := []) (it := itRng rng1 [dCl (n2 fMax2) [dCst (.int 1), dCl (n2 fMin2) [dCst (.int 2), dCl (n1 fLen) [dVar 0]]]]) (t := tgName 1 false) (c := none)
    (e := dCall 1 f__law_right [true] [dCall 2 f__law_pot [false, false] [dVar 0, dVar 1]]) (vs := [1]) (xs := (List.range m).map fun i => .int (i : Nat)) (gs := []) (S1 := []) (fun _ => True) (fun _ y => y = .bl true)
    (by
      have h := rng1_nat m (by omega)
      rw [← hm] at h
      simp [h]) (by simp [sizeLine]; omega) (fun _ _ => rfl) trivial (fun x hx S _ => by
      obtain ⟨k, hk, rfl⟩ := List.mem_map.mp hx
      have hk := List.mem_range.mp hk
      obtain ⟨p, e, hp⟩ := v_law_pot ns k (by omega)
      obtain ⟨outs, e'⟩ := v_law_right hp
      exact ⟨.bl true, _, by simp [turnC, condM, chk, e, e']; rfl, trivial, rfl⟩)
  have hall : ∀ y ∈ bs, y = .bl true := paired_all q2 fun x y h => h
  have hb : bs = (bs.map fun _ => PV.bl true) := by
    have : ∀ l : List PV, (∀ y ∈ l, y = .bl true) → l = l.map fun _ => PV.bl true := fun l => by
      induction l with
      | nil => intro _; rfl
      | cons a l ih => intro h; rw [List.map_cons, ← ih fun y hy => h y (List.mem_cons_of_mem _ hy), h a List.mem_cons_self]
    exact this bs hall
  have hf : fAll (.lst bs) = some (.val (.bl true)) := by
    rw [hb]
    exact fall_of (xs := bs) (P := fun _ => true) (by simp)
  exact ⟨[], by simp [f_law, d_law, e2, hf]⟩
end K41
end
section
set_option Elab.async false
set_option linter.all false
set_option maxHeartbeats 4000000
set_option maxRecDepth 100000
set_option autoImplicit false
namespace K41
open PySem PySem.Spec PyProof.Rows L2 Pf
def fnl0 : List He.DefD := [D__law_pot, D_is_list, D_tuples_of, D_plays_of, D_is_integer, D_is_within, D_are_sizes, D_is_worth_row, D_is_game_of, D_check_game, D_divisor, D_is_fraction_of, D_is_short, D_reduced, D_add, D_total, D_is_lot_of, D_is_short_lot, D_is_plan_of, D_check_plans, D_multiply, D_chances_of, D_together, D_is_any_lot, D_check_told, D_check_lot_of, D_incentives_of, D_products_sum, D_mean_by, D_with_act, D_place_of, D_worth_at, D_losses_of, D_gain_of, D_first_incentive, D_is_obeyed, D_outside_by, D_first_outside, D_is_accepted, D__law_draw]
def fal0 : List He.Fa := [.free "abs", .free "all", .free "bool", .free "divmod", .free "enumerate", .free "int", .free "isinstance", .free "len", .free "list", .free "max", .free "min", .free "range", .free "repr", .free "sum", .free "tuple", .free "zip", .int "MOST_ACTS" 4, .int "MOST_DIGITS" 1000000000000, .int "MOST_PLACES" 16, .int "MOST_PLAYERS" 3, .int "MOST_WORTH" 99, .glo "NOUGHT", .glo "ONE", .glo "_law_pot", .glo "is_list", .glo "tuples_of", .glo "plays_of", .glo "is_integer", .glo "is_within", .glo "are_sizes", .glo "is_worth_row", .glo "is_game_of", .glo "check_game", .glo "divisor", .glo "is_fraction_of", .glo "is_short", .glo "reduced", .glo "add", .glo "total", .glo "is_lot_of", .glo "is_short_lot", .glo "is_plan_of", .glo "check_plans", .glo "multiply", .glo "chances_of", .glo "together", .glo "is_any_lot", .glo "check_told", .glo "check_lot_of"]
def fnl1 : List He.DefD := [D__law_pick, D__law_divisor, D__law_cut, D__law_lot, D__law_tuples, D__law_game, D__law_plays, D__law_times, D__law_together, D_means, D_incentives, D_told_incentive, D_told_outside, D__law_plus, D__law_total, D__law_index, D__law_gain, D__law_incentives, D__law_mean, D__law_outside, D_check_player, D_check_act, D_gain, D_check_rule, D_rule_gain, D_is_below, D_best_act, D_told_rule, D_outside_gain, D__law_below, D__law_rule_gain, D__law_player_right, D__law_lot_right, D__law_right, D_law]
def fal1 : List He.Fa := [.glo "incentives_of", .glo "products_sum", .glo "mean_by", .glo "with_act", .glo "place_of", .glo "worth_at", .glo "losses_of", .glo "gain_of", .glo "first_incentive", .glo "is_obeyed", .glo "outside_by", .glo "first_outside", .glo "is_accepted", .glo "_law_draw", .glo "_law_pick", .glo "_law_divisor", .glo "_law_cut", .glo "_law_lot", .glo "_law_tuples", .glo "_law_game", .glo "_law_plays", .glo "_law_times", .glo "_law_together", .glo "means", .glo "incentives", .glo "told_incentive", .glo "told_outside", .glo "_law_plus", .glo "_law_total", .glo "_law_index", .glo "_law_gain", .glo "_law_incentives", .glo "_law_mean", .glo "_law_outside", .glo "check_player", .glo "check_act", .glo "gain", .glo "check_rule", .glo "rule_gain", .glo "is_below", .glo "best_act", .glo "told_rule", .glo "outside_gain", .glo "_law_below", .glo "_law_rule_gain", .glo "_law_player_right", .glo "_law_lot_right", .glo "_law_right", .glo "law"]
def fnl : List He.DefD := fnl0 ++ (fnl1)
def fal : List He.Fa := fal0 ++ (fal1)
def tbl : Tb := [("NOUGHT", [0, 1]), ("ONE", [1, 1])]
theorem fx_of {K : Frag} {base : Heap} {mg : Str → Option Value} (X : K.In base) (G : base.Ns mainGlobals mg) (c : SaysS fal tbl fnl K) : Fx K mg base where
  sys := let ⟨o, e⟩ := c.sys; ⟨o, X _ _ e⟩
  n_abs := He.free_ok X G (c.d.fact 0 (f := .free "abs") rfl)
  n_all := He.free_ok X G (c.d.fact 1 (f := .free "all") rfl)
  n_bool := He.free_ok X G (c.d.fact 2 (f := .free "bool") rfl)
  n_divmod := He.free_ok X G (c.d.fact 3 (f := .free "divmod") rfl)
  n_enumerate := He.free_ok X G (c.d.fact 4 (f := .free "enumerate") rfl)
  n_int := He.free_ok X G (c.d.fact 5 (f := .free "int") rfl)
  n_isinstance := He.free_ok X G (c.d.fact 6 (f := .free "isinstance") rfl)
  n_len := He.free_ok X G (c.d.fact 7 (f := .free "len") rfl)
  n_list := He.free_ok X G (c.d.fact 8 (f := .free "list") rfl)
  n_max := He.free_ok X G (c.d.fact 9 (f := .free "max") rfl)
  n_min := He.free_ok X G (c.d.fact 10 (f := .free "min") rfl)
  n_range := He.free_ok X G (c.d.fact 11 (f := .free "range") rfl)
  n_repr := He.free_ok X G (c.d.fact 12 (f := .free "repr") rfl)
  n_sum := He.free_ok X G (c.d.fact 13 (f := .free "sum") rfl)
  n_tuple := He.free_ok X G (c.d.fact 14 (f := .free "tuple") rfl)
  n_zip := He.free_ok X G (c.d.fact 15 (f := .free "zip") rfl)
  i_MOST_ACTS := He.int_ok X G (c.d.fact 16 (f := .int "MOST_ACTS" 4) rfl)
  i_MOST_DIGITS := He.int_ok X G (c.d.fact 17 (f := .int "MOST_DIGITS" 1000000000000) rfl)
  i_MOST_PLACES := He.int_ok X G (c.d.fact 18 (f := .int "MOST_PLACES" 16) rfl)
  i_MOST_PLAYERS := He.int_ok X G (c.d.fact 19 (f := .int "MOST_PLAYERS" 3) rfl)
  i_MOST_WORTH := He.int_ok X G (c.d.fact 20 (f := .int "MOST_WORTH" 99) rfl)
  t_NOUGHT := ⟨_, He.glo_ok X G (c.d.fact 21 (f := .glo "NOUGHT") rfl), c.tup 0 rfl⟩
  t_ONE := ⟨_, He.glo_ok X G (c.d.fact 22 (f := .glo "ONE") rfl), c.tup 1 rfl⟩
  f__law_pot := let ⟨fd, F⟩ := c.d.def_ 0 (d := D__law_pot) rfl; ⟨_, fd, F, He.glo_ok X G (c.d.fact 23 (f := .glo "_law_pot") rfl)⟩
  f_is_list := let ⟨fd, F⟩ := c.d.def_ 1 (d := D_is_list) rfl; ⟨_, fd, F, He.glo_ok X G (c.d.fact 24 (f := .glo "is_list") rfl)⟩
  f_tuples_of := let ⟨fd, F⟩ := c.d.def_ 2 (d := D_tuples_of) rfl; ⟨_, fd, F, He.glo_ok X G (c.d.fact 25 (f := .glo "tuples_of") rfl)⟩
  f_plays_of := let ⟨fd, F⟩ := c.d.def_ 3 (d := D_plays_of) rfl; ⟨_, fd, F, He.glo_ok X G (c.d.fact 26 (f := .glo "plays_of") rfl)⟩
  f_is_integer := let ⟨fd, F⟩ := c.d.def_ 4 (d := D_is_integer) rfl; ⟨_, fd, F, He.glo_ok X G (c.d.fact 27 (f := .glo "is_integer") rfl)⟩
  f_is_within := let ⟨fd, F⟩ := c.d.def_ 5 (d := D_is_within) rfl; ⟨_, fd, F, He.glo_ok X G (c.d.fact 28 (f := .glo "is_within") rfl)⟩
  f_are_sizes := let ⟨fd, F⟩ := c.d.def_ 6 (d := D_are_sizes) rfl; ⟨_, fd, F, He.glo_ok X G (c.d.fact 29 (f := .glo "are_sizes") rfl)⟩
  f_is_worth_row := let ⟨fd, F⟩ := c.d.def_ 7 (d := D_is_worth_row) rfl; ⟨_, fd, F, He.glo_ok X G (c.d.fact 30 (f := .glo "is_worth_row") rfl)⟩
  f_is_game_of := let ⟨fd, F⟩ := c.d.def_ 8 (d := D_is_game_of) rfl; ⟨_, fd, F, He.glo_ok X G (c.d.fact 31 (f := .glo "is_game_of") rfl)⟩
  f_check_game := let ⟨fd, F⟩ := c.d.def_ 9 (d := D_check_game) rfl; ⟨_, fd, F, He.glo_ok X G (c.d.fact 32 (f := .glo "check_game") rfl)⟩
  f_divisor := let ⟨fd, F⟩ := c.d.def_ 10 (d := D_divisor) rfl; ⟨_, fd, F, He.glo_ok X G (c.d.fact 33 (f := .glo "divisor") rfl)⟩
  f_is_fraction_of := let ⟨fd, F⟩ := c.d.def_ 11 (d := D_is_fraction_of) rfl; ⟨_, fd, F, He.glo_ok X G (c.d.fact 34 (f := .glo "is_fraction_of") rfl)⟩
  f_is_short := let ⟨fd, F⟩ := c.d.def_ 12 (d := D_is_short) rfl; ⟨_, fd, F, He.glo_ok X G (c.d.fact 35 (f := .glo "is_short") rfl)⟩
  f_reduced := let ⟨fd, F⟩ := c.d.def_ 13 (d := D_reduced) rfl; ⟨_, fd, F, He.glo_ok X G (c.d.fact 36 (f := .glo "reduced") rfl)⟩
  f_add := let ⟨fd, F⟩ := c.d.def_ 14 (d := D_add) rfl; ⟨_, fd, F, He.glo_ok X G (c.d.fact 37 (f := .glo "add") rfl)⟩
  f_total := let ⟨fd, F⟩ := c.d.def_ 15 (d := D_total) rfl; ⟨_, fd, F, He.glo_ok X G (c.d.fact 38 (f := .glo "total") rfl)⟩
  f_is_lot_of := let ⟨fd, F⟩ := c.d.def_ 16 (d := D_is_lot_of) rfl; ⟨_, fd, F, He.glo_ok X G (c.d.fact 39 (f := .glo "is_lot_of") rfl)⟩
  f_is_short_lot := let ⟨fd, F⟩ := c.d.def_ 17 (d := D_is_short_lot) rfl; ⟨_, fd, F, He.glo_ok X G (c.d.fact 40 (f := .glo "is_short_lot") rfl)⟩
  f_is_plan_of := let ⟨fd, F⟩ := c.d.def_ 18 (d := D_is_plan_of) rfl; ⟨_, fd, F, He.glo_ok X G (c.d.fact 41 (f := .glo "is_plan_of") rfl)⟩
  f_check_plans := let ⟨fd, F⟩ := c.d.def_ 19 (d := D_check_plans) rfl; ⟨_, fd, F, He.glo_ok X G (c.d.fact 42 (f := .glo "check_plans") rfl)⟩
  f_multiply := let ⟨fd, F⟩ := c.d.def_ 20 (d := D_multiply) rfl; ⟨_, fd, F, He.glo_ok X G (c.d.fact 43 (f := .glo "multiply") rfl)⟩
  f_chances_of := let ⟨fd, F⟩ := c.d.def_ 21 (d := D_chances_of) rfl; ⟨_, fd, F, He.glo_ok X G (c.d.fact 44 (f := .glo "chances_of") rfl)⟩
  f_together := let ⟨fd, F⟩ := c.d.def_ 22 (d := D_together) rfl; ⟨_, fd, F, He.glo_ok X G (c.d.fact 45 (f := .glo "together") rfl)⟩
  f_is_any_lot := let ⟨fd, F⟩ := c.d.def_ 23 (d := D_is_any_lot) rfl; ⟨_, fd, F, He.glo_ok X G (c.d.fact 46 (f := .glo "is_any_lot") rfl)⟩
  f_check_told := let ⟨fd, F⟩ := c.d.def_ 24 (d := D_check_told) rfl; ⟨_, fd, F, He.glo_ok X G (c.d.fact 47 (f := .glo "check_told") rfl)⟩
  f_check_lot_of := let ⟨fd, F⟩ := c.d.def_ 25 (d := D_check_lot_of) rfl; ⟨_, fd, F, He.glo_ok X G (c.d.fact 48 (f := .glo "check_lot_of") rfl)⟩
  f_incentives_of := let ⟨fd, F⟩ := c.d.def_ 26 (d := D_incentives_of) rfl; ⟨_, fd, F, He.glo_ok X G (c.d.fact 49 (f := .glo "incentives_of") rfl)⟩
  f_products_sum := let ⟨fd, F⟩ := c.d.def_ 27 (d := D_products_sum) rfl; ⟨_, fd, F, He.glo_ok X G (c.d.fact 50 (f := .glo "products_sum") rfl)⟩
  f_mean_by := let ⟨fd, F⟩ := c.d.def_ 28 (d := D_mean_by) rfl; ⟨_, fd, F, He.glo_ok X G (c.d.fact 51 (f := .glo "mean_by") rfl)⟩
  f_with_act := let ⟨fd, F⟩ := c.d.def_ 29 (d := D_with_act) rfl; ⟨_, fd, F, He.glo_ok X G (c.d.fact 52 (f := .glo "with_act") rfl)⟩
  f_place_of := let ⟨fd, F⟩ := c.d.def_ 30 (d := D_place_of) rfl; ⟨_, fd, F, He.glo_ok X G (c.d.fact 53 (f := .glo "place_of") rfl)⟩
  f_worth_at := let ⟨fd, F⟩ := c.d.def_ 31 (d := D_worth_at) rfl; ⟨_, fd, F, He.glo_ok X G (c.d.fact 54 (f := .glo "worth_at") rfl)⟩
  f_losses_of := let ⟨fd, F⟩ := c.d.def_ 32 (d := D_losses_of) rfl; ⟨_, fd, F, He.glo_ok X G (c.d.fact 55 (f := .glo "losses_of") rfl)⟩
  f_gain_of := let ⟨fd, F⟩ := c.d.def_ 33 (d := D_gain_of) rfl; ⟨_, fd, F, He.glo_ok X G (c.d.fact 56 (f := .glo "gain_of") rfl)⟩
  f_first_incentive := let ⟨fd, F⟩ := c.d.def_ 34 (d := D_first_incentive) rfl; ⟨_, fd, F, He.glo_ok X G (c.d.fact 57 (f := .glo "first_incentive") rfl)⟩
  f_is_obeyed := let ⟨fd, F⟩ := c.d.def_ 35 (d := D_is_obeyed) rfl; ⟨_, fd, F, He.glo_ok X G (c.d.fact 58 (f := .glo "is_obeyed") rfl)⟩
  f_outside_by := let ⟨fd, F⟩ := c.d.def_ 36 (d := D_outside_by) rfl; ⟨_, fd, F, He.glo_ok X G (c.d.fact 59 (f := .glo "outside_by") rfl)⟩
  f_first_outside := let ⟨fd, F⟩ := c.d.def_ 37 (d := D_first_outside) rfl; ⟨_, fd, F, He.glo_ok X G (c.d.fact 60 (f := .glo "first_outside") rfl)⟩
  f_is_accepted := let ⟨fd, F⟩ := c.d.def_ 38 (d := D_is_accepted) rfl; ⟨_, fd, F, He.glo_ok X G (c.d.fact 61 (f := .glo "is_accepted") rfl)⟩
  f__law_draw := let ⟨fd, F⟩ := c.d.def_ 39 (d := D__law_draw) rfl; ⟨_, fd, F, He.glo_ok X G (c.d.fact 62 (f := .glo "_law_draw") rfl)⟩
  f__law_pick := let ⟨fd, F⟩ := c.d.def_ 40 (d := D__law_pick) rfl; ⟨_, fd, F, He.glo_ok X G (c.d.fact 63 (f := .glo "_law_pick") rfl)⟩
  f__law_divisor := let ⟨fd, F⟩ := c.d.def_ 41 (d := D__law_divisor) rfl; ⟨_, fd, F, He.glo_ok X G (c.d.fact 64 (f := .glo "_law_divisor") rfl)⟩
  f__law_cut := let ⟨fd, F⟩ := c.d.def_ 42 (d := D__law_cut) rfl; ⟨_, fd, F, He.glo_ok X G (c.d.fact 65 (f := .glo "_law_cut") rfl)⟩
  f__law_lot := let ⟨fd, F⟩ := c.d.def_ 43 (d := D__law_lot) rfl; ⟨_, fd, F, He.glo_ok X G (c.d.fact 66 (f := .glo "_law_lot") rfl)⟩
  f__law_tuples := let ⟨fd, F⟩ := c.d.def_ 44 (d := D__law_tuples) rfl; ⟨_, fd, F, He.glo_ok X G (c.d.fact 67 (f := .glo "_law_tuples") rfl)⟩
  f__law_game := let ⟨fd, F⟩ := c.d.def_ 45 (d := D__law_game) rfl; ⟨_, fd, F, He.glo_ok X G (c.d.fact 68 (f := .glo "_law_game") rfl)⟩
  f__law_plays := let ⟨fd, F⟩ := c.d.def_ 46 (d := D__law_plays) rfl; ⟨_, fd, F, He.glo_ok X G (c.d.fact 69 (f := .glo "_law_plays") rfl)⟩
  f__law_times := let ⟨fd, F⟩ := c.d.def_ 47 (d := D__law_times) rfl; ⟨_, fd, F, He.glo_ok X G (c.d.fact 70 (f := .glo "_law_times") rfl)⟩
  f__law_together := let ⟨fd, F⟩ := c.d.def_ 48 (d := D__law_together) rfl; ⟨_, fd, F, He.glo_ok X G (c.d.fact 71 (f := .glo "_law_together") rfl)⟩
  f_means := let ⟨fd, F⟩ := c.d.def_ 49 (d := D_means) rfl; ⟨_, fd, F, He.glo_ok X G (c.d.fact 72 (f := .glo "means") rfl)⟩
  f_incentives := let ⟨fd, F⟩ := c.d.def_ 50 (d := D_incentives) rfl; ⟨_, fd, F, He.glo_ok X G (c.d.fact 73 (f := .glo "incentives") rfl)⟩
  f_told_incentive := let ⟨fd, F⟩ := c.d.def_ 51 (d := D_told_incentive) rfl; ⟨_, fd, F, He.glo_ok X G (c.d.fact 74 (f := .glo "told_incentive") rfl)⟩
  f_told_outside := let ⟨fd, F⟩ := c.d.def_ 52 (d := D_told_outside) rfl; ⟨_, fd, F, He.glo_ok X G (c.d.fact 75 (f := .glo "told_outside") rfl)⟩
  f__law_plus := let ⟨fd, F⟩ := c.d.def_ 53 (d := D__law_plus) rfl; ⟨_, fd, F, He.glo_ok X G (c.d.fact 76 (f := .glo "_law_plus") rfl)⟩
  f__law_total := let ⟨fd, F⟩ := c.d.def_ 54 (d := D__law_total) rfl; ⟨_, fd, F, He.glo_ok X G (c.d.fact 77 (f := .glo "_law_total") rfl)⟩
  f__law_index := let ⟨fd, F⟩ := c.d.def_ 55 (d := D__law_index) rfl; ⟨_, fd, F, He.glo_ok X G (c.d.fact 78 (f := .glo "_law_index") rfl)⟩
  f__law_gain := let ⟨fd, F⟩ := c.d.def_ 56 (d := D__law_gain) rfl; ⟨_, fd, F, He.glo_ok X G (c.d.fact 79 (f := .glo "_law_gain") rfl)⟩
  f__law_incentives := let ⟨fd, F⟩ := c.d.def_ 57 (d := D__law_incentives) rfl; ⟨_, fd, F, He.glo_ok X G (c.d.fact 80 (f := .glo "_law_incentives") rfl)⟩
  f__law_mean := let ⟨fd, F⟩ := c.d.def_ 58 (d := D__law_mean) rfl; ⟨_, fd, F, He.glo_ok X G (c.d.fact 81 (f := .glo "_law_mean") rfl)⟩
  f__law_outside := let ⟨fd, F⟩ := c.d.def_ 59 (d := D__law_outside) rfl; ⟨_, fd, F, He.glo_ok X G (c.d.fact 82 (f := .glo "_law_outside") rfl)⟩
  f_check_player := let ⟨fd, F⟩ := c.d.def_ 60 (d := D_check_player) rfl; ⟨_, fd, F, He.glo_ok X G (c.d.fact 83 (f := .glo "check_player") rfl)⟩
  f_check_act := let ⟨fd, F⟩ := c.d.def_ 61 (d := D_check_act) rfl; ⟨_, fd, F, He.glo_ok X G (c.d.fact 84 (f := .glo "check_act") rfl)⟩
  f_gain := let ⟨fd, F⟩ := c.d.def_ 62 (d := D_gain) rfl; ⟨_, fd, F, He.glo_ok X G (c.d.fact 85 (f := .glo "gain") rfl)⟩
  f_check_rule := let ⟨fd, F⟩ := c.d.def_ 63 (d := D_check_rule) rfl; ⟨_, fd, F, He.glo_ok X G (c.d.fact 86 (f := .glo "check_rule") rfl)⟩
  f_rule_gain := let ⟨fd, F⟩ := c.d.def_ 64 (d := D_rule_gain) rfl; ⟨_, fd, F, He.glo_ok X G (c.d.fact 87 (f := .glo "rule_gain") rfl)⟩
  f_is_below := let ⟨fd, F⟩ := c.d.def_ 65 (d := D_is_below) rfl; ⟨_, fd, F, He.glo_ok X G (c.d.fact 88 (f := .glo "is_below") rfl)⟩
  f_best_act := let ⟨fd, F⟩ := c.d.def_ 66 (d := D_best_act) rfl; ⟨_, fd, F, He.glo_ok X G (c.d.fact 89 (f := .glo "best_act") rfl)⟩
  f_told_rule := let ⟨fd, F⟩ := c.d.def_ 67 (d := D_told_rule) rfl; ⟨_, fd, F, He.glo_ok X G (c.d.fact 90 (f := .glo "told_rule") rfl)⟩
  f_outside_gain := let ⟨fd, F⟩ := c.d.def_ 68 (d := D_outside_gain) rfl; ⟨_, fd, F, He.glo_ok X G (c.d.fact 91 (f := .glo "outside_gain") rfl)⟩
  f__law_below := let ⟨fd, F⟩ := c.d.def_ 69 (d := D__law_below) rfl; ⟨_, fd, F, He.glo_ok X G (c.d.fact 92 (f := .glo "_law_below") rfl)⟩
  f__law_rule_gain := let ⟨fd, F⟩ := c.d.def_ 70 (d := D__law_rule_gain) rfl; ⟨_, fd, F, He.glo_ok X G (c.d.fact 93 (f := .glo "_law_rule_gain") rfl)⟩
  f__law_player_right := let ⟨fd, F⟩ := c.d.def_ 71 (d := D__law_player_right) rfl; ⟨_, fd, F, He.glo_ok X G (c.d.fact 94 (f := .glo "_law_player_right") rfl)⟩
  f__law_lot_right := let ⟨fd, F⟩ := c.d.def_ 72 (d := D__law_lot_right) rfl; ⟨_, fd, F, He.glo_ok X G (c.d.fact 95 (f := .glo "_law_lot_right") rfl)⟩
  f__law_right := let ⟨fd, F⟩ := c.d.def_ 73 (d := D__law_right) rfl; ⟨_, fd, F, He.glo_ok X G (c.d.fact 96 (f := .glo "_law_right") rfl)⟩
  f_law := let ⟨fd, F⟩ := c.d.def_ 74 (d := D_law) rfl; ⟨_, fd, F, He.glo_ok X G (c.d.fact 97 (f := .glo "law") rfl)⟩
abbrev R : PySem.W.OpenRow := PySem.W.OpenLaw.row PySem.Challenge.rw_playpapers_k41_whole_gains_and_rules
abbrev hk : PySem.W.Hook := hookS 4 fal tbl fnl
def ob (s : PySem.W.SharedT) : He.AlD := obsS 4 fal tbl fnl (HandSHeadRun.getT s)
theorem ob_eq (s : PySem.W.SharedT) : ob s = hk.obs s.abs := obsS_eq (HandSHeadRun.getT_eq s)
def hlo0 : List Str := ["PlayError", "InvalidGame", "InvalidPlayer", "InvalidAct", "InvalidLot", "InvalidPlans", "InvalidRule", "MOST_DIGITS", "is_integer", "is_within", "is_list", "divisor", "is_fraction_of", "is_short", "NOUGHT", "ONE", "reduced", "add", "multiply", "is_below", "total", "products_sum", "MOST_PLACES", "is_lot_of", "is_short_lot", "mean_by", "MOST_PLAYERS", "MOST_ACTS", "MOST_WORTH", "tuples_of"]
def hlo1 : List Str := ["plays_of", "with_act", "place_of", "worth_at", "are_sizes", "is_worth_row", "is_game_of", "check_game", "check_player", "check_act", "is_plan_of", "check_plans", "chances_of", "is_any_lot", "check_told", "check_lot_of", "check_rule", "incentives_of", "losses_of", "gain_of", "outside_by", "first_incentive", "first_outside", "best_act", "together", "means", "incentives", "gain", "rule_gain", "told_rule"]
def hlo2 : List Str := ["outside_gain", "is_obeyed", "is_accepted", "told_incentive", "told_outside", "_law_pot", "_law_draw", "_law_pick", "_law_divisor", "_law_cut", "_law_plus", "_law_times", "_law_below", "_law_total", "_law_lot", "_law_tuples", "_law_index", "_law_game", "_law_plays", "_law_gain", "_law_incentives", "_law_mean", "_law_together", "_law_outside", "_law_rule_gain", "_law_player_right", "_law_lot_right", "_law_right"]
def hlo : List Str := hlo0 ++ hlo1 ++ hlo2
section
open PySem PySem.W PySem.Calls PyProof.Rows HandSHeadRun
noncomputable abbrev EF (w : World) (os : OsState) : Option SharedT := endF (stepQ (denQ tabQ) R.prog w) 4000 R.prog w os
theorem run_a (w : World) (os : OsState) : (EF w os).map (fun s => looksF R.prog (boot_heap w.params) s.abs) = some true := by kernel_rfl
theorem run_b (w : World) (os : OsState) : (EF w os).map (fun s => seenQ (PySem.W.view R.prog [95]) hlo (importedModules R.prog.main.body) (fun s => xlAt (PySem.W.view R.prog [95]) [] s && recOk R.toRowW.records s) s.abs) = some (openGood (PySem.W.view R.prog [95]) hlo) := by kernel_rfl
theorem run_0 (w : World) (os : OsState) : (EF w os).map (fun s => obsS 4 fal0 [] fnl0 (HandSHeadRun.getT s)) = some (He.valD fnl0) := by kernel_rfl
theorem run_1 (w : World) (os : OsState) : (EF w os).map (fun s => obsS 4 fal1 tbl fnl1 (HandSHeadRun.getT s)) = some (He.valD fnl1) := by kernel_rfl
theorem run (w : World) : HandSHeadRun.RunEq R (PySem.W.view R.prog [95]) hk ob 4000 hlo w := fun os => map3_of (run_a w os) (run_b w os) (ob_app (run_0 w os) (run_1 w os))
end
end K41
namespace K41
open PySem PySem.Spec PyProof.Rows L2 Pf
theorem law_end {w : World} {K : Frag} {h : Heap} {mg : Str → Option Value} {fa : Addr} (X : K.In h) (G : h.Ns mainGlobals mg) (hmg : mg ("law" : Str) = some (.ref fa)) (c : SaysS fal tbl fnl K) :
    ∃ (K : Frag) (fd : FuncData), K.In h ∧ (∀ (s : Shared) (u : Value), BindsTo s fd ⟨[u], []⟩ [("script", u)]) ∧
      ∀ base : Heap, K.In base → base.Ns mainGlobals mg → FnG PySem.Challenge.rw_playpapers_k41_whole_gains_and_rules.prog w K mg base 13 fa fd ["script"] (spF K f_law) := by
  have fx := fx_of X G c
  obtain ⟨a, fd, F, hm⟩ := fx.f_law
  have e := hmg.symm.trans hm
  cases e
  refine ⟨K, fd, X, fun s u => ?_, fun base Xb Gb => ?_⟩
  · obtain ⟨oc, od, dV, kV, doc, pm, an, cdv, ct, osl, rfl, lk, hcd, hD, _⟩ := F.ex
    have e : dV = .none := by
      rcases hD with h | h
      · exact h.2
      · exact absurd rfl h.1
    subst e
    exact .of_eq (b_law kV doc pm an cdv ct [u] rfl)
  · exact fnG_law F (fx_of Xb Gb c)
end K41
end
set_option Elab.async false
set_option linter.all false
set_option maxHeartbeats 4000000
set_option maxRecDepth 100000
set_option autoImplicit false
open PySem PySem.W PySem.Calls PyProof.Rows
theorem PySem.Challenge.cw_playpapers_k41_whole_gains_and_rules_holds : PySem.Challenge.rw_playpapers_k41_whole_gains_and_rules.Holds := by
  w_on; o_law
  refine HandSHeadRun.head_any (r := OpenLaw.row PySem.Challenge.rw_playpapers_k41_whole_gains_and_rules) (q := view (OpenLaw.row PySem.Challenge.rw_playpapers_k41_whole_gains_and_rules).prog [95]) (H := K41.hk) (ob := K41.ob) (M := 4000) (loose := K41.hlo) (d := HandSHeadRun.topDef (OpenLaw.row PySem.Challenge.rw_playpapers_k41_whole_gains_and_rules).prog 95) (kwd := []) K41.ob_eq
    (by kernel_rfl) (fun s => by kernel_rfl) K41.run (by kernel_rfl) (by kernel_rfl) (by kernel_rfl) (by rfl) (by first | assumption | decide +kernel) (by decide +kernel) ⟨rfl, rfl, rfl, rfl, rfl, by decide +kernel⟩ ?hw ?hc
  case hw => w_witness2
  case hc =>
    refine Pf.walk_ofG (l := PySem.Challenge.rw_playpapers_k41_whole_gains_and_rules) (k := 13) (x := "script") (F := K41.f_law) K41.law_ok rfl (by kernel_rfl) ⟨rfl, by decide, by decide⟩ ?C
    intro w mg fa h Y G hmg0
    obtain ⟨K, KX, c⟩ := Y
    have hmg : mg ("law" : PySem.Str) = some (.ref fa) := by
      have e : (HandSHeadRun.topDef (OpenLaw.row PySem.Challenge.rw_playpapers_k41_whole_gains_and_rules).prog 95).name = ("law" : PySem.Str) := by kernel_rfl
      rw [← e]
      exact hmg0
    exact K41.law_end KX G hmg c
