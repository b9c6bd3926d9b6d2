import PyProof.Rows.All
import Wide.All
import OpenK.AllK
import Wide.FinOn
import PySem.Challenge.RW_playpapers_k64_whole_spans_of_payments
import HandS.ForMost
import HandS.TupAny
import HandS.WideBits
import HandS.TupMul
import HandS.Style
import HandS.Deep
import HandS.IsInst
import HandS.RaiseMore
import HandS.SortInts
import KE.KSortedM
import HandS.Zip
import HandS.Iter
import KE.GoesEnum
import HandS.HeadHook2
import HandS.HeadEnd
import HandS.Head2
import HandS.Dict
import HandS.SetFor
section
set_option Elab.async false
set_option linter.all false
namespace Pf
open PySem
/-! plain values, the store of one activation, results -/
inductive PV where
  | non
  | bl (b : Bool)
  | int (i : Int)
  | str (s : Str)
  | tup (xs : List PV)
  | lst (xs : List PV)
  | dct (kvs : List (PV × PV))
  /-- the script -/
  | scr (ns : List Int)
/-- what a name holds -/
inductive SV where
  | val (v : PV)
  | ref (n : Nat)
/-- what an expression gives: a value, a new object that nobody else has, a cell -/
inductive RV where
  | val (v : PV)
  | own (v : PV)
  | ref (n : Nat)
/-- what stands in a list of lists: a value, a cell -/
inductive NE where
  | pv (p : PV)
  | cl (n : Nat)
inductive Cell where
  | live (v : PV)
  | froz (v : PV)
  | nest (es : List NE)
abbrev Sto := List Cell
abbrev Env := List (Option SV)
inductive Res (α : Type) where
  | ok (a : α) (S : Sto)
  | exc (c : Nat) (v : PV) (S : Sto)
  | stuck
abbrev M (α : Type) := Sto → Res α
def ret {α : Type} (a : α) : M α := fun S => .ok a S
def stk {α : Type} : M α := fun _ => .stuck
def bd {α β : Type} (m : M α) (f : α → M β) : M β := fun S => match m S with
  | .ok a S' => f a S'
  | .exc c v S' => .exc c v S'
  | .stuck => .stuck
/-! equality, by the library's own data -/
mutual
def toD : PV → PyData
  | .non => .none
  | .bl b => .bool b
  | .int i => .int i
  | .str s => .str s
  | .tup xs => .tuple (toDs xs)
  | .lst xs => .list (toDs xs)
  | .dct kvs => .dict (toDk kvs)
  | .scr ns => .list (ns.map .int)
def toDs : List PV → List PyData
  | [] => []
  | x :: xs => toD x :: toDs xs
def toDk : List (PV × PV) → List (PyData × PyData)
  | [] => []
  | (k, v) :: r => (toD k, toD v) :: toDk r
end
theorem toDs_map (xs : List PV) : toDs xs = xs.map toD := by
  induction xs with
  | nil => rfl
  | cons x xs ih => rw [toDs, ih]; rfl
mutual
/-- same, to the letter -/
def same : PV → PV → Bool
  | .non, .non => true
  | .bl a, .bl b => a == b
  | .int a, .int b => a == b
  | .str a, .str b => a == b
  | .tup a, .tup b => sames a b
  | .lst a, .lst b => sames a b
  | .dct a, .dct b => samek a b
  | .scr a, .scr b => a == b
  | _, _ => false
def sames : List PV → List PV → Bool
  | [], [] => true
  | x :: xs, y :: ys => same x y && sames xs ys
  | _, _ => false
def samek : List (PV × PV) → List (PV × PV) → Bool
  | [], [] => true
  | (a, b) :: xs, (c, d) :: ys => same a c && same b d && samek xs ys
  | _, _ => false
end
mutual
theorem same_eq : ∀ a b : PV, same a b = true → a = b
  | .non, b, h => by cases b <;> simp [same] at h <;> rfl
  | .bl a, b, h => by cases b <;> simp [same] at h; rw [h]
  | .int a, b, h => by cases b <;> simp [same] at h; rw [h]
  | .str a, b, h => by cases b <;> simp [same] at h; rw [h]
  | .tup a, b, h => by cases b <;> simp [same] at h; rw [sames_eq _ _ h]
  | .lst a, b, h => by cases b <;> simp [same] at h; rw [sames_eq _ _ h]
  | .dct a, b, h => by cases b <;> simp [same] at h; rw [samek_eq _ _ h]
  | .scr a, b, h => by cases b <;> simp [same] at h; rw [h]
theorem sames_eq : ∀ a b : List PV, sames a b = true → a = b
  | [], b, h => by cases b <;> simp [sames] at h; rfl
  | x :: xs, b, h => by
    cases b <;> simp [sames] at h
    rw [same_eq _ _ h.1, sames_eq _ _ h.2]
theorem samek_eq : ∀ a b : List (PV × PV), samek a b = true → a = b
  | [], b, h => by cases b <;> simp [samek] at h; rfl
  | (x, y) :: xs, b, h => by
    cases b with
    | nil => simp [samek] at h
    | cons p q =>
      obtain ⟨c, d⟩ := p
      simp [samek] at h
      rw [same_eq _ _ h.1.1, same_eq _ _ h.1.2, samek_eq _ _ h.2]
end
mutual
theorem same_refl : ∀ a : PV, same a a = true
  | .non => by simp [same]
  | .bl a => by simp [same]
  | .int a => by simp [same]
  | .str a => by simp [same]
  | .tup a => by simp [same, sames_refl a]
  | .lst a => by simp [same, sames_refl a]
  | .dct a => by simp [same, samek_refl a]
  | .scr a => by simp [same]
theorem sames_refl : ∀ a : List PV, sames a a = true
  | [] => by simp [sames]
  | x :: xs => by simp [sames, same_refl x, sames_refl xs]
theorem samek_refl : ∀ a : List (PV × PV), samek a a = true
  | [] => by simp [samek]
  | (x, y) :: xs => by simp [samek, same_refl x, same_refl y, samek_refl xs]
end
end Pf
end
section
set_option Elab.async false
set_option linter.all false
set_option maxHeartbeats 1000000
set_option autoImplicit false
namespace Pf
open PySem PySem.Spec L2
abbrev Frag := PySem.W.Frag
/-- the script -/
def Scr (K : Frag) (H : Hp) (a : Addr) (ns : List Int) : Prop := (∃ o, H a = some (.frz o (.lst (ns.map V.int)))) ∨
    ∃ (o : Obj) (its : Array Value) (n : Nat), K.lookup a = some o ∧ o.cls = .type "list" ∧ o.dict = none ∧ o.data = .seq its n ∧ its.size ≤ sizeLine ∧ Vals (ns.map V.int) its.toList
theorem Scr.sq {K : Frag} {H : Hp} {a : Addr} {ns : List Int} : Scr K H a ns → SqL K H a (ns.map V.int)
  | .inl h => .inl (.inr h)
  | .inr h => .inr h
def toKey : PV → Option Key
  | .int i => some (.inl i)
  | .str s => some (.inr s)
  | _ => none
def toKeys : List PV → Option (List Key)
  | [] => some []
  | x :: xs => match toKey x, toKeys xs with
    | some k, some ks => some (k :: ks)
    | _, _ => none
def toKeyT : PV → Option (List Key)
  | .tup xs => toKeys xs
  | _ => none
mutual
/-- the plain value p stands at v, for good -/
def Rp (K : Frag) (H : Hp) (F : Addr → Prop) : PV → V → Prop
  | .non, v => v = .non
  | .bl b, v => v = .bl b
  | .int i, v => v = .int i
  | .str s, v => v = .str s
  | .tup xs, v => ∃ a vs, v = .ref a ∧ SqT K H a vs ∧ RpL K H F xs vs
  | .lst xs, v => ∃ a vs, v = .ref a ∧ (H a = some (.lst vs) ∧ F a) ∧ RpL K H F xs vs
  | .dct kvs, v => ∃ a, v = .ref a ∧ F a ∧ ((∃ l, H a = some (.dK l) ∧ RpK K H F kvs l) ∨ ∃ l, H a = some (.dT l) ∧ RpT K H F kvs l)
  | .scr ns, v => ∃ a, v = .ref a ∧ Scr K H a ns
def RpL (K : Frag) (H : Hp) (F : Addr → Prop) : List PV → List V → Prop
  | [], vs => vs = []
  | x :: xs, vs => ∃ v r, vs = v :: r ∧ Rp K H F x v ∧ RpL K H F xs r
def RpK (K : Frag) (H : Hp) (F : Addr → Prop) : List (PV × PV) → List (Key × V) → Prop
  | [], l => l = []
  | (k, x) :: xs, l => ∃ j v r, l = (j, v) :: r ∧ toKey k = some j ∧ Rp K H F x v ∧ RpK K H F xs r
def RpT (K : Frag) (H : Hp) (F : Addr → Prop) : List (PV × PV) → List (List Key × V) → Prop
  | [], l => l = []
  | (k, x) :: xs, l => ∃ j v r, l = (j, v) :: r ∧ toKeyT k = some j ∧ Rp K H F x v ∧ RpT K H F xs r
end
/-- the object at a holds the list or dict p -/
def At (K : Frag) (H : Hp) (F : Addr → Prop) : PV → Addr → Prop
  | .lst xs, a => ∃ vs, H a = some (.lst vs) ∧ RpL K H F xs vs
  | .dct kvs, a => (∃ l, H a = some (.dK l) ∧ RpK K H F kvs l) ∨ ∃ l, H a = some (.dT l) ∧ RpT K H F kvs l
  | _, _ => False
/-- p is to be read at v now -/
def RpW (K : Frag) (H : Hp) (F : Addr → Prop) : PV → V → Prop
  | .lst xs, v => ∃ a vs, v = .ref a ∧ H a = some (.lst vs) ∧ RpL K H F xs vs
  | .dct kvs, v => ∃ a, v = .ref a ∧ At K H F (.dct kvs) a
  | p, v => Rp K H F p v
/-- where an activation stands -/
structure G where
  S : Sto
  A : List Addr
  H : Hp
  F : Addr → Prop
def mutC : Cell → Bool
  | .froz _ => false
  | _ => true
def isN : Cell → Bool
  | .nest _ => true
  | _ => false
def Lv (g : G) (b : Addr) : Prop := ∃ (n : Nat) (c : Cell), (g.S[n]? = some c ∧ mutC c = true) ∧ g.A[n]? = some b
def NeL (K : Frag) (g : G) : List NE → List V → Prop
  | [], vs => vs = []
  | .pv p :: es, vs => ∃ v r, vs = v :: r ∧ Rp K g.H g.F p v ∧ NeL K g es r
  | .cl n :: es, vs => ∃ a r, vs = .ref a :: r ∧ g.A[n]? = some a ∧ NeL K g es r
def CellOk (K : Frag) (g : G) (a : Addr) : Cell → Prop
  | .live v => At K g.H g.F v a ∧ ¬ g.F a
  | .froz v => Rp K g.H g.F v (.ref a)
  | .nest es => (∃ vs, g.H a = some (.lst vs) ∧ NeL K g es vs) ∧ ¬ g.F a
structure SRc (K : Frag) (g : G) : Prop where
  len : g.A.length = g.S.length
  nd : g.A.Nodup
  cell : ∀ (n : Nat) (a : Addr) (c : Cell), g.A[n]? = some a → g.S[n]? = some c → CellOk K g a c
  dom : ∀ a ∈ g.A, ∃ x, g.H a = some x
  fd : ∀ a, g.F a → ∃ x, g.H a = some x
structure Stp (g g' : G) : Prop where
  keep : ∀ b x, g.H b = some x → ¬ Lv g b → g'.H b = some x
  dom : ∀ b x, g.H b = some x → ∃ y, g'.H b = some y
  fz : ∀ b, g.F b → g'.F b
  fz' : ∀ b, g'.F b → g.F b ∨ Lv g b ∨ g.H b = none
  ext : ∀ (n : Nat) (a : Addr), g.A[n]? = some a → g'.A[n]? = some a
  newA : ∀ b ∈ g'.A, b ∈ g.A ∨ g.H b = none
  new : ∀ b, Lv g' b → Lv g b ∨ g.H b = none
  pl : ∀ (n : Nat) (c c' : Cell), g.S[n]? = some c → g'.S[n]? = some c' → isN c = false → isN c' = false
  ge : g.S.length ≤ g'.S.length
theorem Lv.mem {g : G} {b : Addr} (h : Lv g b) : b ∈ g.A := let ⟨_, _, _, e⟩ := h; List.mem_of_getElem? e
theorem plS {S S' : Sto} (h : S' = S) (n : Nat) (c c' : Cell) (e : S[n]? = some c) (e' : S'[n]? = some c') (z : isN c = false) : isN c' = false := by subst h; rw [e] at e'; cases e'; exact z
theorem plSet {S : Sto} {m : Nat} {d : Cell} (hd : isN d = false) (n : Nat) (c c' : Cell) (e : S[n]? = some c) (e' : (S.set m d)[n]? = some c') (z : isN c = false) : isN c' = false := by
  have hl := (List.getElem?_eq_some_iff.mp e).1
  by_cases hm : m = n
  · subst hm; rw [List.getElem?_set_self hl] at e'; cases e'; exact hd
  · rw [List.getElem?_set_ne hm, e] at e'; cases e'; exact z
theorem plApp {S : Sto} (T : Sto) (n : Nat) (c c' : Cell) (e : S[n]? = some c) (e' : (S ++ T)[n]? = some c') (z : isN c = false) : isN c' = false := by
  have hl := (List.getElem?_eq_some_iff.mp e).1
  rw [List.getElem?_append_left hl, e] at e'; cases e'; exact z
def PlS (S S' : Sto) : Prop := ∀ (n : Nat) (c c' : Cell), S[n]? = some c → S'[n]? = some c' → isN c = false → isN c' = false
theorem PlS.trans {S0 S1 S2 : Sto} (a : PlS S0 S1) (l : S0.length ≤ S1.length) (b : PlS S1 S2) : PlS S0 S2 := fun n c c' e e' h => by
  have hl := (List.getElem?_eq_some_iff.mp e).1
  obtain ⟨c1, e1⟩ : ∃ c1, S1[n]? = some c1 := ⟨_, List.getElem?_eq_getElem (by omega)⟩
  exact b n c1 c' e1 e' (a n c c1 e e1 h)
/-- Stp.plS -/
theorem Stp.refl (g : G) : Stp g g := ⟨fun _ _ h _ => h, fun _ x h => ⟨x, h⟩, fun _ h => h, fun _ h => .inl h, fun _ _ h => h, fun _ h => .inl h, fun _ h => .inl h, fun n c c' e e' h => by rw [e] at e'; cases e'; exact h, Nat.le_refl _⟩
theorem Stp.trans {g g1 g2 : G} (a : Stp g g1) (b : Stp g1 g2) : Stp g g2 where
  keep := fun c x h n => b.keep c x (a.keep c x h n) fun z => (a.new c z).elim n fun e => by rw [h] at e; cases e
  dom := fun c x h => let ⟨y, e⟩ := a.dom c x h; b.dom c y e
  fz := fun c h => b.fz c (a.fz c h)
  fz' := fun c h => by
    rcases b.fz' c h with h | h | h
    · exact a.fz' c h
    · exact .inr (a.new c h)
    · refine .inr (.inr ?_)
      cases e : g.H c with
      | none => rfl
      | some x =>
        obtain ⟨y, e'⟩ := a.dom c x e
        rw [h] at e'; cases e'
  ext := fun n c h => b.ext n c (a.ext n c h)
  newA := fun c h => by
    rcases b.newA c h with h | h
    · exact a.newA c h
    · refine .inr ?_
      cases e : g.H c with
      | none => rfl
      | some x =>
        obtain ⟨y, e'⟩ := a.dom c x e
        rw [h] at e'; cases e'
  new := fun c h => by
    rcases b.new c h with h | h
    · exact a.new c h
    · refine .inr ?_
      cases e : g.H c with
      | none => rfl
      | some x =>
        obtain ⟨y, e'⟩ := a.dom c x e
        rw [h] at e'; cases e'
  pl := fun n c c' e e' h => by
    have hl := (List.getElem?_eq_some_iff.mp e).1
    have hl1 := a.ge
    obtain ⟨c1, e1⟩ : ∃ c1, g1.S[n]? = some c1 := ⟨_, List.getElem?_eq_getElem (by omega)⟩
    exact b.pl n c1 c' e1 e' (a.pl n c c1 e e1 h)
  ge := Nat.le_trans a.ge b.ge
theorem Stp.absent {g g' : G} (a : Stp g g') {b : Addr} (h : g'.H b = Option.none) : g.H b = Option.none := by
  cases e : g.H b with
  | none => rfl
  | some x =>
    obtain ⟨y, e'⟩ := a.dom b x e
    rw [h] at e'; cases e'
def Imm : HO → Prop
  | .tup _ => True
  | .frz _ _ => True
  | _ => False
/-- what a plain value leans on stays -/
structure Keep (g g' : G) : Prop where
  fz : ∀ b, g.F b → g'.F b
  keep : ∀ b x, g.H b = some x → g.F b ∨ Imm x → g'.H b = some x
section
variable {K : Frag} {g g' : G}
theorem CellOk.nf {a : Addr} {c : Cell} (h : CellOk K g a c) (m : mutC c = true) : ¬ g.F a := by
  cases c with
  | live v => exact h.2
  | nest es => exact h.2
  | froz v => cases m
theorem SRc.nlv (s : SRc K g) {b : Addr} (h : g.F b) : ¬ Lv g b := fun ⟨n, c, e1, e2⟩ => (s.cell n b c e2 e1.1).nf e1.2 h
theorem At.ex {H : Hp} {F : Addr → Prop} {p : PV} {a : Addr} (h : At K H F p a) : ∃ x, H a = some x := by
  cases p with
  | lst xs => obtain ⟨vs, e, _⟩ := h; exact ⟨_, e⟩
  | dct kvs => rcases h with ⟨l, e, _⟩ | ⟨l, e, _⟩ <;> exact ⟨_, e⟩
  | _ => exact False.elim h
theorem At.muta {H : Hp} {F : Addr → Prop} {p : PV} {a : Addr} (h : At K H F p a) : (∃ vs, H a = some (.lst vs)) ∨ (∃ l, H a = some (.dK l)) ∨ ∃ l, H a = some (.dT l) := by
  cases p with
  | lst xs => obtain ⟨vs, e, _⟩ := h; exact .inl ⟨_, e⟩
  | dct kvs => rcases h with ⟨l, e, _⟩ | ⟨l, e, _⟩; exact .inr (.inl ⟨_, e⟩); exact .inr (.inr ⟨_, e⟩)
  | _ => exact False.elim h
theorem CellOk.muta {a : Addr} {c : Cell} (h : CellOk K g a c) (m : mutC c = true) : (∃ vs, g.H a = some (.lst vs)) ∨ (∃ l, g.H a = some (.dK l)) ∨ ∃ l, g.H a = some (.dT l) := by
  cases c with
  | live v => exact At.muta h.1
  | nest es => obtain ⟨⟨vs, e, _⟩, _⟩ := h; exact .inl ⟨vs, e⟩
  | froz v => cases m
theorem SRc.lvMut (s : SRc K g) {b : Addr} (h : Lv g b) : (∃ vs, g.H b = some (.lst vs)) ∨ (∃ l, g.H b = some (.dK l)) ∨ ∃ l, g.H b = some (.dT l) := by
  obtain ⟨n, c, e1, e2⟩ := h
  exact (s.cell n b c e2 e1.1).muta e1.2
theorem Stp.k (s : SRc K g) (a : Stp g g') : Keep g g' := ⟨a.fz, fun b x e h => a.keep b x e fun z => by
  rcases h with h | h
  · exact s.nlv h z
  · rcases s.lvMut z with ⟨_, q⟩ | ⟨_, q⟩ | ⟨_, q⟩ <;> rw [e] at q <;> cases q <;> exact h⟩
theorem SqT.keep (k : Keep g g') {a : Addr} {vs : List V} (h : SqT K g.H a vs) : SqT K g'.H a vs := by
  rcases h with h | h
  · rcases h with h | ⟨o, h⟩
    · exact .inl (.inl (k.keep _ _ h (.inr trivial)))
    · exact .inl (.inr ⟨o, k.keep _ _ h (.inr trivial)⟩)
  · exact .inr h
theorem Scr.keep (k : Keep g g') {a : Addr} {ns : List Int} (h : Scr K g.H a ns) : Scr K g'.H a ns := by
  rcases h with ⟨o, h⟩ | h
  · exact .inl ⟨o, k.keep _ _ h (.inr trivial)⟩
  · exact .inr h
mutual
theorem Rp.keep (k : Keep g g') : ∀ (p : PV) (v : V), Rp K g.H g.F p v → Rp K g'.H g'.F p v
  | .non, v, h => h
  | .bl _, v, h => h
  | .int _, v, h => h
  | .str _, v, h => h
  | .tup xs, v, ⟨a, vs, e, q, r⟩ => ⟨a, vs, e, SqT.keep k q, RpL.keep k xs vs r⟩
  | .lst xs, v, ⟨a, vs, e, q, r⟩ => ⟨a, vs, e, ⟨k.keep _ _ q.1 (.inl q.2), k.fz _ q.2⟩, RpL.keep k xs vs r⟩
  | .scr ns, v, ⟨a, e, q⟩ => ⟨a, e, Scr.keep k q⟩
  | .dct kvs, v, ⟨a, e, f, q⟩ => ⟨a, e, k.fz _ f, q.elim (fun ⟨l, h, r⟩ => .inl ⟨l, k.keep _ _ h (.inl f), RpK.keep k kvs l r⟩) fun ⟨l, h, r⟩ => .inr ⟨l, k.keep _ _ h (.inl f), RpT.keep k kvs l r⟩⟩
theorem RpL.keep (k : Keep g g') : ∀ (ps : List PV) (vs : List V), RpL K g.H g.F ps vs → RpL K g'.H g'.F ps vs
  | [], _, h => h
  | p :: ps, _, ⟨v, r, e, a, b⟩ => ⟨v, r, e, Rp.keep k p v a, RpL.keep k ps r b⟩
theorem RpK.keep (k : Keep g g') : ∀ (ps : List (PV × PV)) (l : List (Key × V)), RpK K g.H g.F ps l → RpK K g'.H g'.F ps l
  | [], _, h => h
  | (x, p) :: ps, _, ⟨j, v, r, e, t, a, b⟩ => ⟨j, v, r, e, t, Rp.keep k p v a, RpK.keep k ps r b⟩
theorem RpT.keep (k : Keep g g') : ∀ (ps : List (PV × PV)) (l : List (List Key × V)), RpT K g.H g.F ps l → RpT K g'.H g'.F ps l
  | [], _, h => h
  | (x, p) :: ps, _, ⟨j, v, r, e, t, a, b⟩ => ⟨j, v, r, e, t, Rp.keep k p v a, RpT.keep k ps r b⟩
end
/-- a list or dict whose own object stays -/
theorem At.keep' (k : Keep g g') {p : PV} {a : Addr} (n : g'.H a = g.H a) (h : At K g.H g.F p a) : At K g'.H g'.F p a := by
  cases p with
  | lst xs => obtain ⟨vs, e, r⟩ := h; exact ⟨vs, n.trans e, RpL.keep k xs vs r⟩
  | dct kvs =>
    rcases h with ⟨l, e, r⟩ | ⟨l, e, r⟩
    · exact .inl ⟨l, n.trans e, RpK.keep k kvs l r⟩
    · exact .inr ⟨l, n.trans e, RpT.keep k kvs l r⟩
  | _ => exact False.elim h
theorem NeL.keep (k : Keep g g') (ea : ∀ (n : Nat) (a : Addr), g.A[n]? = some a → g'.A[n]? = some a) : ∀ (es : List NE) (vs : List V), NeL K g es vs → NeL K g' es vs
  | [], _, h => h
  | .pv p :: es, _, ⟨v, r, e, a, b⟩ => ⟨v, r, e, Rp.keep k p v a, NeL.keep k ea es r b⟩
  | .cl n :: es, _, ⟨a, r, e, h, b⟩ => ⟨a, r, e, ea n a h, NeL.keep k ea es r b⟩
/-- a cell whose own object stays -/
theorem CellOk.keep (k : Keep g g') (ea : ∀ (n : Nat) (a : Addr), g.A[n]? = some a → g'.A[n]? = some a) {a : Addr} {c : Cell} (hH : mutC c = true → g'.H a = g.H a) (hF : mutC c = true → g'.F a → g.F a) (h : CellOk K g a c) : CellOk K g' a c := by
  cases c with
  | live v => exact ⟨h.1.keep' k (hH rfl), fun z => h.2 (hF rfl z)⟩
  | froz v => exact Rp.keep k _ _ h
  | nest es => obtain ⟨⟨vs, e, r⟩, f⟩ := h; exact ⟨⟨vs, (hH rfl).trans e, NeL.keep k ea es vs r⟩, fun z => f (hF rfl z)⟩
theorem CellOk.ex {a : Addr} {c : Cell} (h : CellOk K g a c) (m : mutC c = true) : ∃ x, g.H a = some x := by
  rcases h.muta m with ⟨_, e⟩ | ⟨_, e⟩ | ⟨_, e⟩ <;> exact ⟨_, e⟩
end
/-- of a name, of a result -/
def Rs (K : Frag) (g : G) : SV → V → Prop
  | .val p, v => Rp K g.H g.F p v
  | .ref n, v => ∃ a, v = .ref a ∧ g.A[n]? = some a
def Rr (K : Frag) (g0 g : G) : RV → V → Prop
  | .val p, v => Rp K g.H g.F p v
  | .own p, v => ∃ a, v = .ref a ∧ At K g.H g.F p a ∧ ¬ g.F a ∧ a ∉ g.A ∧ g0.H a = none
  | .ref n, v => ∃ a, v = .ref a ∧ g.A[n]? = some a
def SRe (K : Frag) (g : G) (ρ : Env) (σ : St) : Prop := ρ.length = σ.length ∧ ∀ (i : Nat) (sv : SV), ρ[i]? = some (some sv) → ∃ v, σ[i]? = some (some v) ∧ Rs K g sv v
section
variable {K : Frag} {g g' g0 : G} {ρ : Env} {σ : St}
theorem Rs.step (s : SRc K g) (k : Stp g g') {sv : SV} {v : V} (h : Rs K g sv v) : Rs K g' sv v := by
  cases sv with
  | val p => exact Rp.keep (k.k s) p v h
  | ref n => obtain ⟨a, e, h⟩ := h; exact ⟨a, e, k.ext n a h⟩
theorem Rr.step (s : SRc K g) (k : Stp g g') {r : RV} {v : V} (h : Rr K g0 g r v) : Rr K g0 g' r v := by
  cases r with
  | val p => exact Rp.keep (k.k s) p v h
  | own p =>
    obtain ⟨a, e, h, f, n, z⟩ := h
    have nl : ¬ Lv g a := fun q => n q.mem
    obtain ⟨x, hx⟩ := h.ex
    refine ⟨a, e, h.keep' (k.k s) ((k.keep a x hx nl).trans hx.symm), fun q => ?_, fun q => ?_, z⟩
    · rcases k.fz' a q with q | q | q
      · exact f q
      · exact nl q
      · rw [hx] at q; cases q
    · rcases k.newA a q with q | q
      · exact n q
      · rw [hx] at q; cases q
  | ref n => obtain ⟨a, e, h⟩ := h; exact ⟨a, e, k.ext n a h⟩
theorem Rr.from (k : Stp g0 g) {r : RV} {v : V} (h : Rr K g g' r v) : Rr K g0 g' r v := by
  cases r with
  | val p => exact h
  | own p => obtain ⟨a, e, h, f, n, z⟩ := h; exact ⟨a, e, h, f, n, k.absent z⟩
  | ref n => exact h
theorem SRe.step (s : SRc K g) (k : Stp g g') (h : SRe K g ρ σ) : SRe K g' ρ σ := ⟨h.1, fun i sv e => let ⟨v, h1, h2⟩ := h.2 i sv e; ⟨v, h1, h2.step s k⟩⟩
end
/-- how an exception is wished for: class number, its value, where one stands -/
abbrev XW := Nat → PV → G → Prop
/-- what is wanted of a run from the store S, seen from g -/
def WG {α : Type} (K : Frag) (W : XW) (g : G) (S : Sto) (m : M α) (Q : α → G → Prop) : Prop := match m S with
  | .ok a S' => ∀ g', g'.S = S' → Stp g g' → SRc K g' → Q a g'
  | .exc c v S' => ∀ g', g'.S = S' → Stp g g' → SRc K g' → W c v g'
  | .stuck => False
section
variable {α β : Type} {K : Frag} {W : XW} {g g1 : G} {S : Sto} {m : M α} {f : α → M β} {Q Q' : α → G → Prop} {R : β → G → Prop}
theorem WG.bd (h : WG K W g g1.S (Pf.bd m f) R) (st : Stp g g1) : WG K W g1 g1.S m fun a g2 => WG K W g g2.S (f a) R := by
  unfold WG at h ⊢
  unfold Pf.bd at h
  cases e : m g1.S with
  | stuck => rw [e] at h; exact h
  | exc c v S' => rw [e] at h; exact fun g' h1 h2 h3 => h g' h1 (st.trans h2) h3
  | ok a S' =>
    rw [e] at h
    intro g2 hS st2 sr
    subst hS
    exact h
theorem WG.bd0 (h : WG K W g g.S (Pf.bd m f) R) : WG K W g g.S m fun a g2 => WG K W g g2.S (f a) R := WG.bd h (Stp.refl g)
theorem WG.mono (h : WG K W g S m Q) (q : ∀ a g', Stp g g' → SRc K g' → Q a g' → Q' a g') : WG K W g S m Q' := by
  unfold WG at h ⊢
  split
  · next e => rw [e] at h; exact fun g' h1 h2 h3 => q _ _ h2 h3 (h g' h1 h2 h3)
  · next e => rw [e] at h; exact h
  · next e => rw [e] at h; exact h
theorem WG.ret {a : α} (h : WG K W g S (ret a) Q) {g' : G} (hS : g'.S = S) (st : Stp g g') (sr : SRc K g') : Q a g' := h g' hS st sr
/-- a run that is known -/
theorem WG.at {S' : Sto} {a : α} (h : WG K W g S m Q) (e : m S = .ok a S') {g' : G} (hS : g'.S = S') (st : Stp g g') (sr : SRc K g') : Q a g' := by
  unfold WG at h
  rw [e] at h
  exact h g' hS st sr
end
end Pf
end
section
set_option Elab.async false
set_option linter.all false
set_option maxHeartbeats 1000000
set_option autoImplicit false
namespace Pf
open PySem PySem.Spec L2
abbrev Den := Env → M RV
abbrev WS := L2.St → XW
/-- what a result is now -/
def peek : RV → Sto → Option PV
  | .val p, _ => some p
  | .own p, _ => some p
  | .ref n, S => match S[n]? with
    | some (.live p) => some p
    | some (.froz p) => some p
    | _ => none
def run1 (f : PV → Option RV) (r : RV) : M RV := fun S => match peek r S with
  | some p => (match f p with | some x => .ok x S | none => .stuck)
  | none => .stuck
def run2 (f : PV → PV → Option RV) (r q : RV) : M RV := fun S => match peek r S with
  | some p => (match peek q S with
    | some p' => (match f p p' with | some x => .ok x S | none => .stuck)
    | none => .stuck)
  | none => .stuck
def peeks : List RV → Sto → Option (List PV)
  | [], _ => some []
  | r :: rs, S => match peek r S with
    | some p => (match peeks rs S with | some ps => some (p :: ps) | none => none)
    | none => none
def runN (f : List PV → Option RV) (rs : List RV) : M RV := fun S => match peeks rs S with
  | some ps => (match f ps with | some x => .ok x S | none => .stuck)
  | none => .stuck
def isOwn : RV → Bool
  | .own _ => true
  | _ => false
/-- new objects are each another one -/
def ODist : List RV → List V → Prop
  | r :: rs, v :: vs => (isOwn r = true → ∀ (i : Nat) (r' : RV), rs[i]? = some r' → isOwn r' = true → vs[i]? ≠ some v) ∧ ODist rs vs
  | _, _ => True
def RrP (K : Frag) (g0 g : G) : List RV → List V → Prop := Paired (Rr K g0 g)
def RrL (K : Frag) (g0 g : G) (rs : List RV) (vs : List V) : Prop := RrP K g0 g rs vs ∧ ODist rs vs
def RpWs (K : Frag) (H : Hp) (F : Addr → Prop) : List PV → List V → Prop := Paired (RpW K H F)
section
variable {K : Frag} {g g' g0 : G} {W : XW} {α β : Type}
theorem Rp.w {H : Hp} {F : Addr → Prop} {p : PV} {v : V} (h : Rp K H F p v) : RpW K H F p v := by
  cases p with
  | lst xs => obtain ⟨a, vs, e, q, r⟩ := h; exact ⟨a, vs, e, q.1, r⟩
  | dct kvs => obtain ⟨a, e, f, q⟩ := h; exact ⟨a, e, q⟩
  | _ => exact h
theorem At.w {H : Hp} {F : Addr → Prop} {p : PV} {a : Addr} (h : At K H F p a) : RpW K H F p (.ref a) := by
  cases p with
  | lst xs => obtain ⟨vs, e, r⟩ := h; exact ⟨a, vs, rfl, e, r⟩
  | dct kvs => exact ⟨a, rfl, h⟩
  | _ => exact False.elim h
theorem Rr.peek {r : RV} {v : V} {p : PV} (s : SRc K g) (h : Rr K g0 g r v) (e : peek r g.S = some p) : RpW K g.H g.F p v := by
  cases r with
  | val q => cases e; exact Rp.w h
  | own q => cases e; obtain ⟨a, rfl, h, _⟩ := h; exact h.w
  | ref n =>
    obtain ⟨a, rfl, h⟩ := h
    cases hq : g.S[n]? with
    | none => simp only [Pf.peek, hq] at e; cases e
    | some c =>
      have k := s.cell n a c h hq
      cases c with
      | live q => simp only [Pf.peek, hq] at e; cases e; exact At.w k.1
      | froz q => simp only [Pf.peek, hq] at e; cases e; exact Rp.w k
      | nest es => simp only [Pf.peek, hq] at e; cases e
theorem RrP.step (s : SRc K g) (k : Stp g g') : ∀ {rs : List RV} {vs : List V}, RrP K g0 g rs vs → RrP K g0 g' rs vs
  | _, _, .nil => .nil
  | _, _, .cons a b => .cons (a.step s k) (RrP.step s k b)
theorem RrP.from (k : Stp g0 g) : ∀ {rs : List RV} {vs : List V}, RrP K g g' rs vs → RrP K g0 g' rs vs
  | _, _, .nil => .nil
  | _, _, .cons a b => .cons (a.from k) (RrP.from k b)
theorem RrP.peeks (s : SRc K g) : ∀ {rs : List RV} {vs : List V} {ps : List PV}, RrP K g0 g rs vs → peeks rs g.S = some ps → RpWs K g.H g.F ps vs
  | _, _, _, .nil, e => by cases e; exact .nil
  | _, _, _, .cons a b, e => by
    unfold Pf.peeks at e
    split at e
    · next p hp =>
      split at e
      · next ps hps => cases e; exact .cons (a.peek s hp) (RrP.peeks s b hps)
      · cases e
    · cases e
theorem RrP.own : ∀ {rs : List RV} {vs : List V} {i : Nat} {r : RV} {v : V}, RrP K g0 g rs vs → rs[i]? = some r → isOwn r = true → vs[i]? = some v → ∃ a, v = .ref a ∧ g0.H a = none
  | _, _, i, r, v, .nil, h, _, _ => by simp at h
  | r0 :: _, _, 0, r, v, .cons a b, h, o, h2 => by
    simp at h h2
    subst h h2
    cases r0 with
    | own p => obtain ⟨x, e, _, _, _, z⟩ := a; exact ⟨x, e, z⟩
    | val p => simp [isOwn] at o
    | ref n => simp [isOwn] at o
  | _ :: _, _, i + 1, r, v, .cons a b, h, o, h2 => RrP.own (i := i) b (by simpa using h) o (by simpa using h2)
theorem RrL.step (s : SRc K g) (k : Stp g g') {rs : List RV} {vs : List V} (h : RrL K g0 g rs vs) : RrL K g0 g' rs vs := ⟨h.1.step s k, h.2⟩
theorem RrL.from (k : Stp g0 g) {rs : List RV} {vs : List V} (h : RrL K g g' rs vs) : RrL K g0 g' rs vs := ⟨RrP.from k h.1, h.2⟩
theorem RrL.peeks (s : SRc K g) {rs : List RV} {vs : List V} {ps : List PV} (h : RrL K g0 g rs vs) (e : peeks rs g.S = some ps) : RpWs K g.H g.F ps vs := h.1.peeks s e
theorem WG.run1 {S : Sto} {f : PV → Option RV} {r : RV} {Q : RV → G → Prop} (h : WG K W g S (run1 f r) Q) : ∃ p x, peek r S = some p ∧ f p = some x ∧ ∀ g', g'.S = S → Stp g g' → SRc K g' → Q x g' := by
  unfold WG Pf.run1 at h
  cases e : Pf.peek r S with
  | none => simp only [e] at h
  | some p =>
    cases e2 : f p with
    | none => simp only [e, e2] at h
    | some x => simp only [e, e2] at h; exact ⟨p, x, rfl, e2, h⟩
theorem WG.run2 {S : Sto} {f : PV → PV → Option RV} {r q : RV} {Q : RV → G → Prop} (h : WG K W g S (run2 f r q) Q) :
    ∃ p p' x, peek r S = some p ∧ peek q S = some p' ∧ f p p' = some x ∧ ∀ g', g'.S = S → Stp g g' → SRc K g' → Q x g' := by
  unfold WG Pf.run2 at h
  cases e : Pf.peek r S with
  | none => simp only [e] at h
  | some p =>
    cases e1 : Pf.peek q S with
    | none => simp only [e, e1] at h
    | some p' =>
      cases e2 : f p p' with
      | none => simp only [e, e1, e2] at h
      | some x => simp only [e, e1, e2] at h; exact ⟨p, p', x, rfl, rfl, e2, h⟩
theorem WG.runN {S : Sto} {f : List PV → Option RV} {rs : List RV} {Q : RV → G → Prop} (h : WG K W g S (runN f rs) Q) : ∃ ps x, peeks rs S = some ps ∧ f ps = some x ∧ ∀ g', g'.S = S → Stp g g' → SRc K g' → Q x g' := by
  unfold WG Pf.runN at h
  cases e : Pf.peeks rs S with
  | none => simp only [e] at h
  | some p =>
    cases e2 : f p with
    | none => simp only [e, e2] at h
    | some x => simp only [e, e2] at h; exact ⟨p, x, rfl, e2, h⟩
end
/-! readings -/
def tD (K : Frag) (W : WS) (d : Den) : TE := fun σ H Q => ∃ ρ g, g.H = H ∧ SRc K g ∧ SRe K g ρ σ ∧ WG K (W σ) g g.S (d ρ) fun r g' => ∀ v, Rr K g g' r v → Q v g'.H
def evAll : List Den → Env → M (List RV)
  | [], _ => ret []
  | d :: ds, ρ => bd (d ρ) fun r => bd (evAll ds ρ) fun rs => ret (r :: rs)
def tDs (K : Frag) (W : WS) (ds : List Den) : TA := fun σ H Q => ∃ ρ g, g.H = H ∧ SRc K g ∧ SRe K g ρ σ ∧ WG K (W σ) g g.S (evAll ds ρ) fun rs g' => ∀ vs, RrL K g g' rs vs → Q vs g'.H
theorem peW {X : Cx} {e : Expr} {t t' : TE} (h : PE X e t) (w : ∀ σ H Q, t' σ H Q → t σ H Q) : PE X e t' := ⟨fun pins s σ H Q I q => h.run pins s σ H Q I (w σ H Q q)⟩
theorem paW {X : Cx} {es : List Expr} {t t' : TA} (h : PA X es t) (w : ∀ σ H Q, t' σ H Q → t σ H Q) : PA X es t' := ⟨fun pos pins s σ H Q I q => h.run pos pins s σ H Q I (w σ H Q q)⟩
/-- an expression, then the rest -/
theorem tD.bd {K : Frag} {W : WS} {d : Den} {σ : L2.St} {g0 g : G} {ρ : Env} {β : Type} {f : RV → M β} {R : β → G → Prop} {Q : VK} (st0 : Stp g0 g) (sr : SRc K g) (se : SRe K g ρ σ) (h : WG K (W σ) g0 g.S (bd (d ρ) f) R)
    (q : ∀ r g1 v, Stp g g1 → Stp g0 g1 → SRc K g1 → SRe K g1 ρ σ → Rr K g0 g1 r v → WG K (W σ) g0 g1.S (f r) R → Q v g1.H) : tD K W d σ g.H Q :=
  ⟨ρ, g, rfl, sr, se, (h.bd st0).mono fun r g1 st sr1 h1 v hv => q r g1 v st (st0.trans st) sr1 (se.step sr st) (hv.from st0) h1⟩
theorem tDs.bd {K : Frag} {W : WS} {ds : List Den} {σ : L2.St} {g0 g : G} {ρ : Env} {β : Type} {f : List RV → M β} {R : β → G → Prop} {Q : List V → Hp → Prop} (st0 : Stp g0 g) (sr : SRc K g) (se : SRe K g ρ σ) (h : WG K (W σ) g0 g.S (bd (evAll ds ρ) f) R)
    (q : ∀ rs g1 vs, Stp g g1 → Stp g0 g1 → SRc K g1 → SRe K g1 ρ σ → RrL K g g1 rs vs → WG K (W σ) g0 g1.S (f rs) R → Q vs g1.H) : tDs K W ds σ g.H Q :=
  ⟨ρ, g, rfl, sr, se, (h.bd st0).mono fun rs g1 st sr1 h1 vs hv => q rs g1 vs st (st0.trans st) sr1 (se.step sr st) hv h1⟩
section
variable {X : Cx} {W : WS}
theorem pa_d0 : PA X [] (tDs X.K W []) := paW pa_nil fun σ H Q ⟨ρ, g, e, sr, se, h⟩ => by
  subst e
  exact h.ret rfl (Stp.refl g) sr [] ⟨.nil, trivial⟩
theorem pa_d1 {e : Expr} {es : List Expr} {d : Den} {ds : List Den} (h1 : PE X e (tD X.K W d)) (h2 : PA X es (tDs X.K W ds)) (hs : starEach (e :: es) X.env = (false, eval e X.env) :: starEach es X.env := by rfl) : PA X (e :: es) (tDs X.K W (d :: ds)) :=
  paW (pa_cons h1 h2 hs) fun σ H Q ⟨ρ, g, e, sr, se, h⟩ => by
    subst e
    refine tD.bd (Stp.refl g) sr se h fun r g1 v st _ sr1 se1 hv h1 => ?_
    refine tDs.bd st sr1 se1 h1 fun rs g2 vs st2 st02 sr2 se2 hvs h2 => ?_
    refine h2.ret rfl st02 sr2 (v :: vs) ⟨.cons (hv.step sr1 st2) (hvs.from st).1, fun o i r' e1 e2 e3 => ?_, hvs.2⟩
    obtain ⟨a, e4, z⟩ := hvs.1.own e1 e2 e3
    cases r <;> simp [isOwn] at o
    obtain ⟨b, e5, hb, _⟩ := hv
    obtain ⟨y, hy⟩ := hb.ex
    rw [e4] at e5
    cases e5
    rw [z] at hy; cases hy
/-! operations by values -/
def rOp (K : Frag) (f : PV → PV → Option RV) : R2 := fun x y H Q => ∃ g p q r, g.H = H ∧ SRc K g ∧ RpW K g.H g.F p x ∧ RpW K g.H g.F q y ∧ f p q = some r ∧ ∀ g' v, g'.S = g.S → Stp g g' → SRc K g' → Rr K g g' r v → Q v g'.H
def rUn (K : Frag) (f : PV → Option RV) : V → Hp → VK → Prop := fun x H Q => ∃ g p r, g.H = H ∧ SRc K g ∧ RpW K g.H g.F p x ∧ f p = some r ∧ ∀ g' v, g'.S = g.S → Stp g g' → SRc K g' → Rr K g g' r v → Q v g'.H
def rCl (K : Frag) (f : List PV → Option RV) : List V → Hp → VK → Prop := fun xs H Q => ∃ g ps r, g.H = H ∧ SRc K g ∧ RpWs K g.H g.F ps xs ∧ f ps = some r ∧ ∀ g' v, g'.S = g.S → Stp g g' → SRc K g' → Rr K g g' r v → Q v g'.H
def dBin (f : PV → PV → Option RV) (a b : Den) : Den := fun ρ => bd (a ρ) fun r => bd (b ρ) fun q => run2 f r q
def dUn (f : PV → Option RV) (a : Den) : Den := fun ρ => bd (a ρ) fun r => run1 f r
def dCl (f : List PV → Option RV) (ds : List Den) : Den := fun ρ => bd (evAll ds ρ) fun rs => runN f rs
variable {a b : Expr} {es : List Expr} {da db : Den} {ds : List Den} {pos : Pos} {f : PV → PV → Option RV} {f1 : PV → Option RV} {fn : List PV → Option RV}
theorem tOp_of {K : Frag} {σ : L2.St} {H : Hp} {Q : VK} (h : tD K W (dBin f da db) σ H Q) : tOp (rOp K f) (tD K W da) (tD K W db) σ H Q := by
  obtain ⟨ρ, g, e, sr, se, h⟩ := h
  subst e
  refine tD.bd (Stp.refl g) sr se h fun r g1 v st _ sr1 se1 hv h1 => ?_
  refine tD.bd st sr1 se1 h1 fun q g2 v2 st2 st02 sr2 se2 hv2 h2 => ?_
  obtain ⟨p, p', x, e1, e2, e3, k⟩ := h2.run2
  exact ⟨g2, p, p', x, rfl, sr2, (hv.step sr1 st2).peek sr2 e1, hv2.peek sr2 e2, e3, fun g' v' hS st' sr' hr => k g' hS (st02.trans st') sr' v' (hr.from st02)⟩
theorem tUn_of {K : Frag} {σ : L2.St} {H : Hp} {Q : VK} (h : tD K W (dUn f1 da) σ H Q) : tUn (rUn K f1) (tD K W da) σ H Q := by
  obtain ⟨ρ, g, e, sr, se, h⟩ := h
  subst e
  refine tD.bd (Stp.refl g) sr se h fun r g1 v st _ sr1 se1 hv h1 => ?_
  obtain ⟨p, x, e1, e3, k⟩ := h1.run1
  exact ⟨g1, p, x, rfl, sr1, hv.peek sr1 e1, e3, fun g' v' hS st' sr' hr => k g' hS (st.trans st') sr' v' (hr.from st)⟩
theorem tCl_of {K : Frag} {σ : L2.St} {H : Hp} {Q : VK} (h : tD K W (dCl fn ds) σ H Q) : tCB (rCl K fn) (tDs K W ds) σ H Q := by
  obtain ⟨ρ, g, e, sr, se, h⟩ := h
  subst e
  refine tDs.bd (Stp.refl g) sr se h fun rs g1 vs st _ sr1 se1 hvs h1 => ?_
  obtain ⟨ps, x, e1, e3, k⟩ := h1.runN
  exact ⟨g1, ps, x, rfl, sr1, hvs.peeks sr1 e1, e3, fun g' v' hS st' sr' hr => k g' hS (st.trans st') sr' v' (hr.from st)⟩
theorem pe_dbin {op : Operator} (ho : OpR X (binaryOp op) (rOp X.K f)) (ha : PE X a (tD X.K W da)) (hb : PE X b (tD X.K W db)) : PE X (.BinOp a op b pos) (tD X.K W (dBin f da db)) :=
  peW (pe_op ho ha hb) fun _ _ _ h => tOp_of h
theorem pe_dcmp {op : CmpOp} (ho : OpR X (compareOp op) (rOp X.K f)) (ha : PE X a (tD X.K W da)) (hb : PE X b (tD X.K W db)) (hm : behindInMarks op b = false) : PE X (.Compare a [op] [b] pos) (tD X.K W (dBin f da db)) :=
  peW (pe_cmpR ho ha hb hm) fun _ _ _ h => tOp_of h
theorem pe_dun {op : UnaryOp} (ho : UnR X (unaryOp op) (rUn X.K f1)) (ha : PE X a (tD X.K W da)) : PE X (.UnaryOp op a pos) (tD X.K W (dUn f1 da)) :=
  peW (pe_un ho ha) fun _ _ _ h => tUn_of h
end
end Pf
end
section
set_option Elab.async false
set_option linter.all false
set_option maxHeartbeats 1000000
set_option autoImplicit false
namespace Pf
open PySem PySem.Spec L2
abbrev G.put (g : G) (p : Addr) (o : HO) : G := { g with H := upd g.H p o }
section
variable {K : Frag} {g g0 : G} {p : Addr} {o : HO} {X : Cx}
theorem ne_new {b : Addr} {x : HO} (h : g.H p = none) (e : g.H b = some x) : b ≠ p := fun z => by rw [z, h] at e; cases e
theorem Stp.put (h : g.H p = none) : Stp g (g.put p o) where
  keep := fun b x e _ => by show upd _ _ _ _ = _; rw [upd_ne (ne_new h e)]; exact e
  dom := fun b x e => ⟨x, by show upd _ _ _ _ = _; rw [upd_ne (ne_new h e)]; exact e⟩
  fz := fun _ h => h
  fz' := fun _ h => .inl h
  ext := fun _ _ h => h
  newA := fun _ h => .inl h
  new := fun _ h => .inl h
  pl := plS rfl
  ge := Nat.le_refl _
theorem SRc.put (s : SRc K g) (h : g.H p = none) : SRc K (g.put p o) where
  len := s.len
  nd := s.nd
  cell := fun n a c e1 e2 => by
    have k := s.cell n a c e1 e2
    obtain ⟨x, hx⟩ := s.dom a (List.mem_of_getElem? e1)
    have e : (g.put p o).H a = g.H a := upd_ne (ne_new h hx)
    exact k.keep ((Stp.put h).k s) (fun _ _ h => h) (fun _ => e) fun _ h => h
  dom := fun a m => let ⟨x, e⟩ := s.dom a m; (Stp.put h).dom a x e
  fd := fun a m => let ⟨x, e⟩ := s.fd a m; (Stp.put h).dom a x e
theorem newTup (s : SRc K g) (h : g.H p = none) {ps : List PV} {vs : List V} (r : RpL K g.H g.F ps vs) : Rr K g (g.put p (.tup vs)) (.val (.tup ps)) (.ref p) :=
  ⟨p, vs, rfl, .inl (.inl upd_same), RpL.keep ((Stp.put h).k s) ps vs r⟩
theorem newLst (s : SRc K g) (h : g.H p = none) {ps : List PV} {vs : List V} (r : RpL K g.H g.F ps vs) : Rr K g (g.put p (.lst vs)) (.own (.lst ps)) (.ref p) := by
  refine ⟨p, rfl, ⟨vs, upd_same, RpL.keep ((Stp.put h).k s) ps vs r⟩, fun f => ?_, fun m => ?_, h⟩
  · obtain ⟨x, e⟩ := s.fd p f; rw [h] at e; cases e
  · obtain ⟨x, e⟩ := s.dom p m; rw [h] at e; cases e
theorem RpL.len {H : Hp} {F : Addr → Prop} : ∀ {ps : List PV} {vs : List V}, RpL K H F ps vs → ps.length = vs.length
  | [], _, h => by have h : _ = [] := h; subst h; rfl
  | p :: ps, _, ⟨v, r, e, _, b⟩ => by rw [e, List.length_cons, List.length_cons, RpL.len b]
theorem RpL.app {H : Hp} {F : Addr → Prop} : ∀ {ps qs : List PV} {vs ws : List V}, RpL K H F ps vs → RpL K H F qs ws → RpL K H F (ps ++ qs) (vs ++ ws)
  | [], _, _, _, h, h' => by have h : _ = [] := h; subst h; exact h'
  | p :: ps, _, _, _, ⟨v, r, e, a, b⟩, h' => by rw [e]; exact ⟨v, r ++ _, rfl, a, RpL.app b h'⟩
theorem RpL.take {H : Hp} {F : Addr → Prop} : ∀ (n : Nat) {ps : List PV} {vs : List V}, RpL K H F ps vs → RpL K H F (ps.take n) (vs.take n)
  | 0, _, _, _ => rfl
  | n + 1, [], _, h => by have h : _ = [] := h; subst h; rfl
  | n + 1, p :: ps, _, ⟨v, r, e, a, b⟩ => by rw [e]; exact ⟨v, _, rfl, a, RpL.take n b⟩
theorem RpL.drop {H : Hp} {F : Addr → Prop} : ∀ (n : Nat) {ps : List PV} {vs : List V}, RpL K H F ps vs → RpL K H F (ps.drop n) (vs.drop n)
  | 0, _, _, h => h
  | n + 1, [], _, h => by have h : _ = [] := h; subst h; rfl
  | n + 1, p :: ps, _, ⟨v, r, e, a, b⟩ => by rw [e]; exact RpL.drop n b
theorem RpL.get {H : Hp} {F : Addr → Prop} : ∀ {i : Nat} {ps : List PV} {vs : List V} {p : PV}, RpL K H F ps vs → ps[i]? = some p → ∃ v, vs[i]? = some v ∧ Rp K H F p v
  | _, [], _, _, _, e => by simp at e
  | 0, q :: ps, _, p, ⟨v, r, e, a, b⟩, h => by
    have : q = p := by simpa using h
    subst this; subst e; exact ⟨v, rfl, a⟩
  | i + 1, q :: ps, _, p, ⟨v, r, e, a, b⟩, h => by
    subst e
    obtain ⟨w, h1, h2⟩ := RpL.get (i := i) b (by simpa using h)
    exact ⟨w, by simpa using h1, h2⟩
theorem RpL.rep {H : Hp} {F : Addr → Prop} {ps : List PV} {vs : List V} (h : RpL K H F ps vs) : ∀ n : Nat, RpL K H F (List.replicate n ps).flatten (List.replicate n vs).flatten
  | 0 => rfl
  | n + 1 => by rw [List.replicate_succ, List.replicate_succ, List.flatten_cons, List.flatten_cons]; exact h.app (RpL.rep h n)
/-! ### the operations -/
def bAdd : PV → PV → Option RV
  | .int i, .int j => some (.val (.int (i + j)))
  | .str a, .str b => if a.length + b.length ≤ sizeLine then some (.val (.str (a ++ b))) else none
  | .tup xs, .tup ys => if xs.length + ys.length ≤ sizeLine then some (.val (.tup (xs ++ ys))) else none
  | .lst xs, .lst ys => if xs.length + ys.length ≤ sizeLine then some (.own (.lst (xs ++ ys))) else none
  | _, _ => none
theorem o_add : OpR X (binaryOp .Add) (rOp X.K bAdd) := by
  intro pins s σ H x y v u Q I rx ry ⟨g, p, q, r, hH, sr, hp, hq, e, k⟩
  subst hH
  cases p <;> cases q <;> simp only [bAdd] at e <;> try cases e
  · exact op_add pins s σ _ x y v u Q I rx ry ⟨_, _, hp, hq, k g _ rfl (Stp.refl g) sr rfl⟩
  · split at e
    · next h => cases e; exact op_add_str pins s σ _ x y v u Q I rx ry ⟨_, _, hp, hq, h, k g _ rfl (Stp.refl g) sr rfl⟩
    · cases e
  · split at e
    · next xs ys h =>
      cases e
      obtain ⟨a, vs, rfl, ha, ra⟩ := hp
      obtain ⟨b, ws, rfl, hb, rb⟩ := hq
      refine op_catA pins s σ _ _ _ v u Q I rx ry ⟨a, b, vs, ws, rfl, rfl, ha, hb, by rw [← ra.len, ← rb.len]; exact h, fun z => ?_, fun _ z => ?_, fun _ _ p hp => ?_⟩
      · subst z
        refine k g _ rfl (Stp.refl g) sr ⟨b, ws, rfl, hb, ?_⟩
        exact RpL.app ra rb
      · subst z
        refine k g _ rfl (Stp.refl g) sr ⟨a, vs, rfl, ha, ?_⟩
        have q := RpL.app ra rb
        rwa [List.append_nil] at q
      · exact k (g.put p _) _ rfl (Stp.put hp) (sr.put hp) (newTup sr hp (ra.app rb))
    · cases e
  · split at e
    · next xs ys h =>
      cases e
      obtain ⟨a, vs, rfl, ha, ra⟩ := hp
      obtain ⟨b, ws, rfl, hb, rb⟩ := hq
      refine op_cat pins s σ _ _ _ v u Q I rx ry ⟨a, b, vs, ws, rfl, rfl, ha, hb, by rw [← ra.len, ← rb.len]; exact h, fun p hp => ?_⟩
      exact k (g.put p _) _ rfl (Stp.put hp) (sr.put hp) (newLst sr hp (ra.app rb))
    · cases e
def bSub : PV → PV → Option RV
  | .int i, .int j => some (.val (.int (i - j)))
  | _, _ => none
theorem o_sub : OpR X (binaryOp .Sub) (rOp X.K bSub) := by
  intro pins s σ H x y v u Q I rx ry ⟨g, p, q, r, hH, sr, hp, hq, e, k⟩
  subst hH
  cases p <;> cases q <;> simp only [bSub] at e <;> try cases e
  exact op_sub pins s σ _ x y v u Q I rx ry ⟨_, _, hp, hq, k g _ rfl (Stp.refl g) sr rfl⟩
def bMul : PV → PV → Option RV
  | .int i, .int j => if i.natAbs.log2 + j.natAbs.log2 < 1000000 then some (.val (.int (i * j))) else none
  | .lst xs, .int k => if xs.length * k.toNat ≤ sizeLine ∧ -(2 ^ 63) ≤ k ∧ k < 2 ^ 63 then some (.own (.lst (List.replicate k.toNat xs).flatten)) else none
  | .tup (x :: xs), .int k => if 2 ≤ k ∧ k ≤ 1000 ∧ xs.length < 1000 then some (.val (.tup (List.replicate k.toNat (x :: xs)).flatten)) else none
  | _, _ => none
theorem o_mul : OpR X (binaryOp .Mult) (rOp X.K bMul) := by
  intro pins s σ H x y v u Q I rx ry ⟨g, p, q, r, hH, sr, hp, hq, e, k⟩
  subst hH
  cases p with
  | int i =>
    cases q <;> simp only [bMul] at e <;> try cases e
    split at e
    · next h => cases e; exact op_mulW pins s σ _ x y v u Q I rx ry ⟨_, _, hp, hq, h, k g _ rfl (Stp.refl g) sr rfl⟩
    · cases e
  | lst xs =>
    cases q <;> simp only [bMul] at e <;> try cases e
    split at e
    · next h =>
      cases e
      obtain ⟨a, vs, rfl, ha, ra⟩ := hp
      have hq : y = _ := hq
      subst hq
      refine op_rep pins s σ _ _ _ v u Q I rx ry ⟨a, _, vs, rfl, rfl, ha, h.2.1, h.2.2, by rw [← ra.len]; exact h.1, fun p hp => ?_⟩
      exact k (g.put p _) _ rfl (Stp.put hp) (sr.put hp) (newLst sr hp (ra.rep _))
    · cases e
  | tup xs =>
    cases xs with
    | nil => cases q <;> simp only [bMul] at e <;> cases e
    | cons x0 xs =>
      cases q <;> simp only [bMul] at e <;> try cases e
      split at e
      · next h =>
        cases e
        obtain ⟨a, vs, rfl, ha, ra⟩ := hp
        have hq : y = _ := hq
        subst hq
        have hl := ra.len
        rw [List.length_cons] at hl
        refine op_repT pins s σ _ _ _ v u Q I rx ry ⟨a, _, vs, rfl, rfl, ha, (fun z => by rw [z] at hl; cases hl), h.1, h.2.1, by rw [← hl]; omega, fun p hp => ?_⟩
        exact k (g.put p _) _ rfl (Stp.put hp) (sr.put hp) (newTup sr hp (ra.rep _))
      · cases e
  | _ => cases q <;> simp only [bMul] at e <;> cases e
def bDiv : PV → PV → Option RV
  | .int i, .int j => if 0 < j ∧ j.natAbs.log2 < 9000 then some (.val (.int (i / j))) else if j < 0 ∧ j.natAbs < 1073741824 then some (.val (.int (i.fdiv j))) else none
  | _, _ => none
theorem o_div : OpR X (binaryOp .FloorDiv) (rOp X.K bDiv) := by
  intro pins s σ H x y v u Q I rx ry ⟨g, p, q, r, hH, sr, hp, hq, e, k⟩
  subst hH
  cases p <;> cases q <;> simp only [bDiv] at e <;> try cases e
  split at e
  · next h => cases e; exact op_fdivW pins s σ _ x y v u Q I rx ry ⟨_, _, hp, hq, h, k g _ rfl (Stp.refl g) sr rfl⟩
  · split at e
    · next h => cases e; exact op_fdivN pins s σ _ x y v u Q I rx ry ⟨_, _, hp, hq, ⟨by omega, h.2⟩, k g _ rfl (Stp.refl g) sr rfl⟩
    · cases e
def bMod : PV → PV → Option RV
  | .int i, .int j => if 0 < j then some (.val (.int (i % j))) else if j < 0 then some (.val (.int (i.fmod j))) else none
  | _, _ => none
theorem o_mod : OpR X (binaryOp .Mod) (rOp X.K bMod) := by
  intro pins s σ H x y v u Q I rx ry ⟨g, p, q, r, hH, sr, hp, hq, e, k⟩
  subst hH
  cases p <;> cases q <;> simp only [bMod] at e <;> try cases e
  split at e
  · next h => cases e; exact op_mod pins s σ _ x y v u Q I rx ry ⟨_, _, hp, hq, h, k g _ rfl (Stp.refl g) sr rfl⟩
  · split at e
    · next h => cases e; exact op_modN pins s σ _ x y v u Q I rx ry ⟨_, _, hp, hq, by omega, k g _ rfl (Stp.refl g) sr rfl⟩
    · cases e
def bPow : PV → PV → Option RV
  | .int i, .int j => if 0 ≤ j ∧ j ≤ 1000 ∧ i.natAbs < 1000000 then some (.val (.int (i ^ j.toNat))) else none
  | _, _ => none
theorem o_pow : OpR X (binaryOp .Pow) (rOp X.K bPow) := by
  intro pins s σ H x y v u Q I rx ry ⟨g, p, q, r, hH, sr, hp, hq, e, k⟩
  subst hH
  cases p <;> cases q <;> simp only [bPow] at e <;> try cases e
  split at e
  · next h => cases e; exact op_pow pins s σ _ x y v u Q I rx ry ⟨_, _, hp, hq, ⟨h.1, by omega, by omega⟩, k g _ rfl (Stp.refl g) sr rfl⟩
  · cases e
end
end Pf
end
section
set_option Elab.async false
set_option linter.all false
set_option maxHeartbeats 1000000
set_option autoImplicit false
namespace Pf
open PySem PySem.Spec L2
/-- plain data without dicts, at most so deep -/
def dat : Nat → PV → Bool
  | _, .non | _, .bl _ | _, .int _ => true
  | _, .str s => s.cps.all (· < 0x110000)
  | n + 1, .tup xs | n + 1, .lst xs => xs.all (dat n)
  | _, _ => false
theorem dats_of : ∀ (n : Nat), (∀ p, dat n p = true → (toD p).canLay0 = true ∧ (toD p).depth ≤ n) → ∀ xs : List PV, xs.all (dat n) = true → PyData.canLayAll0 (toDs xs) = true ∧ PyData.depthAll (toDs xs) ≤ n
  | n, ih, [], _ => by simp [toDs, PyData.canLayAll0, PyData.depthAll]
  | n, ih, x :: xs, h => by
    rw [List.all_cons, Bool.and_eq_true] at h
    obtain ⟨a, b⟩ := ih x h.1
    obtain ⟨c, d⟩ := dats_of n ih xs h.2
    simp only [toDs, PyData.canLayAll0, PyData.depthAll, a, c, Bool.and_self, true_and]
    omega
theorem dat_of : ∀ (n : Nat) (p : PV), dat n p = true → (toD p).canLay0 = true ∧ (toD p).depth ≤ n
  | n, .non, _ => by simp [toD, PyData.canLay0, PyData.depth]
  | n, .bl _, _ => by simp [toD, PyData.canLay0, PyData.depth]
  | n, .int _, _ => by simp [toD, PyData.canLay0, PyData.depth]
  | n, .str s, h => by
    have h' : s.cps.all (· < 0x110000) = true := by cases n <;> exact h
    simp only [toD, PyData.canLay0, PyData.depth, Nat.zero_le, and_true]
    exact h'
  | 0, .tup _, h => by simp [dat] at h
  | 0, .lst _, h => by simp [dat] at h
  | 0, .dct _, h => by simp [dat] at h
  | 0, .scr _, h => by simp [dat] at h
  | n + 1, .dct _, h => by simp [dat] at h
  | n + 1, .scr _, h => by simp [dat] at h
  | n + 1, .tup xs, h => by
    obtain ⟨a, b⟩ := dats_of n (dat_of n) xs (by simpa [dat] using h)
    simp only [toD, PyData.canLay0, PyData.depth, a, true_and]
    omega
  | n + 1, .lst xs, h => by
    obtain ⟨a, b⟩ := dats_of n (dat_of n) xs (by simpa [dat] using h)
    simp only [toD, PyData.canLay0, PyData.depth, a, true_and]
    omega
theorem shaped_of {p : PV} (h : dat 60 p = true) : SeqAt.shaped (toD p) = true := by
  obtain ⟨a, b⟩ := dat_of 60 p h
  unfold SeqAt.shaped
  rw [a, Bool.true_and]
  exact decide_eq_true (by omega)
mutual
theorem Rp.dp {K : Frag} {H : Hp} {F : Addr → Prop} : ∀ (n : Nat) (p : PV) (v : V), dat n p = true → Rp K H F p v → Dp K H v (toD p)
  | n, .non, v, _, h => by have h : v = _ := h; subst h; exact .non
  | n, .bl b, v, _, h => by have h : v = _ := h; subst h; exact .bl b
  | n, .int i, v, _, h => by have h : v = _ := h; subst h; exact .int i
  | n, .str s, v, _, h => by have h : v = _ := h; subst h; exact .str s
  | 0, .tup _, _, h, _ => by simp [dat] at h
  | 0, .lst _, _, h, _ => by simp [dat] at h
  | 0, .dct _, _, h, _ => by simp [dat] at h
  | 0, .scr _, _, h, _ => by simp [dat] at h
  | n + 1, .dct _, _, h, _ => by simp [dat] at h
  | n + 1, .scr _, _, h, _ => by simp [dat] at h
  | n + 1, .tup xs, v, h, ⟨a, vs, e, q, r⟩ => by subst e; exact .tup q (RpL.dp n xs vs (by simpa [dat] using h) r)
  | n + 1, .lst xs, v, h, ⟨a, vs, e, q, r⟩ => by subst e; exact .lst (.inl (.inl q.1)) (RpL.dp n xs vs (by simpa [dat] using h) r)
theorem RpL.dp {K : Frag} {H : Hp} {F : Addr → Prop} : ∀ (n : Nat) (ps : List PV) (vs : List V), ps.all (dat n) = true → RpL K H F ps vs → DpAll K H vs (toDs ps)
  | n, [], vs, _, h => by have h : vs = _ := h; subst h; exact .nil
  | n, p :: ps, _, h, ⟨v, r, e, a, b⟩ => by
    subst e
    rw [List.all_cons, Bool.and_eq_true] at h
    exact .cons (Rp.dp n p v h.1 a) (RpL.dp n ps r h.2 b)
end
theorem RpW.dp {K : Frag} {H : Hp} {F : Addr → Prop} {n : Nat} {p : PV} {v : V} (d : dat n p = true) (h : RpW K H F p v) : Dp K H v (toD p) := by
  cases p with
  | lst xs =>
    obtain ⟨a, vs, rfl, e, r⟩ := h
    cases n with
    | zero => simp [dat] at d
    | succ n => exact .lst (.inl (.inl e)) (RpL.dp n xs vs (by simpa [dat] using d) r)
  | dct kvs => cases n <;> simp [dat] at d
  | _ => exact Rp.dp (F := F) n _ _ d h
/-- == of plain data -/
def eqv (p q : PV) : Bool := PyData.eqv (toD p) (toD q)
section
variable {K : Frag} {g g0 : G} {X : Cx}
def isS : PV → Bool
  | .str _ => true
  | _ => false
def bEq : PV → PV → Option RV := fun p q => if isS p && isS q then some (.val (.bl (eqv p q))) else if dat 60 p && dat 60 q then some (.val (.bl (eqv p q))) else none
def bNe : PV → PV → Option RV := fun p q => if isS p && isS q then some (.val (.bl (!eqv p q))) else if dat 60 p && dat 60 q then some (.val (.bl (!eqv p q))) else none
theorem eqv_str (a b : Str) : eqv (.str a) (.str b) = decide (V.str a = V.str b) := by
  rw [Bool.eq_iff_iff]
  simp [eqv, toD, PyData.eqv]
theorem o_eq (hu : X.A.units + 64 < cLine) : OpR X (compareOp .Eq) (rOp X.K bEq) := by
  intro pins s σ H x y v u Q I rx ry ⟨g, p, q, r, hH, sr, hp, hq, e, k⟩
  subst hH
  unfold bEq at e
  split at e
  · next h =>
    cases e
    cases p <;> cases q <;> simp only [isS, Bool.and_self, Bool.and_true, Bool.and_false, Bool.false_eq_true] at h
    next a b =>
    have hp : x = V.str a := hp
    have hq : y = V.str b := hq
    subst hp hq
    exact op_eq pins s σ _ _ _ v u Q I rx ry ⟨rfl, by rw [← eqv_str]; exact k g _ rfl (Stp.refl g) sr rfl⟩
  split at e
  · next h =>
    cases e
    rw [Bool.and_eq_true] at h
    exact op_eqD hu pins s σ _ x y v u Q I rx ry ⟨_, _, hp.dp h.1, hq.dp h.2, shaped_of h.1, shaped_of h.2, k g _ rfl (Stp.refl g) sr rfl⟩
  · cases e
theorem o_ne (hu : X.A.units + 64 < cLine) : OpR X (compareOp .NotEq) (rOp X.K bNe) := by
  intro pins s σ H x y v u Q I rx ry ⟨g, p, q, r, hH, sr, hp, hq, e, k⟩
  subst hH
  unfold bNe at e
  split at e
  · next h =>
    cases e
    cases p <;> cases q <;> simp only [isS, Bool.and_self, Bool.and_true, Bool.and_false, Bool.false_eq_true] at h
    next a b =>
    have hp : x = V.str a := hp
    have hq : y = V.str b := hq
    subst hp hq
    exact op_ne pins s σ _ _ _ v u Q I rx ry ⟨rfl, by rw [← eqv_str]; exact k g _ rfl (Stp.refl g) sr rfl⟩
  split at e
  · next h =>
    cases e
    rw [Bool.and_eq_true] at h
    exact op_neD hu pins s σ _ x y v u Q I rx ry ⟨_, _, hp.dp h.1, hq.dp h.2, shaped_of h.1, shaped_of h.2, k g _ rfl (Stp.refl g) sr rfl⟩
  · cases e
def bLt : PV → PV → Option RV
  | .int i, .int j => some (.val (.bl (decide (i < j))))
  | _, _ => none
def bLe : PV → PV → Option RV
  | .int i, .int j => some (.val (.bl (decide (i ≤ j))))
  | _, _ => none
def bGt : PV → PV → Option RV
  | .int i, .int j => some (.val (.bl (decide (j < i))))
  | _, _ => none
def bGe : PV → PV → Option RV
  | .int i, .int j => some (.val (.bl (decide (j ≤ i))))
  | _, _ => none
theorem o_lt : OpR X (compareOp .Lt) (rOp X.K bLt) := by
  intro pins s σ H x y v u Q I rx ry ⟨g, p, q, r, hH, sr, hp, hq, e, k⟩
  subst hH
  cases p <;> cases q <;> simp only [bLt] at e <;> try cases e
  exact op_lt pins s σ _ x y v u Q I rx ry ⟨_, _, hp, hq, k g _ rfl (Stp.refl g) sr rfl⟩
theorem o_le : OpR X (compareOp .LtE) (rOp X.K bLe) := by
  intro pins s σ H x y v u Q I rx ry ⟨g, p, q, r, hH, sr, hp, hq, e, k⟩
  subst hH
  cases p <;> cases q <;> simp only [bLe] at e <;> try cases e
  exact op_le pins s σ _ x y v u Q I rx ry ⟨_, _, hp, hq, k g _ rfl (Stp.refl g) sr rfl⟩
theorem o_gt : OpR X (compareOp .Gt) (rOp X.K bGt) := by
  intro pins s σ H x y v u Q I rx ry ⟨g, p, q, r, hH, sr, hp, hq, e, k⟩
  subst hH
  cases p <;> cases q <;> simp only [bGt] at e <;> try cases e
  exact op_gt pins s σ _ x y v u Q I rx ry ⟨_, _, hp, hq, k g _ rfl (Stp.refl g) sr rfl⟩
theorem o_ge : OpR X (compareOp .GtE) (rOp X.K bGe) := by
  intro pins s σ H x y v u Q I rx ry ⟨g, p, q, r, hH, sr, hp, hq, e, k⟩
  subst hH
  cases p <;> cases q <;> simp only [bGe] at e <;> try cases e
  exact op_ge pins s σ _ x y v u Q I rx ry ⟨_, _, hp, hq, k g _ rfl (Stp.refl g) sr rfl⟩
/-- is: of None, of two bools -/
def isNon : PV → Bool
  | .non => true
  | _ => false
def bIs : PV → PV → Option RV
  | p, .non => some (.val (.bl (isNon p)))
  | .bl a, .bl b => some (.val (.bl (decide (a = b))))
  | _, _ => none
def bIsN : PV → PV → Option RV
  | p, .non => some (.val (.bl (!isNon p)))
  | .bl a, .bl b => some (.val (.bl (!decide (a = b))))
  | _, _ => none
theorem isNon_of {H : Hp} {F : Addr → Prop} {p : PV} {v : V} (h : RpW K H F p v) : decide (v = .non) = isNon p := by
  cases p with
  | non => have h : v = _ := h; subst h; rfl
  | bl b => have h : v = _ := h; subst h; rfl
  | int b => have h : v = _ := h; subst h; rfl
  | str b => have h : v = _ := h; subst h; rfl
  | tup b => obtain ⟨a, vs, rfl, _⟩ := h; rfl
  | lst b => obtain ⟨a, vs, rfl, _⟩ := h; rfl
  | dct b => obtain ⟨a, rfl, _⟩ := h; rfl
  | scr b => obtain ⟨a, rfl, _⟩ := h; rfl
theorem o_is : OpR X (compareOp .Is) (rOp X.K bIs) := by
  intro pins s σ H x y v u Q I rx ry ⟨g, p, q, r, hH, sr, hp, hq, e, k⟩
  subst hH
  cases q with
  | non =>
    simp only [bIs] at e
    have hq : y = _ := hq
    subst hq
    refine op_isN pins s σ _ x _ v u Q I rx ry ⟨rfl, ?_⟩
    rw [isNon_of hp]
    cases e
    exact k g _ rfl (Stp.refl g) sr rfl
  | bl b =>
    cases p <;> simp only [bIs] at e <;> try cases e
    exact op_isBl pins s σ _ x y v u Q I rx ry ⟨_, _, hp, hq, k g _ rfl (Stp.refl g) sr rfl⟩
  | _ => cases p <;> simp only [bIs] at e <;> cases e
theorem o_isn : OpR X (compareOp .IsNot) (rOp X.K bIsN) := by
  intro pins s σ H x y v u Q I rx ry ⟨g, p, q, r, hH, sr, hp, hq, e, k⟩
  subst hH
  cases q with
  | non =>
    simp only [bIsN] at e
    have hq : y = _ := hq
    subst hq
    refine op_notN pins s σ _ x _ v u Q I rx ry ⟨rfl, ?_⟩
    rw [isNon_of hp]
    cases e
    exact k g _ rfl (Stp.refl g) sr rfl
  | bl b =>
    cases p <;> simp only [bIsN] at e <;> try cases e
    exact op_notBl pins s σ _ x y v u Q I rx ry ⟨_, _, hp, hq, k g _ rfl (Stp.refl g) sr rfl⟩
  | _ => cases p <;> simp only [bIsN] at e <;> cases e
/-- in: a list of data; a tuple of scalars; a sign or text in a text -/
def flat : PV → Bool
  | .non | .bl _ | .int _ | .str _ => true
  | _ => false
def inP (p : PV) (q : PV) : Option Bool := match q with
  | .lst xs => if flat p && xs.all flat then some (xs.any fun z => eqv z p) else if dat 50 p && xs.all (dat 50) then some (xs.any fun z => eqv z p) else none
  | .tup xs => if flat p && xs.all flat then some (xs.any fun z => eqv z p) else none
  | .str z => (match p with | .str y => some (!(Builtin.Str.occurrences z y 0 z.length 1).isEmpty) | _ => none)
  | _ => none
def bIn (p q : PV) : Option RV := (inP p q).map fun b => .val (.bl b)
def bNin (p q : PV) : Option RV := (inP p q).map fun b => .val (.bl (!b))
theorem dat_mono : ∀ (n m : Nat) (p : PV), n ≤ m → dat n p = true → dat m p = true
  | _, _, .non, _, _ => by simp [dat]
  | _, _, .bl _, _, _ => by simp [dat]
  | _, _, .int _, _, _ => by simp [dat]
  | n, m, .str s, _, h => by
    have h' : s.cps.all (· < 0x110000) = true := by cases n <;> exact h
    cases m <;> exact h'
  | 0, _, .tup _, _, h => by simp [dat] at h
  | 0, _, .lst _, _, h => by simp [dat] at h
  | 0, _, .dct _, _, h => by simp [dat] at h
  | 0, _, .scr _, _, h => by simp [dat] at h
  | n + 1, _, .dct _, _, h => by simp [dat] at h
  | n + 1, _, .scr _, _, h => by simp [dat] at h
  | n + 1, 0, _, l, _ => absurd l (by omega)
  | n + 1, m + 1, .tup xs, l, h => by
    simp only [dat, List.all_eq_true] at h ⊢
    exact fun x hx => dat_mono n m x (by omega) (h x hx)
  | n + 1, m + 1, .lst xs, l, h => by
    simp only [dat, List.all_eq_true] at h ⊢
    exact fun x hx => dat_mono n m x (by omega) (h x hx)
theorem flat_dp {H : Hp} {F : Addr → Prop} {p : PV} {v : V} (f : flat p = true) (h : RpW K H F p v) : flatV v = true := by
  cases p with
  | non => have h : v = _ := h; subst h; rfl
  | bl b => have h : v = _ := h; subst h; rfl
  | int b => have h : v = _ := h; subst h; rfl
  | str b => have h : v = _ := h; subst h; rfl
  | _ => simp [flat] at f
theorem flats_dp {H : Hp} {F : Addr → Prop} : ∀ {ps : List PV} {vs : List V}, ps.all flat = true → RpL K H F ps vs → vs.all flatV = true
  | [], _, _, h => by have h : _ = [] := h; subst h; rfl
  | p :: ps, _, f, ⟨v, r, e, a, b⟩ => by
    subst e
    rw [List.all_cons, Bool.and_eq_true] at f ⊢
    exact ⟨flat_dp f.1 a.w, flats_dp f.2 b⟩
theorem flat_eq {H : Hp} {F : Addr → Prop} {p q : PV} {v w : V} (f : flat p = true) (f' : flat q = true) (h : RpW K H F p v) (h' : RpW K H F q w) : eqV v w = eqv p q := by
  have one : ∀ {p : PV} {v : V}, flat p = true → RpW K H F p v → (p = .non ∧ v = .non) ∨ (∃ b, p = .bl b ∧ v = .bl b) ∨ (∃ b, p = .int b ∧ v = .int b) ∨ ∃ b, p = .str b ∧ v = .str b := fun {p v} f h => by
    cases p with
    | non => exact .inl ⟨rfl, h⟩
    | bl b => exact .inr (.inl ⟨b, rfl, h⟩)
    | int b => exact .inr (.inr (.inl ⟨b, rfl, h⟩))
    | str b => exact .inr (.inr (.inr ⟨b, rfl, h⟩))
    | _ => simp [flat] at f
  rcases one f h with ⟨rfl, rfl⟩ | ⟨b, rfl, rfl⟩ | ⟨b, rfl, rfl⟩ | ⟨b, rfl, rfl⟩ <;> rcases one f' h' with ⟨rfl, rfl⟩ | ⟨c, rfl, rfl⟩ | ⟨c, rfl, rfl⟩ | ⟨c, rfl, rfl⟩ <;>
    simp [eqv, toD, PyData.eqv, eqV]
theorem flat_in {H : Hp} {F : Addr → Prop} {q : PV} {w : V} (f' : flat q = true) (h' : RpW K H F q w) : ∀ {ps : List PV} {vs : List V}, ps.all flat = true → RpL K H F ps vs → inV w vs = ps.any fun z => eqv z q
  | [], _, _, h => by have h : _ = [] := h; subst h; rfl
  | p :: ps, _, f, ⟨v, r, e, a, b⟩ => by
    subst e
    rw [List.all_cons, Bool.and_eq_true] at f
    unfold inV
    rw [List.any_cons, List.any_cons, flat_eq f.1 f' a.w h']
    exact congrArg _ (flat_in f' h' f.2 b)
theorem any_toD (xs : List PV) (q : PV) : ((toDs xs).any fun z => PyData.eqv z (toD q)) = xs.any fun z => eqv z q := by
  induction xs with
  | nil => rfl
  | cons x xs ih => rw [toDs, List.any_cons, List.any_cons, ih]; rfl
theorem shapedL {xs : List PV} (h : xs.all (dat 50) = true) : SeqAt.shaped (.list (toDs xs)) = true := by
  have : dat 51 (.lst xs) = true := by simpa [dat] using h
  exact shaped_of (dat_mono 51 60 _ (by omega) this)
theorem o_in (hu : X.A.units + 65 < cLine) : OpR X (compareOp .In) (rOp X.K bIn) := by
  intro pins s σ H x y v u Q I rx ry ⟨g, p, q, r, hH, sr, hp, hq, e, k⟩
  subst hH
  unfold bIn at e
  cases eb : inP p q with
  | none => rw [eb] at e; cases e
  | some b =>
    rw [eb] at e
    cases e
    have fin : Q (.bl b) g.H := k g _ rfl (Stp.refl g) sr rfl
    cases q with
    | lst xs =>
      simp only [inP] at eb
      split at eb
      · next h =>
        cases eb
        rw [Bool.and_eq_true] at h
        obtain ⟨a, vs, rfl, ha, ra⟩ := hq
        exact op_in_seq pins s σ _ x _ v u Q I rx ry ⟨a, vs, rfl, .inl (.inl (.inl ha)), flat_dp h.1 hp, flats_dp h.2 ra, by rw [if_neg (by decide), flat_in h.1 hp h.2 ra]; exact fin⟩
      split at eb
      · next h =>
        cases eb
        rw [Bool.and_eq_true] at h
        have hd : Dp X.K g.H y (.list (toDs xs)) := RpW.dp (n := 51) (p := .lst xs) (by simpa [dat] using h.2) hq
        exact op_inD hu pins s σ _ x y v u Q I rx ry ⟨_, _, hp.dp h.1, hd, shaped_of (dat_mono 50 60 p (by omega) h.1), shapedL h.2, by rw [any_toD]; exact fin⟩
      · cases eb
    | tup xs =>
      simp only [inP] at eb
      split at eb
      · next h =>
        cases eb
        rw [Bool.and_eq_true] at h
        obtain ⟨a, vs, rfl, ha, ra⟩ := hq
        exact op_in_seq pins s σ _ x _ v u Q I rx ry ⟨a, vs, rfl, .inr ha, flat_dp h.1 hp, flats_dp h.2 ra, by rw [if_neg (by decide), flat_in h.1 hp h.2 ra]; exact fin⟩
      · cases eb
    | str z =>
      cases p <;> simp only [inP] at eb <;> cases eb
      exact op_in_str pins s σ _ x y v u Q I rx ry ⟨_, _, hp, hq, fin⟩
    | _ => simp only [inP] at eb; cases eb
theorem o_nin (hu : X.A.units + 65 < cLine) : OpR X (compareOp .NotIn) (rOp X.K bNin) := by
  intro pins s σ H x y v u Q I rx ry ⟨g, p, q, r, hH, sr, hp, hq, e, k⟩
  subst hH
  unfold bNin at e
  cases eb : inP p q with
  | none => rw [eb] at e; cases e
  | some b =>
    rw [eb] at e
    cases e
    have fin : Q (.bl (!b)) g.H := k g _ rfl (Stp.refl g) sr rfl
    cases q with
    | lst xs =>
      simp only [inP] at eb
      split at eb
      · next h =>
        cases eb
        rw [Bool.and_eq_true] at h
        obtain ⟨a, vs, rfl, ha, ra⟩ := hq
        exact op_notIn_seq pins s σ _ x _ v u Q I rx ry ⟨a, vs, rfl, .inl (.inl (.inl ha)), flat_dp h.1 hp, flats_dp h.2 ra, by rw [if_pos rfl, flat_in h.1 hp h.2 ra]; exact fin⟩
      split at eb
      · next h =>
        cases eb
        rw [Bool.and_eq_true] at h
        have hd : Dp X.K g.H y (.list (toDs xs)) := RpW.dp (n := 51) (p := .lst xs) (by simpa [dat] using h.2) hq
        exact op_notInD hu pins s σ _ x y v u Q I rx ry ⟨_, _, hp.dp h.1, hd, shaped_of (dat_mono 50 60 p (by omega) h.1), shapedL h.2, by rw [any_toD]; exact fin⟩
      · cases eb
    | tup xs =>
      simp only [inP] at eb
      split at eb
      · next h =>
        cases eb
        rw [Bool.and_eq_true] at h
        obtain ⟨a, vs, rfl, ha, ra⟩ := hq
        exact op_notIn_seq pins s σ _ x _ v u Q I rx ry ⟨a, vs, rfl, .inr ha, flat_dp h.1 hp, flats_dp h.2 ra, by rw [if_pos rfl, flat_in h.1 hp h.2 ra]; exact fin⟩
      · cases eb
    | str z =>
      cases p <;> simp only [inP] at eb <;> cases eb
      exact op_notIn_str pins s σ _ x y v u Q I rx ry ⟨_, _, hp, hq, fin⟩
    | _ => simp only [inP] at eb; cases eb
/-- - -/
def uNeg : PV → Option RV
  | .int i => some (.val (.int (-i)))
  | _ => none
theorem o_neg : UnR X (unaryOp .USub) (rUn X.K uNeg) := by
  intro pins s σ H x v Q I rx ⟨g, p, r, hH, sr, hp, e, k⟩
  subst hH
  cases p <;> simp only [uNeg] at e <;> try cases e
  exact un_neg pins s σ _ x v Q I rx ⟨_, hp, k g _ rfl (Stp.refl g) sr rfl⟩
end
end Pf
end
section
set_option Elab.async false
set_option linter.all false
set_option maxHeartbeats 1000000
set_option autoImplicit false
namespace Pf
open PySem PySem.Spec L2
section
variable {K : Frag} {g g0 : G} {X : Cx}
theorem one1 {ps : List PV} {xs : List V} {H : Hp} {F : Addr → Prop} {p : PV} (h : RpWs K H F ps xs) (e : ps = [p]) : ∃ x, xs = [x] ∧ RpW K H F p x := by
  subst e
  cases h with
  | cons a b => cases b; exact ⟨_, rfl, a⟩
theorem two2 {ps : List PV} {xs : List V} {H : Hp} {F : Addr → Prop} {p q : PV} (h : RpWs K H F ps xs) (e : ps = [p, q]) : ∃ x y, xs = [x, y] ∧ RpW K H F p x ∧ RpW K H F q y := by
  subst e
  cases h with
  | cons a b => cases b with | cons b c => cases c; exact ⟨_, _, rfl, a, b⟩
/-- a function of one value, of two -/
def n1 (f : PV → Option RV) : List PV → Option RV
  | [p] => f p
  | _ => none
def n2 (f : PV → PV → Option RV) : List PV → Option RV
  | [p, q] => f p q
  | _ => none
theorem cr1 {c : Value} {f : PV → Option RV} (h : ∀ (pins : List (Addr × Obj)) (s : Shared) (σ : L2.St) (H : Hp) (x : V) (v : Value) (Q : VK), Inv X pins σ H s → RelV x v → rUn X.K f x H Q → wpAny (model X.prog X.w) X.A (call c [v]) (EP X pins σ Q) X.xe s) : CallR X c (rCl X.K (n1 f)) := by
  intro pins s σ H xs us Q I r ⟨g, ps, y, hH, sr, hp, e, k⟩
  cases ps with
  | nil => cases e
  | cons p ps =>
    cases ps with
    | cons _ _ => cases e
    | nil =>
      obtain ⟨x, rfl, hx⟩ := one1 hp rfl
      cases r with
      | cons a b => cases b; exact h pins s σ H x _ Q I a ⟨g, p, y, hH, sr, hx, e, k⟩
theorem cr1' {c : Value} {f : PV → Option RV} {r : List V → Hp → VK → Prop} (hc : CallR X c r) (h : ∀ (H : Hp) (x : V) (Q : VK), rUn X.K f x H Q → r [x] H Q) : CallR X c (rCl X.K (n1 f)) :=
  cr1 fun pins s σ H x v Q I rx q => hc pins s σ H [x] [v] Q I (.cons rx .nil) (h H x Q q)
theorem cr2 {c : Value} {f : PV → PV → Option RV} {r : List V → Hp → VK → Prop} (hc : CallR X c r) (h : ∀ (H : Hp) (x y : V) (Q : VK), rOp X.K f x y H Q → r [x, y] H Q) : CallR X c (rCl X.K (n2 f)) := by
  intro pins s σ H xs us Q I rr ⟨g, ps, y, hH, sr, hp, e, k⟩
  cases ps with
  | nil => cases e
  | cons p ps =>
    cases ps with
    | nil => cases e
    | cons q ps =>
      cases ps with
      | cons _ _ => cases e
      | nil =>
        obtain ⟨x, z, rfl, hx, hz⟩ := two2 hp rfl
        exact hc pins s σ H _ us Q I rr (h H x z Q ⟨g, p, q, y, hH, sr, hx, hz, e, k⟩)
/-- len -/
def fLen : PV → Option RV
  | .lst xs => some (.val (.int xs.length))
  | .tup xs => some (.val (.int xs.length))
  | .str s => if s.length ≤ sizeLine then some (.val (.int s.length)) else none
  | .scr ns => some (.val (.int ns.length))
  | _ => none
theorem c_len : CallR X (.builtin "len") (rCl X.K (n1 fLen)) := cr1' call_len fun H x Q ⟨g, p, r, hH, sr, hp, e, k⟩ => by
  subst hH
  cases p <;> simp only [fLen] at e <;> try cases e
  · split at e
    · next h => cases e; have hp : x = _ := hp; subst hp; exact ⟨_, _, rfl, ⟨h, rfl⟩, k g _ rfl (Stp.refl g) sr rfl⟩
    · cases e
  · obtain ⟨a, vs, rfl, ha, ra⟩ := hp
    exact ⟨_, _, rfl, .inr ⟨vs, ha, ra.len⟩, k g _ rfl (Stp.refl g) sr rfl⟩
  · obtain ⟨a, vs, rfl, ha, ra⟩ := hp
    exact ⟨_, _, rfl, .inl ⟨vs, .inl (.inl ha), ra.len⟩, k g _ rfl (Stp.refl g) sr rfl⟩
  · obtain ⟨a, rfl, ha⟩ := hp
    exact ⟨_, _, rfl, .inl ⟨_, ha.sq, (List.length_map _).symm⟩, k g _ rfl (Stp.refl g) sr rfl⟩
def fAbs : PV → Option RV
  | .int i => some (.val (.int (if i < 0 then -i else i)))
  | _ => none
theorem c_abs : CallR X (.builtin "abs") (rCl X.K (n1 fAbs)) := cr1' call_abs fun H x Q ⟨g, p, r, hH, sr, hp, e, k⟩ => by
  subst hH
  cases p <;> simp only [fAbs] at e <;> try cases e
  have hp : x = _ := hp
  subst hp
  exact ⟨_, rfl, k g _ rfl (Stp.refl g) sr rfl⟩
def fMax2 : PV → PV → Option RV
  | .int i, .int j => some (.val (.int (if j > i then j else i)))
  | _, _ => none
theorem c_max2 (hc : X.calm = true) : CallR X (.builtin "max") (rCl X.K (n2 fMax2)) := cr2 (call_max2 hc) fun H x y Q ⟨g, p, q, r, hH, sr, hp, hq, e, k⟩ => by
  subst hH
  cases p <;> cases q <;> simp only [fMax2] at e <;> try cases e
  have hp : x = _ := hp
  have hq : y = _ := hq
  subst hp hq
  exact ⟨_, _, rfl, k g _ rfl (Stp.refl g) sr rfl⟩
def fMin2 : PV → PV → Option RV
  | .int i, .int j => some (.val (.int (if j < i then j else i)))
  | _, _ => none
theorem c_min2 (hc : X.calm = true) : CallR X (.builtin "min") (rCl X.K (n2 fMin2)) := cr2 (call_min2 hc) fun H x y Q ⟨g, p, q, r, hH, sr, hp, hq, e, k⟩ => by
  subst hH
  cases p <;> cases q <;> simp only [fMin2] at e <;> try cases e
  have hp : x = _ := hp
  have hq : y = _ := hq
  subst hp hq
  exact ⟨_, _, rfl, k g _ rfl (Stp.refl g) sr rfl⟩
def fInt : PV → Option RV
  | .int i => some (.val (.int i))
  | .bl b => some (.val (.int (if b then 1 else 0)))
  | _ => none
theorem c_int : CallR X (.type "int") (rCl X.K (n1 fInt)) := cr1' call_int1 fun H x Q ⟨g, p, r, hH, sr, hp, e, k⟩ => by
  subst hH
  cases p <;> simp only [fInt] at e <;> try cases e
  · have hp : x = _ := hp
    subst hp
    exact .inr ⟨_, rfl, k g _ rfl (Stp.refl g) sr rfl⟩
  · have hp : x = _ := hp
    subst hp
    exact .inl ⟨_, rfl, k g _ rfl (Stp.refl g) sr rfl⟩
def fDm : PV → PV → Option RV
  | .int i, .int j => if 0 < j ∧ j < 1073741824 then some (.val (.tup [.int (i / j), .int (i % j)])) else none
  | _, _ => none
theorem c_dm : CallR X (.builtin "divmod") (rCl X.K (n2 fDm)) := cr2 call_divmod fun H x y Q ⟨g, p, q, r, hH, sr, hp, hq, e, k⟩ => by
  subst hH
  cases p <;> cases q <;> simp only [fDm] at e <;> try cases e
  split at e
  · next h =>
    cases e
    have hp : x = _ := hp
    have hq : y = _ := hq
    subst hp hq
    exact ⟨_, _, rfl, h, fun p hp => k (g.put p _) _ rfl (Stp.put hp) (sr.put hp) (newTup sr hp ⟨_, _, rfl, rfl, _, _, rfl, rfl, rfl⟩)⟩
  · cases e
def fList : PV → Option RV
  | .lst xs => some (.own (.lst xs))
  | .tup xs => some (.own (.lst xs))
  | .scr ns => some (.own (.lst (ns.map PV.int)))
  | _ => none
theorem rpInts (ns : List Int) (H : Hp) (F : Addr → Prop) : RpL K H F (ns.map PV.int) (ns.map V.int) := by
  induction ns with
  | nil => rfl
  | cons n ns ih => exact ⟨_, _, rfl, rfl, ih⟩
theorem ofInts {H : Hp} {F : Addr → Prop} : ∀ {ns : List Int} {vs : List V}, RpL K H F (ns.map PV.int) vs → vs = ns.map V.int
  | [], _, h => h
  | n :: ns, _, ⟨v, r, e, a, b⟩ => by
    have a : v = _ := a
    rw [e, a, ofInts b]
    rfl
theorem c_list : CallR X (.type "list") (rCl X.K (n1 fList)) := cr1' call_list_of fun H x Q ⟨g, p, r, hH, sr, hp, e, k⟩ => by
  subst hH
  cases p <;> simp only [fList] at e <;> try cases e
  · obtain ⟨a, vs, rfl, ha, ra⟩ := hp
    exact ⟨_, vs, rfl, .inr ha, fun p hp => k (g.put p _) _ rfl (Stp.put hp) (sr.put hp) (newLst sr hp ra)⟩
  · obtain ⟨a, vs, rfl, ha, ra⟩ := hp
    exact ⟨_, vs, rfl, .inl (.inl (.inl ha)), fun p hp => k (g.put p _) _ rfl (Stp.put hp) (sr.put hp) (newLst sr hp ra)⟩
  · obtain ⟨a, rfl, ha⟩ := hp
    exact ⟨_, _, rfl, .inl ha.sq, fun p hp => k (g.put p _) _ rfl (Stp.put hp) (sr.put hp) (newLst sr hp (rpInts _ _ _))⟩
def fTuple : PV → Option RV
  | .lst xs => some (.val (.tup xs))
  | .tup xs => some (.val (.tup xs))
  | _ => none
theorem c_tuple : CallR X (.type "tuple") (rCl X.K (n1 fTuple)) := cr1' call_tuple_of fun H x Q ⟨g, p, r, hH, sr, hp, e, k⟩ => by
  subst hH
  cases p <;> simp only [fTuple] at e <;> try cases e
  · obtain ⟨a, vs, rfl, ha, ra⟩ := hp
    exact ⟨_, vs, rfl, .inr ⟨ha, k g _ rfl (Stp.refl g) sr ⟨_, vs, rfl, ha, ra⟩⟩⟩
  · obtain ⟨a, vs, rfl, ha, ra⟩ := hp
    exact ⟨_, vs, rfl, .inl ⟨.inl (.inl ha), fun p hp => k (g.put p _) _ rfl (Stp.put hp) (sr.put hp) (newTup sr hp ra)⟩⟩
/-- all items ints, bools -/
def ints? : List PV → Option (List Int)
  | [] => some []
  | .int i :: r => (ints? r).map (i :: ·)
  | _ :: _ => none
def bls? : List PV → Option (List Bool)
  | [] => some []
  | .bl i :: r => (bls? r).map (i :: ·)
  | _ :: _ => none
theorem ints_map : ∀ ns : List Int, ints? (ns.map PV.int) = some ns
  | [] => rfl
  | n :: ns => by simp only [List.map_cons, ints?, ints_map ns, Option.map_some]
theorem bls_map : ∀ ns : List Bool, bls? (ns.map PV.bl) = some ns
  | [] => rfl
  | n :: ns => by simp only [List.map_cons, bls?, bls_map ns, Option.map_some]
theorem ints_eq : ∀ {ps : List PV} {ns : List Int}, ints? ps = some ns → ps = ns.map PV.int
  | [], _, h => by cases h; rfl
  | p :: ps, ns, h => by
    cases p <;> simp only [ints?] at h <;> try cases h
    cases e : ints? ps with
    | none => rw [e] at h; cases h
    | some r => rw [e] at h; cases h; rw [ints_eq e]; rfl
theorem bls_eq : ∀ {ps : List PV} {ns : List Bool}, bls? ps = some ns → ps = ns.map PV.bl
  | [], _, h => by cases h; rfl
  | p :: ps, ns, h => by
    cases p <;> simp only [bls?] at h <;> try cases h
    cases e : bls? ps with
    | none => rw [e] at h; cases h
    | some r => rw [e] at h; cases h; rw [bls_eq e]; rfl
theorem ofBls {H : Hp} {F : Addr → Prop} : ∀ {ns : List Bool} {vs : List V}, RpL K H F (ns.map PV.bl) vs → vs = ns.map V.bl
  | [], _, h => h
  | n :: ns, _, ⟨v, r, e, a, b⟩ => by
    have a : v = _ := a
    rw [e, a, ofBls b]
    rfl
def fSum : PV → Option RV
  | .lst xs => (ints? xs).map fun ns => .val (.int ns.sum)
  | _ => none
theorem c_sum (hc : X.calm = true) : CallR X (.builtin "sum") (rCl X.K (n1 fSum)) := cr1' (cr_sum hc) fun H x Q ⟨g, p, r, hH, sr, hp, e, k⟩ => by
  subst hH
  cases p <;> simp only [fSum] at e <;> try cases e
  next xs =>
  cases e1 : ints? xs with
  | none => rw [e1] at e; cases e
  | some ns =>
    rw [e1] at e; cases e
    obtain ⟨a, vs, rfl, ha, ra⟩ := hp
    rw [ints_eq e1] at ra
    exact ⟨_, ns, rfl, .inl (.inl (by rw [ha, ofInts ra])), k g _ rfl (Stp.refl g) sr rfl⟩
def fAll : PV → Option RV
  | .lst xs => (bls? xs).map fun ns => .val (.bl (ns.all id))
  | _ => none
theorem c_all (hc : X.calm = true) : CallR X (.builtin "all") (rCl X.K (n1 fAll)) := cr1' (cr_all hc) fun H x Q ⟨g, p, r, hH, sr, hp, e, k⟩ => by
  subst hH
  cases p <;> simp only [fAll] at e <;> try cases e
  next xs =>
  cases e1 : bls? xs with
  | none => rw [e1] at e; cases e
  | some ns =>
    rw [e1] at e; cases e
    obtain ⟨a, vs, rfl, ha, ra⟩ := hp
    rw [bls_eq e1] at ra
    exact ⟨_, ns, rfl, .inl (.inl (by rw [ha, ofBls ra])), k g _ rfl (Stp.refl g) sr rfl⟩
def fAny : PV → Option RV
  | .lst xs => (bls? xs).map fun ns => .val (.bl (ns.any id))
  | _ => none
theorem c_any (hc : X.calm = true) : CallR X (.builtin "any") (rCl X.K (n1 fAny)) := cr1' (cr_any hc) fun H x Q ⟨g, p, r, hH, sr, hp, e, k⟩ => by
  subst hH
  cases p <;> simp only [fAny] at e <;> try cases e
  next xs =>
  cases e1 : bls? xs with
  | none => rw [e1] at e; cases e
  | some ns =>
    rw [e1] at e; cases e
    obtain ⟨a, vs, rfl, ha, ra⟩ := hp
    rw [bls_eq e1] at ra
    exact ⟨_, ns, rfl, .inl (.inl (by rw [ha, ofBls ra])), k g _ rfl (Stp.refl g) sr rfl⟩
def maxI (n : Int) (ns : List Int) : Int := ns.foldl (fun a b => if a < b then b else a) n
def minI (n : Int) (ns : List Int) : Int := ns.foldl (fun a b => if b < a then b else a) n
theorem maxI_mem : ∀ (ns : List Int) (n : Int), maxI n ns ∈ n :: ns ∧ ∀ y ∈ n :: ns, y ≤ maxI n ns
  | [], n => by simp [maxI]
  | m :: ns, n => by
    show maxI (if n < m then m else n) ns ∈ _ ∧ ∀ y ∈ n :: m :: ns, y ≤ maxI (if n < m then m else n) ns
    obtain ⟨h1, h2⟩ := maxI_mem ns (if n < m then m else n)
    simp only [List.mem_cons] at h1 h2 ⊢
    refine ⟨?_, fun y hy => ?_⟩
    · rcases h1 with h1 | h1
      · rw [h1]; split <;> simp
      · exact .inr (.inr h1)
    · have h3 := h2 _ (.inl rfl)
      rcases hy with rfl | rfl | hy
      · refine Int.le_trans ?_ h3; split <;> omega
      · refine Int.le_trans ?_ h3; split <;> omega
      · exact h2 y (.inr hy)
theorem minI_mem : ∀ (ns : List Int) (n : Int), minI n ns ∈ n :: ns ∧ ∀ y ∈ n :: ns, minI n ns ≤ y
  | [], n => by simp [minI]
  | m :: ns, n => by
    show minI (if m < n then m else n) ns ∈ _ ∧ ∀ y ∈ n :: m :: ns, minI (if m < n then m else n) ns ≤ y
    obtain ⟨h1, h2⟩ := minI_mem ns (if m < n then m else n)
    simp only [List.mem_cons] at h1 h2 ⊢
    refine ⟨?_, fun y hy => ?_⟩
    · rcases h1 with h1 | h1
      · rw [h1]; split <;> simp
      · exact .inr (.inr h1)
    · have h3 := h2 _ (.inl rfl)
      rcases hy with rfl | rfl | hy
      · refine Int.le_trans h3 ?_; split <;> omega
      · refine Int.le_trans h3 ?_; split <;> omega
      · exact h2 y (.inr hy)
def fMax : PV → Option RV
  | .lst xs => match ints? xs with
    | some (n :: ns) => some (.val (.int (maxI n ns)))
    | _ => none
  | _ => none
def fMin : PV → Option RV
  | .lst xs => match ints? xs with
    | some (n :: ns) => some (.val (.int (minI n ns)))
    | _ => none
  | _ => none
theorem c_max (hc : X.calm = true) : CallR X (.builtin "max") (rCl X.K (n1 fMax)) := cr1' (cr_max hc) fun H x Q ⟨g, p, r, hH, sr, hp, e, k⟩ => by
  subst hH
  cases p <;> simp only [fMax] at e <;> try cases e
  next xs =>
  cases e1 : ints? xs with
  | none => rw [e1] at e; cases e
  | some ns =>
    cases ns with
    | nil => rw [e1] at e; cases e
    | cons n ns =>
      rw [e1] at e; cases e
      obtain ⟨a, vs, rfl, ha, ra⟩ := hp
      rw [ints_eq e1] at ra
      refine ⟨_, n :: ns, rfl, .inl (.inl (by rw [ha, ofInts ra])), by simp, fun m h1 h2 => ?_⟩
      obtain ⟨k1, k2⟩ := maxI_mem ns n
      rw [show m = maxI n ns from Int.le_antisymm (k2 m h1) (h2 _ k1)]
      exact k g _ rfl (Stp.refl g) sr rfl
theorem c_min (hc : X.calm = true) : CallR X (.builtin "min") (rCl X.K (n1 fMin)) := cr1' (cr_min hc) fun H x Q ⟨g, p, r, hH, sr, hp, e, k⟩ => by
  subst hH
  cases p <;> simp only [fMin] at e <;> try cases e
  next xs =>
  cases e1 : ints? xs with
  | none => rw [e1] at e; cases e
  | some ns =>
    cases ns with
    | nil => rw [e1] at e; cases e
    | cons n ns =>
      rw [e1] at e; cases e
      obtain ⟨a, vs, rfl, ha, ra⟩ := hp
      rw [ints_eq e1] at ra
      refine ⟨_, n :: ns, rfl, .inl (.inl (by rw [ha, ofInts ra])), by simp, fun m h1 h2 => ?_⟩
      obtain ⟨k1, k2⟩ := minI_mem ns n
      rw [show m = minI n ns from Int.le_antisymm (h2 _ k1) (k2 m h1)]
      exact k g _ rfl (Stp.refl g) sr rfl
/-- sorted: ints -/
def insI (n : Int) : List Int → List Int
  | [] => [n]
  | m :: ns => if n ≤ m then n :: m :: ns else m :: insI n ns
def sortI : List Int → List Int
  | [] => []
  | n :: ns => insI n (sortI ns)
theorem insI_perm (n : Int) : ∀ ns, (insI n ns).Perm (n :: ns)
  | [] => .refl _
  | m :: ns => by
    unfold insI
    split
    · exact .refl _
    · exact ((insI_perm n ns).cons m).trans (.swap n m ns)
theorem insI_sorted (n : Int) : ∀ ns : List Int, ns.Pairwise (· ≤ ·) → (insI n ns).Pairwise (· ≤ ·)
  | [], _ => by simp [insI]
  | m :: ns, h => by
    rw [List.pairwise_cons] at h
    unfold insI
    split
    · next hle =>
      refine List.pairwise_cons.mpr ⟨fun y hy => ?_, List.pairwise_cons.mpr h⟩
      rcases List.mem_cons.mp hy with rfl | hy
      · exact hle
      · exact Int.le_trans hle (h.1 y hy)
    · next hle =>
      refine List.pairwise_cons.mpr ⟨fun y hy => ?_, insI_sorted n ns h.2⟩
      rcases List.mem_cons.mp ((insI_perm n ns).mem_iff.mp hy) with rfl | hy
      · omega
      · exact h.1 y hy
theorem sortI_perm : ∀ ns, (sortI ns).Perm ns
  | [] => .refl _
  | n :: ns => (insI_perm n _).trans ((sortI_perm ns).cons n)
theorem sortI_sorted : ∀ ns, (sortI ns).Pairwise (· ≤ ·)
  | [] => .nil
  | n :: ns => insI_sorted n _ (sortI_sorted ns)
def fSortI : PV → Option RV
  | .lst xs => (ints? xs).map fun ns => .own (.lst ((sortI ns).map PV.int))
  | _ => none
theorem c_sortI : CallR X (.builtin "sorted") (rCl X.K (n1 fSortI)) := cr1' cr_sortedI fun H x Q ⟨g, p, r, hH, sr, hp, e, k⟩ => by
  subst hH
  cases p <;> simp only [fSortI] at e <;> try cases e
  next xs =>
  cases e1 : ints? xs with
  | none => rw [e1] at e; cases e
  | some ns =>
    rw [e1] at e; cases e
    obtain ⟨a, vs, rfl, ha, ra⟩ := hp
    rw [ints_eq e1] at ra
    refine ⟨_, ns, rfl, .inl (.inl (by rw [ha, ofInts ra])), fun ns' p hp1 hp2 hp => ?_⟩
    obtain rfl := PySem.W.ksm_same (hp1.trans (sortI_perm ns).symm) hp2 (sortI_sorted ns)
    exact k (g.put p _) _ rfl (Stp.put hp) (sr.put hp) (newLst sr hp (rpInts _ _ _))
end
end Pf
end
section
set_option Elab.async false
set_option linter.all false
set_option maxHeartbeats 1000000
set_option autoImplicit false
namespace Pf
open PySem PySem.Spec L2
/-- what repr shows: data at most so deep, empty dicts too -/
def shw : Nat → PV → Bool
  | _, .non | _, .bl _ => true
  | _, .int i => decide (i.natAbs.log2 < 1920)
  | _, .str s => s.cps.all (· < 0x110000)
  | n + 1, .tup xs | n + 1, .lst xs => xs.all (shw n)
  | _ + 1, .dct [] => true
  | _, _ => false
/-- no less than the length of the shown text -/
def rsz : PV → Nat
  | .non | .bl _ => 5
  | .int i => if i.natAbs < 10 ^ 18 then 20 else 2000
  | .str s => 10 * s.length + 2
  | .tup xs => rszs xs + 4
  | .lst xs => rszs xs + 4
  | .dct _ => 2
  | .scr _ => 0
where
  rszs : List PV → Nat
  | [] => 0
  | x :: xs => rsz x + 2 + rszs xs
theorem rszs_map (xs : List PV) : rsz.rszs xs = (xs.map fun x => rsz x + 2).sum := by
  induction xs with
  | nil => rfl
  | cons x xs ih => rw [rsz.rszs, ih, List.map_cons, List.sum_cons]
theorem shw_ok : ∀ (n : Nat) (p : PV), shw n p = true → (toD p).showable = true ∧ (toD p).depth ≤ n
  | n, .non, _ => by simp [toD, PyData.showable, PyData.depth]
  | n, .bl _, _ => by simp [toD, PyData.showable, PyData.depth]
  | n, .int i, h => by
    have h' : decide (i.natAbs.log2 < 1920) = true := by cases n <;> exact h
    simp only [toD, PyData.showable, PyData.depth, Nat.zero_le, and_true]
    exact h'
  | n, .str s, h => by simp [toD, PyData.showable, PyData.depth]
  | 0, .tup _, h => by simp [shw] at h
  | 0, .lst _, h => by simp [shw] at h
  | 0, .dct [], h => by simp [shw] at h
  | 0, .dct (_ :: _), h => by simp [shw] at h
  | 0, .scr _, h => by simp [shw] at h
  | n + 1, .dct [], h => by simp [toD, toDk, PyData.showable, PyData.showableKv, PyData.depth, PyData.depthKv]
  | n + 1, .dct (_ :: _), h => by simp [shw] at h
  | n + 1, .scr _, h => by simp [shw] at h
  | n + 1, .tup xs, h => by
    have := shws_ok n xs (by simpa [shw] using h)
    simp only [toD, PyData.showable, PyData.depth]
    exact ⟨this.1, by omega⟩
  | n + 1, .lst xs, h => by
    have := shws_ok n xs (by simpa [shw] using h)
    simp only [toD, PyData.showable, PyData.depth]
    exact ⟨this.1, by omega⟩
where
  shws_ok : ∀ (n : Nat) (xs : List PV), xs.all (shw n) = true → PyData.showableAll (toDs xs) = true ∧ PyData.depthAll (toDs xs) ≤ n
  | n, [], _ => by simp [toDs, PyData.showableAll, PyData.depthAll]
  | n, x :: xs, h => by
    rw [List.all_cons, Bool.and_eq_true] at h
    obtain ⟨a, b⟩ := shw_ok n x h.1
    obtain ⟨c, d⟩ := shws_ok n xs h.2
    simp only [toDs, PyData.showableAll, PyData.depthAll, a, c, Bool.and_self, true_and]
    omega
theorem lenJoin (sep : Str) : ∀ ts : List Str, (Str.join sep ts).length ≤ (ts.map fun t => t.length + sep.length).sum
  | [] => by simp [Str.join, Str.length]; rfl
  | [x] => by simp [Str.join]
  | x :: y :: r => by
    show (x ++ sep ++ Str.join sep (y :: r)).length ≤ _
    rw [PySem.strLen_append, PySem.strLen_append, List.map_cons, List.sum_cons]
    have := lenJoin sep (y :: r)
    omega
theorem lenList (ts : List Str) : (listText ts).length ≤ (ts.map fun t => t.length + 2).sum + 4 := by
  cases ts with
  | nil => rw [listText_nil]; decide
  | cons t ts =>
    have e : (listText (t :: ts)).length = 1 + t.length + piled ts + 1 := by
      unfold listText
      rw [PySem.strLen_append]
      have : (textFrom 0 "[" (t :: ts)) = textFrom 1 (("[" : Str) ++ (if 0 > 0 then ", " else "" : String) ++ t) ts := rfl
      rw [this, textFrom_length_pos ts 1 _ (by decide), PySem.strLen_append, PySem.strLen_append]
      rfl
    have e2 : piled ts = (ts.map fun t => t.length + 2).sum := rfl
    rw [e, e2, List.map_cons, List.sum_cons]
    omega
theorem lenTup (ts : List Str) : (tupleText ts).length ≤ (ts.map fun t => t.length + 2).sum + 4 := by
  unfold tupleText
  rw [PySem.strLen_append, PySem.strLen_append]
  have h1 := lenJoin ", " ts
  have h2 : (ts.map fun t => t.length + (", " : Str).length) = ts.map fun t => t.length + 2 := rfl
  rw [h2] at h1
  have h3 : (("(" : String) : Str).length = 1 := rfl
  have h4 : ((if ts.length == 1 then ",)" else ")" : String) : Str).length ≤ 2 := by split <;> decide
  omega
theorem lenInt (i : Int) (h : i.natAbs.log2 < 1920) : (PySem.Str.ofString (toString i)).length ≤ rsz (.int i) := by
  unfold rsz
  split
  · next h2 =>
    have := PySem.int_text_length_le10 (a := i) (k := 18) (by decide) h2
    rw [PySem.ofString_length]
    omega
  · have := PyProof.Rows.int_text_len_1921 h
    omega
theorem shw_len : ∀ (n : Nat) (p : PV), shw n p = true → (toD p).shown.length ≤ rsz p
  | n, .non, _ => by simp only [toD, PyData.shown, rsz]; decide
  | n, .bl b, _ => by cases b <;> (simp only [toD, PyData.shown, rsz]; decide)
  | n, .int i, h => by
    have h' : decide (i.natAbs.log2 < 1920) = true := by cases n <;> exact h
    simp only [toD, PyData.shown]
    exact lenInt i (of_decide_eq_true h')
  | n, .str s, h => by
    have h' : s.cps.all (· < 0x110000) = true := by cases n <;> exact h
    simp only [toD, PyData.shown, rsz]
    refine PySem.StrLaws.reprText_len s fun c hc => ?_
    have h3 := Array.all_eq_true_iff_forall_mem.mp h' c (Array.mem_toList_iff.mp hc)
    have h4 : c < 0x110000 := by simpa using h3
    have e : (16 : Nat) ^ 8 = 4294967296 := by decide
    omega
  | 0, .tup _, h => by simp [shw] at h
  | 0, .lst _, h => by simp [shw] at h
  | 0, .dct [], h => by simp [shw] at h
  | 0, .dct (_ :: _), h => by simp [shw] at h
  | 0, .scr _, h => by simp [shw] at h
  | n + 1, .dct [], h => by simp only [toD, toDk, PyData.shown, PyData.shownKv, rsz]; decide
  | n + 1, .dct (_ :: _), h => by simp [shw] at h
  | n + 1, .scr _, h => by simp [shw] at h
  | n + 1, .tup xs, h => by
    have := shws_len n xs (by simpa [shw] using h)
    simp only [toD, PyData.shown, rsz]
    exact Nat.le_trans (lenTup _) (by omega)
  | n + 1, .lst xs, h => by
    have := shws_len n xs (by simpa [shw] using h)
    simp only [toD, PyData.shown, rsz]
    exact Nat.le_trans (lenList _) (by omega)
where
  shws_len : ∀ (n : Nat) (xs : List PV), xs.all (shw n) = true → ((PyData.shownAll (toDs xs)).map fun t => t.length + 2).sum ≤ rsz.rszs xs
  | n, [], _ => by simp [toDs, PyData.shownAll, rsz.rszs]
  | n, x :: xs, h => by
    rw [List.all_cons, Bool.and_eq_true] at h
    have a := shw_len n x h.1
    have c := shws_len n xs h.2
    simp only [toDs, PyData.shownAll, rsz.rszs, List.map_cons, List.sum_cons]
    omega
section
variable {K : Frag} {g g0 : G} {X : Cx} {pins : List (Addr × Obj)} {σ : L2.St} {H : Hp} {s : Shared}
mutual
theorem Rp.rd (I : Inv X pins σ H s) {F : Addr → Prop} : ∀ (n : Nat) (p : PV) (v : V) (u : Value), shw n p = true → Rp X.K H F p v → RelV v u → ∃ as, Reads s.heap u (toD p) as ∧ ∀ b ∈ as, H b ≠ none
  | n, .non, v, u, _, h, r => by have h : v = _ := h; subst h; cases r; exact ⟨_, Reads.none, by simp⟩
  | n, .bl b, v, u, _, h, r => by have h : v = _ := h; subst h; cases r; exact ⟨_, Reads.bool b, by simp⟩
  | n, .int i, v, u, _, h, r => by have h : v = _ := h; subst h; obtain ⟨t, rfl⟩ := r; exact ⟨_, Reads.int i t, by simp⟩
  | n, .str s, v, u, _, h, r => by have h : v = _ := h; subst h; obtain ⟨t, rfl⟩ := r; exact ⟨_, Reads.str s t, by simp⟩
  | 0, .tup _, _, _, h, _, _ => by simp [shw] at h
  | 0, .lst _, _, _, h, _, _ => by simp [shw] at h
  | 0, .dct [], _, _, h, _, _ => by simp [shw] at h
  | 0, .dct (_ :: _), _, _, h, _, _ => by simp [shw] at h
  | 0, .scr _, _, _, h, _, _ => by simp [shw] at h
  | n + 1, .dct (_ :: _), _, _, h, _, _ => by simp [shw] at h
  | n + 1, .scr _, _, _, h, _, _ => by simp [shw] at h
  | n + 1, .tup xs, v, u, h, ⟨a, vs, e, q, rr⟩, r => by
    subst e
    cases r
    obtain ⟨its, rv, ⟨o, ho, hc, m, hd⟩, _⟩ := I.tuple q
    obtain ⟨as, h1, h2⟩ := RpL.rd I n xs vs its (by simpa [shw] using h) rr rv
    exact ⟨_, Reads.tuple ho hc hd h1, h2⟩
  | n + 1, .lst xs, v, u, h, ⟨a, vs, e, q, rr⟩, r => by
    subst e
    cases r
    obtain ⟨its, rv, ⟨o, m, ho, hc, _, hd⟩, _⟩ := I.list (.inl (.inl q.1))
    obtain ⟨as, h1, h2⟩ := RpL.rd I n xs vs its (by simpa [shw] using h) rr rv
    refine ⟨_, Reads.list ho hc hd h1, fun b hb => ?_⟩
    rcases List.mem_cons.mp hb with rfl | hb
    · rw [q.1]; simp
    · exact h2 b hb
  | n + 1, .dct [], v, u, h, ⟨a, e, _, q⟩, r => by
    subst e
    cases r
    have fin : (∃ x, H a = some x) → (∃ o es ep, s.heap.get? a = some o ∧ o.cls = .type "dict" ∧ o.data = .dict es ep ∧ es.toList = []) → ∃ as, Reads s.heap (.ref a) (toD (.dct [])) as ∧ ∀ b ∈ as, H b ≠ none := fun ⟨x, hx⟩ ⟨o, es, ep, h1, h2, h3, h4⟩ => by
      refine ⟨_, Reads.dict h1 h2 h3 (by rw [h4]; exact .nil) (by rw [h4]; exact .nil), fun b hb => ?_⟩
      have : b = a := by simpa using hb
      subst this
      rw [hx]; simp
    rcases q with ⟨l, h1, h2⟩ | ⟨l, h1, h2⟩
    · have h2 : l = [] := h2
      subst h2
      obtain ⟨_, _, vs, kv, o, es, ep, e1, e2, e3, _, pr, _⟩ := I.hok a _ h1
      cases kv
      refine fin ⟨_, h1⟩ ⟨o, es, ep, e1, e2.1, e3, ?_⟩
      cases hes : es.toList with
      | nil => rfl
      | cons y ys => rw [hes] at pr; cases pr
    · have h2 : l = [] := h2
      subst h2
      obtain ⟨_, _, xs, kv, o, es, ep, e1, e2, e3, pr, _⟩ := I.hok a _ h1
      cases kv
      exact fin ⟨_, h1⟩ ⟨o, es, ep, e1, e2.1, e3, pr⟩
theorem RpL.rd (I : Inv X pins σ H s) {F : Addr → Prop} : ∀ (n : Nat) (ps : List PV) (vs : List V) (us : List Value), ps.all (shw n) = true → RpL X.K H F ps vs → Vals vs us → ∃ as, ReadsAll s.heap us (toDs ps) as ∧ ∀ b ∈ as, H b ≠ none
  | n, [], vs, us, _, h, r => by have h : vs = _ := h; subst h; cases r; exact ⟨_, .nil, by simp⟩
  | n, p :: ps, _, us, h, ⟨v, w, e, a, b⟩, r => by
    subst e
    cases r with
    | cons r1 r2 =>
      rw [List.all_cons, Bool.and_eq_true] at h
      obtain ⟨as, h1, h2⟩ := Rp.rd I n p v _ h.1 a r1
      obtain ⟨bs, h3, h4⟩ := RpL.rd I n ps w _ h.2 b r2
      exact ⟨_, .cons h1 h3, fun c hc => (List.mem_append.mp hc).elim (h2 c) (h4 c)⟩
end
theorem RpW.rd (I : Inv X pins σ H s) {F : Addr → Prop} {n : Nat} {p : PV} {v : V} {u : Value} (h : shw n p = true) (hp : RpW X.K H F p v) (r : RelV v u) : ∃ as, Reads s.heap u (toD p) as ∧ ∀ b ∈ as, H b ≠ none := by
  cases p with
  | lst xs =>
    obtain ⟨a, vs, rfl, q, rr⟩ := hp
    cases r
    obtain ⟨its, rv, ⟨o, m, ho, hc, _, hd⟩, _⟩ := I.list (.inl (.inl q))
    cases n with
    | zero => simp [shw] at h
    | succ n =>
      obtain ⟨as, h1, h2⟩ := RpL.rd I n xs vs its (by simpa [shw] using h) rr rv
      refine ⟨_, Reads.list ho hc hd h1, fun b hb => ?_⟩
      rcases List.mem_cons.mp hb with rfl | hb
      · rw [q]; simp
      · exact h2 b hb
  | dct kvs =>
    obtain ⟨a, rfl, q⟩ := hp
    cases kvs with
    | nil => exact Rp.rd I (F := fun _ => True) n (.dct []) (.ref a) u h ⟨a, rfl, trivial, q⟩ r
    | cons _ _ => cases n <;> simp [shw] at h
  | _ => exact Rp.rd I (F := F) n _ v u h hp r
end
section
variable {X : Cx}
def fRepr : PV → Option RV := fun p => if shw 60 p && decide (rsz p ≤ sizeLine) then some (.val (.str (toD p).shown)) else none
theorem c_repr (hg : X.A.guards = some []) (hu : X.A.units + 100 < cLine) (hs : ∃ o, X.base.get? sysModules = some o) : CallR X (.builtin "repr") (rCl X.K (n1 fRepr)) := cr1 fun pins s σ H x v Q I rx ⟨g, p, r, hH, sr, hp, e, k⟩ => by
  subst hH
  unfold fRepr at e
  split at e
  · next h =>
    cases e
    rw [Bool.and_eq_true, decide_eq_true_eq] at h
    have fin : ∀ t, EP X pins σ Q (.str (toD p).shown t) { s with toks := s.toks + 1 } := fun t => ⟨.str (toD p).shown, _, I.tok _, ⟨t, rfl⟩, k g _ rfl (Stp.refl g) sr rfl⟩
    have hsz : (toD p).shown.length ≤ sizeLine := Nat.le_trans (shw_len 60 p h.1) h.2
    obtain ⟨as, r1, r2⟩ := RpW.rd I h.1 hp rx
    obtain ⟨sh, dp⟩ := shw_ok 60 p h.1
    have gen : ∀ a, v = .ref a → wpAny (model X.prog X.w) X.A (call (.builtin "repr") [v]) (EP X pins σ Q) X.xe s := fun a e => by
      subst e
      refine repr_of_reads' r1 sh (fun _ hm => ?_) hg (by omega) (fun _ _ e => e) (fun h' u tk hk => ?_) hsz
      · obtain ⟨o, ho⟩ := hs
        exact r2 _ hm (I.bs _ _ ho).2
      · exact ⟨.str (toD p).shown, _, I.kept hk, ⟨u, rfl⟩, k g _ rfl (Stp.refl g) sr rfl⟩
    cases p with
    | non => have hp : x = _ := hp; subst hp; cases rx; exact PySem.P.repr_of_none (fin _)
    | bl b => have hp : x = _ := hp; subst hp; cases rx; exact PySem.P.repr_of_bool (by cases b <;> exact fin _)
    | int i =>
      have hp : x = _ := hp
      subst hp
      obtain ⟨t, rfl⟩ := rx
      exact PySem.P.repr_of_int (by simpa [shw] using h.1) (fin _)
    | str z =>
      have hp : x = _ := hp
      subst hp
      obtain ⟨t, rfl⟩ := rx
      exact PySem.P.repr_of_str (fin _) hsz
    | tup xs => obtain ⟨a, vs, rfl, _⟩ := hp; exact gen a rx
    | lst xs => obtain ⟨a, vs, rfl, _⟩ := hp; exact gen a rx
    | dct xs => obtain ⟨a, rfl, _⟩ := hp; exact gen a rx
    | scr xs => simp [shw] at h
  · cases e
end
end Pf
end
section
set_option Elab.async false
set_option linter.all false
set_option maxHeartbeats 1000000
set_option autoImplicit false
namespace Pf
open PySem PySem.Spec L2
/-! names, constants, displays, and or not, conditionals, chains -/
def SV.rv : SV → RV
  | .val p => .val p
  | .ref n => .ref n
def dVar (i : Nat) : Den := fun ρ S => match ρ[i]? with
  | some (some sv) => .ok sv.rv S
  | _ => .stuck
def dCst (p : PV) : Den := fun _ => ret (.val p)
/-- frozen for good -/
def force (r : RV) : M PV := fun S => match r with
  | .val p => .ok p S
  | .own p => .ok p S
  | .ref n => (match S[n]? with
    | some (.live p) => .ok p (S.set n (.froz p))
    | some (.froz p) => .ok p S
    | _ => .stuck)
def forces : List RV → M (List PV)
  | [] => ret []
  | r :: rs => bd (force r) fun p => bd (forces rs) fun ps => ret (p :: ps)
def lenOk (n : Nat) : Bool := decide (n ≤ sizeLine)
def dTup (ds : List Den) : Den := fun ρ => bd (evAll ds ρ) fun rs => bd (forces rs) fun ps => if lenOk ps.length then ret (.val (.tup ps)) else stk
def dLst (ds : List Den) : Den := fun ρ => bd (evAll ds ρ) fun rs => bd (forces rs) fun ps => if lenOk ps.length then ret (.own (.lst ps)) else stk
def asB : RV → M Bool
  | .val (.bl b) => ret b
  | _ => stk
def dAnd (a b : Den) : Den := fun ρ => bd (a ρ) fun r => bd (asB r) fun c => if c then b ρ else ret (.val (.bl false))
def dOr (a b : Den) : Den := fun ρ => bd (a ρ) fun r => bd (asB r) fun c => if c then ret (.val (.bl true)) else b ρ
def dNot (a : Den) : Den := fun ρ => bd (a ρ) fun r => bd (asB r) fun c => ret (.val (.bl (!c)))
def dIte (c a b : Den) : Den := fun ρ => bd (c ρ) fun r => bd (asB r) fun c => if c then a ρ else b ρ
/-- a < b < c -/
def dChain (f f' : PV → PV → Option RV) (a b c : Den) : Den := fun ρ => bd (a ρ) fun r => bd (b ρ) fun q => bd (run2 f r q) fun x => bd (asB x) fun k => if k then bd (c ρ) fun z => run2 f' q z else ret (.val (.bl false))
section
variable {K : Frag} {W : XW} {g g0 g1 : G} {S : Sto}
theorem asB_ok {r : RV} {Q : Bool → G → Prop} (h : WG K W g0 S (asB r) Q) : ∃ b, r = .val (.bl b) ∧ ∀ g', g'.S = S → Stp g0 g' → SRc K g' → Q b g' := by
  unfold WG at h
  cases r with
  | val p =>
    cases p with
    | bl b => exact ⟨b, rfl, h⟩
    | _ => exact False.elim h
  | _ => exact False.elim h
theorem stk_ok {α : Type} {Q : α → G → Prop} (h : WG K W g0 S (stk : M α) Q) : False := h
/-- a test, then the rest -/
theorem asB_bd {β : Type} {r : RV} {f : Bool → M β} {R : β → G → Prop} (st : Stp g0 g1) (sr : SRc K g1) (h : WG K W g0 g1.S (bd (asB r) f) R) : ∃ b, r = .val (.bl b) ∧ WG K W g0 g1.S (f b) R := by
  obtain ⟨b, e, k⟩ := asB_ok (h.bd st)
  exact ⟨b, e, k g1 rfl (Stp.refl g1) sr⟩
theorem run2_bd {β : Type} {r q : RV} {fn : PV → PV → Option RV} {f : RV → M β} {R : β → G → Prop} (st : Stp g0 g1) (h : WG K W g0 g1.S (bd (run2 fn r q) f) R) :
    ∃ p p' x, peek r g1.S = some p ∧ peek q g1.S = some p' ∧ fn p p' = some x ∧ ∀ g', g'.S = g1.S → Stp g1 g' → SRc K g' → WG K W g0 g'.S (f x) R := (h.bd st).run2
/-- freezing an object that nobody else has -/
def G.fz (g : G) (a : Addr) : G := { g with F := fun b => g.F b ∨ b = a }
theorem keepF (g : G) (a : Addr) : Keep g (g.fz a) := ⟨fun _ h => .inl h, fun _ _ e _ => e⟩
theorem Rp.ofAt {H : Hp} {F : Addr → Prop} {p : PV} {a : Addr} (h : At K H F p a) (f : F a) : Rp K H F p (.ref a) := by
  cases p with
  | lst xs => obtain ⟨vs, e, r⟩ := h; exact ⟨a, vs, rfl, ⟨e, f⟩, r⟩
  | dct kvs => exact ⟨a, rfl, f, h⟩
  | _ => exact False.elim h
theorem fzOwn (st : Stp g0 g) (s : SRc K g) {p : PV} {a : Addr} (h : At K g.H g.F p a) (n : a ∉ g.A) (z : g0.H a = none) : Stp g0 (g.fz a) ∧ SRc K (g.fz a) ∧ Rp K g.H (g.fz a).F p (.ref a) := by
  have hk : At K g.H (g.fz a).F p a := h.keep' (keepF g a) (g' := g.fz a) rfl
  refine ⟨⟨st.keep, st.dom, fun b q => .inl (st.fz b q), fun b q => ?_, st.ext, st.newA, st.new, st.pl, st.ge⟩, ⟨s.len, s.nd, fun m b c e1 e2 => ?_, s.dom, fun b q => ?_⟩, Rp.ofAt hk (.inr rfl)⟩
  · rcases q with q | q
    · exact st.fz' b q
    · rw [q]; exact .inr (.inr z)
  · have k := s.cell m b c e1 e2
    exact k.keep (keepF g a) (fun _ _ h => h) (fun _ => rfl) fun _ q => q.elim id fun q => absurd (List.mem_of_getElem? (q ▸ e1)) n
  · rcases q with q | q
    · exact s.fd b q
    · rw [q]; exact h.ex
/-- freezing a cell -/
def G.fzc (g : G) (n : Nat) (p : PV) (a : Addr) : G := { g with S := g.S.set n (.froz p), F := fun b => g.F b ∨ b = a }
theorem fzCell (st : Stp g0 g) (s : SRc K g) {p : PV} {n : Nat} {a : Addr} (hA : g.A[n]? = some a) (hS : g.S[n]? = some (.live p)) : Stp g0 (g.fzc n p a) ∧ SRc K (g.fzc n p a) ∧ Rp K g.H (g.fzc n p a).F p (.ref a) := by
  obtain ⟨h, nf⟩ := s.cell n a _ hA hS
  have hk : Keep g (g.fzc n p a) := ⟨fun _ h => .inl h, fun _ _ e _ => e⟩
  have hat : At K g.H (g.fzc n p a).F p a := h.keep' hk (g' := g.fzc n p a) rfl
  have rp : Rp K g.H (g.fzc n p a).F p (.ref a) := Rp.ofAt hat (.inr rfl)
  have uniq : ∀ m, g.A[m]? = some a → m = n := fun m e => by
    obtain ⟨h1, e1⟩ := List.getElem?_eq_some_iff.mp e
    obtain ⟨h2, e2⟩ := List.getElem?_eq_some_iff.mp hA
    exact (List.getElem_inj s.nd).mp (e1.trans e2.symm)
  have lvs : ∀ b, Lv (g.fzc n p a) b → Lv g b := fun b ⟨m, v, e1, e2⟩ => by
    obtain ⟨e1, mv⟩ := e1
    refine ⟨m, v, ⟨?_, mv⟩, e2⟩
    have e1 : (g.S.set n (.froz p))[m]? = _ := e1
    by_cases hm : n = m
    · subst hm
      have : n < g.S.length := (List.getElem?_eq_some_iff.mp hS).1
      rw [List.getElem?_set_self this] at e1
      cases e1; cases mv
    · rw [List.getElem?_set_ne hm] at e1; exact e1
  refine ⟨⟨st.keep, st.dom, fun b q => .inl (st.fz b q), fun b q => ?_, st.ext, st.newA, fun b q => st.new b (lvs b q), PlS.trans st.pl st.ge (plSet rfl), by show _ ≤ (g.S.set n (.froz p)).length; rw [List.length_set]; exact st.ge⟩, ⟨by show g.A.length = (g.S.set n (.froz p)).length; rw [s.len]; exact (List.length_set).symm, s.nd, fun m b c e1 e2 => ?_, s.dom, fun b q => ?_⟩, rp⟩
  · rcases q with q | q
    · exact st.fz' b q
    · subst q
      rcases st.new b ⟨n, _, ⟨hS, rfl⟩, hA⟩ with q | q
      · exact .inr (.inl q)
      · exact .inr (.inr q)
  · have e2 : (g.S.set n (.froz p))[m]? = _ := e2
    have e1 : g.A[m]? = some b := e1
    by_cases hm : n = m
    · subst hm
      have : n < g.S.length := (List.getElem?_eq_some_iff.mp hS).1
      rw [List.getElem?_set_self this] at e2
      cases e2
      rw [hA] at e1; cases e1
      exact rp
    · rw [List.getElem?_set_ne hm] at e2
      have k := s.cell m b c e1 e2
      exact k.keep hk (fun _ _ h => h) (fun _ => rfl) fun _ q => q.elim id fun q => absurd (by subst q; exact (uniq m e1).symm) hm
  · rcases q with q | q
    · exact s.fd b q
    · rw [q]; exact h.ex
/-- what is to be frozen -/
def Rf (K : Frag) (g0 g : G) : RV → V → Prop
  | .val p, v => Rp K g.H g.F p v
  | .own p, v => ∃ a, v = .ref a ∧ At K g.H g.F p a ∧ a ∉ g.A ∧ g0.H a = none
  | .ref n, v => ∃ a, v = .ref a ∧ g.A[n]? = some a
theorem Rr.rf {r : RV} {v : V} (h : Rr K g0 g r v) : Rf K g0 g r v := by
  cases r with
  | val p => exact h
  | own p => obtain ⟨a, e, h1, _, h2, h3⟩ := h; exact ⟨a, e, h1, h2, h3⟩
  | ref n => exact h
theorem Rf.keep {g' : G} {r : RV} {v : V} (k : Keep g g') (hH : g'.H = g.H) (hA : g'.A = g.A) (h : Rf K g0 g r v) : Rf K g0 g' r v := by
  cases r with
  | val p => exact Rp.keep k p v h
  | own p => obtain ⟨a, e, h1, h2, h3⟩ := h; exact ⟨a, e, h1.keep' k (by rw [hH]), by rw [hA]; exact h2, h3⟩
  | ref n => obtain ⟨a, e, h⟩ := h; exact ⟨a, e, by rw [hA]; exact h⟩
/-- force: the same heap, more frozen -/
theorem force_ok {r : RV} {v : V} {β : Type} {f : PV → M β} {R : β → G → Prop} (st : Stp g0 g) (s : SRc K g) (hr : Rf K g0 g r v) (h : WG K W g0 g.S (bd (force r) f) R) :
    ∃ p g', g'.H = g.H ∧ Stp g0 g' ∧ SRc K g' ∧ Rp K g'.H g'.F p v ∧ Keep g g' ∧ g'.A = g.A ∧ (∀ b, g'.F b → g.F b ∨ (v = .ref b ∧ ∀ p, r ≠ .val p)) ∧ WG K W g0 g'.S (f p) R := by
  have h1 := h.bd st
  unfold WG at h1
  cases r with
  | val p => exact ⟨p, g, rfl, st, s, hr, ⟨fun _ h => h, fun _ _ e _ => e⟩, rfl, fun _ h => .inl h, h1 g rfl (Stp.refl g) s⟩
  | own p =>
    obtain ⟨a, rfl, ha, nA, z⟩ := hr
    obtain ⟨k1, k2, k3⟩ := fzOwn st s ha nA z
    exact ⟨p, g.fz a, rfl, k1, k2, k3, keepF g a, rfl, fun b h => h.imp id fun h => ⟨by rw [h], fun _ => by simp⟩, (h.bd st).at (S' := g.S) (a := p) rfl (g' := g) rfl (Stp.refl g) s⟩
  | ref n =>
    obtain ⟨a, rfl, hA⟩ := hr
    cases hS : g.S[n]? with
    | none => simp only [force, hS] at h1
    | some c =>
      cases c with
      | nest es => simp only [force, hS] at h1
      | froz p =>
        simp only [force, hS] at h1
        exact ⟨p, g, rfl, st, s, s.cell n a _ hA hS, ⟨fun _ h => h, fun _ _ e _ => e⟩, rfl, fun _ h => .inl h, h1 g rfl (Stp.refl g) s⟩
      | live p =>
        obtain ⟨k1, k2, k3⟩ := fzCell st s hA hS
        have hk : Keep g (g.fzc n p a) := ⟨fun _ h => .inl h, fun _ _ e _ => e⟩
        have st' : Stp g (g.fzc n p a) := (fzCell (Stp.refl g) s hA hS).1
        exact ⟨p, g.fzc n p a, rfl, k1, k2, k3, hk, rfl, fun b h => h.imp id fun h => ⟨by rw [h], fun _ => by simp⟩, (h.bd st).at (S' := g.S.set n (.froz p)) (a := p) (by simp only [force, hS]) (g' := g.fzc n p a) rfl st' k2⟩
def RfL (K : Frag) (g0 g : G) : List RV → List V → Prop := Paired (Rf K g0 g)
theorem RrP.rf : ∀ {rs : List RV} {vs : List V}, RrP K g0 g rs vs → RfL K g0 g rs vs
  | _, _, .nil => .nil
  | _, _, .cons a b => .cons a.rf (RrP.rf b)
theorem RfL.keep {g' : G} (k : Keep g g') (hH : g'.H = g.H) (hA : g'.A = g.A) : ∀ {rs : List RV} {vs : List V}, RfL K g0 g rs vs → RfL K g0 g' rs vs
  | _, _, .nil => .nil
  | _, _, .cons a b => .cons (a.keep k hH hA) (RfL.keep k hH hA b)
theorem forces_ok : ∀ {rs : List RV} {vs : List V} {β : Type} {f : List PV → M β} {R : β → G → Prop} {g : G} (st : Stp g0 g) (s : SRc K g) (hr : RfL K g0 g rs vs) (h : WG K W g0 g.S (bd (forces rs) f) R),
    ∃ ps g', g'.H = g.H ∧ Stp g0 g' ∧ SRc K g' ∧ RpL K g'.H g'.F ps vs ∧ (∀ p v, Rp K g.H g.F p v → Rp K g'.H g'.F p v) ∧ g'.A = g.A ∧ WG K W g0 g'.S (f ps) R
  | _, _, β, f, R, g, st, s, .nil, h => ⟨[], g, rfl, st, s, rfl, fun _ _ h => h, rfl, by
      have h2 := h.bd st
      exact h2.at (S' := g.S) (a := []) rfl (g' := g) rfl (Stp.refl g) s⟩
  | r :: rs, v :: vs, β, f, R, g, st, s, .cons a b, h => by
    have h' : WG K W g0 g.S (bd (force r) fun p => bd (forces rs) fun ps => f (p :: ps)) R := by
      have e : bd (forces (r :: rs)) f = bd (force r) fun p => bd (forces rs) fun ps => f (p :: ps) := by
        funext S
        simp only [forces, bd, ret]
        cases force r S with
        | stuck => rfl
        | exc c v S' => rfl
        | ok p S' =>
          simp only
          cases forces rs S' <;> rfl
      rw [← e]; exact h
    obtain ⟨p, g1, e1, st1, s1, r1, k1, a1, _, h1⟩ := force_ok st s a h'
    obtain ⟨ps, g2, e2, st2, s2, r2, k2, a2, h2⟩ := forces_ok st1 s1 (RfL.keep k1 e1 a1 b) h1
    exact ⟨p :: ps, g2, e2.trans e1, st2, s2, ⟨v, vs, rfl, k2 p v r1, r2⟩, fun q w hq => k2 q w (Rp.keep k1 q w hq), a2.trans a1, h2⟩
end
section
variable {X : Cx} {W : WS} {x : Str} {pos : Pos} {a b c : Expr} {es : List Expr} {da db dc : Den} {ds : List Den} {f f' : PV → PV → Option RV}
theorem pe_dvar {i : Nat} (hN : X.N[i]? = some x) (hv : Vis X.env.scope x) (hd : (x == ("__debug__" : Str)) = false) (hcd : (x == ("__classdict__" : Str)) = false) : PE X (.Name x pos) (tD X.K W (dVar i)) :=
  peW (pe_var hN hv hd hcd) fun σ H Q ⟨ρ, g, e, sr, se, h⟩ => by
    subst e
    unfold WG dVar at h
    cases h1 : ρ[i]? with
    | none => simp only [h1] at h
    | some o =>
      cases o with
      | none => simp only [h1] at h
      | some sv =>
        simp only [h1] at h
        obtain ⟨v, e1, r⟩ := se.2 i sv h1
        refine ⟨v, e1, h g rfl (Stp.refl g) sr v ?_⟩
        cases sv with
        | val p => exact r
        | ref n => exact r
theorem tD_cst {K : Frag} {p : PV} {v : V} (hp : ∀ H F, Rp K H F p v) (σ : L2.St) (H : Hp) (Q : VK) (h : tD K W (dCst p) σ H Q) : tC v σ H Q := by
  obtain ⟨ρ, g, e, sr, se, h⟩ := h
  subst e
  exact h.ret rfl (Stp.refl g) sr v (hp _ _)
theorem pe_dint {i : Int} {j : Nat} : PE X (.Constant (.int i) j pos) (tD X.K W (dCst (.int i))) := peW pe_int (tD_cst fun _ _ => rfl)
theorem pe_dbl {i : Bool} {j : Nat} : PE X (.Constant (.bool i) j pos) (tD X.K W (dCst (.bl i))) := peW pe_bl (tD_cst fun _ _ => rfl)
theorem pe_dnon {j : Nat} : PE X (.Constant .none j pos) (tD X.K W (dCst .non)) := peW pe_non (tD_cst fun _ _ => rfl)
theorem pe_dstr {z : Str} {j : Nat} : PE X (.Constant (.str z) j pos) (tD X.K W (dCst (.str z))) := peW pe_str (tD_cst fun _ _ => rfl)
theorem pe_dglo {p : PV} {v : V} {u : Value} (hg : Gl X x) (hm : X.mg x = some u) (r : RelV v u) (hp : ∀ H F, Rp X.K H F p v) (hd : (x == ("__debug__" : Str)) = false) : PE X (.Name x pos) (tD X.K W (dCst p)) :=
  peW (pe_glob hg hm r hd) (tD_cst hp)
theorem tTup_of {K : Frag} {σ : L2.St} {H : Hp} {Q : VK} (h : tD K W (dTup ds) σ H Q) : tTup (tDs K W ds) σ H Q := by
  obtain ⟨ρ, g, e, sr, se, h⟩ := h
  subst e
  refine tDs.bd (Stp.refl g) sr se h fun rs g1 vs st _ sr1 se1 hvs h1 => ?_
  obtain ⟨ps, g2, e2, st2, s2, r2, _, _, h2⟩ := forces_ok st sr1 hvs.1.rf h1
  rw [← e2]
  split at h2
  · next hl =>
    refine ⟨by rw [← r2.len]; exact of_decide_eq_true hl, fun p hp => ?_⟩
    exact h2.ret (g' := g2.put p (.tup vs)) rfl (st2.trans (Stp.put hp)) (s2.put hp) (.ref p) ((newTup s2 hp r2).from st2)
  · exact (stk_ok h2).elim
theorem tLst_of {K : Frag} {σ : L2.St} {H : Hp} {Q : VK} (h : tD K W (dLst ds) σ H Q) : tLst (tDs K W ds) σ H Q := by
  obtain ⟨ρ, g, e, sr, se, h⟩ := h
  subst e
  refine tDs.bd (Stp.refl g) sr se h fun rs g1 vs st _ sr1 se1 hvs h1 => ?_
  obtain ⟨ps, g2, e2, st2, s2, r2, _, _, h2⟩ := forces_ok st sr1 hvs.1.rf h1
  rw [← e2]
  split at h2
  · next hl =>
    refine ⟨by rw [← r2.len]; exact of_decide_eq_true hl, fun p hp => ?_⟩
    exact h2.ret (g' := g2.put p (.lst vs)) rfl (st2.trans (Stp.put hp)) (s2.put hp) (.ref p) ((newLst s2 hp r2).from st2)
  · exact (stk_ok h2).elim
theorem pe_dtup {k : Nat} (h : PA X es (tDs X.K W ds)) : PE X (.Tuple es k pos) (tD X.K W (dTup ds)) := peW (pe_tup h) fun _ _ _ h => tTup_of h
theorem pe_dlst (h : PA X es (tDs X.K W ds)) : PE X (.List es pos) (tD X.K W (dLst ds)) := peW (pe_lst h) fun _ _ _ h => tLst_of h
theorem tD.use {K : Frag} {σ : L2.St} {g0 g : G} {ρ : Env} {R : RV → G → Prop} {Q : VK} {d : Den} (st0 : Stp g0 g) (sr : SRc K g) (se : SRe K g ρ σ) (h : WG K (W σ) g0 g.S (d ρ) R)
    (q : ∀ r g1 v, Stp g g1 → Stp g0 g1 → SRc K g1 → Rr K g0 g1 r v → R r g1 → Q v g1.H) : tD K W d σ g.H Q := by
  refine ⟨ρ, g, rfl, sr, se, ?_⟩
  unfold WG at h ⊢
  cases e : d ρ g.S with
  | stuck => rw [e] at h; exact h
  | exc c v S' => rw [e] at h; exact fun g' h1 h2 h3 => h g' h1 (st0.trans h2) h3
  | ok r S' => rw [e] at h; exact fun g' h1 h2 h3 v hv => q _ g' v h2 (st0.trans h2) h3 (hv.from st0) (h g' h1 (st0.trans h2) h3)
theorem tAndV_of {K : Frag} {σ : L2.St} {H : Hp} {Q : VK} (h : tD K W (dAnd da db) σ H Q) : tAndV (tD K W da) (tD K W db) σ H Q := by
  obtain ⟨ρ, g, e, sr, se, h⟩ := h
  subst e
  refine tD.bd (Stp.refl g) sr se h fun r g1 v st _ sr1 se1 hv h1 => ?_
  obtain ⟨c, rfl, h2⟩ := asB_bd st sr1 h1
  have hv : v = .bl c := hv
  refine ⟨c, hv, ?_⟩
  cases c with
  | true => exact tD.use st sr1 se1 h2 fun r g2 v _ _ _ hr k => k v hr
  | false => exact h2.ret rfl st sr1 (.bl false) rfl
theorem tOrV_of {K : Frag} {σ : L2.St} {H : Hp} {Q : VK} (h : tD K W (dOr da db) σ H Q) : tOrV (tD K W da) (tD K W db) σ H Q := by
  obtain ⟨ρ, g, e, sr, se, h⟩ := h
  subst e
  refine tD.bd (Stp.refl g) sr se h fun r g1 v st _ sr1 se1 hv h1 => ?_
  obtain ⟨c, rfl, h2⟩ := asB_bd st sr1 h1
  have hv : v = .bl c := hv
  refine ⟨c, hv, ?_⟩
  cases c with
  | false => exact tD.use st sr1 se1 h2 fun r g2 v _ _ _ hr k => k v hr
  | true => exact h2.ret rfl st sr1 (.bl true) rfl
theorem tNotV_of {K : Frag} {σ : L2.St} {H : Hp} {Q : VK} (h : tD K W (dNot da) σ H Q) : tNotV (tD K W da) σ H Q := by
  obtain ⟨ρ, g, e, sr, se, h⟩ := h
  subst e
  refine tD.bd (Stp.refl g) sr se h fun r g1 v st _ sr1 se1 hv h1 => ?_
  obtain ⟨c, rfl, h2⟩ := asB_bd st sr1 h1
  have hv : v = .bl c := hv
  exact ⟨c, hv, h2.ret rfl st sr1 (.bl (!c)) rfl⟩
end
end Pf
end
section
set_option Elab.async false
set_option linter.all false
set_option maxHeartbeats 1000000
set_option autoImplicit false
namespace Pf
open PySem PySem.Spec L2
def dTest (d : Den) : Env → M Bool := fun ρ => bd (d ρ) asB
def tT (K : Frag) (W : WS) (d : Den) : TT := fun σ H Q => ∃ ρ g, g.H = H ∧ SRc K g ∧ SRe K g ρ σ ∧ WG K (W σ) g g.S (dTest d ρ) fun b g' => Q b g'.H
theorem ptW {X : Cx} {e : Expr} {t t' : TT} (h : PT X e t) (w : ∀ σ H Q, t' σ H Q → t σ H Q) : PT X e t' := ⟨fun pins s σ H Q I q => h.run pins s σ H Q I (w σ H Q q)⟩
theorem pwW {X : Cx} {e : Expr} {t t' : TT} (h : PW X e t) (w : ∀ σ H Q, t' σ H Q → t σ H Q) : PW X e t' := ⟨fun wh pins s σ H Q I q => h.run wh pins s σ H Q I (w σ H Q q)⟩
section
variable {K : Frag} {W : WS} {d da db dc : Den} {σ : L2.St} {H : Hp}
theorem tT_tD {Q : Bool → Hp → Prop} (h : tT K W d σ H Q) : tD K W d σ H fun v H' => ∃ k, v = .bl k ∧ Q k H' := by
  obtain ⟨ρ, g, e, sr, se, h⟩ := h
  subst e
  refine ⟨ρ, g, rfl, sr, se, (WG.bd0 h).mono fun r g1 st sr1 h1 v hv => ?_⟩
  obtain ⟨b, rfl, k⟩ := asB_ok h1
  exact ⟨b, hv, k g1 rfl st sr1⟩
theorem tT.use {Q : Bool → Hp → Prop} {g0 g : G} {ρ : Env} {R : Bool → G → Prop} (st0 : Stp g0 g) (sr : SRc K g) (se : SRe K g ρ σ) (h : WG K (W σ) g0 g.S (dTest d ρ) R)
    (q : ∀ b g1, Stp g g1 → Stp g0 g1 → SRc K g1 → R b g1 → Q b g1.H) : tT K W d σ g.H Q := by
  refine ⟨ρ, g, rfl, sr, se, ?_⟩
  unfold WG at h ⊢
  cases e : dTest d ρ g.S with
  | stuck => rw [e] at h; exact h
  | exc c v S' => rw [e] at h; exact fun g' h1 h2 h3 => h g' h1 (st0.trans h2) h3
  | ok r S' => rw [e] at h; exact fun g' h1 h2 h3 => q _ g' h2 (st0.trans h2) h3 (h g' h1 (st0.trans h2) h3)
/-- a test, then the rest -/
theorem tT.bd {Q : Bool → Hp → Prop} {g0 g : G} {ρ : Env} {β : Type} {f : Bool → M β} {R : β → G → Prop} (st0 : Stp g0 g) (sr : SRc K g) (se : SRe K g ρ σ) (h : WG K (W σ) g0 g.S (bd (d ρ) fun r => bd (asB r) f) R)
    (q : ∀ b g1, Stp g g1 → Stp g0 g1 → SRc K g1 → SRe K g1 ρ σ → WG K (W σ) g0 g1.S (f b) R → Q b g1.H) : tT K W d σ g.H Q := by
  have e : (Pf.bd (d ρ) fun r => Pf.bd (asB r) f) = Pf.bd (dTest d ρ) f := by
    funext S
    simp only [dTest, Pf.bd]
    cases d ρ S <;> rfl
  rw [e] at h
  exact ⟨ρ, g, rfl, sr, se, (h.bd st0).mono fun b g1 st sr1 h1 => q b g1 st (st0.trans st) sr1 (se.step sr st) h1⟩
theorem tAnd_of {Q : Bool → Hp → Prop} (h : tT K W (dAnd da db) σ H Q) : tAnd (tT K W da) (tT K W db) σ H Q := by
  obtain ⟨ρ, g, e, sr, se, h⟩ := h
  subst e
  have e : dTest (dAnd da db) ρ = bd (da ρ) fun r => bd (asB r) fun c => if c then dTest db ρ else ret false := by
    funext S
    simp only [dTest, dAnd, Pf.bd]
    cases da ρ S with
    | ok r S' =>
      simp only
      cases asB r S' with
      | ok c S2 => cases c <;> simp only [Bool.false_eq_true, if_false, if_true] <;> rfl
      | exc _ _ _ => rfl
      | stuck => rfl
    | exc _ _ _ => rfl
    | stuck => rfl
  rw [e] at h
  refine tT.bd (Stp.refl g) sr se h fun b g1 st _ sr1 se1 h1 => ?_
  cases b with
  | true => exact tT.use st sr1 se1 h1 fun b g2 _ _ _ k => k
  | false => exact h1.ret rfl st sr1
theorem tOr_of {Q : Bool → Hp → Prop} (h : tT K W (dOr da db) σ H Q) : tOr (tT K W da) (tT K W db) σ H Q := by
  obtain ⟨ρ, g, e, sr, se, h⟩ := h
  subst e
  have e : dTest (dOr da db) ρ = bd (da ρ) fun r => bd (asB r) fun c => if c then ret true else dTest db ρ := by
    funext S
    simp only [dTest, dOr, Pf.bd]
    cases da ρ S with
    | ok r S' =>
      simp only
      cases asB r S' with
      | ok c S2 => cases c <;> simp only [Bool.false_eq_true, if_false, if_true] <;> rfl
      | exc _ _ _ => rfl
      | stuck => rfl
    | exc _ _ _ => rfl
    | stuck => rfl
  rw [e] at h
  refine tT.bd (Stp.refl g) sr se h fun b g1 st _ sr1 se1 h1 => ?_
  cases b with
  | false => exact tT.use st sr1 se1 h1 fun b g2 _ _ _ k => k
  | true => exact h1.ret rfl st sr1
theorem tNot_of {Q : Bool → Hp → Prop} (h : tT K W (dNot da) σ H Q) : tNot (tT K W da) σ H Q := by
  obtain ⟨ρ, g, e, sr, se, h⟩ := h
  subst e
  have e : dTest (dNot da) ρ = bd (da ρ) fun r => bd (asB r) fun c => ret (!c) := by
    funext S
    simp only [dTest, dNot, Pf.bd]
    cases da ρ S with
    | ok r S' =>
      simp only
      cases asB r S' with
      | ok c S2 => rfl
      | exc _ _ _ => rfl
      | stuck => rfl
    | exc _ _ _ => rfl
    | stuck => rfl
  rw [e] at h
  refine tT.bd (Stp.refl g) sr se h fun b g1 st _ sr1 se1 h1 => ?_
  exact h1.ret rfl st sr1
theorem tIf_of {Q : VK} (h : tD K W (dIte dc da db) σ H Q) : tIf (tT K W dc) (tD K W da) (tD K W db) σ H Q := by
  obtain ⟨ρ, g, e, sr, se, h⟩ := h
  subst e
  refine tT.bd (Stp.refl g) sr se h fun b g1 st _ sr1 se1 h1 => ?_
  cases b with
  | true => exact tD.use st sr1 se1 h1 fun r g2 v _ _ _ hr k => k v hr
  | false => exact tD.use st sr1 se1 h1 fun r g2 v _ _ _ hr k => k v hr
theorem tChain_of {f f' : PV → PV → Option RV} {Q : VK} (h : tD K W (dChain f f' da db dc) σ H Q) : tChain (rOp K f) (rOp K f') (tD K W da) (tD K W db) (tD K W dc) σ H Q := by
  obtain ⟨ρ, g, e, sr, se, h⟩ := h
  subst e
  refine tD.bd (Stp.refl g) sr se h fun r g1 v st _ sr1 se1 hv h1 => ?_
  refine tD.bd st sr1 se1 h1 fun q g2 v2 st2 st02 sr2 se2 hv2 h2 => ?_
  obtain ⟨p, p', x, e1, e2, e3, k⟩ := run2_bd st02 h2
  refine ⟨g2, p, p', x, rfl, sr2, (hv.step sr1 st2).peek sr2 e1, hv2.peek sr2 e2, e3, fun g3 v3 hS st3 sr3 hr3 => ?_⟩
  have h3 := k g3 hS st3 sr3
  obtain ⟨c, rfl, h4⟩ := asB_bd (st02.trans st3) sr3 h3
  have hr3 : v3 = .bl c := hr3
  refine ⟨c, hr3, ?_⟩
  have se3 := se2.step sr2 st3
  have hv3 := hv2.step sr2 st3
  cases c with
  | true =>
    rw [if_pos rfl] at h4 ⊢
    refine tD.bd (st02.trans st3) sr3 se3 h4 fun z g4 w st4 st04 sr4 se4 hw h5 => ?_
    obtain ⟨p, p', x, e1, e2, e3, k⟩ := h5.run2
    exact ⟨g4, p, p', x, rfl, sr4, (hv3.step sr3 st4).peek sr4 e1, hw.peek sr4 e2, e3, fun g' v' hS st' sr' hr => k g' hS (st04.trans st') sr' v' (hr.from st04)⟩
  | false =>
    rw [if_neg (by decide)] at h4 ⊢
    exact h4.ret rfl (st02.trans st3) sr3 (.bl false) rfl
end
section
variable {X : Cx} {W : WS} {x : Str} {pos p : Pos} {a b c e : Expr} {es : List Expr} {d da db dc : Den} {ds : List Den} {f f' : PV → PV → Option RV}
theorem pt_dval (h : PE X e (tD X.K W d)) (he : ∀ whole, isTrue e X.env whole = (do let v ← whole; standAt e.pos; holding [v] (truthy v))) : PT X e (tT X.K W d) :=
  ptW (pt_val h he) fun _ _ _ h => tT_tD h
theorem pt_dcmp {op : CmpOp} (ho : OpR X (compareOp op) (rOp X.K f)) (ha : PE X a (tD X.K W da)) (hb : PE X b (tD X.K W db)) (hm : behindInMarks op b = false) : PT X (.Compare a [op] [b] pos) (tT X.K W (dBin f da db)) :=
  ptW (pt_cmpR ho ha hb hm) fun _ _ _ h => tOp_of (tT_tD h)
theorem pt_dchain {op op' : CmpOp} (ho : OpR X (compareOp op) (rOp X.K f)) (ho' : OpR X (compareOp op') (rOp X.K f')) (ha : PE X a (tD X.K W da)) (hb : PE X b (tD X.K W db)) (hc : PE X c (tD X.K W dc)) (hm : lastMarks [op, op'] [b, c] = false) :
    PT X (.Compare a [op, op'] [b, c] pos) (tT X.K W (dChain f f' da db dc)) :=
  ptW (pt_chain ho ho' ha hb hc hm) fun _ _ _ h => tChain_of (tT_tD h)
theorem pe_dchain {op op' : CmpOp} (ho : OpR X (compareOp op) (rOp X.K f)) (ho' : OpR X (compareOp op') (rOp X.K f')) (ha : PE X a (tD X.K W da)) (hb : PE X b (tD X.K W db)) (hc : PE X c (tD X.K W dc)) (hm : lastMarks [op, op'] [b, c] = false) :
    PE X (.Compare a [op, op'] [b, c] pos) (tD X.K W (dChain f f' da db dc)) :=
  peW (pe_chain ho ho' ha hb hc hm) fun _ _ _ h => tChain_of h
theorem pw_d1 {op : BoolOp} (h : PT X a (tT X.K W da)) : PW X (.BoolOp op [a] pos) (tT X.K W da) := by
  cases op with
  | And => exact pw_and1 h
  | Or => exact pw_or1 h
theorem pw_dand (ha : PT X a (tT X.K W da)) (hb : PW X (.BoolOp .And (b :: es) pos) (tT X.K W db)) : PW X (.BoolOp .And (a :: b :: es) pos) (tT X.K W (dAnd da db)) := pwW (pw_and ha hb) fun _ _ _ h => tAnd_of h
theorem pw_dor (ha : PT X a (tT X.K W da)) (hb : PW X (.BoolOp .Or (b :: es) pos) (tT X.K W db)) : PW X (.BoolOp .Or (a :: b :: es) pos) (tT X.K W (dOr da db)) := pwW (pw_or ha hb) fun _ _ _ h => tOr_of h
theorem pe_d1 {op : BoolOp} (h : PE X a (tD X.K W da)) : PE X (.BoolOp op [a] pos) (tD X.K W da) := pe_one h
theorem pe_dand (ha : PE X a (tD X.K W da)) (hb : PE X (.BoolOp .And (b :: es) pos) (tD X.K W db)) : PE X (.BoolOp .And (a :: b :: es) pos) (tD X.K W (dAnd da db)) := peW (pe_and ha hb) fun _ _ _ h => tAndV_of h
theorem pe_dor (ha : PE X a (tD X.K W da)) (hb : PE X (.BoolOp .Or (b :: es) pos) (tD X.K W db)) : PE X (.BoolOp .Or (a :: b :: es) pos) (tD X.K W (dOr da db)) := peW (pe_or ha hb) fun _ _ _ h => tOrV_of h
theorem pt_dnot (ha : PT X a (tT X.K W da)) : PT X (.UnaryOp .Not a pos) (tT X.K W (dNot da)) := ptW (pt_not ha) fun _ _ _ h => tNot_of h
theorem pe_dnot (ha : PE X a (tD X.K W da)) : PE X (.UnaryOp .Not a pos) (tD X.K W (dNot da)) := peW (pe_not ha) fun _ _ _ h => tNotV_of h
theorem pe_dite (hc : PT X c (tT X.K W dc)) (ha : PE X a (tD X.K W da)) (hb : PE X b (tD X.K W db)) : PE X (.IfExp c a b pos) (tD X.K W (dIte dc da db)) := peW (pe_ifExp hc ha hb) fun _ _ _ h => tIf_of h
/-! isinstance -/
def tyN : PV → String
  | .non => "NoneType"
  | .bl _ => "bool"
  | .int _ => "int"
  | .str _ => "str"
  | .tup _ => "tuple"
  | .lst _ => "list"
  | .dct _ => "dict"
  | .scr _ => "list"
def isT (p : PV) (T : String) : Option Bool := if T = "int" then some (match p with | .int _ => true | .bl _ => true | _ => false)
  else if T = "bool" then some (match p with | .bl _ => true | _ => false)
  else if T = "tuple" then some (match p with | .tup _ => true | _ => false)
  else if T = "list" then some (match p with | .lst _ => true | .scr _ => true | _ => false)
  else if T = "str" then some (match p with | .str _ => true | _ => false)
  else if T = "dict" then some (match p with | .dct _ => true | _ => false)
  else none
theorem kits : ∀ n ∈ ["NoneType", "bool", "int", "str", "tuple", "list", "dict"], ∀ T ∈ ["int", "bool", "tuple", "list", "str", "dict"], kitB n T = some (if T = "int" then decide (n = "int" ∨ n = "bool") else decide (n = T)) := by decide +kernel
theorem isT_kit {p : PV} {T : String} {b : Bool} (h : isT p T = some b) : kitB (tyN p) T = some b := by
  have hn : tyN p ∈ ["NoneType", "bool", "int", "str", "tuple", "list", "dict"] := by cases p <;> simp [tyN]
  have key : ∀ c : Bool, (if T = "int" then decide (tyN p = "int" ∨ tyN p = "bool") else decide (tyN p = T)) = c → T ∈ ["int", "bool", "tuple", "list", "str", "dict"] → kitB (tyN p) T = some c := fun c e m => by
    rw [kits _ hn _ m, e]
  unfold isT at h
  by_cases h1 : T = "int"
  · subst h1; simp only [if_true] at h; cases h; refine key _ ?_ (by simp); cases p <;> simp [tyN]
  by_cases h2 : T = "bool"
  · subst h2; simp only [if_true, h1, if_false] at h; cases h; refine key _ ?_ (by simp); cases p <;> simp [tyN]
  by_cases h3 : T = "tuple"
  · subst h3; simp only [if_true, h1, h2, if_false] at h; cases h; refine key _ ?_ (by simp); cases p <;> simp [tyN]
  by_cases h4 : T = "list"
  · subst h4; simp only [if_true, h1, h2, h3, if_false] at h; cases h; refine key _ ?_ (by simp); cases p <;> simp [tyN]
  by_cases h5 : T = "str"
  · subst h5; simp only [if_true, h1, h2, h3, h4, if_false] at h; cases h; refine key _ ?_ (by simp); cases p <;> simp [tyN]
  by_cases h6 : T = "dict"
  · subst h6; simp only [if_true, h1, h2, h3, h4, h5, if_false] at h; cases h; refine key _ ?_ (by simp); cases p <;> simp [tyN]
  simp only [h1, h2, h3, h4, h5, h6, if_false] at h
  cases h
def isTs (p : PV) : List String → Option Bool
  | [] => some false
  | T :: Ts => match isT p T with
    | some true => some true
    | some false => isTs p Ts
    | none => none
theorem isTs_kit {K : Frag} {p : PV} : ∀ {Ts : List String} {b : Bool}, isTs p Ts = some b → PySem.W.kitAny K (.type (tyN p)) (Ts.map Value.type) = some b
  | [], b, h => by cases h; exact kitAny_nil
  | T :: Ts, b, h => by
    unfold isTs at h
    cases e : isT p T with
    | none => rw [e] at h; cases h
    | some c =>
      rw [e] at h
      refine kitAny_cons (kit_ty (isT_kit e)) (fun hc => ?_) fun hc => ?_
      · subst hc; exact isTs_kit h
      · subst hc; cases h; rfl
theorem RpW.ty {K : Frag} {H : Hp} {F : Addr → Prop} {p : PV} {v : V} (h : RpW K H F p v) : TyX K H v (.type (tyN p)) := by
  cases p with
  | non => have h : v = _ := h; subst h; exact .base .non
  | bl b => have h : v = _ := h; subst h; exact .base (.bl b)
  | int b => have h : v = _ := h; subst h; exact .base (.int b)
  | str b => have h : v = _ := h; subst h; exact .base (.str b)
  | tup xs =>
    obtain ⟨a, vs, rfl, q, _⟩ := h
    rcases q with (q | ⟨o, q⟩) | ⟨o, its, n, q, c, _⟩
    · exact .base (.tup q)
    · exact .fTuple q
    · exact .kTuple q c
  | lst xs => obtain ⟨a, vs, rfl, q, _⟩ := h; exact .base (.lst q)
  | dct kvs =>
    obtain ⟨a, rfl, q⟩ := h
    rcases q with ⟨l, q, _⟩ | ⟨l, q, _⟩
    · exact .base (.dK q)
    · exact .base (.dT q)
  | scr ns =>
    obtain ⟨a, rfl, q⟩ := h
    rcases q with ⟨o, q⟩ | ⟨o, its, n, q, c, _⟩
    · exact .base (.frz q)
    · exact .kList q c
def fIsi (Ts : List String) : PV → Option RV := fun p => (isTs p Ts).map fun b => .val (.bl b)
theorem fIsi_some {Ts : List String} {p : PV} {r : RV} (h : fIsi Ts p = some r) : ∃ b, isTs p Ts = some b ∧ r = .val (.bl b) := by
  unfold fIsi at h
  cases e : isTs p Ts with
  | none => rw [e] at h; cases h
  | some b => rw [e] at h; cases h; exact ⟨b, rfl, rfl⟩
theorem pe_disi {T : String} {y : Str} {p2 : Pos} (hg : Gl X "isinstance") (hm : X.mg "isinstance" = none) (hg2 : Gl X y) (hm2 : X.mg y = none) (hv2 : bootBuiltins y = some (.type T)) (hn2 : y ≠ "__name__") (hd2 : (y == ("__debug__" : Str)) = false)
    (ha : PE X a (tD X.K W da)) (h1 : starEach [a, .Name y p2] X.env = (false, eval a X.env) :: starEach [.Name y p2] X.env) : PE X (.Call (.Name "isinstance" p) [a, .Name y p2] [] pos) (tD X.K W (dUn (fIsi [T]) da)) :=
  peW (pe_callB call_isi hg hm (by decide +kernel) (pa_cons ha (pa_cons (pe_bltn (v := .ty T) hg2 hm2 hv2 rfl hn2 hd2) pa_nil) h1) (by decide) (by decide) h1) fun σ H Q ⟨ρ, g, e, sr, se, h⟩ => by
    subst e
    refine tD.bd (Stp.refl g) sr se h fun r g1 v st _ sr1 se1 hv h1 => ?_
    obtain ⟨p, x, e1, e3, k⟩ := h1.run1
    obtain ⟨b, e4, rfl⟩ := fIsi_some e3
    have e5 : isT p T = some b := by
      unfold isTs at e4
      cases e5 : isT p T with
      | none => rw [e5] at e4; cases e4
      | some c => rw [e5] at e4; cases c <;> simp only [isTs] at e4 <;> exact e4
    exact ⟨v, .ty T, .type (tyN p), .type T, b, rfl, .ty T, (hv.peek sr1 e1).ty, kit_ty (isT_kit e5), k g1 rfl st sr1 (.bl b) rfl⟩
theorem pe_disi2 {T1 T2 : String} {y z : Str} {k0 : Nat} {p1 p2 p3 : Pos} (hg : Gl X "isinstance") (hm : X.mg "isinstance" = none) (hg1 : Gl X y) (hm1 : X.mg y = none) (hv1 : bootBuiltins y = some (.type T1)) (hn1 : y ≠ "__name__") (hd1 : (y == ("__debug__" : Str)) = false)
    (hg2 : Gl X z) (hm2 : X.mg z = none) (hv2 : bootBuiltins z = some (.type T2)) (hn2 : z ≠ "__name__") (hd2 : (z == ("__debug__" : Str)) = false)
    (ha : PE X a (tD X.K W da)) (h1 : starEach [a, .Tuple [.Name y p1, .Name z p2] k0 p3] X.env = (false, eval a X.env) :: starEach [.Tuple [.Name y p1, .Name z p2] k0 p3] X.env) :
    PE X (.Call (.Name "isinstance" p) [a, .Tuple [.Name y p1, .Name z p2] k0 p3] [] pos) (tD X.K W (dUn (fIsi [T1, T2]) da)) :=
  peW (pe_callB call_isiT hg hm (by decide +kernel) (pa_cons ha (pa_cons (pe_tup (pa_cons (pe_bltn (v := .ty T1) hg1 hm1 hv1 rfl hn1 hd1) (pa_cons (pe_bltn (v := .ty T2) hg2 hm2 hv2 rfl hn2 hd2) pa_nil))) pa_nil) h1) (by decide) (by decide) h1) fun σ H Q ⟨ρ, g, e, sr, se, h⟩ => by
    subst e
    refine tD.bd (Stp.refl g) sr se h fun r g1 v st _ sr1 se1 hv h1 => ?_
    obtain ⟨p, x, e1, e3, k⟩ := h1.run1
    obtain ⟨b, e4, rfl⟩ := fIsi_some e3
    refine ⟨by show 2 ≤ sizeLine; decide, fun tp htp => ?_⟩
    have sr2 := sr1.put (o := .tup [.ty T1, .ty T2]) htp
    have st2 : Stp g1 (g1.put tp (.tup [.ty T1, .ty T2])) := Stp.put htp
    exact ⟨v, tp, [.ty T1, .ty T2], .type (tyN p), [.type T1, .type T2], b, rfl, upd_same, .cons (.ty T1) (.cons (.ty T2) .nil), ((hv.step sr1 st2).peek sr2 e1).ty, isTs_kit e4, k (g1.put tp _) rfl (st.trans st2) sr2 (.bl b) rfl⟩
/-! subscripts -/
def bIdx : PV → PV → Option RV
  | .lst xs, .int i => (atI xs i).map .val
  | .tup xs, .int i => (atI xs i).map .val
  | .str z, .int i => if z.length ≤ sizeLine then (atI z.cps.toList i).map fun c => .val (.str ⟨#[c]⟩) else none
  | .scr ns, .int i => (atI ns i).map fun n => .val (.int n)
  | _, _ => none
theorem RpL.atI {K : Frag} {H : Hp} {F : Addr → Prop} {ps : List PV} {vs : List V} {i : Int} {p : PV} (h : RpL K H F ps vs) (e : L2.atI ps i = some p) : ∃ v, L2.atI vs i = some v ∧ Rp K H F p v := by
  unfold L2.atI at e ⊢
  rw [← h.len]
  cases e1 : ixN ps.length i with
  | none => rw [e1] at e; cases e
  | some j => rw [e1] at e; exact h.get e
theorem ix_d : IxR X (rOp X.K bIdx) := by
  intro value slice pins s σ H x y v u Q I rx ry ⟨g, p, q, r, hH, sr, hp, hq, e, k⟩ hs
  subst hH
  cases p with
  | lst xs =>
    cases q <;> simp only [bIdx] at e <;> try cases e
    next i =>
    cases e1 : atI xs i with
    | none => rw [e1] at e; cases e
    | some z =>
      rw [e1] at e; cases e
      obtain ⟨a, vs, rfl, ha, ra⟩ := hp
      obtain ⟨w, e2, rw'⟩ := ra.atI e1
      exact ix_list value slice pins s σ _ _ y v u Q I rx ry ⟨a, vs, i, w, rfl, hq, .inl (.inl ha), e2, k g w rfl (Stp.refl g) sr rw'⟩ hs
  | tup xs =>
    cases q <;> simp only [bIdx] at e <;> try cases e
    next i =>
    cases e1 : atI xs i with
    | none => rw [e1] at e; cases e
    | some z =>
      rw [e1] at e; cases e
      obtain ⟨a, vs, rfl, ha, ra⟩ := hp
      obtain ⟨w, e2, rw'⟩ := ra.atI e1
      exact ix_tup value slice pins s σ _ _ y v u Q I rx ry ⟨a, vs, i, w, rfl, hq, ha, e2, k g w rfl (Stp.refl g) sr rw'⟩ hs
  | str z =>
    cases q <;> simp only [bIdx] at e <;> try cases e
    next i =>
    split at e
    · next hz =>
      cases e1 : atI z.cps.toList i with
      | none => rw [e1] at e; cases e
      | some c =>
        rw [e1] at e; cases e
        exact ix_str value slice pins s σ _ x y v u Q I rx ry ⟨z, i, c, hp, hq, hz, e1, k g _ rfl (Stp.refl g) sr rfl⟩ hs
    · cases e
  | scr ns =>
    cases q <;> simp only [bIdx] at e <;> try cases e
    next i =>
    cases e1 : atI ns i with
    | none => rw [e1] at e; cases e
    | some n =>
      rw [e1] at e; cases e
      obtain ⟨a, rfl, ha⟩ := hp
      have e2 : atI (ns.map V.int) i = some (.int n) := by
        unfold atI at e1 ⊢
        rw [List.length_map]
        cases e3 : ixN ns.length i with
        | none => rw [e3] at e1; cases e1
        | some j =>
          rw [e3] at e1
          have e1 : ns[j]? = some n := e1
          show (ns.map V.int)[j]? = _
          rw [List.getElem?_map, e1]
          rfl
      exact ix_list value slice pins s σ _ _ y v u Q I rx ry ⟨a, _, i, _, rfl, hq, ha.sq, e2, k g _ rfl (Stp.refl g) sr rfl⟩ hs
  | _ => cases q <;> simp only [bIdx] at e <;> cases e
theorem plainIx (h : ∀ l u s q, b ≠ .Slice l u s q) : PlainIx b := by
  intro o i
  cases b <;> first | rfl | exact absurd rfl (h _ _ _ _)
theorem pe_dix (ha : PE X a (tD X.K W da)) (hb : PE X b (tD X.K W db)) (h : ∀ l u s q, b ≠ .Slice l u s q) : PE X (.Subscript a b pos) (tD X.K W (dBin bIdx da db)) :=
  peW (pe_ix ix_d ha hb (plainIx h)) fun _ _ _ h => tOp_of h
/-! slices -/
def cutP (xs : List PV) (lo hi : Option Int) : List PV := (xs.drop (HT.sIx xs.length 0 lo)).take (HT.sIx xs.length xs.length hi - HT.sIx xs.length 0 lo)
theorem RpL.cut {K : Frag} {H : Hp} {F : Addr → Prop} {ps : List PV} {vs : List V} (h : RpL K H F ps vs) (lo hi : Option Int) : RpL K H F (cutP ps lo hi) (cutV vs lo hi) := by
  unfold cutP cutV
  rw [h.len]
  exact (h.drop _).take _
def sCut (p : PV) (lo hi : Option Int) : Option RV := match p with
  | .lst xs => some (.own (.lst (cutP xs lo hi)))
  | .tup xs => some (.val (.tup (cutP xs lo hi)))
  | .str z => if z.length ≤ sizeLine then some (.val (.str (cutS z lo hi))) else none
  | _ => none
theorem sl_d : SlR X (fun x lo hi H Q => ∃ g p r, g.H = H ∧ SRc X.K g ∧ RpW X.K g.H g.F p x ∧ sCut p lo hi = some r ∧ ∀ g' v, g'.S = g.S → Stp g g' → SRc X.K g' → Rr X.K g g' r v → Q v g'.H) := by
  intro pins s σ H x v vl vu lo hi sl Q I rx hs pl pu ⟨g, p, r, hH, sr, hp, e, k⟩
  subst hH
  cases p <;> simp only [sCut] at e <;> try cases e
  · split at e
    · next z h => cases e; have hp : x = _ := hp; subst hp; exact sl_str pins s σ _ _ v vl vu lo hi sl Q I rx hs pl pu ⟨z, rfl, h, k g _ rfl (Stp.refl g) sr rfl⟩
    · cases e
  · obtain ⟨a, vs, rfl, ha, ra⟩ := hp
    refine sl_tupA pins s σ _ _ v vl vu lo hi sl Q I rx hs pl pu ⟨a, vs, rfl, ha, fun hw => ?_, fun _ p hp => ?_⟩
    · refine k g _ rfl (Stp.refl g) sr ⟨a, cutV vs lo hi, rfl, ?_, ra.cut lo hi⟩
      have : cutV vs lo hi = vs := by unfold cutV; rw [hw.1, hw.2]; simp
      rw [this]; exact ha
    · exact k (g.put p _) _ rfl (Stp.put hp) (sr.put hp) (newTup sr hp (ra.cut lo hi))
  · obtain ⟨a, vs, rfl, ha, ra⟩ := hp
    exact sl_list pins s σ _ _ v vl vu lo hi sl Q I rx hs pl pu ⟨a, vs, rfl, .inl (.inl ha), fun p hp => k (g.put p _) _ rfl (Stp.put hp) (sr.put hp) (newLst sr hp (ra.cut lo hi))⟩
def optI : Option Den → Env → M (Option Int)
  | none, _ => ret none
  | some d, ρ => bd (d ρ) fun r => match r with
    | .val (.int i) => ret (some i)
    | _ => stk
def dSli (a : Den) (lo hi : Option Den) : Den := fun ρ => bd (a ρ) fun r => bd (optI lo ρ) fun l => bd (optI hi ρ) fun h => run1 (fun p => sCut p l h) r
def tO (K : Frag) (W : WS) (d : Option Den) : TO := match d with
  | none => tNoPart
  | some d => tPart (tD K W d)
theorem po_d0 : PO X none (tO X.K W none) := po_none
theorem po_d1 (h : PE X e (tD X.K W d)) : PO X (some e) (tO X.K W (some d)) := po_some h
theorem tO.bd {K : Frag} {σ : L2.St} {Q : Option Int → Hp → Prop} {o : Option Den} {g0 g : G} {ρ : Env} {β : Type} {f : Option Int → M β} {R : β → G → Prop} (st0 : Stp g0 g) (sr : SRc K g) (se : SRe K g ρ σ) (h : WG K (W σ) g0 g.S (Pf.bd (optI o ρ) f) R)
    (q : ∀ i g1, Stp g g1 → Stp g0 g1 → SRc K g1 → SRe K g1 ρ σ → WG K (W σ) g0 g1.S (f i) R → Q i g1.H) : tO K W o σ g.H Q := by
  cases o with
  | none => exact q none g (Stp.refl g) st0 sr se ((h.bd st0).at (S' := g.S) (a := none) rfl (g' := g) rfl (Stp.refl g) sr)
  | some d =>
    have e : Pf.bd (optI (some d) ρ) f = Pf.bd (d ρ) fun r => match r with | .val (.int i) => f (some i) | _ => stk := by
      funext S
      simp only [optI, Pf.bd]
      cases d ρ S with
      | ok r S' => cases r with
        | val p => cases p <;> rfl
        | own p => rfl
        | ref n => rfl
      | exc _ _ _ => rfl
      | stuck => rfl
    rw [e] at h
    show tPart (tD K W d) σ g.H Q
    unfold tPart
    refine tD.bd st0 sr se h fun r g1 v st st1 sr1 se1 hv h1 => ?_
    split at h1
    · next i => exact ⟨i, hv, q (some i) g1 st st1 sr1 se1 h1⟩
    · exact (stk_ok h1).elim
theorem pe_dsli {lo hi : Option Expr} {dl dh : Option Den} {p2 : Pos} (ha : PE X a (tD X.K W da)) (hl : PO X lo (tO X.K W dl)) (hh : PO X hi (tO X.K W dh)) : PE X (.Subscript a (.Slice lo hi none p2) pos) (tD X.K W (dSli da dl dh)) :=
  peW (pe_slice sl_d ha hl hh) fun σ H Q ⟨ρ, g, e, sr, se, h⟩ => by
    subst e
    refine tD.bd (Stp.refl g) sr se h fun r g1 v st _ sr1 se1 hv h1 => ?_
    refine tO.bd st sr1 se1 h1 fun l g2 st2 st02 sr2 se2 h2 => ?_
    refine tO.bd st02 sr2 se2 h2 fun u g3 st3 st03 sr3 se3 h3 => ?_
    obtain ⟨p, x, e1, e3, k⟩ := h3.run1
    exact ⟨g3, p, x, rfl, sr3, ((hv.step sr1 st2).step sr2 st3).peek sr3 e1, e3, fun g' v' hS st' sr' hr => k g' hS (st03.trans st') sr' v' (hr.from st03)⟩
end
end Pf
end
section
set_option Elab.async false
set_option linter.all false
set_option maxHeartbeats 1000000
set_option autoImplicit false
namespace Pf
open PySem PySem.Spec L2
/-! cells changed -/
def withP {α : Type} (q : RV) (f : PV → M α) : M α := fun S => match peek q S with
  | some p => f p S
  | none => .stuck
theorem WG.withP {K : Frag} {W : XW} {g : G} {S : Sto} {α : Type} {q : RV} {f : PV → M α} {Q : α → G → Prop} (h : WG K W g S (withP q f) Q) : ∃ p, peek q S = some p ∧ WG K W g S (f p) Q := by
  unfold WG Pf.withP at h
  cases e : peek q S with
  | none => simp only [e] at h
  | some p => simp only [e] at h; exact ⟨p, rfl, h⟩
/-- change the live object of a cell; give back a value -/
def updV (r : RV) (f : PV → Option (PV × PV)) : M RV := fun S => match r with
  | .ref n => (match S[n]? with
    | some (.live p) => (match f p with
      | some (p', v) => .ok (.val v) (S.set n (.live p'))
      | none => .stuck)
    | _ => .stuck)
  | _ => .stuck
/-- an object that nobody keeps is changed: the change is forgotten -/
def updO (r : RV) (f : PV → Option (PV × PV)) : M RV := fun S => match r with
  | .own p => (match f p with
    | some (_, v) => .ok (.val v) S
    | none => .stuck)
  | r => updV r f S
section
variable {K : Frag} {W : XW} {g g0 g1 : G} {S : Sto}
def G.wr (g : G) (n : Nat) (a : Addr) (p : PV) (o : HO) : G := { g with S := g.S.set n (.live p), H := upd g.H a o }
theorem wrKeep (s : SRc K g) {n : Nat} {a : Addr} {q p : PV} {o : HO} (hA : g.A[n]? = some a) (hS : g.S[n]? = some (.live q)) : Keep g (g.wr n a p o) where
  fz := fun _ h => h
  keep := fun b x e h => by
    have k := s.cell n a _ hA hS
    show upd g.H a o b = _
    rw [upd_ne (fun z => ?_)]
    · exact e
    · subst z
      rcases h with h | h
      · exact k.2 h
      · rcases At.muta k.1 with ⟨_, z⟩ | ⟨_, z⟩ | ⟨_, z⟩ <;> rw [e] at z <;> cases z <;> exact h
theorem wr_ok (st : Stp g0 g) (s : SRc K g) {n : Nat} {a : Addr} {q p : PV} {o : HO} (hA : g.A[n]? = some a) (hS : g.S[n]? = some (.live q)) (h : At K (g.wr n a p o).H g.F p a) : Stp g0 (g.wr n a p o) ∧ SRc K (g.wr n a p o) := by
  have lva : Lv g a := ⟨n, _, ⟨hS, rfl⟩, hA⟩
  have nl : n < g.S.length := (List.getElem?_eq_some_iff.mp hS).1
  have uniq : ∀ m, g.A[m]? = some a → m = n := fun m e => by
    obtain ⟨h1, e1⟩ := List.getElem?_eq_some_iff.mp e
    obtain ⟨h2, e2⟩ := List.getElem?_eq_some_iff.mp hA
    exact (List.getElem_inj s.nd).mp (e1.trans e2.symm)
  have lvs : ∀ b, Lv (g.wr n a p o) b → Lv g b := fun b ⟨m, v, ⟨e1, mv⟩, e2⟩ => by
    have e1 : (g.S.set n (.live p))[m]? = _ := e1
    have e2 : g.A[m]? = _ := e2
    by_cases hm : n = m
    · subst hm
      rw [hA] at e2; cases e2
      exact lva
    · rw [List.getElem?_set_ne hm] at e1; exact ⟨m, v, ⟨e1, mv⟩, e2⟩
  have dom : ∀ b x, g.H b = some x → ∃ y, (g.wr n a p o).H b = some y := fun b x e => by
    by_cases hb : b = a
    · subst hb; exact ⟨o, upd_same⟩
    · exact ⟨x, (upd_ne hb).trans e⟩
  refine ⟨⟨fun b x e nlv => ?_, fun b x e => ?_, st.fz, st.fz', st.ext, st.newA, fun b q => st.new b (lvs b q), PlS.trans st.pl st.ge (plSet rfl), by show _ ≤ (g.S.set n (.live p)).length; rw [List.length_set]; exact st.ge⟩, ⟨by show g.A.length = (g.S.set n (.live p)).length; rw [s.len]; exact (List.length_set).symm, s.nd, fun m b c e1 e2 => ?_, fun b m => let ⟨x, e⟩ := s.dom b m; dom b x e, fun b m => let ⟨x, e⟩ := s.fd b m; dom b x e⟩⟩
  · have hb : b ≠ a := fun z => by
      subst z
      rcases st.new b lva with q | q
      · exact nlv q
      · rw [e] at q; cases q
    exact (upd_ne hb).trans (st.keep b x e nlv)
  · obtain ⟨y, e'⟩ := st.dom b x e
    exact dom b y e'
  · have e2 : (g.S.set n (.live p))[m]? = _ := e2
    have e1 : g.A[m]? = some b := e1
    by_cases hm : n = m
    · subst hm
      rw [List.getElem?_set_self nl] at e2
      cases e2
      rw [hA] at e1; cases e1
      exact ⟨h, (s.cell n a _ hA hS).2⟩
    · rw [List.getElem?_set_ne hm] at e2
      have hb : b ≠ a := fun z => hm (by subst z; exact (uniq m e1).symm)
      have k := s.cell m b c e1 e2
      have kp := wrKeep (p := p) (o := o) s hA hS
      exact k.keep kp (fun _ _ h => h) (fun _ => upd_ne hb) fun _ h => h
theorem updV_ok {r : RV} {v : V} {f : PV → Option (PV × PV)} {Q : RV → G → Prop} (s : SRc K g) (hr : Rr K g0 g r v) (h : WG K W g0 g.S (updV r f) Q) :
    ∃ n a p p' z, r = .ref n ∧ v = .ref a ∧ g.A[n]? = some a ∧ g.S[n]? = some (.live p) ∧ At K g.H g.F p a ∧ f p = some (p', z) ∧ ∀ g', g'.S = g.S.set n (.live p') → Stp g0 g' → SRc K g' → Q (.val z) g' := by
  unfold WG updV at h
  cases r with
  | val p => simp only at h
  | own p => simp only at h
  | ref n =>
    obtain ⟨a, rfl, hA⟩ := hr
    cases hS : g.S[n]? with
    | none => simp only [hS] at h
    | some c =>
      cases c with
      | nest es => simp only [hS] at h
      | froz p => simp only [hS] at h
      | live p =>
        cases e : f p with
        | none => simp only [hS, e] at h
        | some y =>
          obtain ⟨p', z⟩ := y
          simp only [hS, e] at h
          exact ⟨n, a, p, p', z, rfl, rfl, hA, hS, (s.cell n a _ hA hS).1, e, h⟩
end
def appF (x : PV) : PV → Option (PV × PV)
  | .lst xs => if xs.length < sizeLine then some (.lst (xs ++ [x]), .non) else none
  | _ => none
def extF (x : PV) : PV → Option (PV × PV)
  | .lst xs => (match x with
    | .lst ys => if xs.length + ys.length ≤ sizeLine then some (.lst (xs ++ ys), .non) else none
    | _ => none)
  | _ => none
def pop0F : PV → Option (PV × PV)
  | .lst xs => (match xs[xs.length - 1]? with
    | some y => some (.lst xs.dropLast, y)
    | none => none)
  | _ => none
def popF (x : PV) : PV → Option (PV × PV)
  | .lst xs => (match x with
    | .int i => if -(2 ^ 63) ≤ i ∧ i < 2 ^ 63 then (match seqIndex? i xs.length with
      | some k => (match xs[k]? with | some y => some (.lst (xs.eraseIdx k), y) | none => none)
      | none => none) else none
    | _ => none)
  | _ => none
def clrF : PV → Option (PV × PV)
  | .lst _ => some (.lst [], .non)
  | _ => none
/-- the receiver is a list -/
def chkL (r : RV) : M Unit := fun S => match peek r S with
  | some (.lst _) => .ok () S
  | _ => .stuck
def dApp (o e : Den) : Den := fun ρ => bd (o ρ) fun r => bd (chkL r) fun _ => bd (e ρ) fun q => bd (force q) fun p => updV r (appF p)
def dExt (o e : Den) : Den := fun ρ => bd (o ρ) fun r => bd (chkL r) fun _ => bd (e ρ) fun q => withP q fun p => updV r (extF p)
def dPop0 (o : Den) : Den := fun ρ => bd (o ρ) fun r => bd (chkL r) fun _ => updV r pop0F
def dPop (o e : Den) : Den := fun ρ => bd (o ρ) fun r => bd (chkL r) fun _ => bd (e ρ) fun q => withP q fun p => updV r (popF p)
/-- xs.index(x) -/
def fstIx (q : PV) : List PV → Option Nat
  | [] => none
  | x :: xs => if eqv x q then some 0 else (fstIx q xs).map (· + 1)
def dClr (o : Den) : Den := fun ρ => bd (o ρ) fun r => bd (chkL r) fun _ => updV r clrF
def bIndex : PV → PV → Option RV
  | .lst xs, q => if dat 50 q && xs.all (dat 50) then (fstIx q xs).map fun n => .val (.int (n : Nat)) else none
  | _, _ => none
def dMIx (o e : Den) : Den := fun ρ => bd (o ρ) fun r => bd (chkL r) fun _ => bd (e ρ) fun q => run2 bIndex r q
theorem fstIx_ok (q : PV) : ∀ {xs : List PV} {n : Nat}, fstIx q xs = some n → (∃ z, (toDs xs)[n]? = some z ∧ PyData.eqv z (toD q) = true) ∧ ∀ (m : Nat) (z : PyData), m < n → (toDs xs)[m]? = some z → PyData.eqv z (toD q) = false
  | [], _, h => by cases h
  | x :: xs, n, h => by
    unfold fstIx at h
    split at h
    · next e => cases h; exact ⟨⟨toD x, rfl, e⟩, fun m z l => absurd l (by omega)⟩
    · next e =>
      cases e1 : fstIx q xs with
      | none => rw [e1] at h; cases h
      | some k =>
        rw [e1] at h; cases h
        obtain ⟨⟨z, h1, h2⟩, h3⟩ := fstIx_ok q e1
        refine ⟨⟨z, by rw [toDs]; simpa using h1, h2⟩, fun m z l hz => ?_⟩
        cases m with
        | zero =>
          rw [toDs] at hz
          have hz : toD x = z := by simpa using hz
          subst hz
          exact Bool.eq_false_iff.mpr e
        | succ m =>
          rw [toDs] at hz
          exact h3 m z (Nat.lt_of_succ_lt_succ l) (by simpa using hz)
section
variable {X : Cx} {W : WS} {apos cpos : Pos} {a o e : Expr} {da d dd : Den}
/-- the side facts of a method's call -/
structure MOk (X : Cx) (o : Expr) (name : Str) (es : List Expr) (apos cpos : Pos) : Prop where
  base : attributeBase o name X.env (eval o X.env) = eval o X.env
  few : ((backTo cpos (starEach es X.env)).all (fun x => !x.1) && (backToKw cpos (keywordEach [] X.env)).all (fun x => x.1.isSome)
      && decide (es.length + ([] : List Keyword).length + (if ([] : List Keyword).isEmpty then 0 else 1) < 30)) = true
  line : (apos.endLine == cpos.line) = true
theorem starOne (e : Expr) (env : PySem.Env) (h : ∀ x p, e ≠ .Starred x p) : starEach [e] env = (false, eval e env) :: starEach [] env := by
  cases e <;> first | rfl | exact absurd rfl (h _ _)
theorem lstAt {K : Frag} {H : Hp} {F : Addr → Prop} {p : PV} {a : Addr} (h : At K H F p a) (f : PV → Option (PV × PV)) (hf : ∀ kvs, f (.dct kvs) = none) {x : PV × PV} (e : f p = some x) : ∃ xs vs, p = .lst xs ∧ H a = some (.lst vs) ∧ RpL K H F xs vs := by
  cases p with
  | lst xs => obtain ⟨vs, h1, h2⟩ := h; exact ⟨xs, vs, rfl, h1, h2⟩
  | dct kvs => rw [hf] at e; cases e
  | _ => exact False.elim h
theorem chkL_bd {K : Frag} {W : XW} {g0 g1 : G} {β : Type} {r : RV} {v : V} {f : Unit → M β} {R : β → G → Prop} (st : Stp g0 g1) (sr : SRc K g1) (hr : Rr K g0 g1 r v) (h : WG K W g0 g1.S (bd (chkL r) f) R) :
    tyV K "list" v g1.H ∧ WG K W g0 g1.S (f ()) R := by
  have h1 := h.bd st
  unfold WG chkL at h1
  cases e : peek r g1.S with
  | none => simp only [e] at h1
  | some p =>
    cases p with
    | lst xs =>
      obtain ⟨a, vs, rfl, ha, _⟩ := hr.peek sr e
      refine ⟨.inl ⟨rfl, vs, .inl (.inl ha)⟩, ?_⟩
      exact (h.bd st).at (S' := g1.S) (a := ()) (by simp only [chkL, e]) (g' := g1) rfl (Stp.refl g1) sr
    | _ => simp only [e] at h1
theorem pe_dapp (m : MOk X o "append" [e] apos cpos) (hs : ∀ x p, e ≠ .Starred x p) (ho : PE X o (tD X.K W d)) (he : PE X e (tD X.K W da)) : PE X (.Call (.Attribute o "append" apos) [e] [] cpos) (tD X.K W (dApp d da)) :=
  peW (pe_bm PySem.F.plainAttrs_list PySem.F.slot_list_append PySem.F.type_list_append mt_append ho (pa_cons he pa_nil (starOne e _ hs)) m.base m.few m.line (starOne e _ hs) (by rfl)) fun σ H Q ⟨ρ, g, e, sr, se, h⟩ => by
    subst e
    refine tD.bd (Stp.refl g) sr se h fun r g1 v st _ sr1 se1 hv h1 => ?_
    obtain ⟨ty, h1⟩ := chkL_bd st sr1 hv h1
    refine ⟨ty, ?_⟩
    refine tD.bd st sr1 se1 h1 fun q g2 w st2 st02 sr2 se2 hw h2 => ?_
    obtain ⟨p, g3, e3, st3, sr3, r3, k3, a3, _, h3⟩ := force_ok st02 sr2 hw.rf h2
    have hv3 : Rr X.K g g3 r v := by
      have hv2 := hv.step sr1 st2
      cases r with
      | val x => exact Rp.keep k3 x v hv2
      | own x => exact (h3 : False).elim
      | ref n => obtain ⟨a, e, h⟩ := hv2; exact ⟨a, e, by rw [a3]; exact h⟩
    obtain ⟨n, a, p0, p', z, rfl, rfl, hA, hS, hAt, ef, k⟩ := updV_ok sr3 hv3 h3
    obtain ⟨xs, vs, rfl, hvs, rvs⟩ := lstAt hAt (appF p) (fun _ => rfl) ef
    simp only [appF] at ef
    split at ef
    · next hl =>
      cases ef
      refine ⟨a, vs, w, rfl, rfl, by rw [← e3]; exact hvs, by rw [← rvs.len]; exact hl, ?_⟩
      have kp := wrKeep (p := .lst (xs ++ [p])) (o := .lst (vs ++ [w])) sr3 hA hS
      have hn : At X.K (g3.wr n a (.lst (xs ++ [p])) (.lst (vs ++ [w]))).H g3.F (.lst (xs ++ [p])) a := ⟨_, upd_same, (RpL.keep kp xs vs rvs).app ⟨w, [], rfl, Rp.keep kp p w r3, rfl⟩⟩
      obtain ⟨st4, sr4⟩ := wr_ok st3 sr3 hA hS hn
      have := k _ rfl st4 sr4 .non rfl
      rw [← e3]
      exact this
    · cases ef
theorem pe_dext (m : MOk X o "extend" [e] apos cpos) (hs : ∀ x p, e ≠ .Starred x p) (ho : PE X o (tD X.K W d)) (he : PE X e (tD X.K W da)) : PE X (.Call (.Attribute o "extend" apos) [e] [] cpos) (tD X.K W (dExt d da)) :=
  peW (pe_bm PySem.F.plainAttrs_list PySem.F.slot_list_extend PySem.F.type_list_extend mt_extend ho (pa_cons he pa_nil (starOne e _ hs)) m.base m.few m.line (starOne e _ hs) (by rfl)) fun σ H Q ⟨ρ, g, e, sr, se, h⟩ => by
    subst e
    refine tD.bd (Stp.refl g) sr se h fun r g1 v st _ sr1 se1 hv h1 => ?_
    obtain ⟨ty, h1⟩ := chkL_bd st sr1 hv h1
    refine ⟨ty, ?_⟩
    refine tD.bd st sr1 se1 h1 fun q g2 w st2 st02 sr2 se2 hw h2 => ?_
    have hv2 := hv.step sr1 st2
    obtain ⟨p, ep, h3⟩ := h2.withP
    · have hp := hw.peek sr2 ep
      obtain ⟨n, a, p0, p', z, rfl, rfl, hA, hS, hAt, ef, k⟩ := updV_ok sr2 hv2 h3
      obtain ⟨xs, vs, rfl, hvs, rvs⟩ := lstAt hAt (extF p) (fun _ => rfl) ef
      cases p with
      | lst ys =>
        simp only [extF] at ef
        split at ef
        · next hl =>
          cases ef
          obtain ⟨b, ws, rfl, hb, rws⟩ := hp
          refine ⟨a, b, vs, ws, rfl, rfl, hvs, hb, by rw [← rvs.len, ← rws.len]; exact hl, ?_⟩
          have kp := wrKeep (p := .lst (xs ++ ys)) (o := .lst (vs ++ ws)) sr2 hA hS
          have hn : At X.K (g2.wr n a (.lst (xs ++ ys)) (.lst (vs ++ ws))).H g2.F (.lst (xs ++ ys)) a := ⟨_, upd_same, (RpL.keep kp xs vs rvs).app (RpL.keep kp ys ws rws)⟩
          obtain ⟨st4, sr4⟩ := wr_ok st02 sr2 hA hS hn
          exact k _ rfl st4 sr4 .non rfl
        · cases ef
      | _ => simp only [extF] at ef; cases ef
theorem RpL.dropLast {K : Frag} {H : Hp} {F : Addr → Prop} {ps : List PV} {vs : List V} (h : RpL K H F ps vs) : RpL K H F ps.dropLast vs.dropLast := by
  rw [List.dropLast_eq_take, List.dropLast_eq_take, h.len]
  exact h.take _
theorem RpL.erase {K : Frag} {H : Hp} {F : Addr → Prop} {ps : List PV} {vs : List V} (h : RpL K H F ps vs) (k : Nat) : RpL K H F (ps.eraseIdx k) (vs.eraseIdx k) := by
  rw [List.eraseIdx_eq_take_drop_succ, List.eraseIdx_eq_take_drop_succ]
  exact (h.take _).app (h.drop _)
theorem pe_dpop0 (m : MOk X o "pop" [] apos cpos) (ho : PE X o (tD X.K W d)) : PE X (.Call (.Attribute o "pop" apos) [] [] cpos) (tD X.K W (dPop0 d)) :=
  peW (pe_bm0 PySem.F.plainAttrs_list PySem.F.slot_list_pop PySem.F.type_list_pop mt_pop ho m.base m.line) fun σ H Q ⟨ρ, g, e, sr, se, h⟩ => by
    subst e
    refine tD.bd (Stp.refl g) sr se h fun r g1 v st _ sr1 se1 hv h1 => ?_
    obtain ⟨ty, h1⟩ := chkL_bd st sr1 hv h1
    refine ⟨ty, ?_⟩
    obtain ⟨n, a, p0, p', z, rfl, rfl, hA, hS, hAt, ef, k⟩ := updV_ok sr1 hv h1
    obtain ⟨xs, vs, rfl, hvs, rvs⟩ := lstAt hAt pop0F (fun _ => rfl) ef
    simp only [pop0F] at ef
    cases e1 : xs[xs.length - 1]? with
    | none => rw [e1] at ef; cases ef
    | some y =>
      rw [e1] at ef; cases ef
      obtain ⟨w, hw, rw'⟩ := rvs.get e1
      refine ⟨a, vs, w, rfl, rfl, hvs, by rw [← rvs.len]; exact hw, ?_⟩
      have kp := wrKeep (p := .lst xs.dropLast) (o := .lst vs.dropLast) sr1 hA hS
      have hn : At X.K (g1.wr n a (.lst xs.dropLast) (.lst vs.dropLast)).H g1.F (.lst xs.dropLast) a := ⟨_, upd_same, RpL.keep kp _ _ rvs.dropLast⟩
      obtain ⟨st4, sr4⟩ := wr_ok st sr1 hA hS hn
      exact k _ rfl st4 sr4 w (Rp.keep kp _ _ rw')
theorem pe_dpop (m : MOk X o "pop" [e] apos cpos) (hs : ∀ x p, e ≠ .Starred x p) (ho : PE X o (tD X.K W d)) (he : PE X e (tD X.K W da)) : PE X (.Call (.Attribute o "pop" apos) [e] [] cpos) (tD X.K W (dPop d da)) :=
  peW (pe_bm PySem.F.plainAttrs_list PySem.F.slot_list_pop PySem.F.type_list_pop mt_popAt ho (pa_cons he pa_nil (starOne e _ hs)) m.base m.few m.line (starOne e _ hs) (by rfl)) fun σ H Q ⟨ρ, g, e, sr, se, h⟩ => by
    subst e
    refine tD.bd (Stp.refl g) sr se h fun r g1 v st _ sr1 se1 hv h1 => ?_
    obtain ⟨ty, h1⟩ := chkL_bd st sr1 hv h1
    refine ⟨ty, ?_⟩
    refine tD.bd st sr1 se1 h1 fun q g2 w st2 st02 sr2 se2 hw h2 => ?_
    have hv2 := hv.step sr1 st2
    obtain ⟨p, ep, h3⟩ := h2.withP
    · have hp := hw.peek sr2 ep
      obtain ⟨n, a, p0, p', z, rfl, rfl, hA, hS, hAt, ef, k⟩ := updV_ok sr2 hv2 h3
      obtain ⟨xs, vs, rfl, hvs, rvs⟩ := lstAt hAt (popF p) (fun _ => rfl) ef
      cases p with
      | int i =>
        simp only [popF] at ef
        split at ef
        · next hl =>
          cases e1 : seqIndex? i xs.length with
          | none => rw [e1] at ef; cases ef
          | some j =>
            rw [e1] at ef
            cases e2 : xs[j]? with
            | none => simp only [e2] at ef; cases ef
            | some y =>
              simp only [e2] at ef; cases ef
              obtain ⟨w', hw', rw'⟩ := rvs.get e2
              have hp : w = _ := hp
              subst hp
              refine ⟨a, vs, i, j, w', rfl, rfl, hvs, hl.1, hl.2, by rw [← rvs.len]; exact e1, hw', ?_⟩
              have kp := wrKeep (p := .lst (xs.eraseIdx j)) (o := .lst (vs.eraseIdx j)) sr2 hA hS
              have hn : At X.K (g2.wr n a (.lst (xs.eraseIdx j)) (.lst (vs.eraseIdx j))).H g2.F (.lst (xs.eraseIdx j)) a := ⟨_, upd_same, RpL.keep kp _ _ (rvs.erase j)⟩
              obtain ⟨st4, sr4⟩ := wr_ok st02 sr2 hA hS hn
              exact k _ rfl st4 sr4 w' (Rp.keep kp _ _ rw')
        · cases ef
      | _ => simp only [popF] at ef; cases ef
theorem pe_dclr (m : MOk X o "clear" [] apos cpos) (ho : PE X o (tD X.K W d)) : PE X (.Call (.Attribute o "clear" apos) [] [] cpos) (tD X.K W (dClr d)) :=
  peW (pe_bm0 PySem.F.plainAttrs_list PySem.F.slot_list_clear PySem.F.type_list_clear mt_clear ho m.base m.line) fun σ H Q ⟨ρ, g, e, sr, se, h⟩ => by
    subst e
    refine tD.bd (Stp.refl g) sr se h fun r g1 v st _ sr1 se1 hv h1 => ?_
    obtain ⟨ty, h1⟩ := chkL_bd st sr1 hv h1
    refine ⟨ty, ?_⟩
    obtain ⟨n, a, p0, p', z, rfl, rfl, hA, hS, hAt, ef, k⟩ := updV_ok sr1 hv h1
    obtain ⟨xs, vs, rfl, hvs, rvs⟩ := lstAt hAt clrF (fun _ => rfl) ef
    cases ef
    refine ⟨a, vs, rfl, rfl, hvs, ?_⟩
    have hn : At X.K (g1.wr n a (.lst []) (.lst [])).H g1.F (.lst []) a := ⟨_, upd_same, rfl⟩
    obtain ⟨st4, sr4⟩ := wr_ok st sr1 hA hS hn
    exact k _ rfl st4 sr4 .non rfl
theorem pe_dindex (hu : X.A.units + 65 < cLine) (m : MOk X o "index" [e] apos cpos) (hs : ∀ x p, e ≠ .Starred x p) (ho : PE X o (tD X.K W d)) (he : PE X e (tD X.K W da)) : PE X (.Call (.Attribute o "index" apos) [e] [] cpos) (tD X.K W (dMIx d da)) :=
  peW (pe_bm PySem.F.plainAttrs_list PySem.F.slot_list_index PySem.F.type_list_index (mt_indexD hu) ho (pa_cons he pa_nil (starOne e _ hs)) m.base m.few m.line (starOne e _ hs) (by rfl)) fun σ H Q ⟨ρ, g, e, sr, se, h⟩ => by
    subst e
    refine tD.bd (Stp.refl g) sr se h fun r g1 v st _ sr1 se1 hv h1 => ?_
    obtain ⟨ty, h1⟩ := chkL_bd st sr1 hv h1
    refine ⟨ty, ?_⟩
    refine tD.bd st sr1 se1 h1 fun q g2 w st2 st02 sr2 se2 hw h2 => ?_
    obtain ⟨p, p', x, e1, e2, e3, k⟩ := h2.run2
    have hp := (hv.step sr1 st2).peek sr2 e1
    have hq := hw.peek sr2 e2
    cases p with
    | lst xs =>
      simp only [bIndex] at e3
      split at e3
      · next hd =>
        rw [Bool.and_eq_true] at hd
        cases e4 : fstIx p' xs with
        | none => rw [e4] at e3; cases e3
        | some n =>
          rw [e4] at e3; cases e3
          obtain ⟨⟨z, f1, f2⟩, f3⟩ := fstIx_ok p' e4
          obtain ⟨a, vs, rfl, ha, ra⟩ := hp
          exact ⟨a, w, toD p', toDs xs, n, z, rfl, rfl, RpW.dp (n := 51) (p := .lst xs) (by simpa [dat] using hd.2) ⟨a, vs, rfl, ha, ra⟩, hq.dp hd.1, shapedL hd.2, shaped_of (dat_mono 50 60 p' (by omega) hd.1), f1, f2, f3, k g2 rfl st02 sr2 (.int (n : Nat)) rfl⟩
      · cases e3
    | _ => simp only [bIndex] at e3; cases e3
end
end Pf
end
section
set_option Elab.async false
set_option linter.all false
set_option maxHeartbeats 1000000
set_option autoImplicit false
namespace Pf
open PySem PySem.Spec L2
/-! statements -/
inductive Fl where
  | nx
  | rt (r : RV)
  | bk
  | ct
abbrev DenS := Env → M (Env × Fl)
/-- a target: what is stored, the slots that may change -/
abbrev TgD := RV → Env → M Env
def WA (W : WS) : XW := fun c v g => ∀ σ, W σ c v g
def PostS (K : Frag) (g0 : G) (D : Ends) : Env × Fl → G → Prop := fun x g' => match x.2 with
  | .nx => ∀ σ', SRe K g' x.1 σ' → D.nx σ' g'.H
  | .bk => ∀ σ', SRe K g' x.1 σ' → D.bk σ' g'.H
  | .ct => ∀ σ', SRe K g' x.1 σ' → D.ct σ' g'.H
  | .rt r => ∀ v, Rr K g0 g' r v → D.rt v g'.H
def tS (K : Frag) (W : WS) (d : DenS) : TS := fun D σ H => ∃ ρ g, g.H = H ∧ SRc K g ∧ SRe K g ρ σ ∧ WG K (WA W) g g.S (d ρ) (PostS K g D)
/-- slots outside of is stay -/
def Off (is : List Nat) (σ σ' : L2.St) : Prop := σ'.length = σ.length ∧ ∀ j, j ∉ is → σ'[j]? = σ[j]?
def tG (K : Frag) (W : WS) (is : List Nat) (t : TgD) : TG := fun v σ H Q => ∃ ρ g0 g r, g.H = H ∧ Stp g0 g ∧ SRc K g ∧ SRe K g ρ σ ∧ Rr K g0 g r v ∧ WG K (WA W) g0 g.S (t r ρ) fun ρ' g' => ∀ σ', SRe K g' ρ' σ' → Off is σ σ' → Q σ' g'.H
theorem psW {X : Cx} {st : Stmt} {t t' : TS} (h : PS X st t) (w : ∀ D σ H, t' D σ H → t D σ H) : PS X st t' := ⟨fun pins s σ H D I q => h.run pins s σ H D I (w D σ H q)⟩
theorem pssW {X : Cx} {st : List Stmt} {t t' : TS} (h : PSs X st t) (w : ∀ D σ H, t' D σ H → t D σ H) : PSs X st t' := ⟨fun pins s σ H D I q => h.run pins s σ H D I (w D σ H q)⟩
theorem pgW {X : Cx} {e : Expr} {t t' : TG} (h : PG X e t) (w : ∀ v σ H Q, t' v σ H Q → t v σ H Q) : PG X e t' := ⟨fun pins s σ H v u Q I r q => h.run pins s σ H v u Q I r (w v σ H Q q)⟩
section
variable {K : Frag} {W : WS} {g g0 g1 : G} {α β : Type} {m : M α} {Q : α → G → Prop} {S : Sto}
theorem WG.wk (σ : L2.St) (h : WG K (WA W) g S m Q) : WG K (W σ) g S m Q := by
  unfold WG at h ⊢
  cases e : m S with
  | stuck => rw [e] at h; exact h
  | exc c v S' => rw [e] at h; exact fun g' h1 h2 h3 => h g' h1 h2 h3 σ
  | ok a S' => rw [e] at h; exact h
theorem WG.run {W : XW} {S S' : Sto} {a : α} {f : α → M β} {R : β → G → Prop} (e : m S = .ok a S') (h : WG K W g S (Pf.bd m f) R) : WG K W g S' (f a) R := by
  unfold WG Pf.bd at h
  rw [e] at h
  exact h
/-- an expression in a statement, then the rest -/
theorem tD.st {d : Den} {σ : L2.St} {ρ : Env} {f : RV → M β} {R : β → G → Prop} {Q : VK} (st0 : Stp g0 g) (sr : SRc K g) (se : SRe K g ρ σ) (h : WG K (WA W) g0 g.S (Pf.bd (d ρ) f) R)
    (q : ∀ r g1 v, Stp g g1 → Stp g0 g1 → SRc K g1 → SRe K g1 ρ σ → Rr K g g1 r v → WG K (WA W) g0 g1.S (f r) R → Q v g1.H) : tD K W d σ g.H Q :=
  ⟨ρ, g, rfl, sr, se, (WG.wk σ (h.bd st0)).mono fun r g1 st sr1 h1 v hv => q r g1 v st (st0.trans st) sr1 (se.step sr st) hv h1⟩
theorem tDs.st {ds : List Den} {σ : L2.St} {ρ : Env} {f : List RV → M β} {R : β → G → Prop} {Q : List V → Hp → Prop} (st0 : Stp g0 g) (sr : SRc K g) (se : SRe K g ρ σ) (h : WG K (WA W) g0 g.S (Pf.bd (evAll ds ρ) f) R)
    (q : ∀ rs g1 vs, Stp g g1 → Stp g0 g1 → SRc K g1 → SRe K g1 ρ σ → RrL K g g1 rs vs → WG K (WA W) g0 g1.S (f rs) R → Q vs g1.H) : tDs K W ds σ g.H Q :=
  ⟨ρ, g, rfl, sr, se, (WG.wk σ (h.bd st0)).mono fun rs g1 st sr1 h1 vs hv => q rs g1 vs st (st0.trans st) sr1 (se.step sr st) hv h1⟩
theorem tT.st {d : Den} {σ : L2.St} {Q : Bool → Hp → Prop} {ρ : Env} {f : Bool → M β} {R : β → G → Prop} (st0 : Stp g0 g) (sr : SRc K g) (se : SRe K g ρ σ) (h : WG K (WA W) g0 g.S (Pf.bd (dTest d ρ) f) R)
    (q : ∀ b g1, Stp g g1 → Stp g0 g1 → SRc K g1 → SRe K g1 ρ σ → WG K (WA W) g0 g1.S (f b) R → Q b g1.H) : tT K W d σ g.H Q :=
  ⟨ρ, g, rfl, sr, se, (WG.wk σ (h.bd st0)).mono fun b g1 st sr1 h1 => q b g1 st (st0.trans st) sr1 (se.step sr st) h1⟩
theorem SRe.set {ρ : Env} {σ : L2.St} {i : Nat} {sv : SV} {v : V} (h : SRe K g ρ σ) (r : Rs K g sv v) : SRe K g (ρ.set i (some sv)) (σ.set i (some v)) := by
  refine ⟨by rw [List.length_set, List.length_set]; exact h.1, fun j sv' e => ?_⟩
  by_cases hj : i = j
  · subst hj
    by_cases hi : i < ρ.length
    · rw [List.getElem?_set_self hi] at e
      cases e
      exact ⟨v, List.getElem?_set_self (by rw [← h.1]; exact hi), r⟩
    · rw [List.getElem?_eq_none (by rw [List.length_set]; omega)] at e; cases e
  · rw [List.getElem?_set_ne hj] at e ⊢
    exact h.2 j sv' e
theorem Off.set {σ : L2.St} {i : Nat} {o : Option V} : Off [i] σ (σ.set i o) := ⟨List.length_set, fun j hj => List.getElem?_set_ne (by simpa using fun e => hj (by simp [e]))⟩
theorem Off.refl {σ : L2.St} {is : List Nat} : Off is σ σ := ⟨rfl, fun _ _ => rfl⟩
theorem Off.trans {σ σ1 σ2 : L2.St} {is js : List Nat} (a : Off is σ σ1) (b : Off js σ1 σ2) : Off (is ++ js) σ σ2 := ⟨b.1.trans a.1, fun j hj => (b.2 j fun z => hj (List.mem_append_right _ z)).trans (a.2 j fun z => hj (List.mem_append_left _ z))⟩
/-- a result becomes a name's value: a new object is a new cell if the name is one whose object is changed -/
def bindV (mu : Bool) : RV → M SV
  | .val p => ret (.val p)
  | .own p => if mu then fun S => .ok (.ref S.length) (S ++ [.live p]) else ret (.val p)
  | .ref n => ret (.ref n)
def G.cel (g : G) (p : PV) (a : Addr) : G := { g with S := g.S ++ [.live p], A := g.A ++ [a] }
theorem cel_ok (st : Stp g0 g) (s : SRc K g) {p : PV} {a : Addr} (h : At K g.H g.F p a) (f : ¬ g.F a) (n : a ∉ g.A) (z : g0.H a = none) : Stp g0 (g.cel p a) ∧ SRc K (g.cel p a) ∧ (g.cel p a).A[g.S.length]? = some a := by
  have lvs : ∀ b, Lv (g.cel p a) b → Lv g b ∨ b = a := fun b ⟨m, v, ⟨e1, mv⟩, e2⟩ => by
    have e1 : (g.S ++ [Cell.live p])[m]? = _ := e1
    have e2 : (g.A ++ [a])[m]? = _ := e2
    by_cases hm : m < g.S.length
    · rw [List.getElem?_append_left hm] at e1
      rw [List.getElem?_append_left (by rw [s.len]; exact hm)] at e2
      exact .inl ⟨m, v, ⟨e1, mv⟩, e2⟩
    · rw [List.getElem?_append_right (by rw [s.len]; omega)] at e2
      refine .inr ?_
      have := List.mem_of_getElem? e2
      simpa using this
  refine ⟨⟨st.keep, st.dom, st.fz, st.fz', fun m b e => ?_, fun b hb => ?_, fun b q => ?_, PlS.trans st.pl st.ge (plApp _), by show _ ≤ (g.S ++ [Cell.live p]).length; rw [List.length_append]; have := st.ge; omega⟩, ⟨by show (g.A ++ [a]).length = (g.S ++ [Cell.live p]).length; rw [List.length_append, List.length_append, s.len]; rfl, ?_, fun m b c e1 e2 => ?_, fun b hb => ?_, s.fd⟩, ?_⟩
  · have := st.ext m b e
    show (g.A ++ [a])[m]? = _
    rw [List.getElem?_append_left (List.getElem?_eq_some_iff.mp this).1]
    exact this
  · rcases List.mem_append.mp hb with hb | hb
    · exact st.newA b hb
    · have : b = a := by simpa using hb
      subst this; exact .inr z
  · rcases lvs b q with q | q
    · exact st.new b q
    · subst q; exact .inr z
  · exact List.nodup_append.mpr ⟨s.nd, by simp, fun x hx y hy => by
      have : y = a := by simpa using hy
      subst this
      exact fun e => n (e ▸ hx)⟩
  · have e1 : (g.A ++ [a])[m]? = _ := e1
    have e2 : (g.S ++ [Cell.live p])[m]? = _ := e2
    by_cases hm : m < g.S.length
    · rw [List.getElem?_append_left hm] at e2
      rw [List.getElem?_append_left (by rw [s.len]; exact hm)] at e1
      exact CellOk.keep (g := g) (g' := g.cel p a) ⟨fun _ h => h, fun _ _ e _ => e⟩ (fun k d e => by show (g.A ++ [a])[k]? = _; rw [List.getElem?_append_left (List.getElem?_eq_some_iff.mp e).1]; exact e) (fun _ => rfl) (fun _ h => h) (s.cell m b c e1 e2)
    · rw [List.getElem?_append_right (by omega)] at e2
      rw [List.getElem?_append_right (by rw [s.len]; omega)] at e1
      have h1 : b = a := by simpa using List.mem_of_getElem? e1
      have h2 : c = Cell.live p := by simpa using List.mem_of_getElem? e2
      subst h1 h2
      exact ⟨h, f⟩
  · rcases List.mem_append.mp hb with hb | hb
    · exact s.dom b hb
    · have : b = a := by simpa using hb
      subst this; exact h.ex
  · show (g.A ++ [a])[g.S.length]? = _
    rw [← s.len, List.getElem?_append_right (Nat.le_refl _), Nat.sub_self]
    rfl
/-- a result bound: the same heap -/
theorem bindV_ok {mu : Bool} {r : RV} {v : V} {f : SV → M β} {R : β → G → Prop} {W : XW} (st : Stp g0 g) (s : SRc K g) (hr : Rr K g0 g r v) (h : WG K W g0 g.S (bd (bindV mu r) f) R) :
    ∃ sv g', g'.H = g.H ∧ Stp g0 g' ∧ SRc K g' ∧ Rs K g' sv v ∧ (∀ sv w, Rs K g sv w → Rs K g' sv w) ∧ (∀ q w, (isOwn r = true → isOwn q = true → w ≠ v) → Rr K g0 g q w → Rr K g0 g' q w) ∧ WG K W g0 g'.S (f sv) R := by
  cases r with
  | val p => exact ⟨.val p, g, rfl, st, s, hr, fun _ _ h => h, fun _ _ _ h => h, WG.run rfl h⟩
  | ref n => exact ⟨.ref n, g, rfl, st, s, hr, fun _ _ h => h, fun _ _ _ h => h, WG.run rfl h⟩
  | own p =>
    obtain ⟨a, rfl, ha, nf, nA, z⟩ := hr
    cases mu with
    | false =>
      obtain ⟨k1, k2, k3⟩ := fzOwn st s ha nA z
      refine ⟨.val p, g.fz a, rfl, k1, k2, k3, fun sv w h => ?_, fun q w hw h => ?_, WG.run rfl h⟩
      · cases sv with
        | val p => exact Rp.keep (keepF g a) _ _ h
        | ref n => exact h
      · cases q with
        | val q => exact Rp.keep (keepF g a) _ _ h
        | own q =>
          obtain ⟨b, rfl, hb, nb, nB, zb⟩ := h
          exact ⟨b, rfl, hb.keep' (keepF g a) (g' := g.fz a) rfl, fun q => q.elim nb fun q => hw rfl rfl (by rw [q]), nB, zb⟩
        | ref n => exact h
    | true =>
      obtain ⟨k1, k2, k3⟩ := cel_ok st s ha nf nA z
      refine ⟨.ref g.S.length, g.cel p a, rfl, k1, k2, ⟨a, rfl, k3⟩, fun sv w h => ?_, fun q w hw h => ?_, ?_⟩
      · cases sv with
        | val p => exact h
        | ref n => obtain ⟨b, e, h⟩ := h; exact ⟨b, e, by show (g.A ++ [a])[n]? = _; rw [List.getElem?_append_left (List.getElem?_eq_some_iff.mp h).1]; exact h⟩
      · cases q with
        | val q => exact h
        | own q =>
          obtain ⟨b, rfl, hb, nb, nB, zb⟩ := h
          refine ⟨b, rfl, hb, nb, fun q => ?_, zb⟩
          have q : b ∈ g.A ++ [a] := q
          rcases List.mem_append.mp q with q | q
          · exact nB q
          · have : b = a := by simpa using q
            exact hw rfl rfl (by rw [this])
        | ref n => obtain ⟨b, e, h⟩ := h; exact ⟨b, e, by show (g.A ++ [a])[n]? = _; rw [List.getElem?_append_left (List.getElem?_eq_some_iff.mp h).1]; exact h⟩
      · exact WG.run rfl h
end
end Pf
end
section
set_option Elab.async false
set_option linter.all false
set_option maxHeartbeats 1000000
set_option autoImplicit false
namespace Pf
open PySem PySem.Spec L2
def dsRet (d : Den) : DenS := fun ρ => bd (d ρ) fun r => ret (ρ, .rt r)
def dsRetN : DenS := fun ρ => ret (ρ, .rt (.val .non))
def dsNx : DenS := fun ρ => ret (ρ, .nx)
def dsBk : DenS := fun ρ => ret (ρ, .bk)
def dsCt : DenS := fun ρ => ret (ρ, .ct)
def dsExpr (d : Den) : DenS := fun ρ => bd (d ρ) fun _ => ret (ρ, .nx)
def dsIf (c : Den) (a b : DenS) : DenS := fun ρ => bd (dTest c ρ) fun k => if k then a ρ else b ρ
def dsSeq (a b : DenS) : DenS := fun ρ => bd (a ρ) fun x => match x.2 with
  | .nx => b x.1
  | _ => ret x
def dsAsg (t : TgD) (d : Den) : DenS := fun ρ => bd (d ρ) fun r => bd (t r ρ) fun ρ' => ret (ρ', .nx)
def tgName (i : Nat) (mu : Bool) : TgD := fun r ρ => bd (bindV mu r) fun sv => ret (ρ.set i (some sv))
/-- two or three names at once -/
def dsPar2 (i j : Nat) (mi mj : Bool) (ds : List Den) : DenS := fun ρ => bd (evAll ds ρ) fun rs => match rs with
  | [r, q] => bd (bindV mi r) fun s => bd (bindV mj q) fun t => ret ((ρ.set i (some s)).set j (some t), .nx)
  | _ => stk
def dsPar3 (i j k : Nat) (mi mj mk : Bool) (ds : List Den) : DenS := fun ρ => bd (evAll ds ρ) fun rs => match rs with
  | [r, q, z] => bd (bindV mi r) fun s => bd (bindV mj q) fun t => bd (bindV mk z) fun u => ret (((ρ.set i (some s)).set j (some t)).set k (some u), .nx)
  | _ => stk
def setF (i x : PV) : PV → Option (PV × PV)
  | .lst xs => (match i with
    | .int k => (match ixN xs.length k with
      | some j => some (.lst (xs.set j x), .non)
      | none => none)
    | _ => none)
  | _ => none
def tgSub (o i : Den) : TgD := fun r ρ => bd (force r) fun p => bd (o ρ) fun q => bd (i ρ) fun z => withP z fun k => bd (updV q (setF k p)) fun _ => ret ρ
def tgAll : List TgD → List PV → Env → M Env
  | [], [], ρ => ret ρ
  | t :: ts, p :: ps, ρ => bd (t (.val p) ρ) fun ρ' => tgAll ts ps ρ'
  | _, _, _ => stk
def tgTup (ts : List TgD) : TgD := fun r ρ => match r with
  | .val (.tup ps) => if ps.length = ts.length then tgAll ts ps ρ else stk
  | _ => stk
section
variable {X : Cx} {W : WS} {pos : Pos} {e o i0 c : Expr} {d da db dc : Den} {ds : List Den} {es : List Expr} {a b : DenS} {st : Stmt} {sts sts' : List Stmt} {t : TgD}
theorem ps_dret (h : PE X e (tD X.K W d)) : PS X (.Return (some e) pos) (tS X.K W (dsRet d)) := psW (ps_ret h) fun D σ H ⟨ρ, g, e, sr, se, h⟩ => by
  subst e
  exact tD.st (Stp.refl g) sr se h fun r g1 v st _ sr1 se1 hv h1 => h1.ret rfl st sr1 v hv
theorem ps_dretN : PS X (.Return none pos) (tS X.K W dsRetN) := psW ps_retN fun D σ H ⟨ρ, g, e, sr, se, h⟩ => by
  subst e
  exact h.ret rfl (Stp.refl g) sr .non rfl
theorem ps_dpass : PS X (.Pass pos) (tS X.K W dsNx) := psW ps_pass fun D σ H ⟨ρ, g, e, sr, se, h⟩ => by
  subst e
  exact h.ret rfl (Stp.refl g) sr σ se
theorem ps_dbreak : PS X (.Break pos) (tS X.K W dsBk) := psW ps_break fun D σ H ⟨ρ, g, e, sr, se, h⟩ => by
  subst e
  exact h.ret rfl (Stp.refl g) sr σ se
theorem ps_dcont : PS X (.Continue pos) (tS X.K W dsCt) := psW ps_continue fun D σ H ⟨ρ, g, e, sr, se, h⟩ => by
  subst e
  exact h.ret rfl (Stp.refl g) sr σ se
theorem ps_dexpr (h : PE X e (tD X.K W d)) (hs : swapsWith e none pos.line X.env = pure false) : PS X (.Expr e pos) (tS X.K W (dsExpr d)) := psW (ps_expr h hs) fun D σ H ⟨ρ, g, e, sr, se, h⟩ => by
  subst e
  exact tD.st (Stp.refl g) sr se h fun r g1 v st _ sr1 se1 hv h1 => h1.ret rfl st sr1 σ se1
theorem PostS.from {K : Frag} {g0 g g' : G} {D : Ends} {x : PySem.Env × Fl} : True := trivial
theorem postFrom {K : Frag} {g0 g g' : G} {D : Ends} {x : Env × Fl} (st : Stp g0 g) (h : PostS K g0 D x g') : PostS K g D x g' := by
  obtain ⟨ρ, fl⟩ := x
  cases fl with
  | rt r => exact fun v hv => h v (hv.from st)
  | _ => exact h
theorem ps_dif (hc : PT X c (tT X.K W dc)) (ha : PSs X sts (tS X.K W a)) (hb : PSs X sts' (tS X.K W b)) : PS X (.If c sts sts' pos) (tS X.K W (dsIf dc a b)) := psW (ps_if hc ha hb) fun D σ H ⟨ρ, g, e, sr, se, h⟩ => by
  subst e
  refine tT.st (Stp.refl g) sr se h fun k g1 st _ sr1 se1 h1 => ?_
  have fin : ∀ {m : DenS}, WG X.K (WA W) g g1.S (m ρ) (PostS X.K g D) → tS X.K W m D σ g1.H := fun {m} h2 => by
    refine ⟨ρ, g1, rfl, sr1, se1, ?_⟩
    unfold WG at h2 ⊢
    cases e : m ρ g1.S with
    | stuck => rw [e] at h2; exact h2
    | exc c v S' => rw [e] at h2; exact fun g' h1 h3 h4 => h2 g' h1 (st.trans h3) h4
    | ok x S' => rw [e] at h2; exact fun g' h1 h3 h4 => postFrom st (h2 g' h1 (st.trans h3) h4)
  cases k with
  | true => exact fin h1
  | false => exact fin h1
theorem pss_d0 : PSs X [] (tS X.K W dsNx) := pssW pss_nil fun D σ H ⟨ρ, g, e, sr, se, h⟩ => by
  subst e
  exact h.ret rfl (Stp.refl g) sr σ se
theorem pss_d1 (h1 : PS X st (tS X.K W a)) (h2 : PSs X sts (tS X.K W b)) : PSs X (st :: sts) (tS X.K W (dsSeq a b)) := pssW (pss_cons h1 h2) fun D σ H ⟨ρ, g, e, sr, se, h⟩ => by
  subst e
  refine ⟨ρ, g, rfl, sr, se, (WG.bd0 h).mono fun x g1 st sr1 h1 => ?_⟩
  obtain ⟨ρ1, fl⟩ := x
  cases fl with
  | nx =>
    intro σ' se1
    have h1 : WG X.K (WA W) g g1.S (b ρ1) (PostS X.K g D) := h1
    refine ⟨ρ1, g1, rfl, sr1, se1, ?_⟩
    unfold WG at h1 ⊢
    cases e : b ρ1 g1.S with
    | stuck => rw [e] at h1; exact h1
    | exc c v S' => rw [e] at h1; exact fun g' h2 h3 h4 => h1 g' h2 (st.trans h3) h4
    | ok x S' => rw [e] at h1; exact fun g' h2 h3 h4 => postFrom st (h1 g' h2 (st.trans h3) h4)
  | rt r => exact h1.ret rfl st sr1
  | bk => exact h1.ret rfl st sr1
  | ct => exact h1.ret rfl st sr1
theorem tName_of {K : Frag} {n : Nat} {mu : Bool} {v : V} {σ : L2.St} {H : Hp} {Q : L2.St → Hp → Prop} (h : tG K W [n] (tgName n mu) v σ H Q) : gName n v σ H Q := by
  obtain ⟨ρ, g0, g, r, e, st, sr, se, hv, h⟩ := h
  subst e
  obtain ⟨sv, g1, e1, st1, sr1, r1, k1, _, h1⟩ := bindV_ok st sr hv h
  show Q (σ.set n (some v)) g.H
  rw [← e1]
  have se1 : SRe K g1 ρ σ := ⟨se.1, fun i sv e => let ⟨v, h1, h2⟩ := se.2 i sv e; ⟨v, h1, k1 _ _ h2⟩⟩
  exact h1.ret rfl st1 sr1 _ (se1.set r1) Off.set
theorem pg_dname {x : Str} {n : Nat} {mu : Bool} (hN : X.N.Nodup) (hi : X.N[n]? = some x) (hx : Loc X.env.scope x) (hf : X.fn x = true ∨ X.env.scope.names.lookup x = some .local) : PG X (.Name x pos) (tG X.K W [n] (tgName n mu)) :=
  pgW (pg_name hN hi hx hf) fun _ _ _ _ h => tName_of h
theorem tAsg_of {K : Frag} {is : List Nat} {D : Ends} {σ : L2.St} {H : Hp} (h : tS K W (dsAsg t d) D σ H) : tAsg (tD K W d) (tG K W is t) D σ H := by
  obtain ⟨ρ, g, e, sr, se, h⟩ := h
  subst e
  refine tD.st (Stp.refl g) sr se h fun r g1 v st _ sr1 se1 hv h1 => ?_
  refine ⟨ρ, g, g1, r, rfl, st, sr1, se1, hv, ?_⟩
  have h2 := h1.bd st
  unfold WG at h2 ⊢
  cases e : t r ρ g1.S with
  | stuck => rw [e] at h2; exact h2
  | exc c v S' =>
    unfold WG Pf.bd at h1
    rw [e] at h1
    exact h1
  | ok x S' =>
    unfold WG Pf.bd at h1
    rw [e] at h1
    exact fun g' k1 k2 k3 σ' k4 _ => h1 g' k1 k2 k3 σ' k4
theorem ps_dset {x : Str} {n : Nat} {mu : Bool} {pos' : Pos} (hN : X.N.Nodup) (hi : X.N[n]? = some x) (hx : Loc X.env.scope x) (hf : X.fn x = true ∨ X.env.scope.names.lookup x = some .local) (he : PE X e (tD X.K W d)) (hs : swapsWith e (some (.Name x pos')) pos.line X.env = pure false) :
    PS X (.Assign [.Name x pos'] e pos) (tS X.K W (dsAsg (tgName n mu) d)) := psW (ps_set hN hi hx he hs hf) fun D σ H h => by
  have q := tAsg_of (is := [n]) h
  obtain ⟨ρ, g, e, sr, se, h⟩ := q
  exact ⟨ρ, g, e, sr, se, h.mono fun r g' _ _ k v hv => tName_of (k v hv)⟩
theorem ps_dasg {tg : Expr} {is : List Nat} (he : PE X e (tD X.K W d)) (hg : PG X tg (tG X.K W is t)) (hs : swapsWithSole [tg] e pos.line X.env = pure false) (hw : swappedStores [tg] e X.env = pure none)
    (h1 : (assignEach [tg] X.env).map (·.2) = [assign tg X.env]) : PS X (.Assign [tg] e pos) (tS X.K W (dsAsg t d)) := psW (ps_asg he hg hs hw h1) fun D σ H h => tAsg_of h
theorem ps_dpar2 {i j : Nat} {mi mj : Bool} {x y : Str} {ea eb : Expr} {px py pt : Pos} {kt k2 : Nat} {pt2 : Pos} (hc : X.calm = true) (hN : X.N.Nodup) (hi : X.N[i]? = some x) (hj : X.N[j]? = some y) (hij : i ≠ j)
    (hx : X.env.scope.names.lookup x = some .local) (hy : X.env.scope.names.lookup y = some .local) (ha : PA X [ea, eb] (tDs X.K W ds))
    (hw : swappedStores [.Tuple [.Name x px, .Name y py] kt pt] (.Tuple [ea, eb] k2 pt2) X.env = pure (some [x, y])) :
    PS X (.Assign [.Tuple [.Name x px, .Name y py] kt pt] (.Tuple [ea, eb] k2 pt2) pos) (tS X.K W (dsPar2 i j mi mj ds)) := psW (ps_par hc hN hi hj hij hx hy ha hw (by rfl)) fun D σ H ⟨ρ, g, e, sr, se, h⟩ => by
  subst e
  refine tDs.st (Stp.refl g) sr se h fun rs g1 vs st _ sr1 se1 hvs h1 => ?_
  obtain ⟨hp, hd⟩ := hvs
  cases hp with
  | nil => exact (stk_ok h1).elim
  | cons a1 b1 =>
    cases b1 with
    | nil => exact (stk_ok h1).elim
    | cons a2 b2 =>
      cases b2 with
      | cons _ _ => exact (stk_ok h1).elim
      | nil =>
        next r v q w =>
        refine ⟨v, w, rfl, ?_⟩
        have dd : isOwn r = true → isOwn q = true → w ≠ v := fun o1 o2 z => hd.1 o1 0 q rfl o2 (by rw [z]; rfl)
        obtain ⟨sv, g2, e2, st2, sr2, r2, k2, q2, h2⟩ := bindV_ok st sr1 a1 h1
        obtain ⟨sv', g3, e3, st3, sr3, r3, k3, q3, h3⟩ := bindV_ok st2 sr2 (q2 q w dd a2) h2
        have se3 : SRe X.K g3 ρ σ := ⟨se1.1, fun i sv e => let ⟨v, h1, h2⟩ := se1.2 i sv e; ⟨v, h1, k3 _ _ (k2 _ _ h2)⟩⟩
        have := h3.ret rfl st3 sr3 _ ((se3.set (i := i) (k3 _ _ r2)).set (i := j) r3)
        rw [e3, e2] at this
        exact this
theorem ps_dpar3 {i j k : Nat} {mi mj mk : Bool} {x y z : Str} {ea eb ec : Expr} {px py pz pt : Pos} {kt k2 : Nat} {pt2 : Pos} (hc : X.calm = true) (hN : X.N.Nodup) (hi : X.N[i]? = some x) (hj : X.N[j]? = some y) (hk : X.N[k]? = some z) (hij : i ≠ j) (hik : i ≠ k) (hjk : j ≠ k)
    (hx : X.env.scope.names.lookup x = some .local) (hy : X.env.scope.names.lookup y = some .local) (hz : X.env.scope.names.lookup z = some .local) (ha : PA X [ea, eb, ec] (tDs X.K W ds))
    (hw : swappedStores [.Tuple [.Name x px, .Name y py, .Name z pz] kt pt] (.Tuple [ea, eb, ec] k2 pt2) X.env = pure (some [x, y, z])) :
    PS X (.Assign [.Tuple [.Name x px, .Name y py, .Name z pz] kt pt] (.Tuple [ea, eb, ec] k2 pt2) pos) (tS X.K W (dsPar3 i j k mi mj mk ds)) := psW (ps_par3 hc hN hi hj hk hij hik hjk hx hy hz ha hw (by rfl)) fun D σ H ⟨ρ, g, e, sr, se, h⟩ => by
  subst e
  refine tDs.st (Stp.refl g) sr se h fun rs g1 vs st _ sr1 se1 hvs h1 => ?_
  obtain ⟨hp, hd⟩ := hvs
  cases hp with
  | nil => exact (stk_ok h1).elim
  | cons a1 b1 =>
    cases b1 with
    | nil => exact (stk_ok h1).elim
    | cons a2 b2 =>
      cases b2 with
      | nil => exact (stk_ok h1).elim
      | cons a3 b3 =>
        cases b3 with
        | cons _ _ => exact (stk_ok h1).elim
        | nil =>
          next r v q w y' u =>
          refine ⟨v, w, u, rfl, ?_⟩
          have d12 : isOwn r = true → isOwn q = true → w ≠ v := fun o1 o2 z => hd.1 o1 0 q rfl o2 (by rw [z]; rfl)
          have d13 : isOwn r = true → isOwn y' = true → u ≠ v := fun o1 o2 z => hd.1 o1 1 y' rfl o2 (by rw [z]; rfl)
          have d23 : isOwn q = true → isOwn y' = true → u ≠ w := fun o1 o2 z => hd.2.1 o1 0 y' rfl o2 (by rw [z]; rfl)
          obtain ⟨sv, g2, e2, st2, sr2, r2, k2, q2, h2⟩ := bindV_ok st sr1 a1 h1
          obtain ⟨sv', g3, e3, st3, sr3, r3, k3, q3, h3⟩ := bindV_ok st2 sr2 (q2 q w d12 a2) h2
          obtain ⟨sv'', g4, e4, st4, sr4, r4, k4, q4, h4⟩ := bindV_ok st3 sr3 (q3 y' u d23 (q2 y' u d13 a3)) h3
          have se3 : SRe X.K g4 ρ σ := ⟨se1.1, fun i sv e => let ⟨v, h1, h2⟩ := se1.2 i sv e; ⟨v, h1, k4 _ _ (k3 _ _ (k2 _ _ h2))⟩⟩
          have := h4.ret rfl st4 sr4 _ (((se3.set (i := i) (k4 _ _ (k3 _ _ r2))).set (i := j) (k4 _ _ r3)).set (i := k) r4)
          rw [e4, e3, e2] at this
          exact this
/-! targets that are no names -/
theorem rs_d {K : Frag} : True := trivial
theorem RpL.set {K : Frag} {H : Hp} {F : Addr → Prop} : ∀ {ps : List PV} {vs : List V} (j : Nat) {p : PV} {v : V}, RpL K H F ps vs → Rp K H F p v → RpL K H F (ps.set j p) (vs.set j v)
  | [], _, _, _, _, h, _ => by have h : _ = [] := h; subst h; exact rfl
  | q :: ps, _, 0, p, v, ⟨w, r, e, a, b⟩, h => by subst e; exact ⟨v, r, rfl, h, b⟩
  | q :: ps, _, j + 1, p, v, ⟨w, r, e, a, b⟩, h => by subst e; exact ⟨w, _, rfl, a, RpL.set j b h⟩
theorem updV_bd {K : Frag} {W : XW} {g g0 : G} {β : Type} {r : RV} {v : V} {f : PV → Option (PV × PV)} {k : RV → M β} {R : β → G → Prop} (s : SRc K g) (hr : Rr K g0 g r v) (h : WG K W g0 g.S (bd (updV r f) k) R) :
    ∃ n a p p' z, r = .ref n ∧ v = .ref a ∧ g.A[n]? = some a ∧ g.S[n]? = some (.live p) ∧ At K g.H g.F p a ∧ f p = some (p', z) ∧ WG K W g0 (g.S.set n (.live p')) (k (.val z)) R := by
  cases r with
  | val p => unfold WG Pf.bd updV at h; simp only at h
  | own p => unfold WG Pf.bd updV at h; simp only at h
  | ref n =>
    obtain ⟨a, rfl, hA⟩ := hr
    cases hS : g.S[n]? with
    | none => unfold WG Pf.bd updV at h; simp only [hS] at h
    | some c =>
      cases c with
      | nest es => unfold WG Pf.bd updV at h; simp only [hS] at h
      | froz p => unfold WG Pf.bd updV at h; simp only [hS] at h
      | live p =>
        cases e : f p with
        | none => unfold WG Pf.bd updV at h; simp only [hS, e] at h
        | some y =>
          obtain ⟨p', z⟩ := y
          exact ⟨n, a, p, p', z, rfl, rfl, hA, hS, (s.cell n a _ hA hS).1, e, WG.run (by simp only [updV, hS, e]) h⟩
theorem pg_dsub (ho : PE X o (tD X.K W da)) (hi : PE X i0 (tD X.K W db))
    (ha : ∀ v, assign (.Subscript o i0 pos) X.env v = (do
      let ov ← holding [v] (eval o X.env)
      let iv ← holding [v, ov] (eval i0 X.env)
      standAt pos
      holding [v, ov, iv] (setItem ov iv v)
      release [v, ov, iv] [])) : PG X (.Subscript o i0 pos) (tG X.K W [] (tgSub da db)) := pgW (pg_sub ho hi set_list ha) fun v σ H Q ⟨ρ, g0, g, r, e, st, sr, se, hv, h⟩ => by
  subst e
  obtain ⟨p, g1, e1, st1, sr1, r1, k1, a1, _, h1⟩ := force_ok st sr hv.rf h
  rw [← e1]
  have se1 : SRe X.K g1 ρ σ := ⟨se.1, fun i sv e => let ⟨v, h1, h2⟩ := se.2 i sv e; ⟨v, h1, by
    cases sv with
    | val p => exact Rp.keep k1 _ _ h2
    | ref n => obtain ⟨b, e, h⟩ := h2; exact ⟨b, e, by rw [a1]; exact h⟩⟩⟩
  refine tD.st st1 sr1 se1 h1 fun q g2 w st2 st02 sr2 se2 hw h2 => ?_
  refine tD.st st02 sr2 se2 h2 fun z g3 u st3 st03 sr3 se3 hu h3 => ?_
  obtain ⟨k, ek, h4⟩ := h3.withP
  have hw3 := hw.step sr2 st3
  have hv3 := Rp.keep (st3.k sr2) _ _ (Rp.keep (st2.k sr1) _ _ r1)
  obtain ⟨n, b, p0, p', z', rfl, rfl, hA, hS, hAt, ef, h5⟩ := updV_bd sr3 (hw3.from st1) h4
  obtain ⟨xs, vs, rfl, hvs, rvs⟩ := lstAt hAt (setF k p) (fun _ => rfl) ef
  have hk := hu.peek sr3 ek
  cases k with
  | int m =>
    simp only [setF] at ef
    cases e5 : ixN xs.length m with
    | none => rw [e5] at ef; cases ef
    | some j =>
      rw [e5] at ef; cases ef
      have hk : u = _ := hk
      subst hk
      refine ⟨b, vs, m, j, rfl, rfl, hvs, by rw [← rvs.len]; exact e5, ?_⟩
      have kp := wrKeep (p := .lst (xs.set j p)) (o := .lst (vs.set j v)) sr3 hA hS
      have hn : At X.K (g3.wr n b (.lst (xs.set j p)) (.lst (vs.set j v))).H g3.F (.lst (xs.set j p)) b := ⟨_, upd_same, RpL.keep kp _ _ (rvs.set j hv3)⟩
      obtain ⟨st4, sr4⟩ := wr_ok st03 sr3 hA hS hn
      have se4 : SRe X.K (g3.wr n b (.lst (xs.set j p)) (.lst (vs.set j v))) ρ σ := ⟨se3.1, fun i sv e => let ⟨v, h1, h2⟩ := se3.2 i sv e; ⟨v, h1, by
        cases sv with
        | val p => exact Rp.keep kp _ _ h2
        | ref n => exact h2⟩⟩
      exact h5.ret (g' := g3.wr n b (.lst (xs.set j p)) (.lst (vs.set j v))) rfl st4 sr4 σ se4 Off.refl
  | _ => simp only [setF] at ef; cases ef
/-- many targets -/
def tGs (K : Frag) (W : WS) (is : List Nat) (ts : List TgD) : TGs := fun vs σ H Q => ∃ ρ g0 g ps, g.H = H ∧ Stp g0 g ∧ SRc K g ∧ SRe K g ρ σ ∧ RpL K g.H g.F ps vs ∧ WG K (WA W) g0 g.S (tgAll ts ps ρ) fun ρ' g' => ∀ σ', SRe K g' ρ' σ' → Off is σ σ' → Q σ' g'.H
theorem pgsW {X : Cx} {es : List Expr} {t t' : TGs} (h : PGs X es t) (w : ∀ v σ H Q, t' v σ H Q → t v σ H Q) : PGs X es t' := ⟨fun pins s σ H v u Q I r q => h.run pins s σ H v u Q I r (w v σ H Q q)⟩
theorem pgs_d0 : PGs X [] (tGs X.K W [] []) := pgsW pgs_nil fun vs σ H Q ⟨ρ, g0, g, ps, e, st, sr, se, hv, h⟩ => by
  subst e
  cases ps with
  | nil => exact ⟨hv, h.ret rfl st sr σ se Off.refl⟩
  | cons p ps => exact (stk_ok h).elim
theorem pgs_d1 {is js : List Nat} {ts : List TgD} (h1 : PG X e (tG X.K W is t)) (h2 : PGs X es (tGs X.K W js ts)) (hs : (assignEach (e :: es) X.env).map (·.2) = assign e X.env :: (assignEach es X.env).map (·.2)) :
    PGs X (e :: es) (tGs X.K W (is ++ js) (t :: ts)) := pgsW (pgs_cons h1 h2 hs) fun vs σ H Q ⟨ρ, g0, g, ps, e, st, sr, se, hv, h⟩ => by
  subst e
  cases ps with
  | nil => exact (stk_ok h).elim
  | cons p ps =>
    obtain ⟨v, r, rfl, hv1, hv2⟩ := hv
    refine ⟨v, r, rfl, ρ, g, g, .val p, rfl, Stp.refl g, sr, se, hv1, (h.bd st).mono fun ρ1 g1 st1 sr1 h1 σ1 se1 of1 => ?_⟩
    exact ⟨ρ1, g0, g1, ps, rfl, st.trans st1, sr1, se1, RpL.keep (st1.k sr) _ _ hv2, h1.mono fun ρ2 g2 _ _ k σ2 se2 of2 => k σ2 se2 (of1.trans of2)⟩
theorem pg_dtup {is : List Nat} {ts : List TgD} {k : Nat} (hc : X.calm = true) (h : PGs X es (tGs X.K W is ts)) (hn : (assignEach es X.env).length = ts.length) (hst : (assignEach es X.env).findIdx? (·.1) = none) :
    PG X (.Tuple es k pos) (tG X.K W is (tgTup ts)) := pgW (pg_tup hc h hn hst) fun v σ H Q ⟨ρ, g0, g, r, e, st, sr, se, hv, h⟩ => by
  subst e
  cases r with
  | val p =>
    cases p with
    | tup ps =>
      obtain ⟨a, vs, rfl, q, rv⟩ := hv
      have h : WG X.K (WA W) g0 g.S (if ps.length = ts.length then tgAll ts ps ρ else stk) _ := h
      split at h
      · next hl => exact ⟨a, vs, rfl, q, by rw [← rv.len]; exact hl, ρ, g0, g, ps, rfl, st, sr, se, rv, h⟩
      · exact (stk_ok h).elim
    | _ => exact (stk_ok h).elim
  | _ => exact (stk_ok h).elim
end
end Pf
end
section
set_option Elab.async false
set_option linter.all false
set_option maxHeartbeats 1000000
set_option autoImplicit false
namespace Pf
open PySem PySem.Spec L2
/-! loops -/
/-- the lists that are walked are as they were -/
def chkG (gs : List (Nat × PV)) (S : Sto) : Bool := gs.all fun x => match S[x.1]? with
  | some (.live p) => same p x.2
  | some (.froz p) => same p x.2
  | _ => false
def chk (gs : List (Nat × PV)) : M Unit := fun S => if chkG gs S then .ok () S else .stuck
abbrev ItD := Env → M (List PV × List (Nat × PV))
def JOk (K : Frag) (g0 : G) (J : It) (xs : List PV) (gs : List (Nat × PV)) : Prop := ∀ (i : Nat) (g : G), Stp g0 g → SRc K g → chkG gs g.S = true →
  (∀ p, xs[i]? = some p → J.go i g.H ∧ ∀ x H', J.yld i g.H x H' → ∃ g', g'.S = g.S ∧ Stp g g' ∧ SRc K g' ∧ g'.H = H' ∧ Rp K g'.H g'.F p x) ∧ (i = xs.length → J.stop i g.H)
def tI (K : Frag) (W : WS) (it : ItD) : TI := fun σ H R => ∃ ρ g, g.H = H ∧ SRc K g ∧ SRe K g ρ σ ∧ WG K (W σ) g g.S (it ρ) fun x g' => ∀ J, JOk K g' J x.1 x.2 → R J g'.H
theorem piW {X : Cx} {tg e : Expr} {t t' : TI} (h : PI X tg e t) (w : ∀ σ H R, t' σ H R → t σ H R) : PI X tg e t' := ⟨fun pins s σ H R I q => h.run pins s σ H R I (w σ H R q)⟩
/-- behind a turn -/
def cont (k : Env → M (Env × Fl)) : Env × Fl → M (Env × Fl) := fun x => match x.2 with
  | .nx => k x.1
  | .ct => k x.1
  | .bk => ret (x.1, .nx)
  | .rt r => ret (x.1, .rt r)
def loop (gs : List (Nat × PV)) (t : TgD) (b : DenS) : List PV → DenS
  | [], ρ => bd (chk gs) fun _ => ret (ρ, .nx)
  | x :: xs, ρ => bd (chk gs) fun _ => bd (t (.val x) ρ) fun ρ1 => bd (b ρ1) (cont (loop gs t b xs))
def dsFor (it : ItD) (t : TgD) (b : DenS) : DenS := fun ρ => bd (it ρ) fun x => loop x.2 t b x.1 ρ
def loopW (c : Den) (b : DenS) : Nat → DenS
  | 0, _ => stk
  | n + 1, ρ => bd (dTest c ρ) fun k => if k then bd (b ρ) (cont (loopW c b n)) else ret (ρ, .nx)
def dsWhile (n : Nat) (c : Den) (b : DenS) : DenS := loopW c b n
section
variable {K : Frag} {W : WS} {g g0 g1 : G} {β : Type}
theorem chk_run {W : XW} {S : Sto} {gs : List (Nat × PV)} {f : Unit → M β} {R : β → G → Prop} (h : WG K W g S (bd (chk gs) f) R) : chkG gs S = true ∧ WG K W g S (f ()) R := by
  cases e : chkG gs S with
  | true => exact ⟨rfl, WG.run (by simp only [chk, e, if_true]) h⟩
  | false => unfold WG Pf.bd chk at h; simp only [e] at h; exact h.elim
theorem WG.base {W : XW} {S : Sto} {m : M β} {Q Q' : β → G → Prop} (st : Stp g0 g) (h : WG K W g0 S m Q) (q : ∀ a g', Stp g g' → SRc K g' → Q a g' → Q' a g') : WG K W g S m Q' := by
  unfold WG at h ⊢
  cases e : m S with
  | stuck => rw [e] at h; exact h
  | exc c v S' => rw [e] at h; exact fun g' h1 h2 h3 => h g' h1 (st.trans h2) h3
  | ok a S' => rw [e] at h; exact fun g' h1 h2 h3 => q _ _ h2 h3 (h g' h1 (st.trans h2) h3)
/-- what a body must reach, from the rest of the loop -/
theorem cont_post {k : Env → M (Env × Fl)} {D : Ends} {N : L2.St → Hp → Prop} {m : M (Env × Fl)} (st : Stp g0 g) (h : WG K (WA W) g0 g.S (bd m (cont k)) (PostS K g0 D))
    (n : ∀ ρ' g' σ', Stp g g' → SRc K g' → SRe K g' ρ' σ' → WG K (WA W) g0 g'.S (k ρ') (PostS K g0 D) → N σ' g'.H) : WG K (WA W) g g.S m (PostS K g { D with nx := N, ct := N, bk := D.nx }) := by
  refine (h.bd st).mono fun x g' st1 sr1 h1 => ?_
  obtain ⟨ρ', fl⟩ := x
  cases fl with
  | nx => exact fun σ' se => n ρ' g' σ' st1 sr1 se h1
  | ct => exact fun σ' se => n ρ' g' σ' st1 sr1 se h1
  | bk => exact fun σ' se => (h1.ret rfl (st.trans st1) sr1 : PostS K g0 D (ρ', .nx) g') σ' se
  | rt r => exact fun v hv => (h1.ret rfl (st.trans st1) sr1 : PostS K g0 D (ρ', .rt r) g') v (hv.from st)
theorem tFor_of {it : ItD} {t : TgD} {b : DenS} {is : List Nat} {D : Ends} {σ : L2.St} {H : Hp} (h : tS K W (dsFor it t b) D σ H) : tFor (tI K W it) (tG K W is t) (tS K W b) D σ H := by
  obtain ⟨ρ, g, e, sr, se, h⟩ := h
  subst e
  refine ⟨ρ, g, rfl, sr, se, (WG.wk σ (WG.bd0 h)).mono fun x g1 st1 sr1 h1 J hJ => ?_⟩
  obtain ⟨xs, gs⟩ := x
  have h1 : WG K (WA W) g g1.S (loop gs t b xs ρ) (PostS K g D) := h1
  refine ⟨fun i m σ H => m = xs.length - i ∧ i ≤ xs.length ∧ ∃ ρ g2, g2.H = H ∧ Stp g1 g2 ∧ SRc K g2 ∧ SRe K g2 ρ σ ∧ WG K (WA W) g g2.S (loop gs t b (xs.drop i) ρ) (PostS K g D), ⟨_, rfl, Nat.zero_le _, ρ, g1, rfl, Stp.refl g1, sr1, se.step sr st1, h1⟩, ?_⟩
  rintro i m σ2 H2 ⟨rfl, hi, ρ2, g2, rfl, st2, sr2, se2, h2⟩
  by_cases hlt : i < xs.length
  · have ed : xs.drop i = xs[i] :: xs.drop (i + 1) := List.drop_eq_getElem_cons hlt
    rw [ed] at h2
    obtain ⟨hc, h3⟩ := chk_run h2
    obtain ⟨hgo, hy⟩ := (hJ i g2 st2 sr2 hc).1 xs[i] (List.getElem?_eq_getElem hlt)
    refine .inr ⟨hgo, fun σ' H' => ∃ m', m' < xs.length - i ∧ (m' = xs.length - (i + 1) ∧ i + 1 ≤ xs.length ∧ ∃ ρ g2, g2.H = H' ∧ Stp g1 g2 ∧ SRc K g2 ∧ SRe K g2 ρ σ' ∧ WG K (WA W) g g2.S (loop gs t b (xs.drop (i + 1)) ρ) (PostS K g D)), fun σ' H' h => h, fun x H' hx => ?_⟩
    obtain ⟨g3, eS, st3, sr3, rfl, rp⟩ := hy x H' hx
    rw [← eS] at h3
    have st03 : Stp g g3 := (st1.trans st2).trans st3
    refine ⟨ρ2, g3, g3, .val xs[i], rfl, Stp.refl g3, sr3, se2.step sr2 st3, rp, (h3.bd st03).mono fun ρ4 g4 st4 sr4 h4 σ4 se4 of4 => ?_⟩
    refine ⟨ρ4, g4, rfl, sr4, se4, cont_post (st03.trans st4) h4 fun ρ5 g5 σ5 st5 sr5 se5 h5 => ?_⟩
    exact ⟨_, by omega, rfl, hlt, ρ5, g5, rfl, ((st2.trans st3).trans st4).trans st5, sr5, se5, h5⟩
  · have e : i = xs.length := by omega
    subst e
    rw [List.drop_length] at h2
    obtain ⟨hc, h3⟩ := chk_run h2
    exact .inl ⟨(hJ _ g2 st2 sr2 hc).2 rfl, (h3.ret rfl (st1.trans st2) sr2 : PostS K g D (ρ2, .nx) g2) σ2 se2⟩
theorem tWhile_of {c : Den} {b : DenS} {n : Nat} {D : Ends} {σ : L2.St} {H : Hp} (h : tS K W (dsWhile n c b) D σ H) : tWhile (tT K W c) (tS K W b) D σ H := by
  obtain ⟨ρ, g, e, sr, se, h⟩ := h
  subst e
  refine ⟨fun m σ H => ∃ ρ g2, g2.H = H ∧ Stp g g2 ∧ SRc K g2 ∧ SRe K g2 ρ σ ∧ WG K (WA W) g g2.S (loopW c b m ρ) (PostS K g D), ⟨n, ρ, g, rfl, Stp.refl g, sr, se, h⟩, ?_⟩
  rintro m σ2 H2 ⟨ρ2, g2, rfl, st2, sr2, se2, h2⟩
  cases m with
  | zero => exact (stk_ok h2).elim
  | succ m =>
    refine tT.st st2 sr2 se2 h2 fun k g3 st3 st03 sr3 se3 h3 => ?_
    cases k with
    | true =>
      rw [if_pos rfl]
      refine ⟨fun σ' H' => ∃ m', m' < m + 1 ∧ ∃ ρ g2, g2.H = H' ∧ Stp g g2 ∧ SRc K g2 ∧ SRe K g2 ρ σ' ∧ WG K (WA W) g g2.S (loopW c b m' ρ) (PostS K g D), fun σ' H' h => h, ?_⟩
      exact ⟨ρ2, g3, rfl, sr3, se3, cont_post st03 h3 fun ρ5 g5 σ5 st5 sr5 se5 h5 => ⟨m, by omega, ρ5, g5, rfl, st03.trans st5, sr5, se5, h5⟩⟩
    | false =>
      rw [if_neg (by decide)]
      exact (h3.ret rfl st03 sr3 : PostS K g D (ρ2, .nx) g3) σ2 se3
end
section
variable {X : Cx} {W : WS} {pos : Pos} {tg iter c e : Expr} {it : ItD} {t : TgD} {is : List Nat} {b : DenS} {dc d : Den} {sts : List Stmt}
theorem ps_dfor (hp : PassesOwn (model X.prog X.w) X.A X.env X.xe) (hc : X.calm = true) (hi : PI X tg iter (tI X.K W it)) (hg : PG X tg (tG X.K W is t)) (hb : PSs X sts (tS X.K W b)) (hs : ∀ x, foldedSetIterable iter X.env x = pure x) :
    PS X (.For tg iter sts [] pos) (tS X.K W (dsFor it t b)) := psW (ps_for hp hc hi hg hb hs) fun _ _ _ h => tFor_of h
theorem ps_dwhile {n : Nat} (hp : PassesOwn (model X.prog X.w) X.A X.env X.xe) (hc : PT X c (tT X.K W dc)) (hb : PSs X sts (tS X.K W b)) : PS X (.While c sts [] pos) (tS X.K W (dsWhile n dc b)) := psW (ps_while hp hc hb) fun _ _ _ h => tWhile_of h
end
end Pf
end
section
set_option Elab.async false
set_option linter.all false
set_option maxHeartbeats 1000000
set_option autoImplicit false
namespace Pf
open PySem PySem.Spec L2
/-! comprehensions -/
def noX {α : Type} (m : M α) : M α := fun S => match m S with
  | .ok a S' => .ok a S'
  | _ => .stuck
def wipeE (ρ : Env) : List Nat → Env
  | [] => ρ
  | v :: vs => (wipeE ρ vs).set v none
def condM : Option Den → Env → M Bool
  | none, _ => ret true
  | some d, ρ => dTest d ρ
def turnC (gs : List (Nat × PV)) (t : TgD) (c : Option Den) (e : Den) (x : PV) : Env → M (Option PV) := fun ρ =>
  bd (chk gs) fun _ => bd (t (.val x) ρ) fun ρ1 => bd (condM c ρ1) fun k => if k then bd (e ρ1) fun r => bd (force r) fun p => ret (some p) else ret none
def cl (gs : List (Nat × PV)) (t : TgD) (c : Option Den) (e : Den) : List PV → Env → M (List PV)
  | [], _ => bd (chk gs) fun _ => ret []
  | x :: xs, ρ => bd (turnC gs t c e x ρ) fun o => bd (cl gs t c e xs ρ) fun r => ret (match o with | some p => p :: r | none => r)
def dComp (it : ItD) (t : TgD) (c : Option Den) (e : Den) (vs : List Nat) : Den := fun ρ => bd (it ρ) fun x =>
  if lenOk x.1.length then bd (noX (cl x.2 t c e x.1 (wipeE ρ vs))) fun r => ret (.own (.lst r)) else stk
abbrev W0 : WS := fun _ _ _ _ => False
def tCo (K : Frag) (c : Option Den) : TT := match c with
  | none => tYes
  | some d => tT K W0 d
theorem tCo_some {K : Frag} {d : Den} : tCo K (some d) = tT K W0 d := rfl
theorem bd_assoc {α β γ : Type} (m : M α) (f : α → M β) (k : β → M γ) : bd (bd m f) k = bd m fun a => bd (f a) k := by
  funext S
  simp only [bd]
  cases m S <;> rfl
theorem wipe_get (vs : List Nat) : ∀ (τ : L2.St) (j : Nat), (wipe τ vs)[j]? = if j ∈ vs then (if j < τ.length then some none else none) else τ[j]? := by
  induction vs with
  | nil => intro τ j; simp [wipe]
  | cons v vs ih =>
    intro τ j
    unfold wipe
    by_cases hj : v = j
    · subst hj
      rw [if_pos List.mem_cons_self]
      by_cases hl : v < τ.length
      · rw [if_pos hl, List.getElem?_set_self (by rw [wipe_length]; exact hl)]
      · rw [if_neg hl, List.getElem?_eq_none (by rw [List.length_set, wipe_length]; omega)]
    · rw [List.getElem?_set_ne hj, ih]
      have : j ∈ v :: vs ↔ j ∈ vs := by simp [List.mem_cons, Ne.symm hj]
      by_cases h : j ∈ vs
      · rw [if_pos h, if_pos (this.mpr h)]
      · rw [if_neg h, if_neg (fun z => h (this.mp z))]
theorem wipe_off {vs is : List Nat} {σ σ2 : L2.St} (hs : ∀ i ∈ is, i ∈ vs) (h : Off is (wipe σ vs) σ2) : wipe σ2 vs = wipe σ vs := by
  refine List.ext_getElem? fun j => ?_
  have hl : σ2.length = σ.length := h.1.trans (wipe_length σ vs)
  rw [wipe_get, wipe_get, hl]
  by_cases hj : j ∈ vs
  · rw [if_pos hj, if_pos hj]
  · rw [if_neg hj, if_neg hj, h.2 j (fun z => hj (hs j z)), wipe_get, if_neg hj]
theorem wipeE_get (vs : List Nat) : ∀ (ρ : Env) (j : Nat) (sv : SV), (wipeE ρ vs)[j]? = some (some sv) → ρ[j]? = some (some sv) ∧ j ∉ vs := by
  induction vs with
  | nil => intro ρ j sv h; exact ⟨h, by simp⟩
  | cons v vs ih =>
    intro ρ j sv h
    unfold wipeE at h
    by_cases hj : v = j
    · subst hj
      by_cases hl : v < (wipeE ρ vs).length
      · rw [List.getElem?_set_self hl] at h; cases h
      · rw [List.getElem?_eq_none (by rw [List.length_set]; omega)] at h; cases h
    · rw [List.getElem?_set_ne hj] at h
      obtain ⟨h1, h2⟩ := ih ρ j sv h
      exact ⟨h1, by simp [List.mem_cons, Ne.symm hj, h2]⟩
theorem wipeE_length (ρ : Env) : ∀ vs : List Nat, (wipeE ρ vs).length = ρ.length
  | [] => rfl
  | v :: vs => by unfold wipeE; rw [List.length_set, wipeE_length ρ vs]
section
variable {K : Frag} {W : WS} {g g0 g1 : G} {β : Type}
theorem SRe.wipe {ρ : Env} {σ : L2.St} (h : SRe K g ρ σ) (vs : List Nat) : SRe K g (wipeE ρ vs) (L2.wipe σ vs) := by
  refine ⟨by rw [wipeE_length, wipe_length]; exact h.1, fun j sv e => ?_⟩
  obtain ⟨e1, hj⟩ := wipeE_get vs ρ j sv e
  obtain ⟨v, e2, r⟩ := h.2 j sv e1
  exact ⟨v, by rw [wipe_get, if_neg hj]; exact e2, r⟩
theorem noX_bd {α : Type} {W : XW} {m : M α} {f : α → M β} {R : β → G → Prop} (h : WG K W g g1.S (bd (noX m) f) R) : WG K (fun _ _ _ => False) g1 g1.S m fun a g2 => WG K W g g2.S (f a) R := by
  unfold WG Pf.bd noX at h
  unfold WG
  cases e : m g1.S with
  | stuck => simp only [e] at h
  | exc c v S' => simp only [e] at h
  | ok a S' =>
    simp only [e] at h
    intro g2 hS _ _
    subst hS
    exact h
/-- the new list at D, so far -/
structure Acc (K : Frag) (g : G) (D : Addr) (acc : List PV) (vs : List V) : Prop where
  at_ : g.H D = some (.lst vs)
  is : RpL K g.H g.F acc vs
  nf : ¬ g.F D
  nA : D ∉ g.A
theorem Acc.step {D : Addr} {acc : List PV} {vs : List V} (s : SRc K g) (k : Stp g g1) (h : Acc K g D acc vs) : Acc K g1 D acc vs := by
  have nl : ¬ Lv g D := fun z => h.nA z.mem
  refine ⟨k.keep _ _ h.at_ nl, RpL.keep (k.k s) _ _ h.is, fun z => ?_, fun z => ?_⟩
  · rcases k.fz' D z with z | z | z
    · exact h.nf z
    · exact nl z
    · rw [h.at_] at z; cases z
  · rcases k.newA D z with z | z
    · exact h.nA z
    · rw [h.at_] at z; cases z
theorem Acc.push {g' : G} {D : Addr} {acc : List PV} {vs : List V} {p : PV} {v : V} (b : Stp g0 g) (n0 : g0.H D = none) (s : SRc K g) (h : Acc K g D acc vs) (r : Rp K g.H g.F p v) :
    Keep g (g.put D (.lst (vs ++ [v]))) ∧ Stp g0 (g.put D (.lst (vs ++ [v]))) ∧ SRc K (g.put D (.lst (vs ++ [v]))) ∧ Acc K (g.put D (.lst (vs ++ [v]))) D (acc ++ [p]) (vs ++ [v]) := by
  have kp : Keep g (g.put D (.lst (vs ++ [v]))) := ⟨fun _ h => h, fun b x e hh => by
    show upd g.H D _ b = _
    rw [upd_ne (fun z => ?_)]
    · exact e
    · subst z
      rcases hh with hh | hh
      · exact h.nf hh
      · rw [h.at_] at e; cases e; exact hh⟩
  have dom : ∀ c x, g.H c = some x → ∃ y, (g.put D (.lst (vs ++ [v]))).H c = some y := fun c x e => by
    by_cases hb : c = D
    · subst hb; exact ⟨_, upd_same⟩
    · exact ⟨x, (upd_ne hb).trans e⟩
  refine ⟨kp, ⟨fun c x e n => ?_, fun c x e => ?_, b.fz, b.fz', b.ext, b.newA, b.new, b.pl, b.ge⟩, ⟨s.len, s.nd, fun m a c e1 e2 => ?_, fun a m => let ⟨x, e⟩ := s.dom a m; dom a x e, fun a m => let ⟨x, e⟩ := s.fd a m; dom a x e⟩, ⟨upd_same, (RpL.keep kp _ _ h.is).app ⟨v, [], rfl, Rp.keep kp _ _ r, rfl⟩, h.nf, h.nA⟩⟩
  · have hc : c ≠ D := fun z => by subst z; rw [n0] at e; cases e
    exact (upd_ne hc).trans (b.keep c x e n)
  · obtain ⟨y, e'⟩ := b.dom c x e
    exact dom c y e'
  · have k := s.cell m a c e1 e2
    have ha : a ≠ D := fun z => h.nA (z ▸ List.mem_of_getElem? e1)
    exact k.keep kp (fun _ _ h => h) (fun _ => upd_ne ha) fun _ h => h
theorem tLc_of {it : ItD} {t : TgD} {c : Option Den} {e : Den} {vs is : List Nat} {σ : L2.St} {H : Hp} {Q : VK} (hs : ∀ i ∈ is, i ∈ vs) (h : tD K W (dComp it t c e vs) σ H Q) : tLc (tI K W it) (tG K W0 is t) (tCo K c) (tD K W0 e) vs σ H Q := by
  obtain ⟨ρ, g, e0, sr, se, h⟩ := h
  subst e0
  refine ⟨ρ, g, rfl, sr, se, (WG.bd0 h).mono fun x g1 st1 sr1 h1 J hJ D hD => ?_⟩
  obtain ⟨xs, gs⟩ := x
  have h1 : WG K (W σ) g g1.S (if lenOk xs.length then bd (noX (cl gs t c e xs (wipeE ρ vs))) fun r => ret (.own (.lst r)) else stk) fun r g' => ∀ v, Rr K g g' r v → Q v g'.H := h1
  cases hl : lenOk xs.length with
  | false => rw [hl, if_neg (by decide)] at h1; exact (stk_ok h1).elim
  | true =>
  rw [hl, if_pos rfl] at h1
  have hl : xs.length ≤ sizeLine := of_decide_eq_true hl
  -- what is wanted of the list
  let R : List PV → G → Prop := fun r g2 => WG K (W σ) g g2.S (ret (.own (.lst r))) fun r g' => ∀ v, Rr K g g' r v → Q v g'.H
  have h2 : WG K (WA W0) g1 g1.S (cl gs t c e xs (wipeE ρ vs)) R := by
    have h3 := noX_bd h1
    unfold WG at h3 ⊢
    cases e9 : cl gs t c e xs (wipeE ρ vs) g1.S with
    | stuck => rw [e9] at h3; exact h3
    | exc a b c => rw [e9] at h3; exact fun g' k1 k2 k3 σ => h3 g' k1 k2 k3
    | ok a S' => rw [e9] at h3; exact h3
  let Iv : Nat → Hp → Prop := fun i H => ∃ g2 acc us, g2.H = H ∧ Stp g1 g2 ∧ SRc K g2 ∧ SRe K g2 (wipeE ρ vs) (L2.wipe σ vs) ∧ Acc K g2 D acc us ∧ acc.length ≤ i ∧ WG K (WA W0) g1 g2.S (bd (cl gs t c e (xs.drop i) (wipeE ρ vs)) fun r => ret (acc ++ r)) R
  refine ⟨fun i m H => m = xs.length - i ∧ i ≤ xs.length ∧ Iv i H, ⟨_, rfl, Nat.zero_le _, g1.put D (.lst []), [], [], rfl, Stp.put hD, sr1.put hD, ((se.step sr st1).wipe vs).step sr1 (Stp.put hD), ⟨upd_same, rfl, fun z => ?_, fun z => ?_⟩, Nat.le_refl _, ?_⟩, ?_⟩
  · obtain ⟨y, e⟩ := sr1.fd D z; rw [hD] at e; cases e
  · obtain ⟨y, e⟩ := sr1.dom D z; rw [hD] at e; cases e
  · have e9 : (bd (cl gs t c e (xs.drop 0) (wipeE ρ vs)) fun r => ret ([] ++ r)) = cl gs t c e xs (wipeE ρ vs) := by
      funext S
      simp only [bd, List.drop_zero, List.nil_append]
      cases cl gs t c e xs (wipeE ρ vs) S <;> rfl
    rw [e9]
    exact h2
  rintro i m H2 ⟨rfl, hi, g2, acc, us, rfl, st2, sr2, se2, A2, hacc, h3⟩
  by_cases hlt : i < xs.length
  · have ed : xs.drop i = xs[i] :: xs.drop (i + 1) := List.drop_eq_getElem_cons hlt
    rw [ed] at h3
    simp only [cl, turnC, bd_assoc] at h3
    obtain ⟨hc, h4⟩ := chk_run h3
    obtain ⟨hgo, hy⟩ := (hJ i g2 st2 sr2 hc).1 xs[i] (List.getElem?_eq_getElem hlt)
    refine .inr ⟨hgo, fun H' => ∃ m', m' < xs.length - i ∧ (m' = xs.length - (i + 1) ∧ i + 1 ≤ xs.length ∧ Iv (i + 1) H'), fun H' h => h, fun x H' hx => ?_⟩
    obtain ⟨g3, eS, st3, sr3, rfl, rp⟩ := hy x H' hx
    rw [← eS] at h4
    have st13 := st2.trans st3
    refine ⟨wipeE ρ vs, g3, g3, .val xs[i], rfl, Stp.refl g3, sr3, se2.step sr2 st3, rp, (h4.bd st13).mono fun ρ4 g4 st4 sr4 h5 σ4 se4 of4 => ?_⟩
    have st14 := st13.trans st4
    have st24 := st3.trans st4
    refine ⟨wipe_off hs of4, ?_⟩
    -- behind the test
    have key : ∀ (k : Bool) (g5 : G), Stp g4 g5 → SRc K g5 → SRe K g5 ρ4 σ4 → WG K (WA W0) g1 g5.S (bd (if k then bd (e ρ4) fun r => bd (force r) fun p => ret (some p) else ret none) fun o => bd (bd (cl gs t c e (xs.drop (i + 1)) (wipeE ρ vs)) fun r => ret (match o with | some p => p :: r | none => r)) fun r => ret (acc ++ r)) R →
        (if k = true then tD K W0 e σ4 g5.H fun y H4 => ∃ acc, H4 D = some (.lst acc) ∧ acc.length < sizeLine ∧ ∃ m', m' < xs.length - i ∧ (m' = xs.length - (i + 1) ∧ i + 1 ≤ xs.length ∧ Iv (i + 1) (upd H4 D (.lst (acc ++ [y])))) else ∃ m', m' < xs.length - i ∧ (m' = xs.length - (i + 1) ∧ i + 1 ≤ xs.length ∧ Iv (i + 1) g5.H)) := fun k g5 st5 sr5 se5 h6 => by
      have st25 := st24.trans st5
      have A5 := A2.step sr2 st25
      cases k with
      | false =>
        simp only [Bool.false_eq_true, if_false] at h6 ⊢
        refine ⟨_, by omega, rfl, hlt, g5, acc, us, rfl, st14.trans st5, sr5, se2.step sr2 st25, A5, by omega, ?_⟩
        have h7 := WG.run rfl h6
        simp only [bd_assoc] at h7 ⊢
        exact h7
      | true =>
        simp only [if_true, bd_assoc] at h6 ⊢
        refine tD.st (st14.trans st5) sr5 se5 h6 fun r g6 v st6 st16 sr6 se6 hv h7 => ?_
        have hv5 := hv
        have hv := hv.from (st14.trans st5)
        obtain ⟨p, g7, e7, st7, sr7, r7, k7, a7, f7, h8⟩ := force_ok st16 sr6 hv.rf h7
        have A6 := A5.step sr5 st6
        have A7 : Acc K g7 D acc us := ⟨by rw [e7]; exact A6.at_, RpL.keep k7 _ _ A6.is, fun z => ?_, by rw [a7]; exact A6.nA⟩
        · obtain ⟨k8, st8, sr8, A8⟩ := A7.push (g' := g7) st7 hD sr7 r7
          refine ⟨us, by rw [← e7]; exact A7.at_, by rw [← A7.is.len]; omega, _, by omega, rfl, hlt, g7.put D (.lst (us ++ [v])), acc ++ [p], us ++ [v], by rw [← e7], st8, sr8, ?_, A8, by rw [List.length_append]; simp; omega, ?_⟩
          · have se7 := se2.step sr2 (st25.trans st6)
            refine ⟨se7.1, fun j sv ej => ?_⟩
            obtain ⟨w, e8, r8⟩ := se7.2 j sv ej
            refine ⟨w, e8, ?_⟩
            cases sv with
            | val q => exact Rp.keep k8 _ _ (Rp.keep k7 _ _ r8)
            | ref n => obtain ⟨b, e9, r9⟩ := r8; exact ⟨b, e9, by show g7.A[n]? = _; rw [a7]; exact r9⟩
          · have h9 := WG.run rfl h8
            simp only [bd_assoc, List.append_assoc] at h9 ⊢
            exact h9
        · rcases f7 D z with z | ⟨z, z2⟩
          · exact A6.nf z
          · cases r with
            | val q => exact z2 q rfl
            | own q =>
              obtain ⟨a, e9, _, _, _, z3⟩ := hv5
              rw [z] at e9; cases e9
              rw [A5.at_] at z3; cases z3
            | ref n =>
              obtain ⟨a, e9, z3⟩ := hv
              rw [z] at e9; cases e9
              exact A6.nA (List.mem_of_getElem? z3)
    cases c with
    | none =>
      have h6 := WG.run rfl h5
      exact key true g4 (Stp.refl g4) sr4 se4 (by simp only [bd_assoc] at h6 ⊢; exact h6)
    | some d =>
      rw [tCo_some]
      refine tT.st st14 sr4 se4 h5 fun k g5 st5 st15 sr5 se5 h6 => ?_
      exact key k g5 st5 sr5 se5 (by simp only [bd_assoc] at h6 ⊢; exact h6)
  · have e1 : i = xs.length := by omega
    subst e1
    rw [List.drop_length] at h3
    simp only [cl, bd_assoc] at h3
    obtain ⟨hc, h4⟩ := chk_run h3
    have h5 := WG.run (S' := g2.S) (a := []) rfl h4
    rw [List.append_nil] at h5
    have h6 : R acc g2 := h5.ret rfl st2 sr2
    have h7 := h6.ret rfl (st1.trans st2) sr2
    exact .inl ⟨(hJ _ g2 st2 sr2 hc).2 rfl, h7 (.ref D) ⟨D, rfl, ⟨us, A2.at_, A2.is⟩, A2.nf, A2.nA, st1.absent hD⟩⟩
end
end Pf
end
section
set_option Elab.async false
set_option linter.all false
set_option maxHeartbeats 1000000
set_option autoImplicit false
namespace Pf
open PySem PySem.Spec L2 PyProof.Rows
/-! list comprehensions as rules -/
section
variable {X : Cx} {W : WS}
theorem pe_dcomp {elt tg iter : Expr} {ifs : List Expr} {scope : Scope} {own : List (Str × Nat)} {pos : Pos} {it : ItD} {t : TgD} {c : Option Den} {e : Den} {is : List Nat} (hc : X.calm = true) (hN : X.N.Nodup) (hi : PI X tg iter (tI X.K W it)) (ok : blkC X.N X.env.scope scope own = true)
    (hg : ∀ (s : Shared) (H : Hp) (C : Addr) (cl : List (Str × Addr)) (fp : List Addr), PG (X.blk s H scope (compEnvC scope cl C X.env) fp) tg (tG X.K W0 is t)) (ht : ∀ (s : Shared) (H : Hp) (C : Addr) (cl : List (Str × Addr)) (fp : List Addr), PTs (X.blk s H scope (compEnvC scope cl C X.env) fp) ifs (tCo X.K c))
    (he : ∀ (s : Shared) (H : Hp) (C : Addr) (cl : List (Str × Addr)) (fp : List Addr), PE (X.blk s H scope (compEnvC scope cl C X.env) fp) elt (tD X.K W0 e)) (hs : ∀ x, foldedSetIterable iter X.env x = pure x) (hv : is.all (fun i => (own.map (·.2)).contains i) = true) :
    PE X (.ListComp elt [⟨tg, iter, ifs, 0⟩] scope pos) (tD X.K W (dComp it t c e (own.map (·.2)))) :=
  peW (pe_lc hc hN hi (blkOk_by ok) hg ht he hs) fun σ H Q h => tLc_of (fun i hi => by simpa using List.all_eq_true.mp hv i hi) h
theorem ps_dsetLc {i : Nat} {y : Str} {py : Pos} {mu : Bool} {elt tg iter : Expr} {ifs : List Expr} {scope : Scope} {own : List (Str × Nat)} {pos spos : Pos} {it : ItD} {t : TgD} {c : Option Den} {e : Den} {is : List Nat} (hc : X.calm = true) (hN : X.N.Nodup) (hy : X.N[i]? = some y) (hyl : X.env.scope.names.lookup y = some .local)
    (hsw : swapsWith (.ListComp elt [⟨tg, iter, ifs, 0⟩] scope pos) (some (.Name y py)) spos.line X.env = pure true) (hi : PI X tg iter (tI X.K W it)) (ok : blkC X.N X.env.scope scope own = true)
    (hg : ∀ (s : Shared) (H : Hp) (C : Addr) (cl : List (Str × Addr)) (fp : List Addr), PG (X.blk s H scope (compEnvC scope cl C X.env) fp) tg (tG X.K W0 is t)) (ht : ∀ (s : Shared) (H : Hp) (C : Addr) (cl : List (Str × Addr)) (fp : List Addr), PTs (X.blk s H scope (compEnvC scope cl C X.env) fp) ifs (tCo X.K c))
    (he : ∀ (s : Shared) (H : Hp) (C : Addr) (cl : List (Str × Addr)) (fp : List Addr), PE (X.blk s H scope (compEnvC scope cl C X.env) fp) elt (tD X.K W0 e)) (hs : ∀ x, foldedSetIterable iter X.env x = pure x) (hv : is.all (fun i => (own.map (·.2)).contains i) = true) :
    PS X (.Assign [.Name y py] (.ListComp elt [⟨tg, iter, ifs, 0⟩] scope pos) spos) (tS X.K W (dsAsg (tgName i mu) (dComp it t c e (own.map (·.2))))) :=
  psW (ps_setLc hc hN hy hyl hsw hi (blkOk_by ok) hg ht he hs) fun D σ H ⟨ρ, g, eH, sr, se, h⟩ => by
    subst eH
    have hw : tD X.K W (dComp it t c e (own.map (·.2))) σ g.H fun v H1 => gName i v σ H1 D.nx := by
      refine tD.st (Stp.refl g) sr se h fun r g1 v st _ sr1 se1 hv h1 => ?_
      unfold tgName at h1
      rw [bd_assoc] at h1
      obtain ⟨sv, g2, e2, st2, sr2, r2, k2, _, h2⟩ := bindV_ok st sr1 hv h1
      have se2 : SRe X.K g2 ρ σ := ⟨se1.1, fun i sv e => let ⟨v, h1, h2⟩ := se1.2 i sv e; ⟨v, h1, k2 _ _ h2⟩⟩
      have h3 := WG.run (S' := g2.S) (a := ρ.set i (some sv)) rfl h2
      have h4 : D.nx _ g2.H := h3.ret rfl st2 sr2 _ (se2.set (i := i) r2)
      rw [e2] at h4
      exact h4
    exact tLc_of (fun i hi => by simpa using List.all_eq_true.mp hv i hi) hw
end
/-! what is walked -/
inductive Kd where
  | lst
  | tup
def SqX (k : Kd) (K : Frag) (H : Hp) (a : Addr) (xs : List V) : Prop := match k with
  | .lst => SqL K H a xs
  | .tup => SqT K H a xs
def IsX (k : Kd) (h : Heap) (a : Addr) (its : Array Value) : Prop := match k with
  | .lst => h.IsList a its
  | .tup => h.IsTuple a its
def ItrX (k : Kd) (h : Heap) (it a : Addr) (i : Nat) : Prop := match k with
  | .lst => h.IsListIter it a i
  | .tup => h.IsTupleIter it a i
def objX (k : Kd) (a : Addr) : Obj := match k with
  | .lst => { cls := .type "list_iterator", data := .fields #[.ref a, .int 0 0] }
  | .tup => { cls := .type "tuple_iterator", data := .fields #[.ref a, .int 0 0] }
theorem begX (k : Kd) (a : Addr) (its : Array Value) : Begins (.ref a) (objX k a) fun h => IsX k h a its := by
  cases k with
  | lst => exact begins_list a its
  | tup => exact begins_tuple a its
theorem drawX (k : Kd) {prog : Program} {w : World} {A : Around} (hh : A.handled = none) (it l : Addr) (hne : l ≠ it) (items : Array Value) :
    Draws prog w A it [it, l] items.size (fun i v => items[i]? = some v) (fun i h => ItrX k h it l i ∧ IsX k h l items) := by
  cases k with
  | lst => exact Draws.list hh it l hne items
  | tup => exact Draws.tuple hh it l hne items
theorem ItrX.obj {k : Kd} {h : Heap} {it a : Addr} {i : Nat} (st : ItrX k h it a i) : ∃ o, h.get? it = some o ∧ ∀ v, o.data ≠ .cell v := by
  cases k with
  | lst => obtain ⟨o, e, c, d⟩ := st; exact ⟨o, e, fun v z => by rw [d] at z; cases z⟩
  | tup => obtain ⟨o, e, c, d⟩ := st; exact ⟨o, e, fun v z => by rw [d] at z; cases z⟩
theorem ItrX.at {k : Kd} {h h' : Heap} {it a : Addr} {i : Nat} (st : ItrX k h it a i) (e : ∀ o, h.get? it = some o → h'.get? it = some o) : ItrX k h' it a i := by
  cases k with
  | lst => exact Heap.IsListIter.at st e
  | tup => exact Heap.IsTupleIter.at st e
theorem ItrX.new {k : Kd} {h : Heap} {it a : Addr} (e : h.get? it = some (objX k a)) : ItrX k h it a 0 := by
  cases k with
  | lst => exact ⟨_, e, rfl, rfl⟩
  | tup => exact ⟨_, e, rfl, rfl⟩
section
variable {X : Cx} {pins : List (Addr × Obj)} {σ : L2.St} {H : Hp} {s : Shared}
theorem SqX.get {k : Kd} {a : Addr} {xs : List V} (I : Inv X pins σ H s) (h : SqX k X.K H a xs) : ∃ its : List Value, Vals xs its ∧ IsX k s.heap a its.toArray ∧ a < s.heap.objs.size := by
  cases k with
  | lst => obtain ⟨its, rv, p, hz⟩ := I.list h; exact ⟨its, rv, p.isList, p.lt⟩
  | tup =>
    obtain ⟨its, rv, p, hz⟩ := I.tuple h
    obtain ⟨o1, ho1, _⟩ := id p
    exact ⟨its, rv, (show s.heap.IsTuple a its.toArray from p), Heap.lt_size ho1⟩
theorem SqX.inj {k : Kd} {a : Addr} {xs ys : List V} (I : Inv X pins σ H s) (h : SqX k X.K H a xs) (h' : SqX k X.K H a ys) : xs = ys := by
  cases k with
  | lst => exact I.list_inj h h'
  | tup => exact I.tuple_inj h h'
end
/-! enumerate -/
def ItE (k : Kd) (K : Frag) (a : Addr) : It :=
  ⟨fun i H => ∃ (xs : List V) (x : V), SqX k K H a xs ∧ xs[i]? = some x, fun i H v H' => ∃ T x, v = .ref T ∧ H T = none ∧ H' = upd H T (.tup [.int (i : Nat), x]) ∧ ∀ xs, SqX k K H a xs → xs[i]? = some x, fun i H => ∃ xs : List V, SqX k K H a xs ∧ xs.length = i⟩
theorem turn_enumX {P : Program} {w : World} {K : Frag} {elts : List Expr} {kk : Nat} {tpos : Pos} (k : Kd) (a e it : Addr) (hne : e ≠ it) (hai : a ≠ it) (hae : a ≠ e) :
    Turn P w K (.Tuple elts kk tpos) (ItE k K a) [e, it] e (fun i h => (∃ old, IsEnum h e it ((i : Nat) : Int) old) ∧ ItrX k h it a i) where
  mem := by simp
  obj := fun i h st b hb => by
    obtain ⟨⟨old, he⟩, hi⟩ := st
    have e' : b = e ∨ b = it := by simpa using hb
    rcases e' with z | z
    · rw [z]; exact ⟨_, he, fun v q => nomatch q⟩
    · rw [z]; exact hi.obj
  keep := fun i h h' st k => let ⟨⟨old, he⟩, hi⟩ := st; ⟨⟨old, k e (by simp) _ he⟩, hi.at fun o q => k it (by simp) o q⟩
  item := by
    intro X hP hw hK hc i pins s σ H E I hf st hg
    subst hP hw hK
    obtain ⟨⟨old, he⟩, hit⟩ := st
    obtain ⟨xs, x, hq, hx⟩ := hg
    obtain ⟨its, rv, p, hz⟩ := SqX.get I hq
    have hel : e < s.heap.objs.size := Heap.lt_size he
    have hil : it < s.heap.objs.size := by obtain ⟨_, q, _⟩ := hit.obj; exact Heap.lt_size q
    have hh : X.A.in1.handled = none := I.ok.hd hc
    have hlt : i < its.toArray.size := by
      have := (List.getElem?_eq_some_iff.mp hx).1
      have := rv.length
      simp only [List.size_toArray]; omega
    refine wpAny_pyNext_enum_itemD (drawX k hh it a hai its.toArray) he ⟨hit, p⟩ hlt hne (by simp [hne, Ne.symm hae]) fun u h' tk hu ho hit' hT hsz hk => ?_
    obtain ⟨u', hu', ru⟩ := rv.get hx
    have eu : u' = u := by
      have : its.toArray[i]? = some u' := by simpa using hu'
      rw [hu] at this; cases this; rfl
    subst eu
    refine ⟨_, rfl, wpAny_letOwnedTupleGo_enum (s := { s with heap := h', toks := tk + 1 }) ho fun h'' he' sb => ?_⟩
    have hT2 : h''.get? s.heap.objs.size = some { cls := .type "tuple", data := .seq #[.int i tk, u'] } := (sb.2 _ (Nat.ne_of_gt hel)).trans hT
    have new : ObjOk X.prog X.w (upd H s.heap.objs.size (.tup [.int (i : Nat), x])) h'' s.heap.objs.size (.tup [.int (i : Nat), x]) :=
      ⟨by show 2 ≤ sizeLine; decide, [.int i tk, u'], .cons ⟨_, rfl⟩ (.cons ru .nil), ⟨_, hT2, rfl, _, rfl⟩⟩
    have I1 : Inv X pins σ (upd H s.heap.objs.size (.tup [.int (i : Nat), x])) { s with heap := h'', toks := tk + 1 } :=
      I.turnedNew (ch := [e, it]) (fun b ob hb q => (sb.2 b (fun z => hb (by simp [z]))).trans (hk b ob (fun z => hb (by simp [z])) (fun z => hb (by simp [z])) q)) hf (Nat.le_refl _) new
    refine ⟨.ref s.heap.objs.size, _, I1, rfl, ⟨_, x, rfl, I.hok.fresh (Nat.le_refl _), rfl, fun ys hy => by rw [SqX.inj I hy hq]; exact hx⟩, ⟨⟨u', ?_⟩, hit'.1.at fun o q => (sb.2 it (Ne.symm hne)).trans q⟩, fun b hb => ?_⟩
    · have e1 : ((i + 1 : Nat) : Int) = (i : Int) + 1 := by omega
      rw [e1]; exact he'
    · have hb' : b < s.heap.objs.size := by
        have e' : b = e ∨ b = it := by simpa using hb
        rcases e' with z | z
        · rw [z]; exact hel
        · rw [z]; exact hil
      rw [upd_ne (Nat.ne_of_lt hb')]
      exact (hf b hb).1
  done := by
    intro X hP hw hK hc i pins s σ H E I hf st hg
    subst hP hw hK
    obtain ⟨⟨old, he⟩, hit⟩ := st
    obtain ⟨xs, hq, hx⟩ := hg
    obtain ⟨its, rv, p, hz⟩ := SqX.get I hq
    obtain ⟨f0, f1, f2, f3, f4, f5⟩ := hf it (by simp)
    have hh : X.A.in1.handled = none := I.ok.hd hc
    have hn : its.toArray.size = i := by
      have := rv.length
      simp only [List.size_toArray]; omega
    exact wpAny_pyNext_enum_endD (drawX k hh it a hai its.toArray) he (by rw [hn]; exact ⟨hit, p⟩) fun h' eb => ⟨rfl, I.turned (t' := s.toks) (fun b o hb q => eb b o hb q) f0 f1 f3 f4 f5⟩
  self := fun A i s Q E st h => let ⟨⟨_, he⟩, _⟩ := st; wpAny_pyIter_enum he h
set_option maxHeartbeats 4000000 in
theorem meets_enum1 {v : Value} {o : Obj} {H : Heap → Prop} (B : Begins v o H) :
    Meets (Builtin.«enumerate.__new__» ⟨[.type "enumerate", v], []⟩) (fun _ R s => H s.heap ∧
      R (.ok (.ret (.ref (s.heap.push o).objs.size))) { s with heap := (s.heap.push o).push { cls := .type "enumerate", data := .fields #[.none, .bool false, .ref s.heap.objs.size, rawInt 0, .none, .none] } }) :=
  .of_wp fun prog w A R s h => by
    obtain ⟨hp, g, d, tk, os⟩ := s; obtain ⟨h1, h⟩ := h
    have hsub := sub_enumerate
    have q1 : ∀ {A' : Around} {E : Value → Shared → Prop} {Q : Value → Shared → Prop}, Q (.ref hp.objs.size) ⟨hp.push o, g, d, tk, os⟩ → wpAny (model prog w) A' (pyIter v) Q E ⟨hp, g, d, tk, os⟩ :=
      fun q => B.iter prog w _ _ ⟨hp, g, d, tk, os⟩ _ h1 q
    wp_walk using q1
    refine wpAny_stack_any fun st => wpAny_pure ?_
    split
    · rename_i c _ _ _ _ _
      cases (c == Value.type "enumerate")
      · wp_walk using q1
        exact ⟨_, rfl, h⟩
      · wp_walk using q1
        exact ⟨_, rfl, h⟩
    · wp_walk using q1
      exact ⟨_, rfl, h⟩
theorem enum1_begins {prog : Program} {w : World} {A : Around} {E : Value → Shared → Prop} {s : Shared} {v : Value} {o : Obj} {H : Heap → Prop} {Q : Value → Shared → Prop} (B : Begins v o H) (h1 : H s.heap)
    (h : ∀ h', IsEnum h' (s.heap.objs.size + 1) s.heap.objs.size 0 .none → h'.get? s.heap.objs.size = some o → h'.objs.size = s.heap.objs.size + 2 →
      (∀ b o, s.heap.get? b = some o → h'.get? b = some o) → Q (.ref (s.heap.objs.size + 1)) { s with heap := h' }) :
    wpAny (model prog w) A (call (.type "enumerate") [v]) Q E s := by
  refine callType_new F.called_enumerate (by decide) (F.typeCall_enumerate_1 _) (F.newCall_enumerate_1 _) (fun obj => F.args_object_init_2 obj _) F.entry_enumerate_new
    (meets_enum1 B) ⟨h1, ?_⟩
  have hz : (s.heap.push o).objs.size = s.heap.objs.size + 1 := Heap.size_push ..
  show _ ∧ _
  rw [hz]
  have he : IsEnum ((s.heap.push o).push { cls := .type "enumerate", data := .fields #[.none, .bool false, .ref s.heap.objs.size, rawInt 0, .none, .none] }) (s.heap.objs.size + 1) s.heap.objs.size 0 .none := by
    have := Heap.get?_push_size (s.heap.push o) (o := { cls := .type "enumerate", data := .fields #[.none, .bool false, .ref s.heap.objs.size, rawInt 0, .none, .none] }) rfl
    rw [hz] at this; exact this
  exact ⟨⟨_, he, rfl⟩, h _ he (Heap.get?_push_of_some _ (Heap.get?_push_size _ B.free)) (by rw [Heap.size_push, hz]) fun b o x => Heap.get?_push_of_some _ (Heap.get?_push_of_some _ x)⟩
def iEnumX (K : Frag) (ta : TA) : TI := fun σ H R => ta σ H fun vs H1 => ∃ k a xs, vs = [.ref a] ∧ SqX k K H1 a xs ∧ R (ItE k K a) H1
theorem pi_enumX {X : Cx} {e : Expr} {ta : TA} {p pos tpos : Pos} {elts : List Expr} {kk : Nat} (hg : Gl X "enumerate") (hm : X.mg "enumerate" = none) (ha : PA X [e] ta) (hs : starEach [e] X.env = [(false, eval e X.env)] := by rfl) :
    PI X (.Tuple elts kk tpos) (.Call (.Name "enumerate" p) [e] [] pos) (iEnumX X.K ta) := by
  refine ⟨fun pins s σ H R I h => ?_⟩
  refine Call_ (ld_blt I hg hm boot_enumerate (PyProof.Rows.callWith_type1 (thn (ha.run pos pins s σ H _ I h) fun us s1 ⟨vs, H1, I1, r1, q1⟩ => ?_) hs rfl))
  obtain ⟨k, a, xs, ex, hq, q⟩ := q1
  subst ex
  cases r1 with
  | cons r rr =>
    cases rr
    cases r
    obtain ⟨its, rv, p', hz⟩ := SqX.get I1 hq
    refine enum1_begins (begX k a its.toArray) p' fun h' he hit hsz hk => wpAny_pyIter_enum he ?_
    have I2 : Inv X pins σ H1 { s1 with heap := h' } := I1.kept (t' := s1.toks) hk
    refine ⟨s1.heap.objs.size + 1, [s1.heap.objs.size + 1, s1.heap.objs.size], _, _, H1, rfl, I2, turn_enumX k a (s1.heap.objs.size + 1) s1.heap.objs.size (Nat.succ_ne_self _) (Nat.ne_of_lt hz) (Nat.ne_of_lt (Nat.lt_succ_of_lt hz)), ⟨⟨.none, he⟩, ItrX.new hit⟩, fun b hb => ?_, q⟩
    have e' : b = s1.heap.objs.size + 1 ∨ b = s1.heap.objs.size := by simpa using hb
    have hle : s1.heap.objs.size ≤ b := by
      rcases e' with z | z
      · rw [z]; exact Nat.le_add_right _ _
      · rw [z]; exact Nat.le_refl _
    exact I1.fpOk hle (I1.hok.fresh hle)
end Pf
end
section
set_option Elab.async false
set_option linter.all false
set_option maxHeartbeats 4000000
set_option autoImplicit false
namespace Pf
open PySem PySem.Spec L2 PyProof.Rows
/-! zip of 2 -/
def ItZ2 (k1 : Kd) (k2 : Kd) (K : Frag) (a1 a2 : Addr) : It :=
  ⟨fun i H => ∃ (xs1 xs2 : List V) (x1 x2 : V), SqX k1 K H a1 xs1 ∧ SqX k2 K H a2 xs2 ∧ xs1[i]? = some x1 ∧ xs2[i]? = some x2,
    fun i H v H' => ∃ T x1 x2, v = .ref T ∧ H T = none ∧ H' = upd H T (.tup [x1, x2]) ∧ (∀ xs, SqX k1 K H a1 xs → xs[i]? = some x1) ∧ (∀ xs, SqX k2 K H a2 xs → xs[i]? = some x2),
    fun i H => ∃ (xs1 xs2 : List V), SqX k1 K H a1 xs1 ∧ SqX k2 K H a2 xs2 ∧ i ≤ xs1.length ∧ i ≤ xs2.length ∧ (i = xs1.length ∨ i = xs2.length)⟩
structure ZAp2 (z TI TO i1 i2 a1 a2 : Nat) : Prop where
  TIz : TI ≠ z
  TOz : TO ≠ z
  TITO : TI ≠ TO
  TIi1 : TI ≠ i1
  zi1 : z ≠ i1
  Ti1 : TO ≠ i1
  za1 : z ≠ a1
  Ta1 : TO ≠ a1
  ia1 : a1 ≠ i1
  ii12 : i1 ≠ i2
  ai12 : i1 ≠ a2
  TIi2 : TI ≠ i2
  zi2 : z ≠ i2
  Ti2 : TO ≠ i2
  za2 : z ≠ a2
  Ta2 : TO ≠ a2
  ia2 : a2 ≠ i2
  ii21 : i2 ≠ i1
  ai21 : i2 ≠ a1
theorem ZAp2.sep {z TI TO i1 i2 a1 a2 : Addr} (D : ZAp2 z TI TO i1 i2 a1 a2) : ZipSep2 z TI TO i1 i2 [i1, a1] [i2, a2] where
  TIz := D.TIz
  TOz := D.TOz
  TITO := D.TITO
  TIi1 := D.TIi1
  mem1 := by simp
  zf1 := by simp [D.zi1, D.za1]
  Tf1 := by simp [D.Ti1, D.Ta1]
  TIi2 := D.TIi2
  mem2 := by simp
  zf2 := by simp [D.zi2, D.za2]
  Tf2 := by simp [D.Ti2, D.Ta2]
  sep1_2 := by simp [D.ii12, D.ai12]
  sep2_1 := by simp [D.ii21, D.ai21]
theorem zap2 (n a1 a2 : Nat) (z1 : a1 < n) (z2 : a2 < n) : ZAp2 (n + 4) (n + 2) (n + 3) n (n + 1) a1 a2 := by constructor <;> omega
theorem turn_zipX2 {P : Program} {w : World} {K : Frag} {elts : List Expr} {kk : Nat} {tpos : Pos} {k1 k2 : Kd} {a1 a2 z TI TO i1 i2 : Addr} (D : ZAp2 z TI TO i1 i2 a1 a2) :
    Turn P w K (.Tuple elts kk tpos) (ItZ2 k1 k2 K a1 a2) [z, TI, TO, i1, i2] z (fun i h => IsZip h z TI TO .none ∧ IsTupOf2 h TI (.ref i1) (.ref i2) ∧ (∃ b1 b2, IsTupOf2 h TO b1 b2) ∧ ItrX k1 h i1 a1 i ∧ ItrX k2 h i2 a2 i) where
  mem := by simp
  obj := fun i h st c hc => by
    obtain ⟨hz, hTI, ⟨b1, b2, hTO⟩, h1, h2⟩ := st
    have e' : c = z ∨ c = TI ∨ c = TO ∨ c = i1 ∨ c = i2 := by simpa using hc
    rcases e' with q | q | q | q | q
    · rw [q]; exact ⟨_, hz, fun v q => nomatch q⟩
    · rw [q]; exact ⟨_, hTI, fun v q => nomatch q⟩
    · rw [q]; exact ⟨_, hTO, fun v q => nomatch q⟩
    · rw [q]; exact h1.obj
    · rw [q]; exact h2.obj
  keep := fun i h h' st k => by
    obtain ⟨hz, hTI, ⟨b1, b2, hTO⟩, h1, h2⟩ := st
    exact ⟨k z (by simp) _ hz, k TI (by simp) _ hTI, ⟨b1, b2, k TO (by simp) _ hTO⟩, h1.at fun o q => k i1 (by simp) o q, h2.at fun o q => k i2 (by simp) o q⟩
  item := by
    intro X hP hw hK hc i pins s σ H E I hf st hg
    subst hP hw hK
    obtain ⟨hz, hTI, ⟨b1, b2, hTO⟩, h1, h2⟩ := st
    have hh : X.A.in1.handled = none := I.ok.hd hc
    obtain ⟨xs1, xs2, x1, x2, hq1, hq2, hx1, hx2⟩ := hg
    obtain ⟨its1, rv1, p1, _⟩ := SqX.get I hq1
    obtain ⟨u1, hu1, ru1⟩ := rv1.get hx1
    have lt1 : i < its1.toArray.size := by
      have := (List.getElem?_eq_some_iff.mp hu1).1
      simpa using this
    obtain ⟨its2, rv2, p2, _⟩ := SqX.get I hq2
    obtain ⟨u2, hu2, ru2⟩ := rv2.get hx2
    have lt2 : i < its2.toArray.size := by
      have := (List.getElem?_eq_some_iff.mp hu2).1
      simpa using this
    have hzl : z < s.heap.objs.size := Heap.lt_size hz
    refine wpAny_pyNext_zipD2_item D.sep (drawX k1 hh i1 a1 D.ia1 its1.toArray) (drawX k2 hh i2 a2 D.ia2 its2.toArray) hz hTI hTO ⟨h1, p1⟩ ⟨h2, p2⟩ lt1 lt2 fun w1 w2 h' tk pw1 pw2 z' TO' sw1 sw2 hT hsz hk => ?_
    have ew1 : u1 = w1 := by
      have q : its1.toArray[i]? = some u1 := by simpa using hu1
      rw [pw1] at q; cases q; rfl
    subst ew1
    have ew2 : u2 = w2 := by
      have q : its2.toArray[i]? = some u2 := by simpa using hu2
      rw [pw2] at q; cases q; rfl
    subst ew2
    refine ⟨_, rfl, wpAny_letOwnedTupleGo_zip (s := { s with heap := h', toks := tk }) z' fun h'' z'' sb => ?_⟩
    have hT2 : h''.get? s.heap.objs.size = some { cls := .type "tuple", data := .seq #[u1, u2] } := (sb.2 _ (Nat.ne_of_gt hzl)).trans hT
    have new : ObjOk X.prog X.w (upd H s.heap.objs.size (.tup [x1, x2])) h'' s.heap.objs.size (.tup [x1, x2]) :=
      ⟨by show 2 ≤ sizeLine; decide, [u1, u2], .cons ru1 (.cons ru2 .nil), ⟨_, hT2, rfl, _, rfl⟩⟩
    have I1 : Inv X pins σ (upd H s.heap.objs.size (.tup [x1, x2])) { s with heap := h'', toks := tk } :=
      I.turnedNew (t' := tk) (ch := [z, TI, TO, i1, i2]) (fun c o hb q => (sb.2 c (fun q' => hb (by simp [q']))).trans (hk c o (fun q' => hb (by simp [q'])) (fun q' => hb (by simp [q'])) (fun q' => hb (by simp [q'])) (fun q' => hb (by simp [q'])) q)) hf (Nat.le_refl _) new
    refine ⟨.ref s.heap.objs.size, _, I1, rfl, ⟨_, x1, x2, rfl, I.hok.fresh (Nat.le_refl _), rfl, fun l hl => by rw [SqX.inj I hl hq1]; exact hx1, fun l hl => by rw [SqX.inj I hl hq2]; exact hx2⟩, ⟨z'', ?_, ⟨u1, u2, ?_⟩, ?_, ?_⟩, fun c hcm => ?_⟩
    · exact (sb.2 _ D.TIz).trans (hk _ _ D.TIz D.TITO D.TIi1 D.TIi2 hTI)
    · exact (sb.2 _ D.TOz).trans TO'
    · exact sw1.1.at fun o q => (sb.2 _ (Ne.symm D.zi1)).trans q
    · exact sw2.1.at fun o q => (sb.2 _ (Ne.symm D.zi2)).trans q
    · have hlt : c < s.heap.objs.size := by
        have e' : c = z ∨ c = TI ∨ c = TO ∨ c = i1 ∨ c = i2 := by simpa using hcm
        rcases e' with q | q | q | q | q
        · rw [q]; exact hzl
        · rw [q]; exact Heap.lt_size hTI
        · rw [q]; exact Heap.lt_size hTO
        · rw [q]; obtain ⟨_, e1, _⟩ := h1.obj; exact Heap.lt_size e1
        · rw [q]; obtain ⟨_, e1, _⟩ := h2.obj; exact Heap.lt_size e1
      rw [upd_ne (Nat.ne_of_lt hlt)]
      exact (hf c hcm).1
  done := by
    intro X hP hw hK hc i pins s σ H E I hf st hg
    subst hP hw hK
    obtain ⟨hz, hTI, ⟨b1, b2, hTO⟩, h1, h2⟩ := st
    have hh : X.A.in1.handled = none := I.ok.hd hc
    obtain ⟨xs1, xs2, hq1, hq2, hl1, hl2, hend⟩ := hg
    obtain ⟨its1, rv1, p1, _⟩ := SqX.get I hq1
    have l1 := rv1.length
    obtain ⟨its2, rv2, p2, _⟩ := SqX.get I hq2
    have l2 := rv2.length
    exact wpAny_pyNext_zipD2_end D.sep (drawX k1 hh i1 a1 D.ia1 its1.toArray) (drawX k2 hh i2 a2 D.ia2 its2.toArray) hz hTI hTO ⟨h1, p1⟩ ⟨h2, p2⟩ (by simp only [List.size_toArray]; omega) (by simp only [List.size_toArray]; omega) (by simp only [List.size_toArray]; omega) fun h' tk hk => ⟨rfl, I.turnedL (t' := tk) (ch := [z, TI, TO, i1, i2]) (fun c o hb q =>
      hk c o (fun q' => hb (by simp [q'])) (fun q' => hb (by simp [q'])) (fun q' => hb (by simp [q'])) (fun q' => hb (by simp [q'])) q) hf⟩
  self := fun A i s Q E st h => wpAny_pyIter_zip st.1 h
def iZipX2 (K : Frag) (ta : TA) : TI := fun σ H R => ta σ H fun vs H1 => ∃ k1 k2 a1 a2 xs1 xs2, vs = [.ref a1, .ref a2] ∧ SqX k1 K H1 a1 xs1 ∧ SqX k2 K H1 a2 xs2 ∧ R (ItZ2 k1 k2 K a1 a2) H1
theorem pi_zipX2 {X : Cx} {e1 e2 : Expr} {ta : TA} {p pos tpos : Pos} {elts : List Expr} {kk : Nat} (hg : Gl X "zip") (hm : X.mg "zip" = none) (ha : PA X [e1, e2] ta)
    (hs : starEach [e1, e2] X.env = (false, eval e1 X.env) :: starEach [e2] X.env := by rfl) (hpl : (backTo pos (starEach [e2] X.env)).any (·.1) = false := by rfl) :
    PI X (.Tuple elts kk tpos) (.Call (.Name "zip" p) [e1, e2] [] pos) (iZipX2 X.K ta) := by
  refine ⟨fun pins s σ H R I h => ?_⟩
  refine Call_ (ld_blt I hg hm PyProof.Rows.boot_zip (PyProof.Rows.callWith_type1 (thn (ha.run pos pins s σ H _ I h) fun us s1 ⟨vs, H1, I1, r1, q1⟩ => ?_) hs hpl))
  obtain ⟨k1, k2, a1, a2, xs1, xs2, ex, hq1, hq2, q⟩ := q1
  subst ex
  cases r1 with
  | cons r1 rr1 =>
    cases rr1 with
    | cons r2 rr2 =>
      cases rr2
      cases r1
      cases r2
      obtain ⟨its1, rv1, p1, z1⟩ := SqX.get I1 hq1
      obtain ⟨its2, rv2, p2, z2⟩ := SqX.get I1 hq2
      have fresh : ∀ c, c ∈ [s1.heap.objs.size + 4, s1.heap.objs.size + 2, s1.heap.objs.size + 3, s1.heap.objs.size, s1.heap.objs.size + 1] → FpOk X pins H1 c := fun c hcm => by
        have e' : c = s1.heap.objs.size + 4 ∨ c = s1.heap.objs.size + 2 ∨ c = s1.heap.objs.size + 3 ∨ c = s1.heap.objs.size ∨ c = s1.heap.objs.size + 1 := by simpa using hcm
        have hle : s1.heap.objs.size ≤ c := by
          rcases e' with z | z | z | z | z
          · rw [z]; exact Nat.le_add_right _ _
          · rw [z]; exact Nat.le_add_right _ _
          · rw [z]; exact Nat.le_add_right _ _
          · rw [z]; exact Nat.le_refl _
          · rw [z]; exact Nat.le_add_right _ _
        exact I1.fpOk hle (I1.hok.fresh hle)
      refine zip_begins2 (begX k1 a1 its1.toArray) (begX k2 a2 its2.toArray) p1 p2 fun h' hz hTI hTO g1 g2 hsz hk => wpAny_pyIter_zip hz ?_
      have I2 : Inv X pins σ H1 { s1 with heap := h' } := I1.kept (t' := s1.toks) hk
      have D : ZAp2 (s1.heap.objs.size + 4) (s1.heap.objs.size + 2) (s1.heap.objs.size + 3) (s1.heap.objs.size) (s1.heap.objs.size + 1) a1 a2 := zap2 _ _  _ z1 z2
      exact ⟨s1.heap.objs.size + 4, [s1.heap.objs.size + 4, s1.heap.objs.size + 2, s1.heap.objs.size + 3, s1.heap.objs.size, s1.heap.objs.size + 1], _, _, H1, rfl, I2, turn_zipX2 D, ⟨hz, hTI, ⟨_, _, hTO⟩, ItrX.new g1, ItrX.new g2⟩, fresh, q⟩
/-! zip of 3 -/
def ItZ3 (k1 : Kd) (k2 : Kd) (k3 : Kd) (K : Frag) (a1 a2 a3 : Addr) : It :=
  ⟨fun i H => ∃ (xs1 xs2 xs3 : List V) (x1 x2 x3 : V), SqX k1 K H a1 xs1 ∧ SqX k2 K H a2 xs2 ∧ SqX k3 K H a3 xs3 ∧ xs1[i]? = some x1 ∧ xs2[i]? = some x2 ∧ xs3[i]? = some x3,
    fun i H v H' => ∃ T x1 x2 x3, v = .ref T ∧ H T = none ∧ H' = upd H T (.tup [x1, x2, x3]) ∧ (∀ xs, SqX k1 K H a1 xs → xs[i]? = some x1) ∧ (∀ xs, SqX k2 K H a2 xs → xs[i]? = some x2) ∧ (∀ xs, SqX k3 K H a3 xs → xs[i]? = some x3),
    fun i H => ∃ (xs1 xs2 xs3 : List V), SqX k1 K H a1 xs1 ∧ SqX k2 K H a2 xs2 ∧ SqX k3 K H a3 xs3 ∧ i ≤ xs1.length ∧ i ≤ xs2.length ∧ i ≤ xs3.length ∧ (i = xs1.length ∨ i = xs2.length ∨ i = xs3.length)⟩
structure ZAp3 (z TI TO i1 i2 i3 a1 a2 a3 : Nat) : Prop where
  TIz : TI ≠ z
  TOz : TO ≠ z
  TITO : TI ≠ TO
  TIi1 : TI ≠ i1
  zi1 : z ≠ i1
  Ti1 : TO ≠ i1
  za1 : z ≠ a1
  Ta1 : TO ≠ a1
  ia1 : a1 ≠ i1
  ii12 : i1 ≠ i2
  ai12 : i1 ≠ a2
  ii13 : i1 ≠ i3
  ai13 : i1 ≠ a3
  TIi2 : TI ≠ i2
  zi2 : z ≠ i2
  Ti2 : TO ≠ i2
  za2 : z ≠ a2
  Ta2 : TO ≠ a2
  ia2 : a2 ≠ i2
  ii21 : i2 ≠ i1
  ai21 : i2 ≠ a1
  ii23 : i2 ≠ i3
  ai23 : i2 ≠ a3
  TIi3 : TI ≠ i3
  zi3 : z ≠ i3
  Ti3 : TO ≠ i3
  za3 : z ≠ a3
  Ta3 : TO ≠ a3
  ia3 : a3 ≠ i3
  ii31 : i3 ≠ i1
  ai31 : i3 ≠ a1
  ii32 : i3 ≠ i2
  ai32 : i3 ≠ a2
theorem ZAp3.sep {z TI TO i1 i2 i3 a1 a2 a3 : Addr} (D : ZAp3 z TI TO i1 i2 i3 a1 a2 a3) : ZipSep3 z TI TO i1 i2 i3 [i1, a1] [i2, a2] [i3, a3] where
  TIz := D.TIz
  TOz := D.TOz
  TITO := D.TITO
  TIi1 := D.TIi1
  mem1 := by simp
  zf1 := by simp [D.zi1, D.za1]
  Tf1 := by simp [D.Ti1, D.Ta1]
  TIi2 := D.TIi2
  mem2 := by simp
  zf2 := by simp [D.zi2, D.za2]
  Tf2 := by simp [D.Ti2, D.Ta2]
  TIi3 := D.TIi3
  mem3 := by simp
  zf3 := by simp [D.zi3, D.za3]
  Tf3 := by simp [D.Ti3, D.Ta3]
  sep1_2 := by simp [D.ii12, D.ai12]
  sep1_3 := by simp [D.ii13, D.ai13]
  sep2_1 := by simp [D.ii21, D.ai21]
  sep2_3 := by simp [D.ii23, D.ai23]
  sep3_1 := by simp [D.ii31, D.ai31]
  sep3_2 := by simp [D.ii32, D.ai32]
theorem zap3 (n a1 a2 a3 : Nat) (z1 : a1 < n) (z2 : a2 < n) (z3 : a3 < n) : ZAp3 (n + 5) (n + 3) (n + 4) n (n + 1) (n + 2) a1 a2 a3 := by constructor <;> omega
theorem turn_zipX3 {P : Program} {w : World} {K : Frag} {elts : List Expr} {kk : Nat} {tpos : Pos} {k1 k2 k3 : Kd} {a1 a2 a3 z TI TO i1 i2 i3 : Addr} (D : ZAp3 z TI TO i1 i2 i3 a1 a2 a3) :
    Turn P w K (.Tuple elts kk tpos) (ItZ3 k1 k2 k3 K a1 a2 a3) [z, TI, TO, i1, i2, i3] z (fun i h => IsZip h z TI TO .none ∧ IsTupOf3 h TI (.ref i1) (.ref i2) (.ref i3) ∧ (∃ b1 b2 b3, IsTupOf3 h TO b1 b2 b3) ∧ ItrX k1 h i1 a1 i ∧ ItrX k2 h i2 a2 i ∧ ItrX k3 h i3 a3 i) where
  mem := by simp
  obj := fun i h st c hc => by
    obtain ⟨hz, hTI, ⟨b1, b2, b3, hTO⟩, h1, h2, h3⟩ := st
    have e' : c = z ∨ c = TI ∨ c = TO ∨ c = i1 ∨ c = i2 ∨ c = i3 := by simpa using hc
    rcases e' with q | q | q | q | q | q
    · rw [q]; exact ⟨_, hz, fun v q => nomatch q⟩
    · rw [q]; exact ⟨_, hTI, fun v q => nomatch q⟩
    · rw [q]; exact ⟨_, hTO, fun v q => nomatch q⟩
    · rw [q]; exact h1.obj
    · rw [q]; exact h2.obj
    · rw [q]; exact h3.obj
  keep := fun i h h' st k => by
    obtain ⟨hz, hTI, ⟨b1, b2, b3, hTO⟩, h1, h2, h3⟩ := st
    exact ⟨k z (by simp) _ hz, k TI (by simp) _ hTI, ⟨b1, b2, b3, k TO (by simp) _ hTO⟩, h1.at fun o q => k i1 (by simp) o q, h2.at fun o q => k i2 (by simp) o q, h3.at fun o q => k i3 (by simp) o q⟩
  item := by
    intro X hP hw hK hc i pins s σ H E I hf st hg
    subst hP hw hK
    obtain ⟨hz, hTI, ⟨b1, b2, b3, hTO⟩, h1, h2, h3⟩ := st
    have hh : X.A.in1.handled = none := I.ok.hd hc
    obtain ⟨xs1, xs2, xs3, x1, x2, x3, hq1, hq2, hq3, hx1, hx2, hx3⟩ := hg
    obtain ⟨its1, rv1, p1, _⟩ := SqX.get I hq1
    obtain ⟨u1, hu1, ru1⟩ := rv1.get hx1
    have lt1 : i < its1.toArray.size := by
      have := (List.getElem?_eq_some_iff.mp hu1).1
      simpa using this
    obtain ⟨its2, rv2, p2, _⟩ := SqX.get I hq2
    obtain ⟨u2, hu2, ru2⟩ := rv2.get hx2
    have lt2 : i < its2.toArray.size := by
      have := (List.getElem?_eq_some_iff.mp hu2).1
      simpa using this
    obtain ⟨its3, rv3, p3, _⟩ := SqX.get I hq3
    obtain ⟨u3, hu3, ru3⟩ := rv3.get hx3
    have lt3 : i < its3.toArray.size := by
      have := (List.getElem?_eq_some_iff.mp hu3).1
      simpa using this
    have hzl : z < s.heap.objs.size := Heap.lt_size hz
    refine wpAny_pyNext_zipD3_item D.sep (drawX k1 hh i1 a1 D.ia1 its1.toArray) (drawX k2 hh i2 a2 D.ia2 its2.toArray) (drawX k3 hh i3 a3 D.ia3 its3.toArray) hz hTI hTO ⟨h1, p1⟩ ⟨h2, p2⟩ ⟨h3, p3⟩ lt1 lt2 lt3 fun w1 w2 w3 h' tk pw1 pw2 pw3 z' TO' sw1 sw2 sw3 hT hsz hk => ?_
    have ew1 : u1 = w1 := by
      have q : its1.toArray[i]? = some u1 := by simpa using hu1
      rw [pw1] at q; cases q; rfl
    subst ew1
    have ew2 : u2 = w2 := by
      have q : its2.toArray[i]? = some u2 := by simpa using hu2
      rw [pw2] at q; cases q; rfl
    subst ew2
    have ew3 : u3 = w3 := by
      have q : its3.toArray[i]? = some u3 := by simpa using hu3
      rw [pw3] at q; cases q; rfl
    subst ew3
    refine ⟨_, rfl, wpAny_letOwnedTupleGo_zip (s := { s with heap := h', toks := tk }) z' fun h'' z'' sb => ?_⟩
    have hT2 : h''.get? s.heap.objs.size = some { cls := .type "tuple", data := .seq #[u1, u2, u3] } := (sb.2 _ (Nat.ne_of_gt hzl)).trans hT
    have new : ObjOk X.prog X.w (upd H s.heap.objs.size (.tup [x1, x2, x3])) h'' s.heap.objs.size (.tup [x1, x2, x3]) :=
      ⟨by show 3 ≤ sizeLine; decide, [u1, u2, u3], .cons ru1 (.cons ru2 (.cons ru3 .nil)), ⟨_, hT2, rfl, _, rfl⟩⟩
    have I1 : Inv X pins σ (upd H s.heap.objs.size (.tup [x1, x2, x3])) { s with heap := h'', toks := tk } :=
      I.turnedNew (t' := tk) (ch := [z, TI, TO, i1, i2, i3]) (fun c o hb q => (sb.2 c (fun q' => hb (by simp [q']))).trans (hk c o (fun q' => hb (by simp [q'])) (fun q' => hb (by simp [q'])) (fun q' => hb (by simp [q'])) (fun q' => hb (by simp [q'])) (fun q' => hb (by simp [q'])) q)) hf (Nat.le_refl _) new
    refine ⟨.ref s.heap.objs.size, _, I1, rfl, ⟨_, x1, x2, x3, rfl, I.hok.fresh (Nat.le_refl _), rfl, fun l hl => by rw [SqX.inj I hl hq1]; exact hx1, fun l hl => by rw [SqX.inj I hl hq2]; exact hx2, fun l hl => by rw [SqX.inj I hl hq3]; exact hx3⟩, ⟨z'', ?_, ⟨u1, u2, u3, ?_⟩, ?_, ?_, ?_⟩, fun c hcm => ?_⟩
    · exact (sb.2 _ D.TIz).trans (hk _ _ D.TIz D.TITO D.TIi1 D.TIi2 D.TIi3 hTI)
    · exact (sb.2 _ D.TOz).trans TO'
    · exact sw1.1.at fun o q => (sb.2 _ (Ne.symm D.zi1)).trans q
    · exact sw2.1.at fun o q => (sb.2 _ (Ne.symm D.zi2)).trans q
    · exact sw3.1.at fun o q => (sb.2 _ (Ne.symm D.zi3)).trans q
    · have hlt : c < s.heap.objs.size := by
        have e' : c = z ∨ c = TI ∨ c = TO ∨ c = i1 ∨ c = i2 ∨ c = i3 := by simpa using hcm
        rcases e' with q | q | q | q | q | q
        · rw [q]; exact hzl
        · rw [q]; exact Heap.lt_size hTI
        · rw [q]; exact Heap.lt_size hTO
        · rw [q]; obtain ⟨_, e1, _⟩ := h1.obj; exact Heap.lt_size e1
        · rw [q]; obtain ⟨_, e1, _⟩ := h2.obj; exact Heap.lt_size e1
        · rw [q]; obtain ⟨_, e1, _⟩ := h3.obj; exact Heap.lt_size e1
      rw [upd_ne (Nat.ne_of_lt hlt)]
      exact (hf c hcm).1
  done := by
    intro X hP hw hK hc i pins s σ H E I hf st hg
    subst hP hw hK
    obtain ⟨hz, hTI, ⟨b1, b2, b3, hTO⟩, h1, h2, h3⟩ := st
    have hh : X.A.in1.handled = none := I.ok.hd hc
    obtain ⟨xs1, xs2, xs3, hq1, hq2, hq3, hl1, hl2, hl3, hend⟩ := hg
    obtain ⟨its1, rv1, p1, _⟩ := SqX.get I hq1
    have l1 := rv1.length
    obtain ⟨its2, rv2, p2, _⟩ := SqX.get I hq2
    have l2 := rv2.length
    obtain ⟨its3, rv3, p3, _⟩ := SqX.get I hq3
    have l3 := rv3.length
    exact wpAny_pyNext_zipD3_end D.sep (drawX k1 hh i1 a1 D.ia1 its1.toArray) (drawX k2 hh i2 a2 D.ia2 its2.toArray) (drawX k3 hh i3 a3 D.ia3 its3.toArray) hz hTI hTO ⟨h1, p1⟩ ⟨h2, p2⟩ ⟨h3, p3⟩ (by simp only [List.size_toArray]; omega) (by simp only [List.size_toArray]; omega) (by simp only [List.size_toArray]; omega) (by simp only [List.size_toArray]; omega) fun h' tk hk => ⟨rfl, I.turnedL (t' := tk) (ch := [z, TI, TO, i1, i2, i3]) (fun c o hb q =>
      hk c o (fun q' => hb (by simp [q'])) (fun q' => hb (by simp [q'])) (fun q' => hb (by simp [q'])) (fun q' => hb (by simp [q'])) (fun q' => hb (by simp [q'])) q) hf⟩
  self := fun A i s Q E st h => wpAny_pyIter_zip st.1 h
def iZipX3 (K : Frag) (ta : TA) : TI := fun σ H R => ta σ H fun vs H1 => ∃ k1 k2 k3 a1 a2 a3 xs1 xs2 xs3, vs = [.ref a1, .ref a2, .ref a3] ∧ SqX k1 K H1 a1 xs1 ∧ SqX k2 K H1 a2 xs2 ∧ SqX k3 K H1 a3 xs3 ∧ R (ItZ3 k1 k2 k3 K a1 a2 a3) H1
theorem pi_zipX3 {X : Cx} {e1 e2 e3 : Expr} {ta : TA} {p pos tpos : Pos} {elts : List Expr} {kk : Nat} (hg : Gl X "zip") (hm : X.mg "zip" = none) (ha : PA X [e1, e2, e3] ta)
    (hs : starEach [e1, e2, e3] X.env = (false, eval e1 X.env) :: starEach [e2, e3] X.env := by rfl) (hpl : (backTo pos (starEach [e2, e3] X.env)).any (·.1) = false := by rfl) :
    PI X (.Tuple elts kk tpos) (.Call (.Name "zip" p) [e1, e2, e3] [] pos) (iZipX3 X.K ta) := by
  refine ⟨fun pins s σ H R I h => ?_⟩
  refine Call_ (ld_blt I hg hm PyProof.Rows.boot_zip (PyProof.Rows.callWith_type1 (thn (ha.run pos pins s σ H _ I h) fun us s1 ⟨vs, H1, I1, r1, q1⟩ => ?_) hs hpl))
  obtain ⟨k1, k2, k3, a1, a2, a3, xs1, xs2, xs3, ex, hq1, hq2, hq3, q⟩ := q1
  subst ex
  cases r1 with
  | cons r1 rr1 =>
    cases rr1 with
    | cons r2 rr2 =>
      cases rr2 with
      | cons r3 rr3 =>
        cases rr3
        cases r1
        cases r2
        cases r3
        obtain ⟨its1, rv1, p1, z1⟩ := SqX.get I1 hq1
        obtain ⟨its2, rv2, p2, z2⟩ := SqX.get I1 hq2
        obtain ⟨its3, rv3, p3, z3⟩ := SqX.get I1 hq3
        have fresh : ∀ c, c ∈ [s1.heap.objs.size + 5, s1.heap.objs.size + 3, s1.heap.objs.size + 4, s1.heap.objs.size, s1.heap.objs.size + 1, s1.heap.objs.size + 2] → FpOk X pins H1 c := fun c hcm => by
          have e' : c = s1.heap.objs.size + 5 ∨ c = s1.heap.objs.size + 3 ∨ c = s1.heap.objs.size + 4 ∨ c = s1.heap.objs.size ∨ c = s1.heap.objs.size + 1 ∨ c = s1.heap.objs.size + 2 := by simpa using hcm
          have hle : s1.heap.objs.size ≤ c := by
            rcases e' with z | z | z | z | z | z
            · rw [z]; exact Nat.le_add_right _ _
            · rw [z]; exact Nat.le_add_right _ _
            · rw [z]; exact Nat.le_add_right _ _
            · rw [z]; exact Nat.le_refl _
            · rw [z]; exact Nat.le_add_right _ _
            · rw [z]; exact Nat.le_add_right _ _
          exact I1.fpOk hle (I1.hok.fresh hle)
        refine zip_begins3 (begX k1 a1 its1.toArray) (begX k2 a2 its2.toArray) (begX k3 a3 its3.toArray) p1 p2 p3 fun h' hz hTI hTO g1 g2 g3 hsz hk => wpAny_pyIter_zip hz ?_
        have I2 : Inv X pins σ H1 { s1 with heap := h' } := I1.kept (t' := s1.toks) hk
        have D : ZAp3 (s1.heap.objs.size + 5) (s1.heap.objs.size + 3) (s1.heap.objs.size + 4) (s1.heap.objs.size) (s1.heap.objs.size + 1) (s1.heap.objs.size + 2) a1 a2 a3 := zap3 _ _  _ _ z1 z2 z3
        exact ⟨s1.heap.objs.size + 5, [s1.heap.objs.size + 5, s1.heap.objs.size + 3, s1.heap.objs.size + 4, s1.heap.objs.size, s1.heap.objs.size + 1, s1.heap.objs.size + 2], _, _, H1, rfl, I2, turn_zipX3 D, ⟨hz, hTI, ⟨_, _, _, hTO⟩, ItrX.new g1, ItrX.new g2, ItrX.new g3⟩, fresh, q⟩
end Pf
end
section
set_option Elab.async false
set_option linter.all false
set_option maxHeartbeats 1000000
set_option autoImplicit false
namespace Pf
open PySem PySem.Spec L2
/-! what a loop goes through -/
theorem bd_ret {α : Type} (m : M α) : bd m ret = m := by
  funext S
  simp only [bd, ret]
  cases m S <;> rfl
def itemsOf : PV → Option (List PV)
  | .lst xs => some xs
  | .tup xs => some xs
  | .scr ns => some (ns.map .int)
  | _ => none
def cellV : Cell → PV
  | .live p => p
  | .froz p => p
  | .nest _ => .non
def srcOf (sv : SV) : M (List PV × List (Nat × PV)) := fun S => match sv with
  | .val p => (match itemsOf p with
    | some xs => .ok (xs, []) S
    | none => .stuck)
  | .ref n => (match S[n]? with
    | some c => (match itemsOf (cellV c) with
      | some xs => .ok (xs, [(n, cellV c)]) S
      | none => .stuck)
    | none => .stuck)
def SrcOk (K : Frag) (g : G) (a : Addr) (k : Kd) (xs : List PV) (gs : List (Nat × PV)) : Prop := ∀ g2, Stp g g2 → SRc K g2 → chkG gs g2.S = true → ∃ vs, SqX k K g2.H a vs ∧ RpL K g2.H g2.F xs vs
theorem RpL.ints {K : Frag} {H : Hp} {F : Addr → Prop} : ∀ ns : List Int, RpL K H F (ns.map PV.int) (ns.map V.int)
  | [] => rfl
  | n :: ns => ⟨_, _, rfl, rfl, RpL.ints ns⟩
theorem rp_items {K : Frag} {H : Hp} {F : Addr → Prop} {p : PV} {v : V} {xs : List PV} (h : RpW K H F p v) (e : itemsOf p = some xs) : ∃ a k vs, v = .ref a ∧ SqX k K H a vs ∧ RpL K H F xs vs := by
  cases p with
  | lst ys => cases e; obtain ⟨a, vs, rfl, h1, h2⟩ := h; exact ⟨a, .lst, vs, rfl, .inl (.inl h1), h2⟩
  | tup ys => cases e; obtain ⟨a, vs, rfl, h1, h2⟩ := h; exact ⟨a, .tup, vs, rfl, h1, h2⟩
  | scr ns => cases e; obtain ⟨a, rfl, h1⟩ := h; exact ⟨a, .lst, _, rfl, h1.sq, RpL.ints ns⟩
  | _ => cases e
section
variable {K : Frag} {g g0 : G} {W : XW} {β : Type}
def kdOf : PV → Kd
  | .tup _ => .tup
  | _ => .lst
theorem rp_items' {K : Frag} {H : Hp} {F : Addr → Prop} {p : PV} {a : Addr} {xs : List PV} (h : RpW K H F p (.ref a)) (e : itemsOf p = some xs) : ∃ vs, SqX (kdOf p) K H a vs ∧ RpL K H F xs vs := by
  cases p with
  | lst ys => cases e; obtain ⟨b, vs, e, h1, h2⟩ := h; cases e; exact ⟨vs, .inl (.inl h1), h2⟩
  | tup ys => cases e; obtain ⟨b, vs, e, h1, h2⟩ := h; cases e; exact ⟨vs, h1, h2⟩
  | scr ns => cases e; obtain ⟨b, e, h1⟩ := h; cases e; exact ⟨_, h1.sq, RpL.ints ns⟩
  | _ => cases e
theorem src_ok {sv : SV} {v : V} {f : List PV × List (Nat × PV) → M β} {R : β → G → Prop} (sr : SRc K g) (hv : Rs K g sv v) (h : WG K W g0 g.S (bd (srcOf sv) f) R) :
    ∃ a k xs gs, v = .ref a ∧ SrcOk K g a k xs gs ∧ chkG gs g.S = true ∧ WG K W g0 g.S (f (xs, gs)) R := by
  cases sv with
  | val p =>
    cases e : itemsOf p with
    | none => unfold WG Pf.bd srcOf at h; simp only [e] at h
    | some xs =>
      obtain ⟨a, k, vs, rfl, h1, h2⟩ := rp_items hv.w e
      refine ⟨a, kdOf p, xs, [], rfl, fun g2 st2 sr2 _ => ?_, rfl, WG.run (by simp only [srcOf, e]) h⟩
      exact rp_items' (Rp.w (Rp.keep (st2.k sr) _ _ hv)) e
  | ref n =>
    obtain ⟨a, rfl, hA⟩ := hv
    cases eS : g.S[n]? with
    | none => unfold WG Pf.bd srcOf at h; simp only [eS] at h
    | some c =>
      cases e : itemsOf (cellV c) with
      | none => unfold WG Pf.bd srcOf at h; simp only [eS, e] at h
      | some xs =>
        refine ⟨a, kdOf (cellV c), xs, [(n, cellV c)], rfl, fun g2 st2 sr2 hc => ?_, by cases c <;> first | (cases e; done) | simp [chkG, eS, cellV, same_refl], WG.run (by simp only [srcOf, eS, e]) h⟩
        have hA2 := st2.ext n a hA
        simp only [chkG, List.all_cons, List.all_nil, Bool.and_true] at hc
        cases e2 : g2.S[n]? with
        | none => rw [e2] at hc; cases hc
        | some c2 =>
          rw [e2] at hc
          have k := sr2.cell n a c2 hA2 e2
          cases c2 with
          | live p2 => have := same_eq _ _ hc; subst this; exact rp_items' (At.w k.1) e
          | froz p2 => have := same_eq _ _ hc; subst this; exact rp_items' (Rp.w k) e
          | nest es => cases hc
theorem chkG_app {gs hs : List (Nat × PV)} {S : Sto} (h : chkG (gs ++ hs) S = true) : chkG gs S = true ∧ chkG hs S = true := by
  unfold chkG at h ⊢
  rw [List.all_append] at h
  simpa using h
theorem SrcOk.step {a : Addr} {k : Kd} {xs : List PV} {gs : List (Nat × PV)} {g1 : G} (h : SrcOk K g a k xs gs) (st : Stp g g1) : SrcOk K g1 a k xs gs := fun g2 s2 sr2 hc => h g2 (st.trans s2) sr2 hc
end
/-! one after the other -/
def itSeq (d : Den) : ItD := fun ρ => bd (d ρ) fun r => bd (bindV false r) srcOf
def ItlX (k : Kd) (K : Frag) (a : Addr) : It := match k with
  | .lst => Itl K a
  | .tup => Itt K a
def iSeq (K : Frag) (tl : TE) : TI := fun σ H R => tl σ H fun x H1 => ∃ a k, x = .ref a ∧ (∃ xs, SqX k K H1 a xs) ∧ R (ItlX k K a) H1
theorem pi_seq {X : Cx} {tg l : Expr} {tl : TE} (hl : PE X l tl) : PI X tg l (iSeq X.K tl) := by
  refine ⟨fun pins s σ H R I h => ?_⟩
  refine thn (hl.run pins s σ H _ I h) fun v s1 ⟨x, H1, I1, r1, q1⟩ => ?_
  obtain ⟨a, k, e, ⟨xs, hq⟩, q⟩ := q1
  subst e
  cases r1
  cases k with
  | lst =>
    obtain ⟨its, rv, p, hz⟩ := I1.list hq
    refine wpAny_pyIter_list p.isList ?_
    refine ⟨s1.heap.objs.size, [s1.heap.objs.size], _, _, H1, rfl, I1.kept (t' := s1.toks) fun b o e => Heap.get?_push_of_some _ e, turn_list a _, ⟨_, Heap.get?_push_size _ rfl, rfl, rfl⟩, fun b hb => ?_, q⟩
    have e : b = s1.heap.objs.size := by simpa using hb
    subst e
    exact I1.fpOk (Nat.le_refl _) (I1.hok.fresh (Nat.le_refl _))
  | tup =>
    obtain ⟨its, rv, p, hz⟩ := I1.tuple hq
    refine wpAny_pyIter_tuple (show s1.heap.IsTuple a its.toArray from p) ?_
    refine ⟨s1.heap.objs.size, [s1.heap.objs.size], _, _, H1, rfl, I1.kept (t' := s1.toks) fun b o e => Heap.get?_push_of_some _ e, turn_tuple a _, ⟨_, Heap.get?_push_size _ rfl, rfl, rfl⟩, fun b hb => ?_, q⟩
    have e : b = s1.heap.objs.size := by simpa using hb
    subst e
    exact I1.fpOk (Nat.le_refl _) (I1.hok.fresh (Nat.le_refl _))
section
variable {K : Frag} {W : WS} {g g0 : G} {β : Type}
theorem RpL.noneAt {H : Hp} {F : Addr → Prop} {ps : List PV} {vs : List V} {i : Nat} {p : PV} (h : RpL K H F ps vs) (e : ps[i]? = some p) : ∃ v, vs[i]? = some v ∧ Rp K H F p v := RpL.get h e
theorem jok_seq {a : Addr} {k : Kd} {xs : List PV} {gs : List (Nat × PV)} (h : SrcOk K g a k xs gs) : JOk K g (ItlX k K a) xs gs := fun i g2 st2 sr2 hc => by
  obtain ⟨vs, h1, h2⟩ := h g2 st2 sr2 hc
  refine ⟨fun p hp => ?_, fun e => ?_⟩
  · obtain ⟨v, e1, r⟩ := h2.get hp
    cases k with
    | lst => exact ⟨⟨vs, v, h1, e1⟩, fun x H' ⟨eH, y⟩ => ⟨g2, rfl, Stp.refl g2, sr2, eH.symm, by have := y vs h1; rw [e1] at this; cases this; exact r⟩⟩
    | tup => exact ⟨⟨vs, v, h1, e1⟩, fun x H' ⟨eH, y⟩ => ⟨g2, rfl, Stp.refl g2, sr2, eH.symm, by have := y vs h1; rw [e1] at this; cases this; exact r⟩⟩
  · have hl := h2.len
    cases k with
    | lst => exact ⟨vs, h1, by omega⟩
    | tup => exact ⟨vs, h1, by omega⟩
theorem iSeq_of {d : Den} {σ : L2.St} {H : Hp} {R : It → Hp → Prop} (h : tI K W (itSeq d) σ H R) : iSeq K (tD K W d) σ H R := by
  obtain ⟨ρ, g, e, sr, se, h⟩ := h
  subst e
  refine tD.bd (Stp.refl g) sr se h fun r g1 v st _ sr1 se1 hv h1 => ?_
  obtain ⟨sv, g2, e2, st2, sr2, r2, _, _, h2⟩ := bindV_ok st sr1 hv h1
  rw [← bd_ret (srcOf sv)] at h2
  obtain ⟨a, k, xs, gs, rfl, so, hc, h3⟩ := src_ok sr2 r2 h2
  obtain ⟨vs, q1, q2⟩ := so g2 (Stp.refl g2) sr2 hc
  refine ⟨a, k, rfl, ⟨vs, by rw [← e2]; exact q1⟩, ?_⟩
  rw [← e2]
  exact h3.ret rfl st2 sr2 (ItlX k K a) (jok_seq so)
theorem pi_dseq {X : Cx} {tg e : Expr} {d : Den} (he : PE X e (tD X.K W d)) : PI X tg e (tI X.K W (itSeq d)) := piW (pi_seq he) fun _ _ _ h => iSeq_of h
end
/-! range -/
def okI (i : Int) : Bool := decide (-(2 ^ 62) ≤ i) && decide (i < 2 ^ 62)
def rngI (lo : Int) (n : Nat) : List PV := (List.range n).map fun i => .int (lo + (i : Nat))
def rng1 : List PV → Option (List PV)
  | [.int j] => if okI j then some (rngI 0 j.toNat) else none
  | _ => none
def rng2 : List PV → Option (List PV)
  | [.int i, .int j] => if okI i && okI j then some (rngI i (j - i).toNat) else none
  | _ => none
def itRng (f : List PV → Option (List PV)) (ds : List Den) : ItD := fun ρ => bd (evAll ds ρ) fun rs => fun S => match peeks rs S with
  | some ps => (match f ps with
    | some xs => .ok (xs, []) S
    | none => .stuck)
  | none => .stuck
section
variable {K : Frag} {W : WS} {g g0 : G} {β : Type}
theorem jok_rng (lo : Int) (n : Nat) : JOk K g (Itr lo n) (rngI lo n) [] := fun i g2 st2 sr2 _ => by
  refine ⟨fun p hp => ?_, fun e => ?_⟩
  · have hi : i < n := by
      have := (List.getElem?_eq_some_iff.mp hp).1
      simpa [rngI] using this
    have hp : p = .int (lo + (i : Nat)) := by
      simp only [rngI, List.getElem?_map, List.getElem?_range hi, Option.map_some, Option.some.injEq] at hp
      exact hp.symm
    subst hp
    exact ⟨hi, fun x H' ⟨eH, y⟩ => ⟨g2, rfl, Stp.refl g2, sr2, eH.symm, y⟩⟩
  · have : n ≤ i := by rw [e]; simp [rngI]
    exact this
theorem itRng_run {f : List PV → Option (List PV)} {rs : List RV} {ws : XW} {Q : List PV × List (Nat × PV) → G → Prop} {S : Sto} (h : WG K ws g S (fun S => match peeks rs S with
  | some ps => (match f ps with
    | some xs => .ok (xs, []) S
    | none => .stuck)
  | none => .stuck) Q) : ∃ ps xs, peeks rs S = some ps ∧ f ps = some xs ∧ ∀ g', g'.S = S → Stp g g' → SRc K g' → Q (xs, []) g' := by
  unfold WG at h
  cases e : peeks rs S with
  | none => simp only [e] at h
  | some ps =>
    cases e2 : f ps with
    | none => simp only [e, e2] at h
    | some xs => simp only [e, e2] at h; exact ⟨ps, xs, rfl, e2, h⟩
theorem iRng1_of {ds : List Den} {σ : L2.St} {H : Hp} {R : It → Hp → Prop} (h : tI K W (itRng rng1 ds) σ H R) : iRng1 (tDs K W ds) σ H R := by
  obtain ⟨ρ, g, e, sr, se, h⟩ := h
  subst e
  refine tDs.bd (Stp.refl g) sr se h fun rs g1 vs st _ sr1 se1 hv h1 => ?_
  obtain ⟨ps, xs, e1, e2, k⟩ := itRng_run h1
  have hw := hv.peeks sr1 e1
  unfold rng1 at e2
  split at e2
  · next j =>
    split at e2
    · next hj =>
      cases e2
      obtain ⟨v, rfl, rv⟩ := one1 hw rfl
      cases rv
      simp only [okI, Bool.and_eq_true, decide_eq_true_eq] at hj
      exact ⟨j, rfl, hj.1, hj.2, k g1 rfl st sr1 _ (jok_rng 0 j.toNat)⟩
    · cases e2
  · cases e2
theorem iRng2_of {ds : List Den} {σ : L2.St} {H : Hp} {R : It → Hp → Prop} (h : tI K W (itRng rng2 ds) σ H R) : iRng2 (tDs K W ds) σ H R := by
  obtain ⟨ρ, g, e, sr, se, h⟩ := h
  subst e
  refine tDs.bd (Stp.refl g) sr se h fun rs g1 vs st _ sr1 se1 hv h1 => ?_
  obtain ⟨ps, xs, e1, e2, k⟩ := itRng_run h1
  have hw := hv.peeks sr1 e1
  unfold rng2 at e2
  split at e2
  · next i j =>
    split at e2
    · next hj =>
      cases e2
      obtain ⟨v, w, rfl, rv, rw'⟩ := two2 hw rfl
      cases rv; cases rw'
      simp only [okI, Bool.and_eq_true, decide_eq_true_eq] at hj
      exact ⟨i, j, rfl, ⟨hj.1.1, hj.1.2, hj.2.1, hj.2.2⟩, k g1 rfl st sr1 _ (jok_rng i (j - i).toNat)⟩
    · cases e2
  · cases e2
variable {X : Cx} {tg : Expr}
theorem pi_drng1 {a : Expr} {ds : List Den} {p pos : Pos} (hg : Gl X "range") (hm : X.mg "range" = none) (ha : PA X [a] (tDs X.K W ds)) (hs : starEach [a] X.env = [(false, eval a X.env)] := by rfl) : PI X tg (.Call (.Name "range" p) [a] [] pos) (tI X.K W (itRng rng1 ds)) :=
  piW (pi_range1 hg hm ha hs) fun _ _ _ h => iRng1_of h
theorem pi_drng2 {a b : Expr} {ds : List Den} {p pos : Pos} (hg : Gl X "range") (hm : X.mg "range" = none) (ha : PA X [a, b] (tDs X.K W ds)) (hs : starEach [a, b] X.env = [(false, eval a X.env), (false, eval b X.env)] := by rfl) (hs2 : starEach [b] X.env = [(false, eval b X.env)] := by rfl) :
    PI X tg (.Call (.Name "range" p) [a, b] [] pos) (tI X.K W (itRng rng2 ds)) := piW (pi_range2 hg hm ha hs hs2) fun _ _ _ h => iRng2_of h
end
/-! enumerate, zip -/
def numd : Nat → List PV → List PV
  | _, [] => []
  | n, x :: xs => .tup [.int (n : Nat), x] :: numd (n + 1) xs
def itEnum (d : Den) : ItD := fun ρ => bd (d ρ) fun r => bd (bindV false r) fun sv => bd (srcOf sv) fun x => ret (numd 0 x.1, x.2)
def zip2 : List PV → List PV → List PV
  | x :: xs, y :: ys => .tup [x, y] :: zip2 xs ys
  | _, _ => []
def zip3 : List PV → List PV → List PV → List PV
  | x :: xs, y :: ys, z :: zs => .tup [x, y, z] :: zip3 xs ys zs
  | _, _, _ => []
def itZip2 (ds : List Den) : ItD := fun ρ => bd (evAll ds ρ) fun rs => match rs with
  | [r, q] => bd (bindV false r) fun s => bd (bindV false q) fun t => bd (srcOf s) fun x => bd (srcOf t) fun y => ret (zip2 x.1 y.1, x.2 ++ y.2)
  | _ => stk
def itZip3 (ds : List Den) : ItD := fun ρ => bd (evAll ds ρ) fun rs => match rs with
  | [r, q, u] => bd (bindV false r) fun s => bd (bindV false q) fun t => bd (bindV false u) fun w => bd (srcOf s) fun x => bd (srcOf t) fun y => bd (srcOf w) fun z => ret (zip3 x.1 y.1 z.1, x.2 ++ (y.2 ++ z.2))
  | _ => stk
theorem numd_get : ∀ (n i : Nat) (xs : List PV), (numd n xs)[i]? = xs[i]?.map fun x => .tup [.int ((n + i : Nat) : Int), x]
  | n, i, [] => by simp [numd]
  | n, 0, x :: xs => by simp [numd]
  | n, i + 1, x :: xs => by
    have := numd_get (n + 1) i xs
    simp only [numd, List.getElem?_cons_succ, this]
    have e : n + 1 + i = n + (i + 1) := by omega
    rw [e]
theorem numd_len : ∀ (n : Nat) (xs : List PV), (numd n xs).length = xs.length
  | n, [] => rfl
  | n, x :: xs => by simp [numd, numd_len (n + 1) xs]
theorem zip2_get : ∀ (i : Nat) (xs ys : List PV) (p : PV), (zip2 xs ys)[i]? = some p → ∃ x y, xs[i]? = some x ∧ ys[i]? = some y ∧ p = .tup [x, y]
  | i, [], ys, p, h => by simp [zip2] at h
  | i, x :: xs, [], p, h => by simp [zip2] at h
  | 0, x :: xs, y :: ys, p, h => by simp [zip2] at h; exact ⟨x, y, by simp, by simp, h.symm⟩
  | i + 1, x :: xs, y :: ys, p, h => by
    simp only [zip2, List.getElem?_cons_succ] at h ⊢
    exact zip2_get i xs ys p h
theorem zip2_len : ∀ (xs ys : List PV), (zip2 xs ys).length = min xs.length ys.length
  | [], ys => by simp [zip2]
  | x :: xs, [] => by simp [zip2]
  | x :: xs, y :: ys => by simp [zip2, zip2_len xs ys]
theorem zip3_get : ∀ (i : Nat) (xs ys zs : List PV) (p : PV), (zip3 xs ys zs)[i]? = some p → ∃ x y z, xs[i]? = some x ∧ ys[i]? = some y ∧ zs[i]? = some z ∧ p = .tup [x, y, z]
  | i, [], ys, zs, p, h => by simp [zip3] at h
  | i, x :: xs, [], zs, p, h => by simp [zip3] at h
  | i, x :: xs, y :: ys, [], p, h => by simp [zip3] at h
  | 0, x :: xs, y :: ys, z :: zs, p, h => by simp [zip3] at h; exact ⟨x, y, z, by simp, by simp, by simp, h.symm⟩
  | i + 1, x :: xs, y :: ys, z :: zs, p, h => by
    simp only [zip3, List.getElem?_cons_succ] at h ⊢
    exact zip3_get i xs ys zs p h
theorem zip3_len : ∀ (xs ys zs : List PV), (zip3 xs ys zs).length = min xs.length (min ys.length zs.length)
  | [], ys, zs => by simp [zip3]
  | x :: xs, [], zs => by simp [zip3]
  | x :: xs, y :: ys, [] => by simp [zip3]
  | x :: xs, y :: ys, z :: zs => by simp [zip3, zip3_len xs ys zs]
section
variable {K : Frag} {W : WS} {g g0 : G} {β : Type}
/-- a new tuple in a turn -/
theorem turnTup {g2 : G} {T : Addr} {H' : Hp} {ps : List PV} {vs : List V} (sr2 : SRc K g2) (hT : g2.H T = none) (eH : H' = upd g2.H T (.tup vs)) (r : RpL K g2.H g2.F ps vs) :
    ∃ g', g'.S = g2.S ∧ Stp g2 g' ∧ SRc K g' ∧ g'.H = H' ∧ Rp K g'.H g'.F (.tup ps) (.ref T) := by
  subst eH
  exact ⟨g2.put T (.tup vs), rfl, Stp.put hT, sr2.put hT, rfl, newTup sr2 hT r⟩
theorem jok_enum {a : Addr} {k : Kd} {xs : List PV} {gs : List (Nat × PV)} (h : SrcOk K g a k xs gs) : JOk K g (ItE k K a) (numd 0 xs) gs := fun i g2 st2 sr2 hc => by
  obtain ⟨vs, h1, h2⟩ := h g2 st2 sr2 hc
  refine ⟨fun p hp => ?_, fun e => ⟨vs, h1, by rw [e, numd_len]; exact h2.len.symm⟩⟩
  rw [numd_get] at hp
  cases hx : xs[i]? with
  | none => rw [hx] at hp; cases hp
  | some x =>
    rw [hx] at hp; cases hp
    obtain ⟨v, e1, r⟩ := h2.get hx
    refine ⟨⟨vs, v, h1, e1⟩, fun w H' ⟨T, y, ew, hT, eH, hy⟩ => ?_⟩
    have := hy vs h1
    rw [e1] at this; cases this
    subst ew
    refine turnTup sr2 hT eH ⟨_, _, rfl, ?_, v, [], rfl, r, rfl⟩
    show V.int _ = V.int _
    rw [Nat.zero_add]
theorem jok_zip2 {a b : Addr} {k l : Kd} {xs ys : List PV} {gs hs : List (Nat × PV)} (h : SrcOk K g a k xs gs) (h' : SrcOk K g b l ys hs) : JOk K g (ItZ2 k l K a b) (zip2 xs ys) (gs ++ hs) := fun i g2 st2 sr2 hc => by
  obtain ⟨c1, c2⟩ := chkG_app hc
  obtain ⟨vs, h1, h2⟩ := h g2 st2 sr2 c1
  obtain ⟨ws, k1, k2⟩ := h' g2 st2 sr2 c2
  refine ⟨fun p hp => ?_, fun e => ⟨vs, ws, h1, k1, ?_⟩⟩
  · obtain ⟨x, y, ex, ey, rfl⟩ := zip2_get _ _ _ _ hp
    obtain ⟨v, e1, r⟩ := h2.get ex
    obtain ⟨u, e2, r'⟩ := k2.get ey
    refine ⟨⟨vs, ws, v, u, h1, k1, e1, e2⟩, fun w H' ⟨T, y1, y2, ew, hT, eH, hy, hy'⟩ => ?_⟩
    have t1 := hy vs h1
    rw [e1] at t1; cases t1
    have t2 := hy' ws k1
    rw [e2] at t2; cases t2
    subst ew
    exact turnTup sr2 hT eH ⟨v, _, rfl, r, u, [], rfl, r', rfl⟩
  · have l1 := h2.len
    have l2 := k2.len
    rw [zip2_len] at e
    refine ⟨by omega, by omega, by omega⟩
theorem jok_zip3 {a b c : Addr} {k l m : Kd} {xs ys zs : List PV} {gs hs is : List (Nat × PV)} (h : SrcOk K g a k xs gs) (h' : SrcOk K g b l ys hs) (h'' : SrcOk K g c m zs is) : JOk K g (ItZ3 k l m K a b c) (zip3 xs ys zs) (gs ++ (hs ++ is)) := fun i g2 st2 sr2 hc => by
  obtain ⟨c1, c'⟩ := chkG_app hc
  obtain ⟨c2, c3⟩ := chkG_app c'
  obtain ⟨vs, h1, h2⟩ := h g2 st2 sr2 c1
  obtain ⟨ws, k1, k2⟩ := h' g2 st2 sr2 c2
  obtain ⟨us, m1, m2⟩ := h'' g2 st2 sr2 c3
  refine ⟨fun p hp => ?_, fun e => ⟨vs, ws, us, h1, k1, m1, ?_⟩⟩
  · obtain ⟨x, y, z, ex, ey, ez, rfl⟩ := zip3_get _ _ _ _ _ hp
    obtain ⟨v, e1, r⟩ := h2.get ex
    obtain ⟨u, e2, r'⟩ := k2.get ey
    obtain ⟨t, e3, r''⟩ := m2.get ez
    refine ⟨⟨vs, ws, us, v, u, t, h1, k1, m1, e1, e2, e3⟩, fun w H' ⟨T, y1, y2, y3, ew, hT, eH, hy, hy', hy''⟩ => ?_⟩
    have t1 := hy vs h1
    rw [e1] at t1; cases t1
    have t2 := hy' ws k1
    rw [e2] at t2; cases t2
    have t3 := hy'' us m1
    rw [e3] at t3; cases t3
    subst ew
    exact turnTup sr2 hT eH ⟨v, _, rfl, r, u, _, rfl, r', t, [], rfl, r'', rfl⟩
  · have l1 := h2.len
    have l2 := k2.len
    have l3 := m2.len
    rw [zip3_len] at e
    refine ⟨by omega, by omega, by omega, by omega⟩
theorem iEnum_of {d : Den} {σ : L2.St} {H : Hp} {R : It → Hp → Prop} (h : tI K W (itEnum d) σ H R) : tD K W d σ H fun v H1 => ∃ k a xs, [v] = [V.ref a] ∧ SqX k K H1 a xs ∧ R (ItE k K a) H1 := by
  obtain ⟨ρ, g, e, sr, se, h⟩ := h
  subst e
  refine tD.bd (Stp.refl g) sr se h fun r g1 v st _ sr1 se1 hv h1 => ?_
  obtain ⟨sv, g2, e2, st2, sr2, r2, _, _, h2⟩ := bindV_ok st sr1 hv h1
  obtain ⟨a, k, xs, gs, rfl, so, hc, h3⟩ := src_ok sr2 r2 h2
  obtain ⟨vs, q1, q2⟩ := so g2 (Stp.refl g2) sr2 hc
  refine ⟨k, a, vs, rfl, by rw [← e2]; exact q1, ?_⟩
  rw [← e2]
  exact h3.ret rfl st2 sr2 (ItE k K a) (jok_enum so)
theorem iZip2_of {ds : List Den} {σ : L2.St} {H : Hp} {R : It → Hp → Prop} (h : tI K W (itZip2 ds) σ H R) : iZipX2 K (tDs K W ds) σ H R := by
  obtain ⟨ρ, g, e, sr, se, h⟩ := h
  subst e
  refine tDs.bd (Stp.refl g) sr se h fun rs g1 vs st _ sr1 se1 hv h1 => ?_
  obtain ⟨hp, hd⟩ := hv
  cases hp with
  | nil => exact (stk_ok h1).elim
  | cons a1 b1 =>
    cases b1 with
    | nil => exact (stk_ok h1).elim
    | cons a2 b2 =>
      cases b2 with
      | cons _ _ => exact (stk_ok h1).elim
      | nil =>
        next r v q w =>
        have d12 : isOwn r = true → isOwn q = true → w ≠ v := fun o1 o2 z => hd.1 o1 0 q rfl o2 (by rw [z]; rfl)
        obtain ⟨sv, g2, e2, st2, sr2, r2, k2, q2, h2⟩ := bindV_ok st sr1 (a1.from (Stp.refl g)) h1
        obtain ⟨sv', g3, e3, st3, sr3, r3, k3, q3, h3⟩ := bindV_ok st2 sr2 (q2 q w d12 a2) h2
        obtain ⟨a, k, xs, gs, rfl, so, hc, h4⟩ := src_ok sr3 (k3 _ _ r2) h3
        obtain ⟨b, l, ys, hs, rfl, so', hc', h5⟩ := src_ok sr3 r3 h4
        obtain ⟨vs1, p1, _⟩ := so g3 (Stp.refl g3) sr3 hc
        obtain ⟨vs2, p2, _⟩ := so' g3 (Stp.refl g3) sr3 hc'
        have eH : g3.H = g1.H := e3.trans e2
        refine ⟨k, l, a, b, vs1, vs2, rfl, by rw [← eH]; exact p1, by rw [← eH]; exact p2, ?_⟩
        rw [← eH]
        exact h5.ret rfl st3 sr3 (ItZ2 k l K a b) (jok_zip2 so so')
theorem iZip3_of {ds : List Den} {σ : L2.St} {H : Hp} {R : It → Hp → Prop} (h : tI K W (itZip3 ds) σ H R) : iZipX3 K (tDs K W ds) σ H R := by
  obtain ⟨ρ, g, e, sr, se, h⟩ := h
  subst e
  refine tDs.bd (Stp.refl g) sr se h fun rs g1 vs st _ sr1 se1 hv h1 => ?_
  obtain ⟨hp, hd⟩ := hv
  cases hp with
  | nil => exact (stk_ok h1).elim
  | cons a1 b1 =>
    cases b1 with
    | nil => exact (stk_ok h1).elim
    | cons a2 b2 =>
      cases b2 with
      | nil => exact (stk_ok h1).elim
      | cons a3 b3 =>
        cases b3 with
        | cons _ _ => exact (stk_ok h1).elim
        | nil =>
          next r v q w y' u =>
          have d12 : isOwn r = true → isOwn q = true → w ≠ v := fun o1 o2 z => hd.1 o1 0 q rfl o2 (by rw [z]; rfl)
          have d13 : isOwn r = true → isOwn y' = true → u ≠ v := fun o1 o2 z => hd.1 o1 1 y' rfl o2 (by rw [z]; rfl)
          have d23 : isOwn q = true → isOwn y' = true → u ≠ w := fun o1 o2 z => hd.2.1 o1 0 y' rfl o2 (by rw [z]; rfl)
          obtain ⟨sv, g2, e2, st2, sr2, r2, k2, q2, h2⟩ := bindV_ok st sr1 (a1.from (Stp.refl g)) h1
          obtain ⟨sv', g3, e3, st3, sr3, r3, k3, q3, h3⟩ := bindV_ok st2 sr2 (q2 q w d12 a2) h2
          obtain ⟨sv'', g4, e4, st4, sr4, r4, k4, q4, h4⟩ := bindV_ok st3 sr3 (q3 y' u d23 (q2 y' u d13 a3)) h3
          obtain ⟨a, k, xs, gs, rfl, so, hc, h4⟩ := src_ok sr4 (k4 _ _ (k3 _ _ r2)) h4
          obtain ⟨b, l, ys, hs, rfl, so', hc', h5⟩ := src_ok sr4 (k4 _ _ r3) h4
          obtain ⟨c, m, zs, is, rfl, so'', hc'', h6⟩ := src_ok sr4 r4 h5
          obtain ⟨vs1, p1, _⟩ := so g4 (Stp.refl g4) sr4 hc
          obtain ⟨vs2, p2, _⟩ := so' g4 (Stp.refl g4) sr4 hc'
          obtain ⟨vs3, p3, _⟩ := so'' g4 (Stp.refl g4) sr4 hc''
          have eH : g4.H = g1.H := e4.trans (e3.trans e2)
          refine ⟨k, l, m, a, b, c, vs1, vs2, vs3, rfl, by rw [← eH]; exact p1, by rw [← eH]; exact p2, by rw [← eH]; exact p3, ?_⟩
          rw [← eH]
          exact h6.ret rfl st4 sr4 (ItZ3 k l m K a b c) (jok_zip3 so so' so'')
variable {X : Cx}
theorem pi_denum {e : Expr} {d : Den} {p pos tpos : Pos} {elts : List Expr} {kk : Nat} (hg : Gl X "enumerate") (hm : X.mg "enumerate" = none) (ha : PE X e (tD X.K W d)) (hs : starEach [e] X.env = (false, eval e X.env) :: starEach [] X.env := by rfl) :
    PI X (.Tuple elts kk tpos) (.Call (.Name "enumerate" p) [e] [] pos) (tI X.K W (itEnum d)) :=
  piW (pi_enumX hg hm (pa_cons ha pa_nil hs) hs) fun _ _ _ h => iEnum_of h
theorem pi_dzip2 {e1 e2 : Expr} {ds : List Den} {p pos tpos : Pos} {elts : List Expr} {kk : Nat} (hg : Gl X "zip") (hm : X.mg "zip" = none) (ha : PA X [e1, e2] (tDs X.K W ds))
    (hs : starEach [e1, e2] X.env = (false, eval e1 X.env) :: starEach [e2] X.env := by rfl) (hpl : (backTo pos (starEach [e2] X.env)).any (·.1) = false := by rfl) :
    PI X (.Tuple elts kk tpos) (.Call (.Name "zip" p) [e1, e2] [] pos) (tI X.K W (itZip2 ds)) := piW (pi_zipX2 hg hm ha hs hpl) fun _ _ _ h => iZip2_of h
theorem pi_dzip3 {e1 e2 e3 : Expr} {ds : List Den} {p pos tpos : Pos} {elts : List Expr} {kk : Nat} (hg : Gl X "zip") (hm : X.mg "zip" = none) (ha : PA X [e1, e2, e3] (tDs X.K W ds))
    (hs : starEach [e1, e2, e3] X.env = (false, eval e1 X.env) :: starEach [e2, e3] X.env := by rfl) (hpl : (backTo pos (starEach [e2, e3] X.env)).any (·.1) = false := by rfl) :
    PI X (.Tuple elts kk tpos) (.Call (.Name "zip" p) [e1, e2, e3] [] pos) (tI X.K W (itZip3 ds)) := piW (pi_zipX3 hg hm ha hs hpl) fun _ _ _ h => iZip3_of h
end
end Pf
end
section
set_option Elab.async false
set_option linter.all false
set_option maxHeartbeats 1000000
set_option autoImplicit false
namespace Pf
open PySem PySem.Spec L2 PyProof.Rows
/-! calls -/
inductive AV where
  | val (p : PV)
  | cel (p : PV)
inductive FRes where
  | ok (r : RV) (outs : Sto)
  | exc (c : Nat) (v : PV) (outs : Sto)
  | stuck
abbrev Fn := List AV → FRes
def slots : List AV → Nat → List SV
  | [], _ => []
  | .val p :: r, n => .val p :: slots r n
  | .cel _ :: r, n => .ref n :: slots r (n + 1)
def cels : List AV → Sto
  | [] => []
  | .val _ :: r => cels r
  | .cel p :: r => .live p :: cels r
def fin (nc : Nat) (r : RV) (S : Sto) : FRes := if nc ≤ S.length then (match r with
  | .val p => .ok (.val p) (S.take nc)
  | .own p => .ok (.own p) (S.take nc)
  | .ref n => if n < nc then .stuck else (match S[n]? with
    | some (.live p) => .ok (.own p) (S.take nc)
    | some (.froz p) => .ok (.val p) (S.take nc)
    | _ => .stuck)) else .stuck
def runF (nl : Nat) (b : DenS) : Fn := fun avs => match b ((slots avs 0).map some ++ List.replicate (nl - avs.length) none) (cels avs) with
  | .ok (_, .rt r) S => fin (cels avs).length r S
  | .ok (_, .nx) S => fin (cels avs).length (.val .non) S
  | _ => .stuck
theorem slots_len : ∀ (avs : List AV) (n : Nat), (slots avs n).length = avs.length
  | [], _ => rfl
  | .val p :: r, n => by simp [slots, slots_len r n]
  | .cel p :: r, n => by simp [slots, slots_len r (n + 1)]
def spF (K : Frag) (F : Fn) : List V → Hp → VK → Prop := fun vs H Q => ∃ g avs, g.H = H ∧ SRc K g ∧ g.S = cels avs ∧ Paired (Rs K g) (slots avs 0) vs ∧ match F avs with
  | .ok r outs => ∀ g' v, g'.S = outs → Stp g g' → SRc K g' → Rr K g g' r v → Q v g'.H
  | _ => False
/-- a def's promise -/
structure FnG (P : Program) (w : World) (K : Frag) (mg : Str → Option Value) (base : Heap) (k : Nat) (f : Addr) (fd : FuncData) (ps : List Str) (sp : List V → Hp → VK → Prop) : Prop where
  run : ∀ (A : Around) (outer : List PySem.Env) (s : Shared) (H : Hp) (args : Args) (us : List Value) (vs : List V) (Q : VK), Room k A → A.guards = some [] → Env0 P w K mg base A outer s H → BindsTo s fd args (ps.zip us) → Vals vs us → vs.length = ps.length → sp vs H Q →
    codeAny (model P w) A (.call (.ref f) args) (CR CX0 outer P w H s Q E0) s
theorem FnG.mono {P : Program} {w : World} {K : Frag} {mg : Str → Option Value} {base : Heap} {j k : Nat} {f : Addr} {fd : FuncData} {ps : List Str} {sp : List V → Hp → VK → Prop} (F : FnG P w K mg base j f fd ps sp) (h : j ≤ k) : FnG P w K mg base k f fd ps sp :=
  ⟨fun A outer s H args us vs Q hr => F.run A outer s H args us vs Q (hr.mono h)⟩
theorem fnG_of {P : Program} {w : World} {K : Frag} {mg : Str → Option Value} {base : Heap} {k : Nat} {f : Addr} {name qual : Str} {params : Arguments} {body : List Stmt} {scope : Scope} {dV kV doc pm cdv ct oc : Value} {an od : Option Addr}
    {osl : Array (Option Value)} {N ps : List Str} {sp : List V → Hp → VK → Prop} (lk : K.lookup f = some ⟨oc, od, .func (PySem.W.fnOf name qual params body scope dV kV doc pm an cdv ct), osl⟩) (hcd : PySem.W.codeIn K cdv qual = true) (S : FnScope N ps scope)
    (hbody : ∀ (A : Around) (outer : List PySem.Env) (s : Shared) (H : Hp) (vs : List V) (Q : VK), Room k (A.deeper (envOfC qual scope s.heap.objs.size f cdv)) → A.guards = some [] → vs.length = ps.length → sp vs H Q →
      ∃ t, PSs (cxOf CX0 P w K mg base N qual scope f cdv A outer s H E0) body t ∧ t { nx := fun _ H' => Q .non H', rt := Q } (L2.start N vs) H) :
    FnG P w K mg base (k + 1) f (PySem.W.fnOf name qual params body scope dV kV doc pm an cdv ct) ps sp := by
  refine ⟨fun A outer s H args us vs Q hr hgd e0 hb r hl hsp => ?_⟩
  have KX : K.In s.heap := e0.mod.kin.keeps fun b o e => (e0.bs b o e).1
  have lim : s.heap.NoLimit := e0.mod.nolimit.keeps fun b o e => (e0.bs b o e).1
  have hkind : ∀ y ∈ ps.zip us, scope.names.lookup y.1 = some .local ∨ (scope.names.lookup y.1 = some .cell ∧ ((cellsFrom (s.heap.objs.size + 1) scope.names []).lookup y.1).isSome = true) := fun ⟨n, v⟩ hy => by
    rcases S.par n (List.of_mem_zip hy).1 with q | q
    · exact .inl q
    · exact .inr ⟨q, PySem.W.cellsFrom_some _ _ _ (.inl q)⟩
  refine codeAny_call_function hr.depth (KX _ _ lk) rfl S.co S.gen rfl (PySem.W.codeRec_of KX hcd) (hb _ _ _ _ ?_)
  refine wpAny_newFunctionEnv_cells S.kind hkind fun env he s1 x => ?_
  subst he
  refine ⟨lim.keeps x.toInCall.keep, codeAny_func ?_⟩
  obtain ⟨t, ht, hq⟩ := hbody A outer s H vs Q (hr.deeper _) hgd hl hsp
  have I : Inv (cxOf CX0 P w K mg base N qual scope f cdv A outer s H E0) [] (L2.start N vs) H s1 := inv_start S hr.hd e0 hl r x
  refine wpAny_mono (ht.run [] s1 (L2.start N vs) H _ I hq) (fun fl s' hs => ?_) fun e s' hs => hs
  have fin : ∀ {σ' : L2.St} {H' : Hp} {v : V} {u : Value}, Inv (cxOf CX0 P w K mg base N qual scope f cdv A outer s H E0) [] σ' H' s' → RelV v u → Q v H' → CE outer P w H s Q u s' :=
    fun {σ' H' v u} J rv q => ⟨v, H', J.os, J.bare, J.base, J.hok, rv, q⟩
  cases fl with
  | ret u =>
    obtain ⟨v, σ', H', J, rv, q⟩ := hs
    exact fin J rv q
  | next =>
    obtain ⟨σ', H', J, q⟩ := hs
    exact fin (v := V.non) (u := Value.none) J rfl q
  | brk =>
    obtain ⟨_, _, _, q⟩ := hs
    exact False.elim q
  | cont =>
    obtain ⟨_, _, _, q⟩ := hs
    exact False.elim q
section
variable {K : Frag} {g g' : G}
/-- the end of a body, the callers' cells alone -/
def G.trim (g : G) (n : Nat) : G := { g with S := g.S.take n, A := g.A.take n }
theorem take_get {α : Type} {l : List α} {n m : Nat} {x : α} (h : (l.take n)[m]? = some x) : l[m]? = some x ∧ m < n := by
  rw [List.getElem?_take] at h
  split at h
  · next hm => exact ⟨h, hm⟩
  · cases h
theorem trim_ok (sr0 : SRc K g) (hp : ∀ c ∈ g.S, isN c = false) (st : Stp g g') (sr : SRc K g') : Stp g (g'.trim g.A.length) ∧ SRc K (g'.trim g.A.length) := by
  refine ⟨⟨st.keep, st.dom, st.fz, st.fz', fun m b e => ?_, fun b hb => st.newA b (List.mem_of_mem_take hb), fun b ⟨m, v, e1, e2⟩ => st.new b ⟨m, v, ⟨(take_get e1.1).1, e1.2⟩, (take_get e2).1⟩, fun n c c' e e' z => st.pl n c c' e (take_get e').1 z, by show _ ≤ (g'.S.take _).length; rw [List.length_take, sr0.len]; have := st.ge; omega⟩,
    ⟨by show (g'.A.take _).length = (g'.S.take _).length; rw [List.length_take, List.length_take, sr.len], sr.nd.sublist (List.take_sublist _ _), fun m a c e1 e2 => ?_, fun a m => sr.dom a (List.mem_of_mem_take m), sr.fd⟩⟩
  · have := st.ext m b e
    show (g'.A.take _)[m]? = _
    rw [List.getElem?_take, if_pos (List.getElem?_eq_some_iff.mp e).1]
    exact this
  · obtain ⟨q1, q2⟩ := take_get e1
    obtain ⟨q3, _⟩ := take_get e2
    have k := sr.cell m a c q1 q3
    obtain ⟨c0, h0⟩ : ∃ c0, g.S[m]? = some c0 := ⟨_, List.getElem?_eq_getElem (by rw [← sr0.len]; exact q2)⟩
    have hn := st.pl m c0 c h0 q3 (hp c0 (List.mem_of_getElem? h0))
    cases c with
    | live v => exact k
    | froz v => exact k
    | nest es => cases hn
theorem cels_plain : ∀ {avs : List AV}, ∀ c ∈ cels avs, isN c = false
  | [], c, h => by simp [cels] at h
  | .val p :: r, c, h => cels_plain (avs := r) c h
  | .cel p :: r, c, h => by
    rcases List.mem_cons.mp h with e | h
    · subst e; rfl
    · exact cels_plain (avs := r) c h
theorem cels_A {avs : List AV} (sr : SRc K g) (e : g.S = cels avs) : g.A.length = (cels avs).length := by rw [sr.len, e]
theorem fin_ok {r r' : RV} {outs : Sto} {v : V} {n : Nat} (hp : ∀ c ∈ g.S, isN c = false) (sr0 : SRc K g) (st : Stp g g') (sr : SRc K g') (hn : g.A.length = n) (hr : Rr K g g' r v) (h : fin n r g'.S = .ok r' outs) :
    ∃ g2, g2.S = outs ∧ g2.H = g'.H ∧ Stp g g2 ∧ SRc K g2 ∧ Rr K g g2 r' v := by
  subst hn
  obtain ⟨t1, t2⟩ := trim_ok sr0 hp st sr
  unfold fin at h
  split at h
  · next hle =>
    have own : ∀ {p : PV} {a : Addr}, At K g'.H g'.F p a → ¬ g'.F a → g.H a = none → Rr K g (g'.trim g.A.length) (.own p) (.ref a) := fun {p a} h1 h2 h3 => ⟨a, rfl, h1, h2, fun (q : a ∈ g'.A.take g.A.length) => (by
      obtain ⟨m, q⟩ := List.mem_iff_getElem?.mp q
      obtain ⟨q1, q2⟩ := take_get q
      obtain ⟨b, e⟩ : ∃ b, g.A[m]? = some b := ⟨g.A[m], List.getElem?_eq_getElem q2⟩
      have := st.ext m b e
      rw [q1] at this; cases this
      obtain ⟨x, hx⟩ := sr0.dom a (List.mem_of_getElem? e)
      rw [h3] at hx; cases hx), h3⟩
    cases r with
    | val p => cases h; exact ⟨g'.trim g.A.length, rfl, rfl, t1, t2, hr⟩
    | own p =>
      cases h
      obtain ⟨a, rfl, h1, h2, h3, h4⟩ := hr
      exact ⟨g'.trim g.A.length, rfl, rfl, t1, t2, own h1 h2 h4⟩
    | ref m =>
      obtain ⟨a, rfl, hA⟩ := hr
      simp only at h
      split at h
      · cases h
      · next hm =>
        cases e : g'.S[m]? with
        | none => rw [e] at h; cases h
        | some c =>
          have k := sr.cell m a c hA e
          cases c with
          | live p =>
            rw [e] at h; cases h
            refine ⟨g'.trim g.A.length, rfl, rfl, t1, t2, own k.1 k.2 ?_⟩
            rcases st.newA a (List.mem_of_getElem? hA) with q | q
            · obtain ⟨j, q⟩ := List.mem_iff_getElem?.mp q
              have q2 := st.ext j a q
              have hj : j < g.A.length := (List.getElem?_eq_some_iff.mp q).1
              have := (List.getElem?_inj (i := j) (j := m) (List.getElem?_eq_some_iff.mp q2).1 sr.nd).mp (q2.trans hA.symm)
              omega
            · exact q
          | froz p => rw [e] at h; cases h; exact ⟨g'.trim g.A.length, rfl, rfl, t1, t2, k⟩
          | nest es => rw [e] at h; cases h
  · cases h
theorem paired_get {α β : Type} {R : α → β → Prop} : ∀ {xs : List α} {ys : List β} {i : Nat} {x : α}, Paired R xs ys → xs[i]? = some x → ∃ y, ys[i]? = some y ∧ R x y
  | _, _, _, _, .nil, e => by simp at e
  | _ :: _, _ :: _, 0, x, .cons a b, e => by simp at e; subst e; exact ⟨_, rfl, a⟩
  | _ :: _, _ :: _, i + 1, x, .cons a b, e => by
    obtain ⟨y, h1, h2⟩ := paired_get (i := i) b (by simpa using e)
    exact ⟨y, by simpa using h1, h2⟩
theorem slots_sre {avs : List AV} {vs : List V} {N : List Str} (h : Paired (Rs K g) (slots avs 0) vs) (hl : avs.length ≤ N.length) : SRe K g ((slots avs 0).map some ++ List.replicate (N.length - avs.length) none) (L2.start N vs) := by
  have l1 := slots_len avs 0
  have l2 : (slots avs 0).length = vs.length := Paired.length h
  refine ⟨by unfold L2.start; simp [l1]; omega, fun i sv e => ?_⟩
  by_cases hi : i < (slots avs 0).length
  · rw [List.getElem?_append_left (by simpa using hi), List.getElem?_map] at e
    obtain ⟨sv', e'⟩ : ∃ x, (slots avs 0)[i]? = some x := ⟨_, List.getElem?_eq_getElem hi⟩
    rw [e'] at e; cases e
    obtain ⟨v, hv, r⟩ := paired_get h e'
    exact ⟨v, by unfold L2.start; rw [List.getElem?_append_left (by rw [List.length_map]; omega), List.getElem?_map, hv]; rfl, r⟩
  · rw [List.getElem?_append_right (by simpa using hi), List.getElem?_replicate] at e
    split at e <;> cases e
end
/-- a def by its body -/
theorem fnG_body {P : Program} {w : World} {K : Frag} {mg : Str → Option Value} {base : Heap} {x qual : Str} {pr : Arguments} {body : List Stmt} {sc : Scope} {dvs : List V} {kvs : List (Str × V)} {f : Addr} {fd : FuncData} {N ps : List Str} {k : Nat} {d : DenS} (F : FunD K x qual pr body sc dvs kvs f fd) (S : FnScope N ps sc)
    (hbody : ∀ (cdv : Value) (A : Around) (outer : List PySem.Env) (s : Shared) (H : Hp), Room k (A.deeper (envOfC qual sc s.heap.objs.size f cdv)) → A.guards = some [] →
      PSs (cxOf CX0 P w K mg base N qual sc f cdv A outer s H E0).nox body (tS K W0 d)) : FnG P w K mg base (k + 1) f fd ps (spF K (runF N.length d)) := by
  obtain ⟨oc, od, dV, kV, doc, pm, an, cdv, ct, osl, rfl, lk, hcd, _⟩ := F.ex
  refine fnG_of lk hcd S fun A outer s H vs Q hr hg hl hsp => ⟨_, (hbody cdv A outer s H hr hg).nox, ?_⟩
  obtain ⟨g, avs, rfl, sr, eS, hp, h⟩ := hsp
  have l1 := slots_len avs 0
  have l2 : (slots avs 0).length = vs.length := Paired.length hp
  have hpl : ps.length ≤ N.length := by have := congrArg List.length S.pre; rw [List.length_take] at this; omega
  refine ⟨_, g, rfl, sr, slots_sre hp (by omega), ?_⟩
  unfold WG
  rw [eS]
  cases e : d ((slots avs 0).map some ++ List.replicate (N.length - avs.length) none) (cels avs) with
  | stuck => simp only [runF, e] at h
  | exc c v S' => simp only [runF, e] at h
  | ok y S' =>
    obtain ⟨ρ', fl⟩ := y
    intro g' hS st' sr'
    subst hS
    have hn := cels_A sr eS
    have key : ∀ r v, Rr K g g' r v → (match fin (cels avs).length r g'.S with
        | .ok r outs => ∀ g' v, g'.S = outs → Stp g g' → SRc K g' → Rr K g g' r v → Q v g'.H
        | _ => False) → Q v g'.H := fun r v hv h => by
      cases e2 : fin (cels avs).length r g'.S with
      | ok r' outs =>
        rw [e2] at h
        obtain ⟨g2, e3, e4, st2, sr2, r2⟩ := fin_ok (by rw [eS]; exact cels_plain) sr st' sr' hn hv e2
        rw [← e4]
        exact h g2 v e3 st2 sr2 r2
      | exc a b c => rw [e2] at h; exact h.elim
      | stuck => rw [e2] at h; exact h.elim
    cases fl with
    | rt r => simp only [runF, e] at h; exact fun v hv => key r v hv h
    | nx => simp only [runF, e] at h; exact fun σ' _ => key (.val .non) .non rfl h
    | bk => simp only [runF, e] at h
    | ct => simp only [runF, e] at h
end Pf
end
section
set_option Elab.async false
set_option linter.all false
set_option maxHeartbeats 1000000
set_option autoImplicit false
namespace Pf
open PySem PySem.Spec L2 PyProof.Rows
def bindMany : List Bool → List RV → M (List SV)
  | m :: ms, r :: rs => bd (bindV m r) fun s => bd (bindMany ms rs) fun ss => ret (s :: ss)
  | _, [] => ret []
  | [], r :: rs => bd (bindV false r) fun s => bd (bindMany [] rs) fun ss => ret (s :: ss)
def avsOf : List SV → Sto → Option (List AV × List Nat)
  | [], _ => some ([], [])
  | .val p :: r, S => match avsOf r S with
    | some (a, n) => some (.val p :: a, n)
    | none => none
  | .ref m :: r, S => match S[m]?, avsOf r S with
    | some (.live p), some (a, n) => some (.cel p :: a, m :: n)
    | some (.froz p), some (a, n) => some (.val p :: a, n)
    | _, _ => none
def setAll : Sto → List Nat → Sto → Sto
  | S, n :: ns, c :: cs => setAll (S.set n c) ns cs
  | S, _, _ => S
def noDup : List Nat → Bool
  | [] => true
  | n :: ns => !ns.contains n && noDup ns
def callF (F : Fn) (svs : List SV) : M RV := fun S => match avsOf svs S with
  | none => .stuck
  | some (avs, ns) => if noDup ns then (match F avs with
    | .ok (.ref _) _ => .stuck
    | .ok r outs => .ok r (setAll S ns outs)
    | _ => .stuck) else .stuck
def permL {α : Type} (perm : List Nat) (xs : List α) : List α := perm.filterMap (xs[·]?)
def callN (np : Nat) (F : Fn) (ss : List SV) : M RV := if ss.length = np then callF F ss else stk
def dCall (np : Nat) (F : Fn) (mus : List Bool) (ds : List Den) : Den := fun ρ => bd (evAll ds ρ) fun rs => bd (bindMany mus rs) (callN np F)
def dCallK (np : Nat) (F : Fn) (perm : List Nat) (mus : List Bool) (ds es : List Den) : Den := fun ρ => bd (evAll ds ρ) fun rs => bd (evAll es ρ) fun qs => bd (bindMany mus (rs ++ qs)) fun ss => callN np F (permL perm ss)
section
variable {K : Frag} {g g0 g1 : G} {W : XW} {β : Type}
theorem bindMany_ok : ∀ {mus : List Bool} {rs : List RV} {vs : List V} {g : G} {f : List SV → M β} {R : β → G → Prop}, Stp g0 g → SRc K g → RrL K g0 g rs vs → WG K W g0 g.S (bd (bindMany mus rs) f) R →
    ∃ ss g', g'.H = g.H ∧ Stp g0 g' ∧ SRc K g' ∧ Paired (Rs K g') ss vs ∧ (∀ sv w, Rs K g sv w → Rs K g' sv w) ∧ (∀ q w, (∀ (i : Nat) (r : RV), rs[i]? = some r → isOwn r = true → isOwn q = true → vs[i]? ≠ some w) → Rr K g0 g q w → Rr K g0 g' q w) ∧ WG K W g0 g'.S (f ss) R
  | mus, [], vs, g, f, R, st, sr, hv, h => by
    obtain ⟨hp, _⟩ := hv
    cases hp
    have h2 : WG K W g0 g.S (f []) R := by
      cases mus <;> exact WG.run (m := bindMany _ []) (S := g.S) rfl h
    exact ⟨[], g, rfl, st, sr, .nil, fun _ _ h => h, fun _ _ _ h => h, h2⟩
  | mus, r :: rs, vs, g, f, R, st, sr, hv, h => by
    obtain ⟨hp, hd⟩ := hv
    cases hp with
    | cons a b =>
      next v vs =>
      have step : ∀ (m : Bool) (ms : List Bool), WG K W g0 g.S (bd (bd (bindV m r) fun s => bd (bindMany ms rs) fun ss => ret (s :: ss)) f) R → (∃ ss g', g'.H = g.H ∧ Stp g0 g' ∧ SRc K g' ∧ Paired (Rs K g') ss (v :: vs) ∧ (∀ sv w, Rs K g sv w → Rs K g' sv w) ∧ (∀ q w, (∀ (i : Nat) (r' : RV), (r :: rs)[i]? = some r' → isOwn r' = true → isOwn q = true → (v :: vs)[i]? ≠ some w) → Rr K g0 g q w → Rr K g0 g' q w) ∧ WG K W g0 g'.S (f ss) R) := fun m ms h => by
        rw [bd_assoc] at h
        obtain ⟨s, g1, e1, st1, sr1, r1, k1, q1, h1⟩ := bindV_ok st sr a h
        rw [bd_assoc] at h1
        have hb : RrP K g0 g1 rs vs := by
          have : ∀ {rs : List RV} {vs : List V}, RrP K g0 g rs vs → (∀ (i : Nat) (q : RV), rs[i]? = some q → isOwn r = true → isOwn q = true → vs[i]? ≠ some v) → RrP K g0 g1 rs vs := fun {rs vs} hb => by
            induction hb with
            | nil => exact fun _ => .nil
            | cons x y ih =>
              intro hh
              exact .cons (q1 _ _ (fun o1 o2 z => hh 0 _ rfl o1 o2 (by rw [z]; rfl)) x) (ih fun i q e o1 o2 => hh (i + 1) q (by simpa using e) o1 o2)
          exact this b fun i q e o1 o2 => hd.1 o1 i q e o2
        obtain ⟨ss, g2, e2, st2, sr2, r2, k2, q2, h2⟩ := bindMany_ok (mus := ms) st1 sr1 ⟨hb, hd.2⟩ h1
        have h3 := WG.run (S' := g2.S) rfl h2
        exact ⟨s :: ss, g2, e2.trans e1, st2, sr2, .cons (k2 _ _ r1) r2, fun sv w h => k2 _ _ (k1 _ _ h), fun q w hw h => q2 q w (fun i r' e o1 o2 => hw (i + 1) r' (by simpa using e) o1 o2) (q1 q w (fun o1 o2 z => hw 0 r rfl o1 o2 (by rw [z]; rfl)) h), h3⟩
      cases mus with
      | nil => exact step false [] h
      | cons m ms => exact step m ms h
theorem avs_ok : ∀ {ss : List SV} {vs : List V} {avs : List AV} {ns : List Nat} (A' : List Addr), SRc K g → Paired (Rs K g) ss vs → avsOf ss g.S = some (avs, ns) →
    ∃ As : List Addr, As.length = ns.length ∧ Paired (fun (n : Nat) (a : Addr) => g.A[n]? = some a) ns As ∧ Paired (fun (n : Nat) (c : Cell) => g.S[n]? = some c) ns (cels avs) ∧
      ∀ g2 : G, (∀ p v, Rp K g.H g.F p v → Rp K g2.H g2.F p v) → (∀ (j : Nat) (a : Addr), As[j]? = some a → g2.A[A'.length + j]? = some a) → Paired (Rs K g2) (slots avs A'.length) vs
  | [], vs, avs, ns, A', sr, hp, e => by cases hp; cases e; exact ⟨[], rfl, .nil, .nil, fun _ _ _ => .nil⟩
  | .val p :: ss, vs, avs, ns, A', sr, hp, e => by
    cases hp with
    | cons a b =>
      unfold avsOf at e
      cases e2 : avsOf ss g.S with
      | none => rw [e2] at e; cases e
      | some x =>
        obtain ⟨a1, n1⟩ := x
        rw [e2] at e; cases e
        obtain ⟨As, h1, h2, h3, h4⟩ := avs_ok A' sr b e2
        exact ⟨As, h1, h2, h3, fun g2 k1 k2 => .cons (k1 _ _ a) (h4 g2 k1 k2)⟩
  | .ref m :: ss, vs, avs, ns, A', sr, hp, e => by
    cases hp with
    | cons a b =>
      unfold avsOf at e
      obtain ⟨x, rfl, hA⟩ := a
      cases e1 : g.S[m]? with
      | none => rw [e1] at e; cases e
      | some c =>
        cases e2 : avsOf ss g.S with
        | none => rw [e1, e2] at e; cases c <;> cases e
        | some y =>
          obtain ⟨a1, n1⟩ := y
          rw [e1, e2] at e
          cases c with
          | live p =>
            cases e
            obtain ⟨As, h1, h2, h3, h4⟩ := avs_ok (A' ++ [x]) sr b e2
            rw [List.length_append] at h4
            refine ⟨x :: As, by simp [h1], .cons hA h2, .cons e1 h3, fun g2 k1 k2 => .cons ⟨x, rfl, by simpa using k2 0 x rfl⟩ (h4 g2 k1 fun j a e => ?_)⟩
            have := k2 (j + 1) a (by simpa using e)
            have e3 : A'.length + [x].length + j = A'.length + (j + 1) := by simp; omega
            rw [e3]; exact this
          | nest es => cases e
          | froz p =>
            cases e
            obtain ⟨As, h1, h2, h3, h4⟩ := avs_ok A' sr b e2
            exact ⟨As, h1, h2, h3, fun g2 k1 k2 => .cons (k1 _ _ (sr.cell m x _ hA e1)) (h4 g2 k1 k2)⟩
theorem noDup_nodup : ∀ {ns : List Nat}, noDup ns = true → ns.Nodup
  | [], _ => List.nodup_nil
  | n :: ns, h => by
    unfold noDup at h
    simp only [Bool.and_eq_true, Bool.not_eq_true', List.contains_eq_mem, decide_eq_false_iff_not] at h
    exact List.nodup_cons.mpr ⟨h.1, noDup_nodup h.2⟩
theorem setAll_len : ∀ (S : Sto) (ns : List Nat) (cs : Sto), (setAll S ns cs).length = S.length
  | S, [], cs => by unfold setAll; rfl
  | S, n :: ns, [] => by unfold setAll; rfl
  | S, n :: ns, c :: cs => by unfold setAll; rw [setAll_len, List.length_set]
theorem setAll_off : ∀ (ns : List Nat) (S : Sto) (cs : Sto) (m : Nat), m ∉ ns → (setAll S ns cs)[m]? = S[m]?
  | [], S, cs, m, h => by unfold setAll; rfl
  | n :: ns, S, [], m, h => by unfold setAll; rfl
  | n :: ns, S, c :: cs, m, h => by
    have h1 := h
    simp only [List.mem_cons, not_or] at h1
    unfold setAll
    rw [setAll_off ns _ cs m h1.2, List.getElem?_set_ne (Ne.symm h1.1)]
theorem setAll_on : ∀ (ns : List Nat) (S : Sto) (cs : Sto) (j m : Nat) (c : Cell), ns.Nodup → ns[j]? = some m → cs[j]? = some c → m < S.length → (setAll S ns cs)[m]? = some c
  | [], S, cs, j, m, c, _, h, _, _ => by simp at h
  | n :: ns, S, [], j, m, c, _, _, h, _ => by simp at h
  | n :: ns, S, c0 :: cs, 0, m, c, hd, h1, h2, hm => by
    simp at h1 h2; subst h1 h2
    unfold setAll
    rw [setAll_off ns _ cs n (List.nodup_cons.mp hd).1, List.getElem?_set_self hm]
  | n :: ns, S, c0 :: cs, j + 1, m, c, hd, h1, h2, hm => by
    unfold setAll
    exact setAll_on ns _ cs j m c (List.nodup_cons.mp hd).2 (by simpa using h1) (by simpa using h2) (by rw [List.length_set]; exact hm)
/-- the callee's cells have come back -/
theorem back_ok {g' gE : G} {ns : List Nat} {As : List Addr} {cs : Sto} (sr : SRc K g) (hd : ns.Nodup) (hA : Paired (fun (n : Nat) (a : Addr) => g.A[n]? = some a) ns As) (hS : Paired (fun (n : Nat) (c : Cell) => g.S[n]? = some c) ns cs)
    (e1 : g'.H = g.H) (e2 : g'.F = g.F) (e3 : g'.A = As) (e4 : g'.S = cs) (lv : ∀ c ∈ cs, ∃ p, c = .live p) (st : Stp g' gE) (srE : SRc K gE) :
    Stp g { S := setAll g.S ns gE.S, A := g.A, H := gE.H, F := gE.F } ∧ SRc K { S := setAll g.S ns gE.S, A := g.A, H := gE.H, F := gE.F } := by
  have lA : As.length = ns.length := (Paired.length hA).symm
  -- the callee's cells are live cells here
  have lv' : ∀ b, Lv g' b → Lv g b := fun b ⟨m, v, ⟨q1, mv⟩, q2⟩ => by
    rw [e4] at q1; rw [e3] at q2
    have hm : m < ns.length := by rw [← lA]; exact (List.getElem?_eq_some_iff.mp q2).1
    obtain ⟨n, hn⟩ : ∃ n, ns[m]? = some n := ⟨_, List.getElem?_eq_getElem hm⟩
    obtain ⟨y, h1, h2⟩ := paired_get hA hn
    obtain ⟨z, h3, h4⟩ := paired_get hS hn
    rw [q2] at h1; cases h1
    rw [q1] at h3; cases h3
    exact ⟨n, v, ⟨h4, mv⟩, h2⟩
  have idx : ∀ {n j : Nat} {a : Addr}, ns[j]? = some n → g.A[n]? = some a → gE.A[j]? = some a := fun {n j a} h1 h2 => by
    obtain ⟨y, h3, h4⟩ := paired_get hA h1
    have h4 : g.A[n]? = some y := h4
    rw [h2] at h4; cases h4
    exact st.ext j _ (by rw [e3]; exact h3)
  have lvOf : ∀ {n j : Nat} {a : Addr}, ns[j]? = some n → g.A[n]? = some a → Lv g a := fun {n j a} h1 h2 => by
    obtain ⟨z, h3, h4⟩ := paired_get hS h1
    obtain ⟨p, rfl⟩ := lv z (List.mem_of_getElem? h3)
    exact ⟨n, _, ⟨h4, rfl⟩, h2⟩
  refine ⟨⟨fun c x e n => st.keep c x (by rw [e1]; exact e) fun z => n (lv' c z), fun c x e => st.dom c x (by rw [e1]; exact e), fun b h => st.fz b (by rw [e2]; exact h), fun b h => ?_, fun _ _ h => h, fun _ h => .inl h, fun b ⟨n, v, ⟨q1, mv⟩, q2⟩ => ?_, fun n c c' q q' z => ?_, by show _ ≤ (setAll g.S ns gE.S).length; rw [setAll_len]; exact Nat.le_refl _⟩,
    ⟨by show g.A.length = (setAll g.S ns gE.S).length; rw [setAll_len]; exact sr.len, sr.nd, fun n a c q1 q2 => ?_, fun a h => ?_, srE.fd⟩⟩
  · rcases st.fz' b h with z | z | z
    · rw [e2] at z; exact .inl z
    · exact .inr (.inl (lv' b z))
    · rw [e1] at z; exact .inr (.inr z)
  · by_cases hn : n ∈ ns
    · obtain ⟨j, hj⟩ := List.mem_iff_getElem?.mp hn
      exact .inl (lvOf hj q2)
    · have q1 : (setAll g.S ns gE.S)[n]? = _ := q1
      rw [setAll_off ns _ _ n hn] at q1
      exact .inl ⟨n, v, ⟨q1, mv⟩, q2⟩
  · have q' : (setAll g.S ns gE.S)[n]? = _ := q'
    by_cases hn : n ∈ ns
    · obtain ⟨j, hj⟩ := List.mem_iff_getElem?.mp hn
      have hl : n < g.S.length := (List.getElem?_eq_some_iff.mp q).1
      obtain ⟨z0, h3, h4⟩ := paired_get hS hj
      have hjl := st.ge
      rw [e4] at hjl
      obtain ⟨d, hd'⟩ : ∃ d, gE.S[j]? = some d := ⟨_, List.getElem?_eq_getElem (by have := (List.getElem?_eq_some_iff.mp h3).1; omega)⟩
      rw [setAll_on ns _ _ j n d hd hj hd' hl] at q'
      cases q'
      obtain ⟨p, hp⟩ := lv z0 (List.mem_of_getElem? h3)
      exact st.pl j z0 _ (by rw [e4]; exact h3) hd' (by rw [hp]; rfl)
    · rw [setAll_off ns _ _ n hn, q] at q'
      cases q'; exact z
  · have q1 : g.A[n]? = some a := q1
    have q2 : (setAll g.S ns gE.S)[n]? = some c := q2
    by_cases hn : n ∈ ns
    · obtain ⟨j, hj⟩ := List.mem_iff_getElem?.mp hn
      have hA2 := idx hj q1
      obtain ⟨c', hc'⟩ : ∃ c', gE.S[j]? = some c' := ⟨_, List.getElem?_eq_getElem (by rw [← srE.len]; exact (List.getElem?_eq_some_iff.mp hA2).1)⟩
      have hl : n < g.S.length := by rw [← sr.len]; exact (List.getElem?_eq_some_iff.mp q1).1
      rw [setAll_on ns _ _ j n c' hd hj hc' hl] at q2
      cases q2
      obtain ⟨z0, h3, h4⟩ := paired_get hS hj
      obtain ⟨p, hp⟩ := lv z0 (List.mem_of_getElem? h3)
      have hnn := st.pl j z0 c (by rw [e4]; exact h3) hc' (by rw [hp]; rfl)
      have kc := srE.cell j a c hA2 hc'
      cases c with
      | live v => exact kc
      | froz v => exact kc
      | nest es => cases hnn
    · rw [setAll_off ns _ _ n hn] at q2
      have k := sr.cell n a c q1 q2
      have nlv : ¬ Lv g' a := fun ⟨m, v, ⟨z1, _⟩, z2⟩ => by
        rw [e3] at z2
        have hm : m < ns.length := by rw [← lA]; exact (List.getElem?_eq_some_iff.mp z2).1
        obtain ⟨n2, hn2⟩ : ∃ n, ns[m]? = some n := ⟨_, List.getElem?_eq_getElem hm⟩
        obtain ⟨y, h1, h2⟩ := paired_get hA hn2
        rw [z2] at h1; cases h1
        have := (List.getElem?_inj (i := n) (j := n2) (List.getElem?_eq_some_iff.mp q1).1 sr.nd).mp (q1.trans h2.symm)
        exact hn (this ▸ List.mem_of_getElem? hn2)
      have kp : Keep g gE := ⟨fun b h => st.fz b (by rw [e2]; exact h), fun b x e hh => st.keep b x (by rw [e1]; exact e) fun z => by
        rcases hh with hh | hh
        · exact sr.nlv hh (lv' b z)
        · rcases sr.lvMut (lv' b z) with ⟨_, q⟩ | ⟨_, q⟩ | ⟨_, q⟩ <;> rw [e] at q <;> cases q <;> exact hh⟩
      refine CellOk.keep (g := g) (g' := { S := setAll g.S ns gE.S, A := g.A, H := gE.H, F := gE.F }) ⟨kp.fz, kp.keep⟩ (fun _ _ h => h) (fun mc => ?_) (fun mc z => ?_) k
      · obtain ⟨x, hx⟩ := k.ex mc
        exact (st.keep a x (by rw [e1]; exact hx) nlv).trans hx.symm
      · rcases st.fz' a z with z | z | z
        · rw [e2] at z; exact z
        · exact absurd z nlv
        · obtain ⟨x, hx⟩ := k.ex mc
          rw [e1, hx] at z; cases z
  · obtain ⟨x, hx⟩ := sr.dom a h
    exact st.dom a x (by rw [e1]; exact hx)
theorem cels_live : ∀ {avs : List AV}, ∀ c ∈ cels avs, ∃ p, c = .live p
  | [], c, h => by simp [cels] at h
  | .val p :: r, c, h => cels_live (avs := r) c h
  | .cel p :: r, c, h => by
    rcases List.mem_cons.mp h with e | h
    · exact ⟨p, e⟩
    · exact cels_live (avs := r) c h
/-- a call -/
theorem callF_ok {F : Fn} {ss : List SV} {vs : List V} {Q : RV → G → Prop} {Q' : VK} (st0 : Stp g0 g) (sr : SRc K g) (hv : Paired (Rs K g) ss vs) (h : WG K W g0 g.S (callF F ss) Q) (q : ∀ r g' v, Stp g g' → SRc K g' → Rr K g0 g' r v → Q r g' → Q' v g'.H) : spF K F vs g.H Q' := by
  unfold WG callF at h
  cases e : avsOf ss g.S with
  | none => simp only [e] at h
  | some x =>
    obtain ⟨avs, ns⟩ := x
    simp only [e] at h
    cases hd : noDup ns with
    | false => simp only [hd] at h; exact h.elim
    | true =>
      simp only [hd, if_true] at h
      obtain ⟨As, l1, p1, p2, p3⟩ := avs_ok [] sr hv e
      have srC : SRc K { S := cels avs, A := As, H := g.H, F := g.F } := by
        refine ⟨?_, ?_, fun m a c q1 q2 => ?_, fun a h => ?_, sr.fd⟩
        · show As.length = (cels avs).length
          rw [l1]; exact Paired.length p2
        · have : ∀ {ns : List Nat} {As : List Addr}, Paired (fun (n : Nat) (a : Addr) => g.A[n]? = some a) ns As → ns.Nodup → As.Nodup := fun {ns As} hp => by
            induction hp with
            | nil => exact fun _ => List.nodup_nil
            | @cons n a _ as x y ih =>
              intro hn
              obtain ⟨h1, h2⟩ := List.nodup_cons.mp hn
              refine List.nodup_cons.mpr ⟨fun z => ?_, ih h2⟩
              have : ∀ {ns : List Nat} {As : List Addr}, Paired (fun (n : Nat) (a : Addr) => g.A[n]? = some a) ns As → a ∈ As → n ∈ ns := fun {ns As} hp => by
                induction hp with
                | nil => exact fun z => by cases z
                | cons x' y' ih' =>
                  intro z
                  rcases List.mem_cons.mp z with z | z
                  · subst z
                    have x' : g.A[_]? = some a := x'
                    have x : g.A[n]? = some a := x
                    have := (List.getElem?_inj (List.getElem?_eq_some_iff.mp x).1 sr.nd).mp (x.trans x'.symm)
                    rw [this]; exact List.mem_cons_self
                  · exact List.mem_cons_of_mem _ (ih' z)
              exact h1 (this y z)
          exact this p1 (noDup_nodup hd)
        · have hm : m < ns.length := by rw [← l1]; exact (List.getElem?_eq_some_iff.mp q1).1
          obtain ⟨n, hn⟩ : ∃ n, ns[m]? = some n := ⟨_, List.getElem?_eq_getElem hm⟩
          obtain ⟨y, h1, h2⟩ := paired_get p1 hn
          obtain ⟨z, h3, h4⟩ := paired_get p2 hn
          have q1 : As[m]? = some a := q1
          have q2 : (cels avs)[m]? = some c := q2
          rw [q1] at h1; cases h1
          rw [q2] at h3; cases h3
          have kc := sr.cell n a c h2 h4
          obtain ⟨p, rfl⟩ := cels_live c (List.mem_of_getElem? q2)
          exact kc
        · obtain ⟨m, hm⟩ := List.mem_iff_getElem?.mp h
          have hm' : m < ns.length := by rw [← l1]; exact (List.getElem?_eq_some_iff.mp hm).1
          obtain ⟨n, hn⟩ : ∃ n, ns[m]? = some n := ⟨_, List.getElem?_eq_getElem hm'⟩
          obtain ⟨y, h1, h2⟩ := paired_get p1 hn
          have hm : As[m]? = some a := hm
          rw [hm] at h1; cases h1
          exact sr.dom a (List.mem_of_getElem? h2)
      refine ⟨{ S := cels avs, A := As, H := g.H, F := g.F }, avs, rfl, srC, rfl, p3 _ (fun _ _ h => h) (fun j a e => by simpa using e), ?_⟩
      cases e5 : F avs with
      | stuck => rw [e5] at h; exact h.elim
      | exc a b c => rw [e5] at h; exact h.elim
      | ok r outs =>
        rw [e5] at h
        intro gE v hE st srE hr
        subst hE
        obtain ⟨b1, b2⟩ := back_ok (g' := { S := cels avs, A := As, H := g.H, F := g.F }) sr (noDup_nodup hd) p1 p2 rfl rfl rfl rfl cels_live st srE
        have st1 := st0.trans b1
        cases r with
        | ref n => exact h.elim
        | val p => exact q (.val p) { S := setAll g.S ns gE.S, A := g.A, H := gE.H, F := gE.F } v b1 b2 hr (h { S := setAll g.S ns gE.S, A := g.A, H := gE.H, F := gE.F } rfl st1 b2)
        | own p =>
          obtain ⟨a, rfl, h1, h2, h3, h4⟩ := hr
          refine q (.own p) { S := setAll g.S ns gE.S, A := g.A, H := gE.H, F := gE.F } (.ref a) b1 b2 ⟨a, rfl, h1, h2, fun z => ?_, st0.absent h4⟩ (h { S := setAll g.S ns gE.S, A := g.A, H := gE.H, F := gE.F } rfl st1 b2)
          obtain ⟨x, hx⟩ := sr.dom a z
          have h4 : g.H a = none := h4
          rw [h4] at hx; cases hx
end
end Pf
end
section
set_option Elab.async false
set_option linter.all false
set_option maxHeartbeats 1000000
set_option autoImplicit false
namespace Pf
open PySem PySem.Spec L2 PyProof.Rows
structure CalG (P : Program) (w : World) (K : Frag) (mg : Str → Option Value) (base : Heap) (k : Nat) (x : Str) (D : He.DefD) (ps : List Str) (F : Fn) : Prop where
  ex : ∃ (f : Addr) (fd : FuncData), FnG P w K mg base k f fd ps (spF K F) ∧ mg x = some (.ref f) ∧ PySem.W.keepIn K (.ref f) = true ∧
    ∃ (kV doc pm : Value) (an : Option Addr) (cdv ct : Value), fd = PySem.W.fnOf D.name D.qual D.params D.body D.scope .none kV doc pm an cdv ct
theorem CalG.mono {P : Program} {w : World} {K : Frag} {mg : Str → Option Value} {base : Heap} {j k : Nat} {x : Str} {D : He.DefD} {ps : List Str} {F : Fn} (c : CalG P w K mg base j x D ps F) (h : j ≤ k) : CalG P w K mg base k x D ps F :=
  let ⟨f, fd, a, b⟩ := c.ex
  ⟨f, fd, a.mono h, b⟩
theorem calG {P : Program} {w : World} {K : Frag} {mg : Str → Option Value} {base : Heap} {D : He.DefD} {f : Addr} {fd : FuncData} {N ps : List Str} {k : Nat} {d : DenS} (F : FunD K D.name D.qual D.params D.body D.scope [] [] f fd) (hm : mg D.name = some (.ref f)) (S : FnScope N ps D.scope)
    (hbody : ∀ (cdv : Value) (A : Around) (outer : List PySem.Env) (s : Shared) (H : Hp), Room k (A.deeper (envOfC D.qual D.scope s.heap.objs.size f cdv)) → A.guards = some [] →
      PSs (cxOf CX0 P w K mg base N D.qual D.scope f cdv A outer s H E0).nox D.body (tS K W0 d)) : CalG P w K mg base (k + 1) D.name D ps (runF N.length d) := by
  refine ⟨f, fd, fnG_body F S hbody, hm, F.kp, ?_⟩
  obtain ⟨oc, od, dV, kV, doc, pm, an, cdv, ct, osl, rfl, lk, hcd, hD, _⟩ := F.ex
  have e : dV = .none := by
    rcases hD with h | h
    · exact h.2
    · exact absurd rfl h.1
  subst e
  exact ⟨kV, doc, pm, an, cdv, ct, rfl⟩
section
variable {X : Cx} {W : WS} {j k np : Nat} {x : Str} {D : He.DefD} {ps ks : List Str} {F : Fn} {p pos : Pos} {e : Expr} {es : List Expr} {ds dk : List Den} {mus : List Bool} {perm : List Nat} {kws : List Keyword}
theorem run_fnG {f : Addr} {fd : FuncData} {sp : List V → Hp → VK → Prop} {pins : List (Addr × Obj)} {σ : L2.St} {H : Hp} {s : Shared} {Q : VK} {us : List Value} {vs : List V} {args : Args} (Fk : FnG X.prog X.w X.K X.mg X.base k f fd ps sp) (hr : Room k X.A) (hgd : X.A.guards = some []) (I : Inv X pins σ H s)
    (hb : BindsTo s fd args (ps.zip us)) (r : Vals vs us) (hl : vs.length = ps.length) (h : sp vs H Q) : codeAny (model X.prog X.w) X.A (.call (.ref f) args) (fun r s' => match r with
      | .ok (.ret u) => EP X pins σ Q u s'
      | .ok _ => False
      | .error e => X.xe e s') s := by
  refine codeAny_mono (Fk.run X.A X.stack s H args us vs Q hr hgd I.env0 hb r hl h) fun r s' hq => ?_
  cases r with
  | error e => exact False.elim hq
  | ok fl =>
    cases fl with
    | ret u => exact I.after hq
    | next => exact False.elim hq
    | brk => exact False.elim hq
    | cont => exact False.elim hq
theorem callN_ok {K : Frag} {g0 g : G} {Wx : XW} {ss : List SV} {vs : List V} {Q : RV → G → Prop} {Q' : VK} (st0 : Stp g0 g) (sr : SRc K g) (hv : Paired (Rs K g) ss vs) (h : WG K Wx g0 g.S (callN np F ss) Q) (q : ∀ r g' v, Stp g g' → SRc K g' → Rr K g0 g' r v → Q r g' → Q' v g'.H) : vs.length = np ∧ spF K F vs g.H Q' := by
  unfold callN at h
  by_cases hl : ss.length = np
  · rw [if_pos hl] at h
    exact ⟨by rw [← hl]; exact (Paired.length hv).symm, callF_ok st0 sr hv h q⟩
  · rw [if_neg hl] at h
    exact (stk_ok h).elim
theorem dCall_of {K : Frag} {σ : L2.St} {H : Hp} {Q : VK} (h : tD K W (dCall np F mus ds) σ H Q) : tDs K W ds σ H fun vs H1 => vs.length = np ∧ spF K F vs H1 Q := by
  obtain ⟨ρ, g, e, sr, se, h⟩ := h
  subst e
  refine tDs.bd (Stp.refl g) sr se h fun rs g1 vs st _ sr1 se1 hv h1 => ?_
  obtain ⟨ss, g2, e2, st2, sr2, r2, _, _, h2⟩ := bindMany_ok st sr1 (hv.from (Stp.refl g)) h1
  rw [← e2]
  exact callN_ok st2 sr2 r2 h2 fun r g' v st' sr' hr hq => hq v hr
theorem pe_gcall (c : CalG X.prog X.w X.K X.mg X.base k x D ps F) (hr : Room j X.A) (hk : k ≤ j) (hgd : X.A.guards = some []) (hg : Gl X x) (hnp : ps.length = np)
    (hb : ∀ (kV doc pm : Value) (an : Option Addr) (cdv ct : Value) (us : List Value), us.length = ps.length → bindArgs (PySem.W.fnOf D.name D.qual D.params D.body D.scope .none kV doc pm an cdv ct) ⟨us, []⟩ = pure (ps.zip us))
    (ha : PA X (e :: es) (tDs X.K W ds)) (hdb : (x == ("__debug__" : Str)) = false := by decide) (he : starEach (e :: es) X.env = (false, eval e X.env) :: starEach es X.env := by rfl) (hpl : (backTo pos (starEach es X.env)).any (·.1) = false := by rfl) :
    PE X (.Call (.Name x p) (e :: es) [] pos) (tD X.K W (dCall np F mus ds)) := by
  obtain ⟨f, fd, Fk, hm, kp, kV, doc, pm, an, cdv, ct, rfl⟩ := c.ex
  refine ⟨fun pins s σ H Q I h => ?_⟩
  have h := dCall_of h
  refine wpAny_Call_Name_kw (ld_glob I hg hm ?_ hdb)
  refine PySem.W.callWith_K (h₀ := X.base) I.ok.mod.kin kp (thn (ha.run pos pins s σ H _ I h) fun us s1 ⟨vs, H1, I1, r, hl, q⟩ => ⟨I1.kIn, ?_⟩) he hpl
  have hl2 : us.length = ps.length := by rw [hnp, ← hl]; exact r.length.symm
  exact wpAny_call (codeAny_mono (run_fnG Fk (hr.mono hk) hgd I1 (.of_eq (hb kV doc pm an cdv ct us hl2)) r (hl.trans hnp.symm) q) fun r s' hq => by
    cases r with
    | error e => exact hq
    | ok fl => cases fl <;> first | exact hq | exact hq.elim)
theorem pe_gcall0 (c : CalG X.prog X.w X.K X.mg X.base k x D [] F) (hr : Room j X.A) (hk : k ≤ j) (hgd : X.A.guards = some []) (hg : Gl X x)
    (hb : ∀ (kV doc pm : Value) (an : Option Addr) (cdv ct : Value), bindArgs (PySem.W.fnOf D.name D.qual D.params D.body D.scope .none kV doc pm an cdv ct) ⟨[], []⟩ = pure [])
    (hdb : (x == ("__debug__" : Str)) = false := by decide) :
    PE X (.Call (.Name x p) [] [] pos) (tD X.K W (dCall 0 F [] [])) := by
  obtain ⟨f, fd, Fk, hm, kp, kV, doc, pm, an, cdv, ct, rfl⟩ := c.ex
  refine ⟨fun pins s σ H Q I h => ?_⟩
  have h := dCall_of h
  refine wpAny_Call_Name_kw (ld_glob I hg hm ?_ hdb)
  have h3 : 0 = 0 ∧ spF X.K F [] H Q := by
    obtain ⟨ρ, g, e, sr, se, hx⟩ := h
    subst e
    exact hx.ret rfl (Stp.refl g) sr [] ⟨.nil, trivial⟩
  exact PySem.W.callWith_K0 I.kIn kp (wpAny_call (codeAny_mono (run_fnG (us := []) (vs := []) Fk (hr.mono hk) hgd I (.of_eq (hb kV doc pm an cdv ct)) .nil rfl h3.2) fun r s' hq => by
    cases r with
    | error e => exact hq
    | ok fl => cases fl <;> first | exact hq | exact hq.elim))
/-! keywords -/
theorem pk_d0 : PK X [] (tDs X.K W []) := ⟨fun pos pins s σ H Q I ⟨ρ, g, e, sr, se, h⟩ => by
  subst e
  exact pk_nil.run pos pins s σ g.H Q I (h.ret rfl (Stp.refl g) sr [] ⟨.nil, trivial⟩)⟩
theorem pk_d1 {nm : Option Str} {kpos : Pos} {d : Den} (h1 : PE X e (tD X.K W d)) (h2 : PK X kws (tDs X.K W dk)) : PK X (⟨nm, e, kpos⟩ :: kws) (tDs X.K W (d :: dk)) :=
  ⟨fun pos pins s σ H Q I ⟨ρ, g, e, sr, se, h⟩ => by
    subst e
    refine (pk_cons h1 h2).run pos pins s σ g.H Q I ?_
    refine tD.bd (Stp.refl g) sr se h fun r g1 v st _ sr1 se1 hv h1 => ?_
    refine tDs.bd st sr1 se1 h1 fun rs g2 vs st2 st02 sr2 se2 hvs h2 => ?_
    refine h2.ret rfl st02 sr2 (v :: vs) ⟨.cons (hv.step sr1 st2) (hvs.from st).1, fun o i r' e1 e2 e3 => ?_, hvs.2⟩
    obtain ⟨a, e4, z⟩ := hvs.1.own e1 e2 e3
    cases r <;> simp [isOwn] at o
    obtain ⟨b, e5, hb, _⟩ := hv
    obtain ⟨y, hy⟩ := hb.ex
    rw [e4] at e5
    cases e5
    rw [z] at hy; cases hy⟩
theorem paired_append {α β : Type} {R : α → β → Prop} : ∀ {xs zs : List α} {ys ws : List β}, Paired R xs ys → Paired R zs ws → Paired R (xs ++ zs) (ys ++ ws)
  | _, _, _, _, .nil, h => h
  | _, _, _, _, .cons a b, h => .cons a (paired_append b h)
theorem paired_permL {α β : Type} {R : α → β → Prop} {xs : List α} {ys : List β} (h : Paired R xs ys) : ∀ perm : List Nat, Paired R (permL perm xs) (permL perm ys)
  | [] => .nil
  | n :: ns => by
    have ih := paired_permL h ns
    unfold permL at ih ⊢
    cases e : xs[n]? with
    | none =>
      have hl := Paired.length h
      have e2 : ys[n]? = none := List.getElem?_eq_none (by have := List.getElem?_eq_none_iff.mp e; omega)
      rw [List.filterMap_cons_none e, List.filterMap_cons_none e2]
      exact ih
    | some x =>
      obtain ⟨y, hy, r⟩ := paired_get h e
      rw [List.filterMap_cons_some e, List.filterMap_cons_some hy]
      exact .cons r ih
theorem vals_append {vs ws : List V} {us zs : List Value} (a : Vals vs us) (b : Vals ws zs) : Vals (vs ++ ws) (us ++ zs) := a.append b
/-- the results of two argument lists, one behind the other -/
theorem RrL.app {K : Frag} {g g1 g2 : G} {rs qs : List RV} {vs ws : List V} (sr1 : SRc K g1) (st1 : Stp g g1) (st2 : Stp g1 g2) (h1 : RrL K g g1 rs vs) (h2 : RrL K g1 g2 qs ws) : RrL K g g2 (rs ++ qs) (vs ++ ws) := by
  refine ⟨paired_append (RrP.step sr1 st2 h1.1) (RrP.from st1 h2.1), ?_⟩
  have key : ∀ {rs : List RV} {vs : List V}, RrP K g g1 rs vs → ODist rs vs → ODist (rs ++ qs) (vs ++ ws) := fun {rs vs} hp => by
    induction hp with
    | nil => exact fun _ => h2.2
    | @cons r v rs vs a b ih =>
      intro hd
      refine ⟨fun o i q e oq z => ?_, ih hd.2⟩
      have e : (rs ++ qs)[i]? = some q := e
      have z : (vs ++ ws)[i]? = some v := z
      by_cases hi : i < rs.length
      · rw [List.getElem?_append_left hi] at e
        rw [List.getElem?_append_left (by rw [← Paired.length b]; exact hi)] at z
        exact hd.1 o i q e oq z
      · rw [List.getElem?_append_right (by omega)] at e
        rw [List.getElem?_append_right (by rw [← Paired.length b]; omega), ← Paired.length b] at z
        obtain ⟨x, e4, y⟩ := h2.1.own e oq z
        cases r <;> simp [isOwn] at o
        obtain ⟨b', e5, hb, _⟩ := a
        obtain ⟨y', hy⟩ := hb.ex
        rw [e5] at e4
        cases e4
        rw [y] at hy; cases hy
  exact key h1.1 h1.2
theorem vals_permL {vs : List V} {us : List Value} (h : Vals vs us) (perm : List Nat) : Vals (permL perm vs) (permL perm us) := paired_permL h perm
theorem dCallK_of {K : Frag} {σ : L2.St} {H : Hp} {Q : VK} (h : tD K W (dCallK np F perm mus ds dk) σ H Q) : tDs K W ds σ H fun vs H1 => tDs K W dk σ H1 fun ws H2 => (permL perm (vs ++ ws)).length = np ∧ spF K F (permL perm (vs ++ ws)) H2 Q := by
  obtain ⟨ρ, g, e, sr, se, h⟩ := h
  subst e
  refine tDs.bd (Stp.refl g) sr se h fun rs g1 vs st _ sr1 se1 hv h1 => ?_
  refine tDs.bd st sr1 se1 h1 fun qs g2 ws st2 st02 sr2 se2 hws h2 => ?_
  obtain ⟨ss, g3, e3, st3, sr3, r3, _, _, h3⟩ := bindMany_ok st02 sr2 (RrL.app sr1 st st2 hv hws) h2
  rw [← e3]
  exact callN_ok st3 sr3 (paired_permL r3 perm) h3 fun r g' v st' sr' hr hq => hq v hr
theorem tDs_len {K : Frag} {ds : List Den} {σ : L2.St} {H : Hp} {Q : List V → Hp → Prop} (h : tDs K W ds σ H Q) : tDs K W ds σ H fun vs H1 => vs.length = ds.length ∧ Q vs H1 := by
  obtain ⟨ρ, g, e, sr, se, h⟩ := h
  refine ⟨ρ, g, e, sr, se, ?_⟩
  have : ∀ (ds : List Den) (S : Sto), (∀ rs S', evAll ds ρ S = .ok rs S' → rs.length = ds.length) := fun ds => by
    induction ds with
    | nil => intro S rs S' e; cases e; rfl
    | cons d ds ih =>
      intro S rs S' e
      simp only [evAll, bd] at e
      cases e1 : d ρ S with
      | stuck => rw [e1] at e; cases e
      | exc a b c => rw [e1] at e; cases e
      | ok r S1 =>
        rw [e1] at e
        simp only at e
        cases e2 : evAll ds ρ S1 with
        | stuck => rw [e2] at e; cases e
        | exc a b c => rw [e2] at e; cases e
        | ok rs1 S2 =>
          rw [e2] at e
          cases e
          simp [ih _ _ _ e2]
  unfold WG at h ⊢
  cases e2 : evAll ds ρ g.S with
  | stuck => rw [e2] at h; exact h
  | exc a b c => rw [e2] at h; exact h
  | ok rs S' =>
    rw [e2] at h
    intro g' h1 h2 h3 vs hv
    exact ⟨by rw [← Paired.length hv.1]; exact this ds g.S rs S' e2, h g' h1 h2 h3 vs hv⟩
theorem pe_gcallK (c : CalG X.prog X.w X.K X.mg X.base k x D ps F) (hr : Room j X.A) (hk : k ≤ j) (hgd : X.A.guards = some []) (hg : Gl X x) (hnp : ps.length = np) (hwd : dk.length = ks.length)
    (hb : ∀ (kV doc pm : Value) (an : Option Addr) (cdv ct : Value) (us ws : List Value), us.length = ds.length → ws.length = ks.length → bindArgs (PySem.W.fnOf D.name D.qual D.params D.body D.scope .none kV doc pm an cdv ct) ⟨us, ks.zip ws⟩ = pure (ps.zip (permL perm (us ++ ws))))
    (ha : PA X (e :: es) (tDs X.K W ds)) (hkw : PK X kws (tDs X.K W dk)) (hall : (backToKw pos (keywordEach kws X.env)).all (·.1.isSome) = true := by rfl) (hks : (backToKw pos (keywordEach kws X.env)).filterMap (·.1) = ks := by rfl)
    (hdb : (x == ("__debug__" : Str)) = false := by decide) (he : starEach (e :: es) X.env = (false, eval e X.env) :: starEach es X.env := by rfl)
    (hpl : ((backTo pos (starEach (e :: es) X.env)).any (·.1) || (backToKw pos (keywordEach kws X.env)).any (·.1.isNone)) = false := by rfl) :
    PE X (.Call (.Name x p) (e :: es) kws pos) (tD X.K W (dCallK np F perm mus ds dk)) := by
  obtain ⟨f, fd, Fk, hm, kp, kV, doc, pm, an, cdv, ct, rfl⟩ := c.ex
  refine ⟨fun pins s σ H Q I h => ?_⟩
  have h := tDs_len (dCallK_of h)
  refine wpAny_Call_Name_kw (ld_glob I hg hm ?_ hdb)
  refine PySem.W.callWith_KW (h₀ := X.base) I.ok.mod.kin kp hall (thn (ha.run pos pins s σ H _ I h) fun us s1 ⟨vs, H1, I1, r, hl0, q⟩ => ?_) hpl he
  refine thn (hkw.run pos pins s1 σ H1 _ I1 (tDs_len q)) fun ws s2 ⟨zs, H2, I2, rz, hl1, hl2, q2⟩ => ⟨I2.kIn, ?_⟩
  rw [hks]
  have r2 := vals_permL (vals_append r rz) perm
  exact wpAny_call (codeAny_mono (run_fnG Fk (hr.mono hk) hgd I2 (.of_eq (hb kV doc pm an cdv ct us ws (by rw [← hl0]; exact r.length.symm) (by rw [← hwd, ← hl1]; exact rz.length.symm))) r2 (hl2.trans hnp.symm) q2) fun r s' hq => by
    cases r with
    | error e => exact hq
    | ok fl => cases fl <;> first | exact hq | exact hq.elim)
theorem pe_gcallK0 (c : CalG X.prog X.w X.K X.mg X.base k x D ps F) (hr : Room j X.A) (hk : k ≤ j) (hgd : X.A.guards = some []) (hg : Gl X x) (hnp : ps.length = np) (hwd : dk.length = ks.length)
    (hb : ∀ (kV doc pm : Value) (an : Option Addr) (cdv ct : Value) (ws : List Value), ws.length = ks.length → bindArgs (PySem.W.fnOf D.name D.qual D.params D.body D.scope .none kV doc pm an cdv ct) ⟨[], ks.zip ws⟩ = pure (ps.zip (permL perm ws)))
    (hkw : PK X kws (tDs X.K W dk)) (hall : (backToKw pos (keywordEach kws X.env)).all (·.1.isSome) = true := by rfl) (hks : (backToKw pos (keywordEach kws X.env)).filterMap (·.1) = ks := by rfl)
    (hdb : (x == ("__debug__" : Str)) = false := by decide)
    (hpl : ((backTo pos (starEach [] X.env)).any (·.1) || (backToKw pos (keywordEach kws X.env)).any (·.1.isNone)) = false := by rfl) :
    PE X (.Call (.Name x p) [] kws pos) (tD X.K W (dCallK np F perm mus [] dk)) := by
  obtain ⟨f, fd, Fk, hm, kp, kV, doc, pm, an, cdv, ct, rfl⟩ := c.ex
  refine ⟨fun pins s σ H Q I h => ?_⟩
  have h := dCallK_of h
  refine wpAny_Call_Name_kw (ld_glob I hg hm ?_ hdb)
  have h3 : tDs X.K W dk σ H fun ws H2 => (permL perm ([] ++ ws)).length = np ∧ spF X.K F (permL perm ([] ++ ws)) H2 Q := by
    obtain ⟨ρ, g, e, sr, se, hx⟩ := h
    subst e
    exact hx.ret rfl (Stp.refl g) sr [] ⟨.nil, trivial⟩
  refine PySem.W.callWith_KW0 (h₀ := X.base) I.ok.mod.kin kp hall ?_ hpl
  refine thn (hkw.run pos pins s σ H _ I (tDs_len h3)) fun ws s2 ⟨zs, H2, I2, rz, hl1, hl2, q2⟩ => ⟨I2.kIn, ?_⟩
  rw [hks]
  have r2 := vals_permL rz perm
  exact wpAny_call (codeAny_mono (run_fnG Fk (hr.mono hk) hgd I2 (.of_eq (hb kV doc pm an cdv ct ws (by rw [← hwd, ← hl1]; exact rz.length.symm))) r2 (hl2.trans hnp.symm) q2) fun r s' hq => by
    cases r with
    | error e => exact hq
    | ok fl => cases fl <;> first | exact hq | exact hq.elim)
end
end Pf
end
section
set_option Elab.async false
set_option linter.all false
set_option maxHeartbeats 1000000
set_option autoImplicit false
namespace Pf
open PySem PySem.Spec L2 PyProof.Rows
/-! the head -/
def frS (n : Nat) (g : Addr → Option Obj) : Frag := He.frG g (sysModules :: He.asD g n)
/-- the module's tuples of whole numbers -/
abbrev Tb : Type := List (Str × List Int)
def tbB (K : Frag) (t : Str × List Int) : Bool := He.tupB K t.1 (t.2.map He.Dv.int)
def obsS (n : Nat) (fa : List He.Fa) (tb : Tb) (fn : List He.DefD) (g : Addr → Option Obj) : He.AlD := ((He.obsD fa fn (frS n g)).1 && (((frS n g).lookup sysModules).isSome && tb.all (tbB (frS n g))), (He.obsD fa fn (frS n g)).2)
structure SaysS (fa : List He.Fa) (tb : Tb) (fn : List He.DefD) (K : Frag) : Prop where
  d : He.SaysD fa fn K
  sys : ∃ o, K.lookup sysModules = some o
  tb : tb.all (tbB K) = true
def hookS (n : Nat) (fa : List He.Fa) (tb : Tb) (fn : List He.DefD) : PySem.W.Hook where
  α := He.AlD
  obs := fun s => obsS n fa tb fn s.heap.get?
  val := fun _ => He.valD fn
  says := fun _ h => ∃ K : Frag, K.In h ∧ SaysS fa tb fn K
  of := fun _ s e => by
    have e : obsS n fa tb fn s.heap.get? = He.valD fn := e
    have e1 : ((He.obsD fa fn (frS n s.heap.get?)).1 && (((frS n s.heap.get?).lookup sysModules).isSome && tb.all (tbB (frS n s.heap.get?)))) = true := congrArg (fun z : He.AlD => z.1) e
    have e2 : (obsS n fa tb fn s.heap.get?).2 = (He.valD fn).2 := congrArg (fun z : He.AlD => z.2) e
    obtain ⟨h1, h2⟩ := He.ba e1
    obtain ⟨h3, h4⟩ := He.ba h2
    exact ⟨frS n s.heap.get?, He.frG_in, Prod.ext h1 e2, Option.isSome_iff_exists.mp h3, h4⟩
  keeps := fun _ _ _ ⟨K, hK, c⟩ k => ⟨K, PySem.W.Frag.In.keeps hK k, c⟩
theorem obsS_eq {n : Nat} {fa : List He.Fa} {tb : Tb} {fn : List He.DefD} {g : Addr → Option Obj} {s : Shared} (h : ∀ a, g a = s.heap.get? a) : obsS n fa tb fn g = (hookS n fa tb fn).obs s := by
  have e : g = s.heap.get? := funext h
  rw [e] <;> rfl
theorem SaysS.tup {fa : List He.Fa} {tb : Tb} {fn : List He.DefD} {K : Frag} (c : SaysS fa tb fn K) (i : Nat) {x : Str} {ns : List Int} (h : tb[i]? = some (x, ns) := by rfl) (H : Hp) : SqT K H (He.ga K x) (ns.map V.int) := by
  have h1 := List.all_eq_true.mp c.tb _ (List.mem_of_getElem? h)
  have h2 := He.tupB_ok h1 H
  rw [List.map_map] at h2
  exact h2
theorem callG {P : Program} {w : World} {K : Frag} {mg mb : Str → Option Value} {k : Nat} {fa a : Addr} {fd : FuncData} {x : Str} {sp : List V → Hp → VK → Prop} {s₁ : Shared} {vs : List Value} {ns : List Int}
    (KX : K.In s₁.heap) (hns : s₁.heap.Ns mainGlobals mg) (hb : s₁.heap.Ns builtinsNs mb) (hbb : ∀ x : Str, x ≠ "__name__" → mb x = bootBuiltins x) (hlim : s₁.heap.NoLimit) (hg : s₁.gens = #[])
    (ha : s₁.heap.get? a = some { cls := .type "list", data := .seq vs.toArray }) (hi : IntsAre vs ns) (hl : ns.length ≤ sizeLine) (hr : Room k callerA)
    (F : ∀ base : Heap, K.In base → base.Ns mainGlobals mg → FnG P w K mg base k fa fd [x] sp) (hbind : ∀ (s : Shared) (u : Value), BindsTo s fd ⟨[u], []⟩ [(x, u)])
    (hsp : ∀ H : Hp, Only H → Scr K H a ns → sp [.ref a] H (fun v _ => v = .bl true)) :
    codeAny (model P w) callerA (.call (.ref fa) ⟨[.ref a], []⟩) (fun r s' => r = .ok (.ret (.bool true)) ∧ OldK s₁.heap s'.heap ∧ s'.os = s₁.os ∧ AllBare s'.gens) s₁ := by
  have rv := vals_ints hi
  have lenV := hi.length
  have main : ∀ H : Hp, Only H → Scr K H a ns → HOk P w H s₁.heap → (∀ b, H b ≠ none → b = a) → (H a ≠ none → K.lookup a = none) →
      codeAny (model P w) callerA (.call (.ref fa) ⟨[.ref a], []⟩) (fun r s' => r = .ok (.ret (.bool true)) ∧ OldK s₁.heap s'.heap ∧ s'.os = s₁.os ∧ AllBare s'.gens) s₁ := by
    intro H hO hS hok hA hK
    have base_of : ∀ {b : Addr} {o : Obj}, s₁.heap.get? b = some o → H b = none → (hidT s₁.heap H).get? b = some o := fun e n => hidT_get e n
    have atA : ∀ {b : Addr}, H b ≠ none → s₁.heap.get? b = some { cls := .type "list", data := .seq vs.toArray } := fun {b} q => by
      rw [hA b q]; exact ha
    have noA : ∀ {b : Addr} {o : Obj} {es : Array DictEntry} {ep : Nat}, s₁.heap.get? b = some o → o.data = .dict es ep → H b = none := fun {b o es ep} e d => by
      by_cases q : H b = none
      · exact q
      · rw [atA q] at e
        cases e
        exact Data.noConfusion d
    have nsK : ∀ {b : Addr} {m : Str → Option Value}, s₁.heap.Ns b m → (hidT s₁.heap H).Ns b m := fun {b m} ⟨o, es, ep, e, d, r⟩ => ⟨o, es, ep, base_of e (noA e d), d, r⟩
    have hKb : K.In (hidT s₁.heap H) := fun b o e => base_of (KX b o e) (by
      by_cases q : H b = none
      · exact q
      · have e' := hA b q
        subst e'
        rw [hK q] at e; cases e)
    have hM : Mod K mg (hidT s₁.heap H) := ⟨hKb, nsK hns, ⟨mb, nsK hb, hbb⟩, let ⟨mc, h1, h2⟩ := hlim; ⟨mc, nsK h1, h2⟩⟩
    have e0 : Env0 P w K mg (hidT s₁.heap H) callerA [] s₁ H := ⟨rfl, hM, fun b o e => of_hidT e, Nat.le_of_eq (hidT_size _ _), trivial, fun b hb => absurd (show b ∈ ([] : List Addr) from hb) (by simp), hok, .of_eq hg⟩
    refine codeAny_mono ((F _ hKb (nsK hns)).run callerA [] s₁ H ⟨[.ref a], []⟩ [.ref a] [.ref a] _ hr rfl e0 (hbind s₁ (.ref a)) (.cons rfl .nil) rfl (hsp H hO hS)) fun r s' h => ?_
    cases r with
    | error e => exact False.elim h
    | ok fl =>
      cases fl with
      | ret u =>
        obtain ⟨v, H', os, bare, un, hok', r', q⟩ := h
        have q' : v = .bl true := q
        subst q'
        obtain rfl : u = Value.bool true := r'
        refine ⟨rfl, OldK.of_keep fun b o e => ?_, os, bare⟩
        rcases hO b with z | ⟨ob, xs, z⟩
        · exact un.keep b o e z (by intro z; exact absurd (show b ∈ ([] : List Addr) from z) (by simp)) (by simp)
        · have z2 := un.frzs b ob _ z
          obtain ⟨e1, _⟩ := hok b _ z
          obtain ⟨e2, _⟩ := hok' b _ z2
          rw [e] at e1; cases e1
          exact e2
      | _ => exact False.elim h
  cases hk : K.lookup a with
  | some o =>
    have e := KX a o hk
    rw [ha] at e
    cases e
    refine main (fun _ => none) (fun _ => .inl rfl) (.inr ⟨_, vs.toArray, _, hk, rfl, rfl, rfl, by rw [List.size_toArray, lenV]; exact hl, by simpa using rv⟩) (fun b u z => by have z' : (none : Option HO) = some u := z; cases z') (fun b z => absurd rfl z) fun z => absurd rfl z
  | none =>
    refine main (fun b => if b = a then some (.frz { cls := .type "list", data := .seq vs.toArray } (.lst (ns.map V.int))) else none) (fun b => ?_) (.inl ⟨{ cls := .type "list", data := .seq vs.toArray }, if_pos rfl⟩) (fun b u z => ?_) (fun b z => ?_) fun _ => hk
    · by_cases hb : b = a
      · exact .inr ⟨_, _, if_pos hb⟩
      · exact .inl (if_neg hb)
    · by_cases hb : b = a
      · have z' := (if_pos hb).symm.trans z
        cases z'
        subst hb
        exact ⟨ha, by rw [List.length_map]; exact hl, vs, _, rv, ha⟩
      · have z' := (if_neg hb).symm.trans z
        cases z'
    · by_cases hb : b = a
      · exact hb
      · exact absurd (if_neg hb) z
/-- what a law's evaluation must give -/
def LawOk (F : Fn) : Prop := ∀ ns : List Int, ns.length ≤ 63 → ∃ outs, F [.val (.scr ns)] = .ok (.val (.bl true)) outs
theorem lawOk_sp {K : Frag} {F : Fn} (h : LawOk F) {H : Hp} {a : Addr} {ns : List Int} (hl : ns.length ≤ 63) (hS : Scr K H a ns) : spF K F [.ref a] H (fun v _ => v = .bl true) := by
  obtain ⟨outs, e⟩ := h ns hl
  refine ⟨{ S := [], A := [], H := H, F := fun _ => False }, [.val (.scr ns)], rfl, ⟨rfl, List.nodup_nil, fun m a c e => by simp at e, fun a h => by simp at h, fun a h => h.elim⟩, rfl, .cons ⟨a, rfl, hS⟩ .nil, ?_⟩
  rw [e]
  exact fun g' v _ _ _ hr => hr
theorem walk_ofG {l : PySem.W.OpenLaw} {k : Nat} {q : Program} {loose : List Str} {XP : (Str → Option Value) → Heap → Prop} {YP : World → Heap → Prop} {d : DefRec} {x : Str} {F : Fn} (hF : LawOk F)
    (hn : l.most = some 63) (hdf : d.params.defaults = []) (hr : Room k callerA)
    (C : ∀ (w : World) (mg : Str → Option Value) (fa : Addr) (h : Heap), YP w h → h.Ns mainGlobals mg → mg d.name = some (.ref fa) →
      ∃ (K : Frag) (fd : FuncData), K.In h ∧ (∀ (s : Shared) (u : Value), BindsTo s fd ⟨[u], []⟩ [(x, u)]) ∧
        ∀ base : Heap, K.In base → base.Ns mainGlobals mg → FnG l.prog w K mg base k fa fd [x] (spF K F)) :
    PySem.W.WalkO q loose XP YP l.row.toRowW d [] (fun f vs => PySem.call f vs) := by
  refine Att.attach_call hn hdf fun w s₀ s₁ mg mb fa o pm cd doc a vs ns G Y ho hd hcd hmg hobj hints hlen hg => ?_
  obtain ⟨K, fd, KX, hb, hc⟩ := C w mg fa _ Y G.T.g hmg
  exact callG KX G.T.g G.T.b G.T.builtins G.T.nolimit hg hobj hints (Nat.le_trans hlen (by decide)) hr hc hb fun H hO hS => lawOk_sp hF hlen hS
end Pf
end
section
set_option Elab.async false
set_option linter.all false
set_option maxHeartbeats 1000000
set_option autoImplicit false
namespace Pf
open PySem PySem.Spec L2 PyProof.Rows
/-! t[::-1] of a tuple -/
section
variable {prog : Program} {w : World} {A : Around} {E : Value → Shared → Prop} {s : Shared}
theorem adjBack (n : Nat) : Builtin.Slice.sliceAdjust none none (-1) (n : Int) = ((n : Int) - 1, -1) := by
  unfold Builtin.Slice.sliceAdjust
  simp
theorem placesBack (n : Nat) : Builtin.Slice.slicePlaces ((n : Int) - 1) (-1) (-1) = n := by
  unfold Builtin.Slice.slicePlaces
  have h1 : ¬ ((-1 : Int) > 0) := by omega
  simp only [h1, if_false]
  split <;> simp <;> omega
theorem fm_map {α β : Type} (f : α → Option β) (g : α → β) : ∀ {l : List α}, (∀ m ∈ l, f m = some (g m)) → l.filterMap f = l.map g
  | [], _ => rfl
  | a :: l, h => by rw [List.filterMap_cons_some (h a List.mem_cons_self), List.map_cons, fm_map f g fun m hm => h m (List.mem_cons_of_mem _ hm)]
theorem pickBack (xs : Array Value) : ((List.range xs.size).filterMap fun (m : Nat) => xs[(((xs.size : Int) - 1) + (m : Int) * (-1)).toNat]?).toArray = xs.toList.reverse.toArray := by
  congr 1
  refine List.ext_getElem? fun i => ?_
  have e : (List.range xs.size).filterMap (fun (m : Nat) => xs[(((xs.size : Int) - 1) + (m : Int) * (-1)).toNat]?) = (List.range xs.size).map fun m => xs[xs.size - 1 - m]?.getD .none := by
    refine fm_map _ _ fun m hm => ?_
    have hm := List.mem_range.mp hm
    have : (((xs.size : Int) - 1) + (m : Int) * (-1)).toNat = xs.size - 1 - m := by omega
    rw [this, Array.getElem?_eq_getElem (by omega)]
    rfl
  rw [e]
  by_cases hi : i < xs.size
  · rw [List.getElem?_map, List.getElem?_range hi, List.getElem?_reverse (by simpa using hi)]
    simp only [Option.map_some, Array.length_toList]
    rw [Array.getElem?_eq_getElem (by omega), Array.getElem?_toList, Array.getElem?_eq_getElem (by omega)]
    rfl
  · rw [List.getElem?_eq_none (by simp; omega), List.getElem?_eq_none (by simp; omega)]
theorem appliedBack {sl : Addr} {n : Nat} {t : Tok} {Q : Int × Int × Nat → Shared → Prop} (hs : s.heap.IsSliceOf sl .none .none (.int (-1) t)) (h : Q ((n : Int) - 1, -1, n) s) :
    wpAny (model prog w) A (Builtin.Slice.sliceApplied (.ref sl) (pure (n : Int))) Q E s := by
  obtain ⟨os, hos, hcs, hds⟩ := id hs
  unfold Builtin.Slice.sliceApplied Builtin.Slice.sliceFields
  refine wpAny_bind (wpAny_bind (wpAny_field hos hds (x := .none) rfl (wpAny_bind (wpAny_field hos hds (x := .none) rfl (wpAny_bind (wpAny_field hos hds (x := .int (-1) t) rfl (wpAny_pure ?_)))))))
  refine wpAny_bind (HT.slicePart_ (.int (-1) t) ?_)
  show wpAny _ _ (if ((-1 : Int) == 0) = true then _ else _) _ _ s
  rw [if_neg (by decide)]
  refine wpAny_bind (HT.slicePart_ .none (wpAny_bind (HT.slicePart_ .none (wpAny_bind (wpAny_pure ?_)))))
  show wpAny _ _ (match Builtin.Slice.sliceAdjust none none (-1) (n : Int) with | (lo, hi) => pure (lo, (-1 : Int), Builtin.Slice.slicePlaces lo hi (-1))) _ _ s
  rw [adjBack n]
  show wpAny _ _ (pure ((n : Int) - 1, (-1 : Int), Builtin.Slice.slicePlaces ((n : Int) - 1) (-1) (-1))) _ _ s
  rw [placesBack]
  exact wpAny_pure h
theorem tupBack {t sl : Addr} {items : Array Value} {tk : Tok} {Q : Value → Shared → Prop} (ht : IsTup s.heap t items) (hs : s.heap.IsSliceOf sl .none .none (.int (-1) tk))
    (h : Q (.ref s.heap.objs.size) { s with heap := s.heap.push { cls := .type "tuple", data := .seq items.toList.reverse.toArray } }) (hsz : items.size ≤ sizeLine) : wpAny (model prog w) A (getItem (.ref t) (.ref sl)) Q E s := by
  have hlay : sizeOk (.seq items.toList.reverse.toArray) := by
    show items.toList.reverse.toArray.size ≤ sizeLine
    rw [List.size_toArray, List.length_reverse, Array.length_toList]
    exact hsz
  obtain ⟨os, hos, hcs, hds⟩ := id hs
  have hTs : s.TypeIs (.ref sl) "slice" := ⟨os, hos, hcs⟩
  unfold getItem
  try with_reducible refine wpAny_holding ?_
  first | refine wpAny_bind (wpAny_pure ?_) | skip
  refine wpAny_bind (wpAny_sequenceKey ht.typeIs (by decide) ?_)
  refine wpAny_bind (wpAny_callSpecial?_slot (name := Str.ofString "__getitem__") ht.typeIs PyProof.Rows.slot_tuple_getitem
    (wpAny_call_entry PyProof.Rows.slot_tuple_getitem ht.typeIs entry_tuple_getitem ?_ (args_tuple_getitem _ _)))
  show wpAny _ _ (Builtin.Tuple.tupleItemsOf (.ref t) >>= _) _ _ s
  refine wpAny_bind (tupleItemsOf_ ht ?_)
  refine wpAny_bind (wpAny_typeOf hTs ?_)
  rw [if_pos (by decide)]
  refine wpAny_bind (appliedBack hs ?_)
  have hno : ¬ ((((items.size : Int) - 1) == 0 && (-1 : Int) == 1 && items.size == items.size) = true) := by
    have : ((-1 : Int) == 1) = false := by decide
    rw [this, Bool.and_false, Bool.false_and]
    exact Bool.false_ne_true
  show wpAny _ _ (if (((items.size : Int) - 1) == 0 && (-1 : Int) == 1 && items.size == items.size) = true then _ else _) _ _ s
  rw [if_neg hno, pickBack]
  first
    | exact wpAny_bind (m := Builtin.Tuple.tupleExact _) (wpAny_newObj_type (wpAny_pure ⟨_, rfl, wpAny_pure h⟩) hlay)
    | exact wpAny_bind (m := Builtin.Tuple.tupleExact _) (wpAny_newObj_type (wpAny_bind (wpAny_pure (wpAny_pure ⟨_, rfl, wpAny_pure h⟩))) hlay)
    | exact wpAny_bind (wpAny_bind (m := Builtin.Tuple.tupleExact _) (wpAny_newObj_type (wpAny_pure (wpAny_pure ⟨_, rfl, wpAny_pure h⟩)) hlay))
    | exact wpAny_bind (wpAny_bind (m := Builtin.Tuple.tupleExact _) (wpAny_newObj_type (wpAny_pure ⟨_, rfl, wpAny_pure h⟩) hlay))
end
def fRev : PV → Option RV
  | .tup xs => some (.val (.tup xs.reverse))
  | .lst xs => some (.own (.lst xs.reverse))
  | _ => none
theorem RpL.rev {K : Frag} {H : Hp} {F : Addr → Prop} : ∀ {ps : List PV} {vs : List V}, RpL K H F ps vs → RpL K H F ps.reverse vs.reverse
  | [], vs, h => by have h : vs = [] := h; subst h; exact rfl
  | p :: ps, vs, ⟨v, r, e, a, b⟩ => by
    subst e
    rw [List.reverse_cons, List.reverse_cons]
    exact (RpL.rev b).app ⟨v, [], rfl, a, rfl⟩
def tRev (K : Frag) (te : TE) : TE := fun σ H Q => te σ H fun x H1 => ∃ a k xs, x = .ref a ∧ SqX k K H1 a xs ∧ ∀ p, H1 p = none → Q (.ref p) (upd H1 p (match k with | .lst => .lst xs.reverse | .tup => .tup xs.reverse))
section
variable {X : Cx} {W : WS} {e : Expr} {es : List Expr} {d : Den} {ds : List Den} {p pos : Pos} {x : Str} {id T : String} {fn : List PV → Option RV}
theorem pe_rev {te : TE} {k : Nat} {p1 p2 p3 : Pos} (he : PE X e te) : PE X (.Subscript e (.Slice none none (some (.UnaryOp .USub (.Constant (.int 1) k p1) p2)) p3) pos) (tRev X.K te) := by
  refine ⟨fun pins s σ H Q I h => ?_⟩
  refine Subscript_ (thn (he.run pins s σ H _ I h) fun v s1 ⟨x, H1, I1, r1, q1⟩ => ?_)
  obtain ⟨a, kd, xs, ex, hx, q⟩ := q1
  subst ex
  cases r1
  have hst : PO X (some (.UnaryOp .USub (.Constant (.int 1) k p1) p2)) (tPart (tUn (rU fun i => .int (-i)) (tC (.int 1)))) := po_some (pe_un un_neg pe_int)
  refine wpAny_Slice (thn (po_none.run pins s1 σ H1 (fun o H2 => o = none ∧ H2 = H1) I1 ⟨rfl, rfl⟩) fun vl s2 ⟨l, H2, I2, pl, el, e2⟩ => ?_)
  subst el e2
  refine thn (po_none.run pins s2 σ H2 (fun o H3 => o = none ∧ H3 = H2) I2 ⟨rfl, rfl⟩) fun vu s3 ⟨u, H3, I3, pu, eu, e3⟩ => ?_
  subst eu e3
  refine thn (hst.run pins s3 σ H3 (fun o H4 => o = some (-1) ∧ H4 = H3) I3 ⟨1, rfl, -1, rfl, rfl, rfl⟩) fun vs s4 ⟨o, H4, I4, ps, eo, e4⟩ => ?_
  subst eo e4
  have I5 : Inv X pins σ H4 { s4 with heap := s4.heap.push { cls := .type "slice", data := .fields #[vl, vu, vs] } } := I4.kept (t' := s4.toks) fun b ob q => Heap.get?_push_of_some _ q
  cases kd with
  | lst =>
    obtain ⟨its, r, ht, hz⟩ := I5.list hx
    have hlen := r.length
    show wpAny (model X.prog X.w) X.A (subscriptTail e (.Slice none none (some (.UnaryOp .USub (.Constant (.int 1) k p1) p2)) p3) (.ref a) (.ref s4.heap.objs.size)) (EP X pins σ Q) X.xe { s4 with heap := s4.heap.push { cls := .type "slice", data := .fields #[vl, vu, vs] } }
    refine tail_any (ops := [.ref a, .ref s4.heap.objs.size]) ht.isList.typeIs (PySem.slot_list_getitem.lookup) ?_ (by with_unfolding_all rfl)
    refine wpAny_getItem_list_slice ht.isList (Heap.IsSliceOf.new _ vl vu vs) pl pu ps (by decide) ?_ (by rw [List.size_toArray]; omega)
    rw [PySem.W.krv_pick]
    refine ⟨.ref _, _, I5.laid (t' := s4.toks) (o := .lst xs.reverse) (fun b ob q => Heap.get?_push_of_some _ q) (Nat.le_refl _) ?_, rfl, q _ (I5.hok.fresh (Nat.le_refl _))⟩
    exact ⟨by rw [List.length_reverse]; exact hz, _, 0, r.reverse, Heap.get?_push_size _ rfl⟩
  | tup =>
    obtain ⟨its, r, ht, hz⟩ := I5.tuple hx
    have hlen := r.length
    cases pl
    cases pu
    cases ps with
    | int _ tk =>
      show wpAny (model X.prog X.w) X.A (subscriptTail e (.Slice none none (some (.UnaryOp .USub (.Constant (.int 1) k p1) p2)) p3) (.ref a) (.ref s4.heap.objs.size)) (EP X pins σ Q) X.xe { s4 with heap := s4.heap.push { cls := .type "slice", data := .fields #[.none, .none, .int (-1) tk] } }
      refine tail_any (ops := [.ref a, .ref s4.heap.objs.size]) ht.typeIs (PyProof.Rows.slot_tuple_getitem.lookup) ?_ (by with_unfolding_all rfl)
      refine tupBack ht (Heap.IsSliceOf.new _ .none .none (.int (-1) tk)) ?_ (by rw [List.size_toArray]; omega)
      refine ⟨.ref _, _, I5.laid (t' := s4.toks) (o := .tup xs.reverse) (fun b ob q => Heap.get?_push_of_some _ q) (Nat.le_refl _) ?_, rfl, q _ (I5.hok.fresh (Nat.le_refl _))⟩
      exact ⟨by rw [List.length_reverse]; exact hz, _, r.reverse, ⟨_, Heap.get?_push_size _ rfl, rfl, _, rfl⟩⟩
theorem pe_drev {k : Nat} {p1 p2 p3 : Pos} (he : PE X e (tD X.K W d)) : PE X (.Subscript e (.Slice none none (some (.UnaryOp .USub (.Constant (.int 1) k p1) p2)) p3) pos) (tD X.K W (dUn fRev d)) :=
  peW (pe_rev he) fun σ H Q h => by
    obtain ⟨ρ, g, e, sr, se, h⟩ := h
    subst e
    refine tD.bd (Stp.refl g) sr se h fun r g1 v st _ sr1 se1 hv h1 => ?_
    obtain ⟨p, x, e1, e3, k⟩ := h1.run1
    have hp := hv.peek sr1 e1
    cases p with
    | tup ps =>
      cases e3
      obtain ⟨a, vs, rfl, q, r⟩ := hp
      exact ⟨a, .tup, vs, rfl, q, fun b hb => k (g1.put b (.tup vs.reverse)) rfl (st.trans (Stp.put hb)) (sr1.put hb) _ ((newTup sr1 hb (RpL.rev r)).from st)⟩
    | lst ps =>
      cases e3
      obtain ⟨a, vs, rfl, q, r⟩ := hp
      exact ⟨a, .lst, vs, rfl, .inl (.inl q), fun b hb => k (g1.put b (.lst vs.reverse)) rfl (st.trans (Stp.put hb)) (sr1.put hb) _ ((newLst sr1 hb (RpL.rev r)).from st)⟩
    | _ => cases e3
/-! {} -/
def dDic : Den := fun _ => ret (.own (.dct []))
theorem pe_ddic : PE X (.Dict [] [] pos) (tD X.K W dDic) := peW pe_dnewK fun σ H Q ⟨ρ, g, e, sr, se, h⟩ p hp => by
  subst e
  refine h.ret (g' := g.put p (.dK [])) rfl (Stp.put hp) (sr.put hp) (.ref p) ⟨p, rfl, .inl ⟨[], upd_same, rfl⟩, fun z => ?_, fun z => ?_, hp⟩
  · obtain ⟨y, e⟩ := sr.fd p z; rw [hp] at e; cases e
  · obtain ⟨y, e⟩ := sr.dom p z; rw [hp] at e; cases e
/-! built-ins by name -/
theorem pe_dcb (hc : CallR X (.builtin id) (rCl X.K fn)) (hg : Gl X x) (hm : X.mg x = none) (hv : bootBuiltins x = some (.builtin id)) (ha : PA X (e :: es) (tDs X.K W ds)) (hn : x ≠ "__name__" := by decide) (hdb : (x == ("__debug__" : Str)) = false := by decide)
    (he : starEach (e :: es) X.env = (false, eval e X.env) :: starEach es X.env := by rfl) (hpl : (backTo pos (starEach es X.env)).any (·.1) = false := by rfl) : PE X (.Call (.Name x p) (e :: es) [] pos) (tD X.K W (dCl fn ds)) :=
  peW (pe_callB hc hg hm hv ha hn hdb he hpl) fun _ _ _ h => tCl_of h
theorem pe_dct (hc : CallR X (.type T) (rCl X.K fn)) (hg : Gl X x) (hm : X.mg x = none) (hv : bootBuiltins x = some (.type T)) (ha : PA X (e :: es) (tDs X.K W ds)) (hn : x ≠ "__name__" := by decide) (hdb : (x == ("__debug__" : Str)) = false := by decide)
    (he : starEach (e :: es) X.env = (false, eval e X.env) :: starEach es X.env := by rfl) (hpl : (backTo pos (starEach es X.env)).any (·.1) = false := by rfl) : PE X (.Call (.Name x p) (e :: es) [] pos) (tD X.K W (dCl fn ds)) :=
  peW (pe_callTy hc hg hm hv ha hn hdb he hpl) fun _ _ _ h => tCl_of h
/-! what is never reached -/
def dsNo : DenS := fun _ => stk
def dNo : Den := fun _ => stk
theorem ps_dno {st : Stmt} : PS X st (tS X.K W dsNo) := ⟨fun _ _ _ _ _ _ ⟨_, _, _, _, _, h⟩ => (stk_ok h).elim⟩
theorem pe_dno : PE X e (tD X.K W dNo) := ⟨fun _ _ _ _ _ _ ⟨_, _, _, _, _, h⟩ => (stk_ok h).elim⟩
end
theorem Room.u100 {k : Nat} {A : Around} (r : Room k A) : A.units + 100 < cLine := by have := r.un; omega
theorem Room.u65 {k : Nat} {A : Around} (r : Room k A) : A.units + 65 < cLine := by have := r.un; omega
theorem glInt {X : Cx} {W : WS} {x : Str} {pos : Pos} {i : Int} (hg : Gl X x) (hm : ∃ t, X.mg x = some (.int i t)) (hd : (x == ("__debug__" : Str)) = false := by decide) : PE X (.Name x pos) (tD X.K W (dCst (.int i))) := by
  obtain ⟨t, h⟩ := hm
  exact pe_dglo (p := .int i) (v := .int i) hg h ⟨t, rfl⟩ (fun _ _ => rfl) hd
theorem glTup {X : Cx} {W : WS} {x : Str} {pos : Pos} {ns : List Int} (hg : Gl X x) (hm : ∃ a, X.mg x = some (.ref a) ∧ ∀ H, SqT X.K H a (ns.map V.int)) (hd : (x == ("__debug__" : Str)) = false := by decide) : PE X (.Name x pos) (tD X.K W (dCst (.tup (ns.map .int)))) := by
  obtain ⟨a, h, hS⟩ := hm
  exact pe_dglo (p := .tup (ns.map .int)) (v := .ref a) hg h rfl (fun H F => ⟨a, _, rfl, hS H, rpInts ns H F⟩) hd
theorem glStr {X : Cx} {W : WS} {x : Str} {pos : Pos} {z : Str} (hg : Gl X x) (hm : ∃ t, X.mg x = some (.str z t)) (hd : (x == ("__debug__" : Str)) = false := by decide) : PE X (.Name x pos) (tD X.K W (dCst (.str z))) := by
  obtain ⟨t, h⟩ := hm
  exact pe_dglo (p := .str z) (v := .str z) hg h ⟨t, rfl⟩ (fun _ _ => rfl) hd
end Pf
end
section
set_option Elab.async false
set_option linter.all false
set_option maxHeartbeats 1000000
set_option autoImplicit false
namespace Pf
open PySem
/-! evaluation, step by step (nr: no step by definition, so that nothing is unfolded when it is checked) -/
theorem nr {α : Sort _} {a b : α} (h : a = b) : a = b := h
/-! the forms that stand in evaluated terms -/
def rb {α β : Type} (r : Res α) (f : α → M β) : Res β := match r with
  | .ok a S' => f a S'
  | .exc c v S' => .exc c v S'
  | .stuck => .stuck
@[simp] theorem rb_ok {α β : Type} {a : α} {S : Sto} {f : α → M β} : rb (.ok a S) f = f a S := nr rfl
@[simp] theorem rb_stk {α β : Type} {f : α → M β} : rb .stuck f = .stuck := nr rfl
def ob {α β : Type} (o : Option α) (f : α → Res β) : Res β := match o with
  | some a => f a
  | none => .stuck
@[simp] theorem ob_some {α β : Type} {a : α} {f : α → Res β} : ob (some a) f = f a := nr rfl
@[simp] theorem ob_none {α β : Type} {f : α → Res β} : ob none f = .stuck := nr rfl
abbrev oc {α β : Type} (o : Option α) (f : α → Res β) : Res β := ob o f
def ov (o : Option (Option SV)) (S : Sto) : Res RV := match o with
  | some (some sv) => .ok sv.rv S
  | _ => .stuck
@[simp] theorem ov_some {sv : SV} {S : Sto} : ov (some (some sv)) S = .ok sv.rv S := nr rfl
def frz (c : Cell) (n : Nat) (S : Sto) : Res PV := match c with
  | .live p => .ok p (S.set n (.froz p))
  | .froz p => .ok p S
  | .nest _ => .stuck
@[simp] theorem frz_l {p : PV} {n : Nat} {S : Sto} : frz (.live p) n S = .ok p (S.set n (.froz p)) := nr rfl
@[simp] theorem frz_f {p : PV} {n : Nat} {S : Sto} : frz (.froz p) n S = .ok p S := nr rfl
@[simp] theorem cv_l (p : PV) : cellV (.live p) = p := nr rfl
@[simp] theorem cv_f (p : PV) : cellV (.froz p) = p := nr rfl
def oi (r : RV) : M (Option Int) := match r with
  | .val (.int i) => ret (some i)
  | _ => stk
@[simp] theorem oi_i {i : Int} : oi (.val (.int i)) = ret (some i) := nr rfl
def sq (t : DenS) (x : Env × Fl) : M (Env × Fl) := match x.2 with
  | .nx => t x.1
  | _ => ret x
@[simp] theorem sq_n {t : DenS} {ρ : Env} : sq t (ρ, .nx) = t ρ := nr rfl
@[simp] theorem sq_r {t : DenS} {ρ : Env} {r : RV} : sq t (ρ, .rt r) = ret (ρ, .rt r) := nr rfl
@[simp] theorem sq_b {t : DenS} {ρ : Env} : sq t (ρ, .bk) = ret (ρ, .bk) := nr rfl
@[simp] theorem sq_c {t : DenS} {ρ : Env} : sq t (ρ, .ct) = ret (ρ, .ct) := nr rfl
def p2 (i j : Nat) (mi mj : Bool) (ρ : Env) (rs : List RV) : M (Env × Fl) := match rs with
  | [r, q] => bd (bindV mi r) fun s => bd (bindV mj q) fun t => ret ((ρ.set i (some s)).set j (some t), .nx)
  | _ => stk
@[simp] theorem p2_2 {i j : Nat} {mi mj : Bool} {ρ : Env} {r q : RV} : p2 i j mi mj ρ [r, q] = bd (bindV mi r) fun s => bd (bindV mj q) fun t => ret ((ρ.set i (some s)).set j (some t), .nx) := nr rfl
def oa {β : Type} (o : Option (List AV × List Nat)) (f : List AV → List Nat → Res β) : Res β := match o with
  | some (a, n) => f a n
  | none => .stuck
@[simp] theorem oa_some {β : Type} {a : List AV} {n : List Nat} {f : List AV → List Nat → Res β} : oa (some (a, n)) f = f a n := nr rfl
def fc (S : Sto) (ns : List Nat) (r : FRes) : Res RV := match r with
  | .ok (.ref _) _ => .stuck
  | .ok r outs => .ok r (setAll S ns outs)
  | _ => .stuck
@[simp] theorem fc_v {S outs : Sto} {ns : List Nat} {p : PV} : fc S ns (.ok (.val p) outs) = .ok (.val p) (setAll S ns outs) := nr rfl
@[simp] theorem fc_o {S outs : Sto} {ns : List Nat} {p : PV} : fc S ns (.ok (.own p) outs) = .ok (.own p) (setAll S ns outs) := nr rfl
def avC (c : Cell) (n : Nat) (x : List AV × List Nat) : Option (List AV × List Nat) := match c with
  | .live p => some (.cel p :: x.1, n :: x.2)
  | .froz p => some (.val p :: x.1, x.2)
  | .nest _ => none
@[simp] theorem avC_l {p : PV} {n : Nat} {x : List AV × List Nat} : avC (.live p) n x = some (.cel p :: x.1, n :: x.2) := nr rfl
@[simp] theorem avC_f {p : PV} {n : Nat} {x : List AV × List Nat} : avC (.froz p) n x = some (.val p :: x.1, x.2) := nr rfl
def pkC : Cell → Option PV
  | .live p => some p
  | .froz p => some p
  | .nest _ => none
@[simp] theorem pkC_l (p : PV) : pkC (.live p) = some p := nr rfl
@[simp] theorem pkC_f (p : PV) : pkC (.froz p) = some p := nr rfl
def rf (n : Nat) (r : Res (Env × Fl)) : FRes := match r with
  | .ok (_, .rt r) S => fin n r S
  | .ok (_, .nx) S => fin n (.val .non) S
  | _ => .stuck
@[simp] theorem rf_r {n : Nat} {ρ : Env} {r : RV} {S : Sto} : rf n (.ok (ρ, .rt r) S) = fin n r S := nr rfl
@[simp] theorem rf_n {n : Nat} {ρ : Env} {S : Sto} : rf n (.ok (ρ, .nx) S) = fin n (.val .non) S := nr rfl
def of (o : Option Cell) (T : Sto) : FRes := match o with
  | some (.live p) => .ok (.own p) T
  | some (.froz p) => .ok (.val p) T
  | _ => .stuck
@[simp] theorem of_l {p : PV} {T : Sto} : of (some (.live p)) T = .ok (.own p) T := nr rfl
@[simp] theorem of_f {p : PV} {T : Sto} : of (some (.froz p)) T = .ok (.val p) T := nr rfl
def ol {β : Type} (o : Option Cell) (f : PV → Res β) : Res β := match o with
  | some (.live p) => f p
  | _ => .stuck
@[simp] theorem ol_l {β : Type} {p : PV} {f : PV → Res β} : ol (some (.live p)) f = f p := nr rfl
def il (p : PV) (S : Sto) : Res Unit := match p with
  | .lst _ => .ok () S
  | _ => .stuck
@[simp] theorem il_l {xs : List PV} {S : Sto} : il (.lst xs) S = .ok () S := nr rfl
section
variable {α β : Type} {S S' : Sto} {ρ : Env} {m : M α} {f : α → M β} {a : α}
@[simp] theorem e_bd : bd m f S = rb (m S) f := nr rfl
@[simp] theorem e_ret : ret a S = .ok a S := nr rfl
@[simp] theorem e_stk : (stk : M α) S = .stuck := nr rfl
variable {i n nl np : Nat} {p : PV} {d da db dc : Den} {ds es : List Den} {r q : RV} {s t : DenS} {tg : TgD} {g : PV → Option RV} {h h' : PV → PV → Option RV} {l : List PV → Option RV}
@[simp] theorem e_var : dVar i ρ S = ov ρ[i]? S := nr rfl
@[simp] theorem e_rvv : (SV.val p).rv = .val p := nr rfl
@[simp] theorem e_rvr : (SV.ref n).rv = .ref n := nr rfl
@[simp] theorem e_cst : dCst p ρ S = .ok (.val p) S := nr rfl
@[simp] theorem e_bin : dBin h da db ρ = bd (da ρ) fun r => bd (db ρ) fun q => run2 h r q := nr rfl
@[simp] theorem e_un : dUn g d ρ = bd (d ρ) fun r => run1 g r := nr rfl
@[simp] theorem e_cl : dCl l ds ρ = bd (evAll ds ρ) fun rs => runN l rs := nr rfl
@[simp] theorem e_run1 : run1 g r S = ob (peek r S) fun p => ob (g p) fun x => .ok x S := nr (by simp only [run1]; cases peek r S with | none => rfl | some p => simp only [ob_some]; cases g p <;> rfl)
@[simp] theorem e_run2 : run2 h r q S = ob (peek r S) fun p => ob (peek q S) fun p' => ob (h p p') fun x => .ok x S := nr (by simp only [run2]; cases peek r S with | none => rfl | some p => simp only [ob_some]; cases peek q S with | none => rfl | some p' => simp only [ob_some]; cases h p p' <;> rfl)
@[simp] theorem e_runN {rs : List RV} : runN l rs S = ob (peeks rs S) fun ps => ob (l ps) fun x => .ok x S := nr (by simp only [runN]; cases peeks rs S with | none => rfl | some ps => simp only [ob_some]; cases l ps <;> rfl)
@[simp] theorem e_pkv : peek (.val p) S = some p := nr rfl
@[simp] theorem e_pko : peek (.own p) S = some p := nr rfl
@[simp] theorem e_pkr : peek (.ref n) S = S[n]?.bind pkC := nr (by simp only [peek]; cases S[n]? with | none => rfl | some c => cases c <;> rfl)
@[simp] theorem e_pk0 : peeks [] S = some [] := nr rfl
@[simp] theorem e_pk1 {rs : List RV} : peeks (r :: rs) S = (peek r S).bind fun p => (peeks rs S).map fun ps => p :: ps := nr (by rw [peeks]; cases peek r S with | none => rfl | some p => simp only [Option.bind_some]; cases peeks rs S <;> rfl)
@[simp] theorem e_ev0 : evAll [] ρ = ret [] := nr rfl
@[simp] theorem e_ev1 : evAll (d :: ds) ρ = bd (d ρ) fun r => bd (evAll ds ρ) fun rs => ret (r :: rs) := nr rfl
@[simp] theorem e_n1 : n1 g [p] = g p := nr rfl
@[simp] theorem e_n2 {q : PV} : n2 h [p, q] = h p q := nr rfl
@[simp] theorem e_fov : force (.val p) S = .ok p S := nr rfl
@[simp] theorem e_foo : force (.own p) S = .ok p S := nr rfl
@[simp] theorem e_for : force (.ref n) S = oc S[n]? fun c => frz c n S := nr (by simp only [force]; cases S[n]? with | none => rfl | some c => cases c <;> rfl)
@[simp] theorem e_fs0 : forces [] = ret [] := nr rfl
@[simp] theorem e_fs1 {rs : List RV} : forces (r :: rs) = bd (force r) fun p => bd (forces rs) fun ps => ret (p :: ps) := nr rfl
@[simp] theorem e_tup : dTup ds ρ = bd (evAll ds ρ) fun rs => bd (forces rs) fun ps => if lenOk ps.length then ret (.val (.tup ps)) else stk := nr rfl
@[simp] theorem e_lst : dLst ds ρ = bd (evAll ds ρ) fun rs => bd (forces rs) fun ps => if lenOk ps.length then ret (.own (.lst ps)) else stk := nr rfl
@[simp] theorem e_asB {b : Bool} : asB (.val (.bl b)) S = .ok b S := nr rfl
@[simp] theorem e_and : dAnd da db ρ = bd (da ρ) fun r => bd (asB r) fun c => if c then db ρ else ret (.val (.bl false)) := nr rfl
@[simp] theorem e_or : dOr da db ρ = bd (da ρ) fun r => bd (asB r) fun c => if c then ret (.val (.bl true)) else db ρ := nr rfl
@[simp] theorem e_not : dNot d ρ = bd (d ρ) fun r => bd (asB r) fun c => ret (.val (.bl (!c))) := nr rfl
@[simp] theorem e_ite : dIte dc da db ρ = bd (dc ρ) fun r => bd (asB r) fun c => if c then da ρ else db ρ := nr rfl
@[simp] theorem e_chain : dChain h h' da db dc ρ = bd (da ρ) fun r => bd (db ρ) fun q => bd (run2 h r q) fun x => bd (asB x) fun k => if k then bd (dc ρ) fun z => run2 h' q z else ret (.val (.bl false)) := nr rfl
@[simp] theorem e_test : dTest d ρ = bd (d ρ) asB := nr rfl
@[simp] theorem e_sli {lo hi : Option Den} : dSli d lo hi ρ = bd (d ρ) fun r => bd (optI lo ρ) fun l => bd (optI hi ρ) fun h => run1 (fun p => sCut p l h) r := nr rfl
@[simp] theorem e_op0 : optI none ρ = ret none := nr rfl
@[simp] theorem e_op1 : optI (some d) ρ = bd (d ρ) oi := nr rfl
@[simp] theorem e_dic : dDic ρ S = .ok (.own (.dct [])) S := nr rfl
@[simp] theorem e_sret : dsRet d ρ = bd (d ρ) fun r => ret (ρ, .rt r) := nr rfl
@[simp] theorem e_snx : dsNx ρ S = .ok (ρ, .nx) S := nr rfl
@[simp] theorem e_sexp : dsExpr d ρ = bd (d ρ) fun _ => ret (ρ, .nx) := nr rfl
@[simp] theorem e_sif : dsIf dc s t ρ = bd (dTest dc ρ) fun k => if k then s ρ else t ρ := nr rfl
@[simp] theorem e_sno : dsNo ρ S = .stuck := nr rfl
@[simp] theorem e_seq : dsSeq s t ρ = bd (s ρ) (sq t) := nr rfl
@[simp] theorem e_asg : dsAsg tg d ρ = bd (d ρ) fun r => bd (tg r ρ) fun ρ' => ret (ρ', .nx) := nr rfl
@[simp] theorem e_tgn {mu : Bool} : tgName i mu r ρ = bd (bindV mu r) fun sv => ret (ρ.set i (some sv)) := nr rfl
@[simp] theorem e_bvv {mu : Bool} : bindV mu (.val p) S = .ok (.val p) S := nr rfl
@[simp] theorem e_bvr {mu : Bool} : bindV mu (.ref n) S = .ok (.ref n) S := nr rfl
@[simp] theorem e_bvo0 : bindV false (.own p) S = .ok (.val p) S := nr rfl
@[simp] theorem e_bvo1 : bindV true (.own p) S = .ok (.ref S.length) (S ++ [.live p]) := nr rfl
@[simp] theorem e_par2 {j : Nat} {mi mj : Bool} : dsPar2 i j mi mj ds ρ = bd (evAll ds ρ) (p2 i j mi mj ρ) := nr rfl
@[simp] theorem e_bm0 {mus : List Bool} : bindMany mus [] = ret [] := by cases mus <;> rfl
@[simp] theorem e_bm1 {b : Bool} {mus : List Bool} {rs : List RV} : bindMany (b :: mus) (r :: rs) = bd (bindV b r) fun s => bd (bindMany mus rs) fun ss => ret (s :: ss) := nr rfl
@[simp] theorem e_call {F : Fn} {mus : List Bool} : dCall np F mus ds ρ = bd (evAll ds ρ) fun rs => bd (bindMany mus rs) (callN np F) := nr rfl
@[simp] theorem e_callK {F : Fn} {mus : List Bool} {perm : List Nat} : dCallK np F perm mus ds es ρ = bd (evAll ds ρ) fun rs => bd (evAll es ρ) fun qs => bd (bindMany mus (rs ++ qs)) fun ss => callN np F (permL perm ss) := nr rfl
@[simp] theorem e_callN {F : Fn} {ss : List SV} : callN np F ss = if ss.length = np then callF F ss else stk := nr rfl
@[simp] theorem e_callF {F : Fn} {ss : List SV} : callF F ss S = oa (avsOf ss S) fun avs ns => if noDup ns then fc S ns (F avs) else .stuck := nr (by simp only [callF]; cases avsOf ss S with | none => rfl | some x => cases x; rfl)
@[simp] theorem e_av0 : avsOf [] S = some ([], []) := nr rfl
@[simp] theorem e_avv {ss : List SV} : avsOf (.val p :: ss) S = (avsOf ss S).map fun x => (.val p :: x.1, x.2) := nr (by rw [avsOf]; cases avsOf ss S with | none => rfl | some x => cases x; rfl)
@[simp] theorem e_avr {ss : List SV} : avsOf (.ref n :: ss) S = S[n]?.bind fun c => (avsOf ss S).bind fun x => avC c n x := nr (by rw [avsOf]; cases S[n]? with | none => rfl | some c => simp only [Option.bind_some]; cases avsOf ss S with | none => cases c <;> rfl | some x => cases x; cases c <;> rfl)
@[simp] theorem e_sa0 {cs : Sto} : setAll S [] cs = S := by cases cs <;> rfl
@[simp] theorem e_sa1 {c : Cell} {cs : Sto} {ns : List Nat} : setAll S (n :: ns) (c :: cs) = setAll (S.set n c) ns cs := nr rfl
@[simp] theorem e_nd0 : noDup [] = true := nr rfl
@[simp] theorem e_nd1 {ns : List Nat} : noDup (n :: ns) = (!ns.contains n && noDup ns) := nr rfl
@[simp] theorem e_run {b : DenS} {avs : List AV} : runF nl b avs = rf (cels avs).length (b ((slots avs 0).map some ++ List.replicate (nl - avs.length) none) (cels avs)) := nr rfl
@[simp] theorem e_sl0 : slots [] n = [] := nr rfl
@[simp] theorem e_slv {r : List AV} : slots (.val p :: r) n = .val p :: slots r n := nr rfl
@[simp] theorem e_slc {r : List AV} : slots (.cel p :: r) n = .ref n :: slots r (n + 1) := nr rfl
@[simp] theorem e_ce0 : cels [] = [] := nr rfl
@[simp] theorem e_cev {r : List AV} : cels (.val p :: r) = cels r := nr rfl
@[simp] theorem e_cec {r : List AV} : cels (.cel p :: r) = .live p :: cels r := nr rfl
@[simp] theorem e_finv : fin n (.val p) S = if n ≤ S.length then .ok (.val p) (S.take n) else .stuck := nr rfl
@[simp] theorem e_fino : fin n (.own p) S = if n ≤ S.length then .ok (.own p) (S.take n) else .stuck := nr rfl
@[simp] theorem e_finr {k : Nat} : fin n (.ref k) S = if n ≤ S.length then (if k < n then .stuck else of (S[k]?) (S.take n)) else .stuck := nr (by simp only [fin]; cases S[k]? with | none => rfl | some c => cases c <;> rfl)
end
section
variable {S : Sto} {ρ : Env} {n : Nat} {p q z : PV} {r : RV} {ps : List PV} {t : TgD} {ts : List TgD} {da db d e : Den} {f : PV → Option (PV × PV)}
@[simp] theorem e_tgs : tgSub da db r ρ = bd (force r) fun p => bd (da ρ) fun q => bd (db ρ) fun z => withP z fun k => bd (updV q (setF k p)) fun _ => ret ρ := nr rfl
@[simp] theorem e_wip {α : Type} {g : PV → M α} : withP r g S = oc (peek r S) fun p => g p S := nr (by simp only [withP]; cases peek r S <;> rfl)
@[simp] theorem e_upv : updV (.ref n) f S = ol S[n]? fun p => oc (f p) fun x => .ok (.val x.2) (S.set n (.live x.1)) := nr (by simp only [updV]; cases S[n]? with | none => rfl | some c => cases c with | nest es => rfl | froz p => rfl | live p => simp only [ol_l]; cases f p with | none => rfl | some x => cases x; rfl)
@[simp] theorem e_set0 : setF (.int 0) z (.lst (p :: ps)) = some (.lst (z :: ps), .non) := by
  have h : L2.ixN (ps.length + 1) 0 = some 0 := by
    unfold L2.ixN
    rw [if_pos (by decide), if_pos (by omega)] <;> rfl
  simp [setF, h]
@[simp] theorem e_set1 : setF (.int 1) z (.lst (p :: q :: ps)) = some (.lst (p :: z :: ps), .non) := by
  have h : L2.ixN (ps.length + 1 + 1) 1 = some 1 := by
    unfold L2.ixN
    rw [if_pos (by decide), if_pos (by omega)] <;> rfl
  simp [setF, h]
@[simp] theorem e_tgt : tgTup ts (.val (.tup ps)) ρ = if ps.length = ts.length then tgAll ts ps ρ else stk := nr rfl
@[simp] theorem e_tga0 : tgAll [] [] ρ = ret ρ := nr rfl
@[simp] theorem e_tga1 : tgAll (t :: ts) (p :: ps) ρ = bd (t (.val p) ρ) fun ρ' => tgAll ts ps ρ' := nr rfl
@[simp] theorem e_app : dApp d e ρ = bd (d ρ) fun r => bd (chkL r) fun _ => bd (e ρ) fun q => bd (force q) fun p => updV r (appF p) := nr rfl
@[simp] theorem e_ext : dExt d e ρ = bd (d ρ) fun r => bd (chkL r) fun _ => bd (e ρ) fun q => withP q fun p => updV r (extF p) := nr rfl
@[simp] theorem e_pop : dPop d e ρ = bd (d ρ) fun r => bd (chkL r) fun _ => bd (e ρ) fun q => withP q fun p => updV r (popF p) := nr rfl
@[simp] theorem e_chkL : chkL r S = oc (peek r S) fun p => il p S := nr (by simp only [chkL]; cases peek r S with | none => rfl | some p => cases p <;> rfl)
@[simp] theorem e_mix : dMIx d e ρ = bd (d ρ) fun r => bd (chkL r) fun _ => bd (e ρ) fun q => run2 bIndex r q := nr rfl
end
/-! values -/
def isI : PV → Bool
  | .int _ => true
  | _ => false
/-- a whole number from a to b -/
def inR (a b : Int) : PV → Bool
  | .int i => decide (a ≤ i) && decide (i ≤ b)
  | _ => false
def isL : PV → Bool
  | .lst _ => true
  | .tup _ => true
  | .scr _ => true
  | _ => false
def isTu : PV → Bool
  | .tup _ => true
  | _ => false
end Pf
end
section
set_option Elab.async false
set_option linter.all false
set_option maxHeartbeats 1000000
set_option autoImplicit false
namespace Pf
open PySem
/-! plain laws of the operations -/
@[simp] theorem eqv_int (a b : Int) : eqv (.int a) (.int b) = decide (a = b) := by rw [Bool.eq_iff_iff]; simp [eqv, toD, PyData.eqv]
@[simp] theorem eqv_st (a b : Str) : eqv (.str a) (.str b) = decide (a = b) := by rw [Bool.eq_iff_iff]; simp [eqv, toD, PyData.eqv]
@[simp] theorem beq_ii (a b : Int) : bEq (.int a) (.int b) = some (.val (.bl (decide (a = b)))) := by simp [bEq, isS, dat]
@[simp] theorem bne_ii (a b : Int) : bNe (.int a) (.int b) = some (.val (.bl (!decide (a = b)))) := by simp [bNe, isS, dat]
@[simp] theorem beq_ss (a b : Str) : bEq (.str a) (.str b) = some (.val (.bl (decide (a = b)))) := by simp [bEq, isS]
@[simp] theorem bne_ss (a b : Str) : bNe (.str a) (.str b) = some (.val (.bl (!decide (a = b)))) := by simp [bNe, isS]
@[simp] theorem badd_ii (a b : Int) : bAdd (.int a) (.int b) = some (.val (.int (a + b))) := rfl
@[simp] theorem bsub_ii (a b : Int) : bSub (.int a) (.int b) = some (.val (.int (a - b))) := rfl
@[simp] theorem blt_ii (a b : Int) : bLt (.int a) (.int b) = some (.val (.bl (decide (a < b)))) := rfl
@[simp] theorem ble_ii (a b : Int) : bLe (.int a) (.int b) = some (.val (.bl (decide (a ≤ b)))) := rfl
@[simp] theorem bgt_ii (a b : Int) : bGt (.int a) (.int b) = some (.val (.bl (decide (b < a)))) := rfl
@[simp] theorem bge_ii (a b : Int) : bGe (.int a) (.int b) = some (.val (.bl (decide (b ≤ a)))) := rfl
@[simp] theorem uneg_i (a : Int) : uNeg (.int a) = some (.val (.int (-a))) := rfl
@[simp] theorem flen_l (xs : List PV) : fLen (.lst xs) = some (.val (.int xs.length)) := rfl
@[simp] theorem flen_t (xs : List PV) : fLen (.tup xs) = some (.val (.int xs.length)) := rfl
@[simp] theorem flen_c (ns : List Int) : fLen (.scr ns) = some (.val (.int ns.length)) := rfl
@[simp] theorem fint_i (i : Int) : fInt (.int i) = some (.val (.int i)) := rfl
@[simp] theorem ftup_l (xs : List PV) : fTuple (.lst xs) = some (.val (.tup xs)) := rfl
@[simp] theorem flist_l (xs : List PV) : fList (.lst xs) = some (.own (.lst xs)) := rfl
@[simp] theorem flist_t (xs : List PV) : fList (.tup xs) = some (.own (.lst xs)) := rfl
theorem log2_le {n k : Nat} (h : n < 2 ^ k) (hk : 0 < k) : n.log2 ≤ k := by
  by_cases h0 : n = 0
  · subst h0; simp
  · exact Nat.le_of_lt ((Nat.log2_lt h0).mpr h)
theorem mul_ok {i j : Int} (hi : i.natAbs < 2 ^ 100) (hj : j.natAbs < 2 ^ 100) : bMul (.int i) (.int j) = some (.val (.int (i * j))) := by
  have a := log2_le hi (by omega)
  have b := log2_le hj (by omega)
  simp only [bMul]
  rw [if_pos (by omega)]
theorem mod_ok {i j : Int} (hj : 0 < j) : bMod (.int i) (.int j) = some (.val (.int (i % j))) := by
  simp only [bMod]
  rw [if_pos hj]
theorem div_ok {i j : Int} (hj : 0 < j) (h : j < 2 ^ 60) : bDiv (.int i) (.int j) = some (.val (.int (i / j))) := by
  have a := log2_le (n := j.natAbs) (k := 60) (by omega) (by omega)
  simp only [bDiv]
  rw [if_pos ⟨hj, by omega⟩]
theorem dm_ok {i j : Int} (hj : 0 < j) (h : j < 1073741824) : fDm (.int i) (.int j) = some (.val (.tup [.int (i / j), .int (i % j)])) := by
  simp only [fDm]
  rw [if_pos ⟨hj, h⟩]
@[simp] theorem max2_ii (a b : Int) : fMax2 (.int a) (.int b) = some (.val (.int (if b > a then b else a))) := rfl
@[simp] theorem min2_ii (a b : Int) : fMin2 (.int a) (.int b) = some (.val (.int (if b < a then b else a))) := rfl
@[simp] theorem abs_i (a : Int) : fAbs (.int a) = some (.val (.int (if a < 0 then -a else a))) := rfl
/-- the drawing pot -/
def PotOk (p : PV) : Prop := ∃ a b : Int, p = .lst [.int a, .int b] ∧ 0 ≤ b ∧ b < 2147483648
theorem ixN_nat {n k : Nat} (h : k < n) : L2.ixN n (k : Int) = some k := by
  unfold L2.ixN
  rw [if_pos (by omega), if_pos (by omega)]
  simp
theorem atI_nat {α : Type} {xs : List α} {k : Nat} {x : α} (h : xs[k]? = some x) : L2.atI xs (k : Int) = some x := by
  unfold L2.atI
  rw [ixN_nat (List.getElem?_eq_some_iff.mp h).1]
  exact h
theorem idx_t {xs : List PV} {k : Nat} {x : PV} (h : xs[k]? = some x) : bIdx (.tup xs) (.int (k : Int)) = some (.val x) := by simp [bIdx, atI_nat h]
theorem idx_l {xs : List PV} {k : Nat} {x : PV} (h : xs[k]? = some x) : bIdx (.lst xs) (.int (k : Int)) = some (.val x) := by simp [bIdx, atI_nat h]
theorem idx_s {ns : List Int} {k : Nat} {x : Int} (h : ns[k]? = some x) : bIdx (.scr ns) (.int (k : Int)) = some (.val (.int x)) := by simp [bIdx, atI_nat h]
@[simp] theorem idx_t0 (x : PV) (xs : List PV) : bIdx (.tup (x :: xs)) (.int 0) = some (.val x) := idx_t (k := 0) rfl
@[simp] theorem idx_t1 (x y : PV) (xs : List PV) : bIdx (.tup (x :: y :: xs)) (.int 1) = some (.val y) := idx_t (k := 1) rfl
@[simp] theorem idx_l0 (x : PV) (xs : List PV) : bIdx (.lst (x :: xs)) (.int 0) = some (.val x) := idx_l (k := 0) rfl
@[simp] theorem idx_l1 (x y : PV) (xs : List PV) : bIdx (.lst (x :: y :: xs)) (.int 1) = some (.val y) := idx_l (k := 1) rfl
@[simp] theorem isi_int (v : PV) : fIsi ["int"] v = some (.val (.bl (match v with | .int _ => true | .bl _ => true | _ => false))) := by cases v <;> rfl
@[simp] theorem isi_bool (v : PV) : fIsi ["bool"] v = some (.val (.bl (match v with | .bl _ => true | _ => false))) := by cases v <;> rfl
@[simp] theorem isi_tup (v : PV) : fIsi ["tuple"] v = some (.val (.bl (isTu v))) := by cases v <;> rfl
@[simp] theorem isi_lt (v : PV) : fIsi ["list", "tuple"] v = some (.val (.bl (isL v))) := by cases v <;> rfl
theorem bls_ok (xs : List PV) (P : PV → Bool) : bls? (xs.map fun x => .bl (P x)) = some (xs.map P) := by
  induction xs with
  | nil => rfl
  | cons x xs ih => simp [bls?, ih]
theorem fall_ok (xs : List PV) (P : PV → Bool) : fAll (.lst (xs.map fun x => .bl (P x))) = some (.val (.bl (xs.all P))) := by
  simp [fAll, bls_ok, List.all_map, Function.comp_def]
theorem fall_of {xs : List PV} {P : PV → Bool} {b : Bool} (h : xs.all P = b) : fAll (.lst (xs.map fun x => .bl (P x))) = some (.val (.bl b)) := by rw [fall_ok, h]
/-! what is gone through -/
def z2 (rs : List RV) : M (List PV × List (Nat × PV)) := match rs with
  | [r, q] => bd (bindV false r) fun s => bd (bindV false q) fun t => bd (srcOf s) fun x => bd (srcOf t) fun y => ret (zip2 x.1 y.1, x.2 ++ y.2)
  | _ => stk
@[simp] theorem z2_2 {r q : RV} : z2 [r, q] = bd (bindV false r) fun s => bd (bindV false q) fun t => bd (srcOf s) fun x => bd (srcOf t) fun y => ret (zip2 x.1 y.1, x.2 ++ y.2) := nr rfl
section
variable {ρ : Env} {S : Sto} {d : Den} {ds : List Den} {i : Nat}
@[simp] theorem e_itseq : itSeq d ρ = bd (d ρ) fun r => bd (bindV false r) srcOf := nr rfl
@[simp] theorem e_srcv {p : PV} : srcOf (.val p) S = ob (itemsOf p) fun xs => .ok (xs, []) S := nr (by simp only [srcOf]; cases itemsOf p <;> rfl)
@[simp] theorem e_srcr {n : Nat} : srcOf (.ref n) S = ob S[n]? fun c => ob (itemsOf (cellV c)) fun xs => .ok (xs, [(n, cellV c)]) S := nr (by simp only [srcOf]; cases S[n]? with | none => rfl | some c => simp only [ob_some]; cases itemsOf (cellV c) <;> rfl)
@[simp] theorem e_itl (xs : List PV) : itemsOf (.lst xs) = some xs := nr rfl
@[simp] theorem e_itt (xs : List PV) : itemsOf (.tup xs) = some xs := nr rfl
@[simp] theorem e_rng {f : List PV → Option (List PV)} : itRng f ds ρ = bd (evAll ds ρ) fun rs => fun S => ob (peeks rs S) fun ps => ob (f ps) fun xs => .ok (xs, []) S := nr (by unfold itRng; congr 1; funext rs S; cases peeks rs S with | none => rfl | some ps => simp only [ob_some]; cases f ps <;> rfl)
@[simp] theorem e_enum : itEnum d ρ = bd (d ρ) fun r => bd (bindV false r) fun sv => bd (srcOf sv) fun x => ret (numd 0 x.1, x.2) := nr rfl
@[simp] theorem e_zip2 : itZip2 ds ρ = bd (evAll ds ρ) z2 := nr rfl
@[simp] theorem e_for' {it : ItD} {t : TgD} {b : DenS} : dsFor it t b ρ = bd (it ρ) fun x => loop x.2 t b x.1 ρ := nr rfl
theorem rng1_nat (n : Nat) (h : n < 2 ^ 62) : rng1 [.int (n : Int)] = some ((List.range n).map fun i => .int (i : Nat)) := by
  have e : okI (n : Int) = true := by
    unfold okI
    simp
    omega
  show (if okI (n : Int) then some (rngI 0 (n : Int).toNat) else none) = _
  rw [if_pos e]
  simp [rngI]
@[simp] theorem chk_nil : chkG [] S = true := rfl
theorem chk_ok {gs : List (Nat × PV)} (h : chkG gs S = true) : chk gs S = .ok () S := by simp [chk, h]
/-- a comprehension that changes nothing -/
theorem cl_map {gs : List (Nat × PV)} {e : Den} (hg : chkG gs S = true) (g : PV → PV) : ∀ xs : List PV, (∀ x ∈ xs, e (ρ.set i (some (.val x))) S = .ok (.val (g x)) S) → cl gs (tgName i false) none e xs ρ S = .ok (xs.map g) S
  | [], _ => by simp [cl, chk_ok hg]
  | x :: xs, h => by
    have h1 := h x List.mem_cons_self
    have ih := cl_map hg g xs fun y hy => h y (List.mem_cons_of_mem _ hy)
    simp [cl, turnC, condM, chk_ok hg, h1, ih]
theorem cl_mapT {t : TgD} {gs : List (Nat × PV)} {e : Den} (hg : chkG gs S = true) (g : PV → PV) : ∀ xs : List PV, (∀ x ∈ xs, ∃ ρ1, t (.val x) ρ S = .ok ρ1 S ∧ e ρ1 S = .ok (.val (g x)) S) → cl gs t none e xs ρ S = .ok (xs.map g) S
  | [], _ => by simp [cl, chk_ok hg]
  | x :: xs, h => by
    obtain ⟨ρ1, h0, h1⟩ := h x List.mem_cons_self
    have ih := cl_mapT hg g xs fun y hy => h y (List.mem_cons_of_mem _ hy)
    simp [cl, turnC, condM, chk_ok hg, h0, h1, ih]
theorem cl_filt {gs : List (Nat × PV)} {c e : Den} (hg : chkG gs S = true) (P : PV → Bool) (g : PV → PV) : ∀ xs : List PV, (∀ x ∈ xs, c (ρ.set i (some (.val x))) S = .ok (.val (.bl (P x))) S ∧ e (ρ.set i (some (.val x))) S = .ok (.val (g x)) S) →
    cl gs (tgName i false) (some c) e xs ρ S = .ok ((xs.filter P).map g) S
  | [], _ => by simp [cl, chk_ok hg]
  | x :: xs, h => by
    obtain ⟨h1, h2⟩ := h x List.mem_cons_self
    have ih := cl_filt hg P g xs fun y hy => h y (List.mem_cons_of_mem _ hy)
    cases hp : P x <;> simp [cl, turnC, condM, chk_ok hg, h1, h2, ih, hp]
theorem dComp_ok {t : TgD} {it : ItD} {c : Option Den} {e : Den} {vs : List Nat} {xs : List PV} {gs : List (Nat × PV)} {S1 S2 : Sto} {r : List PV} (h1 : it ρ S = .ok (xs, gs) S1) (hl : xs.length ≤ sizeLine) (h2 : cl gs t c e xs (wipeE ρ vs) S1 = .ok r S2) :
    dComp it t c e vs ρ S = .ok (.own (.lst r)) S2 := by
  simp [dComp, h1, lenOk, hl, noX, h2]
theorem dComp_map {it : ItD} {e : Den} {vs : List Nat} {xs : List PV} {gs : List (Nat × PV)} (g : PV → PV) (h1 : it ρ S = .ok (xs, gs) S) (hl : xs.length ≤ sizeLine) (hg : chkG gs S = true) (h2 : ∀ x ∈ xs, e ((wipeE ρ vs).set i (some (.val x))) S = .ok (.val (g x)) S) :
    dComp it (tgName i false) none e vs ρ S = .ok (.own (.lst (xs.map g))) S := dComp_ok h1 hl (cl_map hg g xs h2)
theorem dComp_mapT {t : TgD} {it : ItD} {e : Den} {vs : List Nat} {xs : List PV} {gs : List (Nat × PV)} (g : PV → PV) (h1 : it ρ S = .ok (xs, gs) S) (hl : xs.length ≤ sizeLine) (hg : chkG gs S = true) (h2 : ∀ x ∈ xs, ∃ ρ1, t (.val x) (wipeE ρ vs) S = .ok ρ1 S ∧ e ρ1 S = .ok (.val (g x)) S) :
    dComp it t none e vs ρ S = .ok (.own (.lst (xs.map g))) S := dComp_ok h1 hl (cl_mapT hg g xs h2)
theorem dComp_filt {it : ItD} {c e : Den} {vs : List Nat} {xs : List PV} {gs : List (Nat × PV)} (P : PV → Bool) (g : PV → PV) (h1 : it ρ S = .ok (xs, gs) S) (hl : xs.length ≤ sizeLine) (hg : chkG gs S = true)
    (h2 : ∀ x ∈ xs, c ((wipeE ρ vs).set i (some (.val x))) S = .ok (.val (.bl (P x))) S ∧ e ((wipeE ρ vs).set i (some (.val x))) S = .ok (.val (g x)) S) :
    dComp it (tgName i false) (some c) e vs ρ S = .ok (.own (.lst ((xs.filter P).map g))) S := dComp_ok h1 hl (cl_filt hg P g xs h2)
/-- a comprehension whose turns keep what Iv says -/
theorem cl_inv {t : TgD} {gs : List (Nat × PV)} {c : Option Den} {e : Den} (Iv : Sto → Prop) (Q : PV → PV → Prop) (hg : ∀ S, Iv S → chkG gs S = true) : ∀ xs : List PV, (∀ x ∈ xs, ∀ S, Iv S → ∃ p S', turnC gs t c e x ρ S = .ok (some p) S' ∧ Iv S' ∧ Q x p) → ∀ S, Iv S →
    ∃ ps S', cl gs t c e xs ρ S = .ok ps S' ∧ Iv S' ∧ Paired Q xs ps
  | [], _, S, hS => ⟨[], S, by simp [cl, chk_ok (hg S hS)], hS, .nil⟩
  | x :: xs, h, S, hS => by
    obtain ⟨p, S1, e1, h1, q1⟩ := h x List.mem_cons_self S hS
    obtain ⟨ps, S2, e2, h2, q2⟩ := cl_inv Iv Q hg xs (fun y hy => h y (List.mem_cons_of_mem _ hy)) S1 h1
    exact ⟨p :: ps, S2, by simp [cl, e1, e2], h2, .cons q1 q2⟩
theorem dComp_inv {t : TgD} {it : ItD} {c : Option Den} {e : Den} {vs : List Nat} {xs : List PV} {gs : List (Nat × PV)} {S1 : Sto} (Iv : Sto → Prop) (Q : PV → PV → Prop) (h1 : it ρ S = .ok (xs, gs) S1) (hl : xs.length ≤ sizeLine) (hg : ∀ S, Iv S → chkG gs S = true) (hS : Iv S1)
    (h2 : ∀ x ∈ xs, ∀ S, Iv S → ∃ p S', turnC gs t c e x (wipeE ρ vs) S = .ok (some p) S' ∧ Iv S' ∧ Q x p) : ∃ ps S', dComp it t c e vs ρ S = .ok (.own (.lst ps)) S' ∧ Iv S' ∧ Paired Q xs ps := by
  obtain ⟨ps, S2, e1, i1, q1⟩ := cl_inv Iv Q hg xs h2 S1 hS
  exact ⟨ps, S2, dComp_ok h1 hl e1, i1, q1⟩
/-- a loop whose turns keep what Iv says -/
theorem loop_inv {t : TgD} {b : DenS} {gs : List (Nat × PV)} (Iv : Nat → Env → Sto → Prop) (hg : ∀ i ρ S, Iv i ρ S → chkG gs S = true) : ∀ (xs : List PV) (k : Nat), (∀ j x, xs[j]? = some x → ∀ ρ S, Iv (k + j) ρ S → ∃ ρ' S', (bd (t (.val x) ρ) fun ρ1 => b ρ1) S = .ok (ρ', .nx) S' ∧ Iv (k + j + 1) ρ' S') →
    ∀ ρ S, Iv k ρ S → ∃ ρ' S', loop gs t b xs ρ S = .ok (ρ', .nx) S' ∧ Iv (k + xs.length) ρ' S'
  | [], k, _, ρ, S, hS => ⟨ρ, S, by simp [loop, chk_ok (hg _ _ _ hS)], hS⟩
  | x :: xs, k, h, ρ, S, hS => by
    obtain ⟨ρ1, S1, e1, h1⟩ := h 0 x rfl ρ S hS
    obtain ⟨ρ2, S2, e2, h2⟩ := loop_inv Iv hg xs (k + 1) (fun j y hj ρ S hS => by
      have e0 : k + 1 + j = k + (j + 1) := by omega
      rw [e0] at hS ⊢
      exact h (j + 1) y (by simpa using hj) ρ S hS) ρ1 S1 h1
    refine ⟨ρ2, S2, ?_, by have e0 : k + (x :: xs).length = k + 1 + xs.length := by simp; omega
                           rw [e0]; exact h2⟩
    have e3 : (bd (bd (t (.val x) ρ) fun ρ1 => b ρ1) (cont (loop gs t b xs))) S = .ok (ρ2, .nx) S2 := by
      rw [e_bd, e1]
      exact e2
    rw [bd_assoc] at e3
    rw [loop, e_bd, chk_ok (hg _ _ _ hS)]
    exact e3
end
@[simp] theorem e_w0 (ρ : Env) : wipeE ρ [] = ρ := nr rfl
@[simp] theorem e_w1 (ρ : Env) (v : Nat) (vs : List Nat) : wipeE ρ (v :: vs) = (wipeE ρ vs).set v none := nr rfl
theorem while_done {c : Den} {b : DenS} {n : Nat} {ρ : Env} {S S' : Sto} (h : dTest c ρ S = .ok false S') : dsWhile (n + 1) c b ρ S = .ok (ρ, .nx) S' := by
  show (bd (dTest c ρ) fun k => if k then bd (b ρ) (cont (loopW c b n)) else ret (ρ, .nx)) S = _
  rw [e_bd, h]
  rfl
theorem while_more {c : Den} {b : DenS} {n : Nat} {ρ ρ' : Env} {S S1 S2 : Sto} (h : dTest c ρ S = .ok true S1) (h2 : b ρ S1 = .ok (ρ', .nx) S2) : dsWhile (n + 1) c b ρ S = dsWhile n c b ρ' S2 := by
  show (bd (dTest c ρ) fun k => if k then bd (b ρ) (cont (loopW c b n)) else ret (ρ, .nx)) S = _
  rw [e_bd, h]
  show (bd (b ρ) (cont (loopW c b n))) S1 = _
  rw [e_bd, h2]
  rfl
/-! whole numbers in a row -/
def tupN (ns : List Nat) : PV := .tup (ns.map fun n => .int (n : Nat))
@[simp] theorem flen_N (ns : List Nat) : fLen (tupN ns) = some (.val (.int ns.length)) := by simp [tupN]
@[simp] theorem items_N (ns : List Nat) : itemsOf (tupN ns) = some (ns.map fun n => .int (n : Nat)) := rfl
@[simp] theorem isTu_N (ns : List Nat) : isTu (tupN ns) = true := rfl
theorem idx_N {ns : List Nat} {k n : Nat} (h : ns[k]? = some n) : bIdx (tupN ns) (.int (k : Int)) = some (.val (.int (n : Nat))) := idx_t (by simp [h])
end Pf
end
section
set_option Elab.async false
set_option linter.all false
set_option maxHeartbeats 1000000
set_option autoImplicit false
namespace Pf
open PySem
/-! Euclid's loop, whatever its text: E a l is the names' state -/
theorem mod_half {l r : Nat} (h0 : 0 < r) (h : r < l) : 2 * (l % r) < l := by
  have h1 := Nat.mod_lt l h0
  have h2 := Nat.div_add_mod l r
  have h3 : 1 ≤ l / r := (Nat.one_le_div_iff h0).mpr (Nat.le_of_lt h)
  have h4 : r * 1 ≤ r * (l / r) := Nat.mul_le_mul_left r h3
  omega
theorem euclid {c : Den} {b : DenS} {E : Nat → Nat → Env} {S : Sto} (hc0 : ∀ a, dTest c (E a 0) S = .ok false S) (hc : ∀ a l, 0 < l → dTest c (E a l) S = .ok true S) (hb : ∀ a l, 0 < l → b (E a l) S = .ok (E l (a % l), .nx) S) :
    ∀ (k : Nat) (n a l : Nat), l < 2 ^ k → 2 * k + 1 ≤ n → dsWhile n c b (E a l) S = .ok (E (Nat.gcd l a) 0, .nx) S
  | 0, n, a, l, hl, hn => by
    have h0 : l = 0 := by simpa using hl
    subst h0
    obtain ⟨m, rfl⟩ : ∃ m, n = m + 1 := ⟨n - 1, by omega⟩
    rw [Nat.gcd_zero_left]
    exact while_done (hc0 a)
  | k + 1, n, a, l, hl, hn => by
    obtain ⟨m, rfl⟩ : ∃ m, n = m + 1 := ⟨n - 1, by omega⟩
    by_cases h0 : l = 0
    · subst h0
      rw [Nat.gcd_zero_left]
      exact while_done (hc0 a)
    · have h0 : 0 < l := Nat.pos_of_ne_zero h0
      rw [while_more (hc a l h0) (hb a l h0)]
      obtain ⟨m, rfl⟩ : ∃ m', m = m' + 1 := ⟨m - 1, by omega⟩
      by_cases h1 : a % l = 0
      · rw [h1, Nat.gcd_rec l a, h1, Nat.gcd_zero_left]
        exact while_done (hc0 l)
      · have h1 : 0 < a % l := Nat.pos_of_ne_zero h1
        rw [while_more (hc l _ h1) (hb l _ h1), Nat.gcd_rec l a, Nat.gcd_rec (a % l) l]
        have h2 := mod_half h1 (Nat.mod_lt a h0)
        exact euclid hc0 hc hb k m (a % l) (l % (a % l)) (by rw [Nat.pow_succ] at hl; omega) (by omega)
/-! reduced fractions -/
def frac (q : Rat) : PV := .tup [.int q.num, .int (q.den : Nat)]
theorem frac_inj {p q : Rat} (h : frac p = frac q) : p = q := by
  simp only [frac, PV.tup.injEq, List.cons.injEq, PV.int.injEq, and_true] at h
  exact Rat.ext h.1 (by omega)
/-- top and bottom divided by their greatest common divisor -/
theorem frac_mk {t : Int} {b : Nat} (hb : 0 < b) : frac (mkRat t b) = .tup [.int (t / (Nat.gcd t.natAbs b : Nat)), .int ((b : Int) / (Nat.gcd t.natAbs b : Nat))] := by
  have e : mkRat t b = Rat.normalize t b (by omega) := by
    unfold mkRat
    rw [dif_neg (by omega)]
  rw [e, Rat.normalize_eq]
  simp [frac]
@[simp] theorem frac_0 : frac 0 = .tup [.int 0, .int 1] := rfl
@[simp] theorem frac_1 : frac 1 = .tup [.int 1, .int 1] := rfl
theorem rat_add_mk (p q : Rat) : mkRat (p.num * q.den + q.num * p.den) (p.den * q.den) = p + q := by
  rw [Rat.add_def, Rat.normalize_eq_mkRat]
theorem rat_mul_mk (p q : Rat) : mkRat (p.num * q.num) (p.den * q.den) = p * q := by
  rw [Rat.mul_def, Rat.normalize_eq_mkRat]
theorem rat_sub_mk (p q : Rat) : mkRat (p.num * q.den - q.num * p.den) (p.den * q.den) = p - q := by
  rw [Rat.sub_def, Rat.normalize_eq_mkRat]
theorem rat_lt_mk (p q : Rat) : decide (p.num * (q.den : Int) < q.num * (p.den : Int)) = decide (p < q) := by
  rw [Bool.eq_iff_iff]
  simp [Rat.lt_iff]
end Pf
end
section
set_option Elab.async false
set_option linter.all false
set_option maxHeartbeats 1000000
set_option autoImplicit false
namespace Pf
open PySem PySem.Spec L2 PyProof.Rows
/-! len(set(xs)), xs a list or a tuple of whole numbers -/
/-- each number once -/
def onces (ns : List Int) : List Int := ns.foldl (fun σ k => if σ.any (· == k) then σ else σ ++ [k]) []
theorem firstMet_onces (ns : List Int) : firstMet (fun i => ns.getD i 0) ns.length = onces ns := by
  unfold firstMet onces
  have e : (List.range ns.length).map (fun i => ns.getD i 0) = ns := by
    refine List.ext_getElem (by simp) fun i h1 h2 => ?_
    simp [List.getD_eq_getElem?_getD, List.getElem?_eq_getElem h2]
  rw [e]
  rfl
theorem onces_fold : ∀ (ns σ : List Int), σ.Nodup → (ns.foldl (fun σ k => if σ.any (· == k) then σ else σ ++ [k]) σ).Nodup ∧ ∀ x, x ∈ ns.foldl (fun σ k => if σ.any (· == k) then σ else σ ++ [k]) σ ↔ x ∈ σ ∨ x ∈ ns
  | [], σ, h => ⟨h, fun x => by simp⟩
  | n :: ns, σ, h => by
    rw [List.foldl_cons]
    by_cases hm : n ∈ σ
    · have e : (σ.any (· == n)) = true := by simpa using hm
      rw [e, if_pos rfl]
      obtain ⟨h1, h2⟩ := onces_fold ns σ h
      refine ⟨h1, fun x => (h2 x).trans ⟨fun z => z.elim .inl fun z => .inr (List.mem_cons_of_mem _ z), fun z => ?_⟩⟩
      rcases z with z | z
      · exact .inl z
      · rcases List.mem_cons.mp z with z | z
        · subst z; exact .inl hm
        · exact .inr z
    · have e : (σ.any (· == n)) = false := by
        cases hb : σ.any (· == n) with
        | false => rfl
        | true => exact absurd (by simpa using hb) hm
      rw [e, if_neg (by decide)]
      obtain ⟨h1, h2⟩ := onces_fold ns (σ ++ [n]) (List.nodup_append.mpr ⟨h, by simp, fun a ha b hb => by
        have : b = n := by simpa using hb
        subst this
        exact fun z => hm (z ▸ ha)⟩)
      refine ⟨h1, fun x => (h2 x).trans ⟨fun z => ?_, fun z => ?_⟩⟩
      · rcases z with z | z
        · rcases List.mem_append.mp z with z | z
          · exact .inl z
          · exact .inr (List.mem_cons.mpr (.inl (by simpa using z)))
        · exact .inr (List.mem_cons_of_mem _ z)
      · rcases z with z | z
        · exact .inl (List.mem_append_left _ z)
        · rcases List.mem_cons.mp z with z | z
          · subst z; exact .inl (by simp)
          · exact .inr z
theorem onces_nd (ns : List Int) : (onces ns).Nodup := (onces_fold ns [] List.nodup_nil).1
theorem onces_mem (ns : List Int) (x : Int) : x ∈ onces ns ↔ x ∈ ns := by
  have := (onces_fold ns [] List.nodup_nil).2 x
  simpa [onces] using this
theorem onces_len {ns l : List Int} (h1 : l.Nodup) (h2 : ∀ x, x ∈ l ↔ x ∈ ns) : l.length = (onces ns).length :=
  ((List.perm_ext_iff_of_nodup h1 (onces_nd ns)).mpr fun x => (h2 x).trans (onces_mem ns x).symm).length_eq
theorem onces_le (ns : List Int) : (onces ns).length ≤ ns.length := by
  have : ∀ (ns σ : List Int), (ns.foldl (fun σ k => if σ.any (· == k) then σ else σ ++ [k]) σ).length ≤ σ.length + ns.length := fun ns => by
    induction ns with
    | nil => intro σ; simp
    | cons n ns ih =>
      intro σ
      rw [List.foldl_cons, List.length_cons]
      by_cases h : (σ.any (· == n)) = true
      · rw [if_pos h]
        have := ih σ
        omega
      · rw [if_neg h]
        have := ih (σ ++ [n])
        rw [List.length_append, List.length_singleton] at this
        omega
  simpa [onces] using this ns []
def tLenSet (K : Frag) (ta : TE) : TE := fun σ H Q => ta σ H fun x H1 => ∃ (k : Kd) (l : Addr) (ns : List Int), x = V.ref l ∧ SqX k K H1 l (ns.map V.int) ∧ ns.length ≤ 4000 ∧ Q (.int ((onces ns).length : Nat)) H1
theorem ints_vals : ∀ {ns : List Int} {us : List Value}, Vals (ns.map V.int) us → IntsAre us ns
  | [], _, .nil => .nil
  | n :: ns, _, .cons r t => by
    obtain ⟨k, rfl⟩ := r
    exact .cons n k (ints_vals t)
section
variable {X : Cx} {W : WS} {a : Expr} {d : Den} {p p2 q pos : Pos}
theorem pe_lenSet {ta : TE} (hc : X.calm = true) (hg : Gl X "len") (hm : X.mg "len" = none) (hg2 : Gl X "set") (hm2 : X.mg "set" = none) (ha : PE X a ta)
    (na : starEach [a] X.env = (false, eval a X.env) :: starEach [] X.env := by rfl) : PE X (.Call (.Name "len" p) [.Call (.Name "set" p2) [a] [] q] [] pos) (tLenSet X.K ta) := by
  refine ⟨fun pins s σ H Q I h => ?_⟩
  refine Call_ (ld_blt I hg hm boot_len ?_)
  refine callWith_builtin1 (args_cons ?_ rfl) rfl rfl
  refine Call_ (ld_blt I hg2 hm2 boot_set ?_)
  refine callWith_type1 (args_cons (thn (ha.run pins s σ H _ I h) fun v s1 ⟨x, H1, I1, r1, q1⟩ => args_nil ?_) na) na rfl
  obtain ⟨k, l, ns, rfl, hq, hl, q1⟩ := q1
  cases r1
  have ole := onces_le ns
  cases k with
  | lst =>
    obtain ⟨its, r, pl, hz⟩ := I1.list hq
    have hlen : its.toArray.size = ns.length := by rw [List.size_toArray, ← r.length, List.length_map]
    refine call_set_list (I1.ok.hd hc) pl.isList (by simpa using ints_vals r) (by rw [hlen]; unfold scanBound; omega) fun h' tk hS hk => ?_
    refine args_nil ?_
    rw [hlen, firstMet_onces] at hS
    obtain ⟨o, es, ep, t, ho, hex, hd, _, _, _, hf, hn⟩ := hS
    have I2 : Inv X pins σ H1 { s1 with heap := h', toks := tk } := I1.kept fun b o e => hk b o (Heap.lt_size e) e
    exact call_len_set ho hex hd hf (by rw [hn]; omega) ⟨.int ((onces ns).length : Nat), H1, I2.tok _, ⟨_, by rw [hn]⟩, q1⟩
  | tup =>
    obtain ⟨its, r, pt, hz⟩ := I1.tuple hq
    refine call_set_tupI ns (I1.ok.hd hc) (show s1.heap.IsTuple l its.toArray from pt) (by simpa using ints_vals r) (by unfold scanBound; omega) fun h' tk c R1 hcn kk => ?_
    refine args_nil ?_
    obtain ⟨o, es, ep, t, ho, hex, hd, g, nd, hm2, hb, hf, hn, hr, hl2⟩ := R1
    have hcnt : es.size = (onces ns).length := by
      have h1 := onces_len (ns := ns) nd fun x => by rw [← hm2 x]; simp
      rw [List.length_map, Array.length_toList] at h1
      exact h1
    have I2 : Inv X pins σ H1 { s1 with heap := h', toks := tk } := I1.kept fun b o e => kk b o e
    exact call_len_set ho hex hd hf (by rw [hcnt]; omega) ⟨.int ((onces ns).length : Nat), H1, I2.tok _, ⟨_, by rw [hcnt]⟩, q1⟩
def fLenSet (p : PV) : Option RV := match itemsOf p with
  | some xs => (match ints? xs with
    | some ns => if ns.length ≤ 4000 then some (.val (.int ((onces ns).length : Nat))) else none
    | none => none)
  | none => none
theorem pe_dlenSet (hc : X.calm = true) (hg : Gl X "len") (hm : X.mg "len" = none) (hg2 : Gl X "set") (hm2 : X.mg "set" = none) (ha : PE X a (tD X.K W d))
    (na : starEach [a] X.env = (false, eval a X.env) :: starEach [] X.env := by rfl) : PE X (.Call (.Name "len" p) [.Call (.Name "set" p2) [a] [] q] [] pos) (tD X.K W (dUn fLenSet d)) :=
  peW (pe_lenSet hc hg hm hg2 hm2 ha na) fun σ H Q h => by
    obtain ⟨ρ, g, e, sr, se, h⟩ := h
    subst e
    refine tD.bd (Stp.refl g) sr se h fun r g1 v st _ sr1 se1 hv h1 => ?_
    obtain ⟨p, x, e1, e3, k⟩ := h1.run1
    have hp := hv.peek sr1 e1
    unfold fLenSet at e3
    cases e4 : itemsOf p with
    | none => rw [e4] at e3; cases e3
    | some xs =>
      rw [e4] at e3
      simp only at e3
      cases e5 : ints? xs with
      | none => rw [e5] at e3; cases e3
      | some ns =>
        rw [e5] at e3
        simp only at e3
        split at e3
        · next hl =>
          cases e3
          obtain ⟨b, kd, vs, rfl, h2, h3⟩ := rp_items hp e4
          have hvs : vs = ns.map V.int := by
            have : ∀ {xs : List PV} {ns : List Int} {vs : List V}, ints? xs = some ns → RpL X.K g1.H g1.F xs vs → vs = ns.map V.int := fun {xs} => by
              induction xs with
              | nil => intro ns vs e h; cases e; have h : vs = [] := h; subst h; rfl
              | cons x xs ih =>
                intro ns vs e h
                obtain ⟨v, r, rfl, h1, h2⟩ := h
                cases x with
                | int i =>
                  simp only [ints?, Option.map_eq_some_iff] at e
                  obtain ⟨ms, e1, rfl⟩ := e
                  have h1 : v = _ := h1
                  rw [h1, ih e1 h2]
                  rfl
                | _ => simp [ints?] at e
            exact this e5 h3
          subst hvs
          exact ⟨kd, b, ns, rfl, h2, hl, k g1 rfl st sr1 (.int ((onces ns).length : Nat)) rfl⟩
        · cases e3
end
end Pf
end
section
set_option Elab.async false
set_option linter.all false
set_option maxHeartbeats 1000000
set_option maxRecDepth 100000
set_option autoImplicit false
namespace Pf
open PySem
/-! what repr shows -/
theorem shw_mono : ∀ (n m : Nat) (p : PV), n ≤ m → shw n p = true → shw m p = true
  | _, _, .non, _, _ => by simp [shw]
  | _, _, .bl _, _, _ => by simp [shw]
  | n, m, .int i, _, h => by
    have h' : decide (i.natAbs.log2 < 1920) = true := by cases n <;> exact h
    cases m <;> exact h'
  | n, m, .str s, _, h => by
    have h' : s.cps.all (· < 0x110000) = true := by cases n <;> exact h
    cases m <;> exact h'
  | 0, _, .tup _, _, h => by simp [shw] at h
  | 0, _, .lst _, _, h => by simp [shw] at h
  | 0, _, .dct [], _, h => by simp [shw] at h
  | _, _, .dct (_ :: _), _, h => by simp [shw] at h
  | _, _, .scr _, _, h => by simp [shw] at h
  | n + 1, m, .dct [], hl, h => by
    obtain ⟨m', rfl⟩ : ∃ m', m = m' + 1 := ⟨m - 1, by omega⟩
    simp [shw]
  | n + 1, m, .tup xs, hl, h => by
    obtain ⟨m', rfl⟩ : ∃ m', m = m' + 1 := ⟨m - 1, by omega⟩
    have h : xs.all (shw n) = true := by simpa [shw] using h
    show (xs.all (shw m')) = true
    exact List.all_eq_true.mpr fun x hx => shw_mono n m' x (by omega) (List.all_eq_true.mp h x hx)
  | n + 1, m, .lst xs, hl, h => by
    obtain ⟨m', rfl⟩ : ∃ m', m = m' + 1 := ⟨m - 1, by omega⟩
    have h : xs.all (shw n) = true := by simpa [shw] using h
    show (xs.all (shw m')) = true
    exact List.all_eq_true.mpr fun x hx => shw_mono n m' x (by omega) (List.all_eq_true.mp h x hx)
def Bd (n k : Nat) (v : PV) : Prop := shw n v = true ∧ rsz v ≤ k
theorem Bd.mono {n k m l : Nat} {v : PV} (h : Bd n k v) (h1 : n ≤ m) (h2 : k ≤ l) : Bd m l v := ⟨shw_mono n m v h1 h.1, Nat.le_trans h.2 h2⟩
theorem rszs_le {k : Nat} : ∀ {xs : List PV}, (∀ x ∈ xs, rsz x ≤ k) → rsz.rszs xs ≤ xs.length * (k + 2)
  | [], _ => by simp [rsz.rszs]
  | x :: xs, h => by
    have h1 := h x List.mem_cons_self
    have ih := rszs_le (xs := xs) fun y hy => h y (List.mem_cons_of_mem _ hy)
    rw [rsz.rszs, List.length_cons, Nat.succ_mul]
    omega
theorem bd_tup {n k m : Nat} {xs : List PV} (h : ∀ x ∈ xs, Bd n k x) (hl : xs.length ≤ m) : Bd (n + 1) (m * (k + 2) + 4) (.tup xs) := by
  refine ⟨?_, ?_⟩
  · show (xs.all (shw n)) = true
    exact List.all_eq_true.mpr fun x hx => (h x hx).1
  · have := rszs_le fun x hx => (h x hx).2
    have h2 : xs.length * (k + 2) ≤ m * (k + 2) := Nat.mul_le_mul_right _ hl
    rw [rsz]
    omega
theorem bd_lst {n k m : Nat} {xs : List PV} (h : ∀ x ∈ xs, Bd n k x) (hl : xs.length ≤ m) : Bd (n + 1) (m * (k + 2) + 4) (.lst xs) := by
  refine ⟨?_, ?_⟩
  · show (xs.all (shw n)) = true
    exact List.all_eq_true.mpr fun x hx => (h x hx).1
  · have := rszs_le fun x hx => (h x hx).2
    have h2 : xs.length * (k + 2) ≤ m * (k + 2) := Nat.mul_le_mul_right _ hl
    rw [rsz]
    omega
theorem bd_int {i : Int} (h : i.natAbs < 1000) : Bd 0 20 (.int i) := by
  refine ⟨?_, ?_⟩
  · have := log2_le (n := i.natAbs) (k := 10) (by omega) (by omega)
    show decide (i.natAbs.log2 < 1920) = true
    exact decide_eq_true (by omega)
  · rw [rsz, if_pos (by omega)]
    omega
theorem repr_ok {v : PV} (h : Bd 60 sizeLine v) : fRepr v = some (.val (.str (toD v).shown)) := by
  unfold fRepr
  rw [if_pos]
  rw [h.1, Bool.true_and]
  exact decide_eq_true h.2
theorem cutP_sub {xs : List PV} {lo hi : Option Int} : ∀ x ∈ cutP xs lo hi, x ∈ xs := fun x hx => List.mem_of_mem_drop (List.mem_of_mem_take hx)
theorem cutP_len {xs : List PV} {lo hi : Option Int} : (cutP xs lo hi).length ≤ xs.length := by
  unfold cutP
  rw [List.length_take, List.length_drop]
  omega
theorem add_tt {xs ys : List PV} (h : xs.length + ys.length ≤ 1000) : bAdd (.tup xs) (.tup ys) = some (.val (.tup (xs ++ ys))) := by
  simp only [bAdd]
  rw [if_pos (by unfold sizeLine; omega)]
theorem add_ll {xs ys : List PV} (h : xs.length + ys.length ≤ 1000) : bAdd (.lst xs) (.lst ys) = some (.own (.lst (xs ++ ys))) := by
  simp only [bAdd]
  rw [if_pos (by unfold sizeLine; omega)]
theorem cut_t {xs : List PV} {lo hi : Option Int} : sCut (.tup xs) lo hi = some (.val (.tup (cutP xs lo hi))) := nr rfl
theorem cut_l {xs : List PV} {lo hi : Option Int} : sCut (.lst xs) lo hi = some (.own (.lst (cutP xs lo hi))) := nr rfl
theorem rev_t {xs : List PV} : fRev (.tup xs) = some (.val (.tup xs.reverse)) := nr rfl
theorem bd_app {n k : Nat} {xs ys : List PV} (h1 : ∀ x ∈ xs, Bd n k x) (h2 : ∀ x ∈ ys, Bd n k x) : ∀ x ∈ xs ++ ys, Bd n k x := fun x hx => by
  rcases List.mem_append.mp hx with h | h
  · exact h1 x h
  · exact h2 x h
theorem bd_cons {n k : Nat} {y : PV} {ys : List PV} (h1 : Bd n k y) (h2 : ∀ x ∈ ys, Bd n k x) : ∀ x ∈ y :: ys, Bd n k x := fun x hx => by
  rcases List.mem_cons.mp hx with h | h
  · subst h; exact h1
  · exact h2 x h
theorem bd_nil {n k : Nat} : ∀ x ∈ ([] : List PV), Bd n k x := fun x hx => by cases hx
/-- the pot alone -/
def IvP (S : Sto) : Prop := ∃ p, S = [.live p] ∧ PotOk p
theorem paired_len {α β : Type} {R : α → β → Prop} {xs : List α} {ys : List β} (h : Paired R xs ys) : xs.length = ys.length := Paired.length h
theorem paired_all {α β : Type} {R : α → β → Prop} {Q : β → Prop} : ∀ {xs : List α} {ys : List β}, Paired R xs ys → (∀ x y, R x y → Q y) → ∀ y ∈ ys, Q y
  | _, _, .nil, _, y, h => by cases h
  | _, _, .cons a b, q, y, h => by
    rcases List.mem_cons.mp h with e | h
    · subst e; exact q _ _ a
    · exact paired_all b q y h
/-- many small whole numbers -/
theorem ints_of {lo hi : Int} : ∀ {ps : List PV}, (∀ p ∈ ps, ∃ i : Int, p = .int i ∧ lo ≤ i ∧ i ≤ hi) → ∃ r : List Int, ps = r.map .int ∧ ∀ i ∈ r, lo ≤ i ∧ i ≤ hi
  | [], _ => ⟨[], rfl, fun i h => by cases h⟩
  | p :: ps, h => by
    obtain ⟨i, rfl, h1⟩ := h p List.mem_cons_self
    obtain ⟨r, rfl, h2⟩ := ints_of (ps := ps) fun q hq => h q (List.mem_cons_of_mem _ hq)
    exact ⟨i :: r, rfl, fun j hj => by
      rcases List.mem_cons.mp hj with e | hj
      · subst e; exact h1
      · exact h2 j hj⟩
theorem int_eq_nat (a b : Nat) : decide ((a : Int) = (b : Int)) = decide (a = b) := by
  rw [Bool.eq_iff_iff]; simp; omega
theorem all_and' {α : Type} (P Q : α → Bool) (xs : List α) : (xs.all fun x => P x && Q x) = (xs.all P && xs.all Q) := by
  induction xs with
  | nil => rfl
  | cons x xs ih =>
    simp only [List.all_cons, ih]
    cases P x <;> cases Q x <;> simp
theorem bin_str {α : Type} (s : Str) (ys : List α) (f : α → Str) : bIn (.str s) (.lst (ys.map fun y => .str (f y))) = some (.val (.bl (ys.any fun y => decide (f y = s)))) := by
  have h2 : (ys.map fun y => PV.str (f y)).all flat = true := by rw [List.all_map, List.all_eq_true]; exact fun x _ => rfl
  have h3 : flat (.str s) = true := rfl
  simp only [bIn, inP, h3, h2, Bool.and_self, if_true, Option.map_some]
  congr 3
  rw [List.any_map]
  congr 1 <;> (funext y; exact eqv_st (f y) s)
def shT (x : PV) : Str := (toD x).shown
theorem reprB (b c : Bool) : fRepr (.lst [.bl b, .bl c]) = some (.val (.str (shT (.lst [.bl b, .bl c])))) := repr_ok (by cases b <;> cases c <;> exact ⟨by decide +kernel, by decide +kernel⟩)
theorem set_last {α : Type} (l : List α) (a b : α) : (l ++ [a]).set l.length b = l ++ [b] := by
  rw [List.set_append_right _ _ (Nat.le_refl _), Nat.sub_self]
  rfl
theorem get_last {α : Type} (l : List α) (a : α) : (l ++ [a])[l.length]? = some a := by simp
theorem mul_l {xs : List PV} {k : Nat} (h : xs.length * k ≤ 1000) (hk : k < 1000) : bMul (.lst xs) (.int (k : Nat)) = some (.own (.lst (List.replicate k xs).flatten)) := by
  simp only [bMul]
  rw [if_pos ⟨by simp only [Int.toNat_natCast]; unfold sizeLine; omega, by omega, by omega⟩]
  simp
def rowsOf (b : PV) : List PV := (itemsOf b).getD []
theorem isL_items {b : PV} (h : isL b = true) : ∃ ys, itemsOf b = some ys ∧ fLen b = some (.val (.int ys.length)) ∧ rowsOf b = ys := by
  cases b with
  | lst ys => exact ⟨ys, rfl, rfl, rfl⟩
  | tup ys => exact ⟨ys, rfl, rfl, rfl⟩
  | scr ns => exact ⟨ns.map .int, rfl, by simp, rfl⟩
  | _ => cases h
end Pf
end
section
set_option Elab.async false
set_option linter.all false
set_option maxHeartbeats 1000000
set_option autoImplicit false
namespace Pf
open PySem
/-! sizes of whole numbers and of fractions -/
def Sz (k : Nat) (i : Int) : Prop := i.natAbs < 2 ^ k
theorem Sz.mono {a b : Nat} {i : Int} (h : Sz a i) (hab : a ≤ b) : Sz b i := Nat.lt_of_lt_of_le h (Nat.pow_le_pow_right (by omega) hab)
theorem Sz.mul {a b : Nat} {i j : Int} (h : Sz a i) (g : Sz b j) : Sz (a + b) (i * j) := by
  unfold Sz at *
  rw [Int.natAbs_mul, Nat.pow_add]
  have h1 : i.natAbs ≤ 2 ^ a - 1 := by omega
  exact Nat.lt_of_le_of_lt (Nat.mul_le_mul_right _ (Nat.le_of_lt h)) (Nat.mul_lt_mul_of_pos_left g (Nat.pos_of_ne_zero (by have := Nat.one_le_two_pow (n := a); omega)))
theorem Sz.add {a : Nat} {i j : Int} (h : Sz a i) (g : Sz a j) : Sz (a + 1) (i + j) := by
  unfold Sz at *
  rw [Nat.pow_succ]
  omega
theorem Sz.sub {a : Nat} {i j : Int} (h : Sz a i) (g : Sz a j) : Sz (a + 1) (i - j) := by
  unfold Sz at *
  rw [Nat.pow_succ]
  omega
theorem Sz.neg {a : Nat} {i : Int} (h : Sz a i) : Sz a (-i) := by
  unfold Sz at *
  omega
theorem sz_of {k : Nat} {i : Int} (n : Nat) (h : i.natAbs ≤ n) (hn : n < 2 ^ k) : Sz k i := Nat.lt_of_le_of_lt h hn
theorem log2_leS {k : Nat} {i : Int} (h : Sz k i) : i.natAbs.log2 ≤ k := by
  by_cases h0 : i.natAbs = 0
  · rw [h0]; simp
  · exact Nat.le_of_lt ((Nat.log2_lt h0).mpr h)
theorem mul_sz {a b : Nat} {i j : Int} (hi : Sz a i) (hj : Sz b j) (h : a + b < 1000000) : bMul (.int i) (.int j) = some (.val (.int (i * j))) := by
  have a1 := log2_leS hi
  have b1 := log2_leS hj
  simp only [bMul]
  rw [if_pos (by omega)]
theorem div_sz {a : Nat} {i j : Int} (h0 : 0 < j) (hj : Sz a j) (h : a < 9000) : bDiv (.int i) (.int j) = some (.val (.int (i / j))) := by
  have b1 := log2_leS hj
  simp only [bDiv]
  rw [if_pos ⟨h0, by omega⟩]
def FS (k : Nat) (q : Rat) : Prop := Sz k q.num ∧ Sz k (q.den : Nat)
theorem FS.mono {a b : Nat} {q : Rat} (h : FS a q) (hab : a ≤ b) : FS b q := ⟨h.1.mono hab, h.2.mono hab⟩
/-- cutting makes it no greater -/
theorem fs_mk {k : Nat} {t : Int} {b : Nat} (hb : 0 < b) (ht : Sz k t) (hbs : Sz k (b : Nat)) : FS k (mkRat t b) := by
  have e : mkRat t b = Rat.normalize t b (by omega) := by
    unfold mkRat
    rw [dif_neg (by omega)]
  rw [e, Rat.normalize_eq]
  constructor
  · show (t / (Nat.gcd t.natAbs b : Nat)).natAbs < 2 ^ k
    refine Nat.lt_of_le_of_lt ?_ ht
    exact Int.natAbs_ediv_le_natAbs _ _
  · show ((b / Nat.gcd t.natAbs b : Nat) : Int).natAbs < 2 ^ k
    refine Nat.lt_of_le_of_lt ?_ hbs
    exact Nat.div_le_self _ _
theorem FS.add {a : Nat} {p q : Rat} (h : FS a p) (g : FS a q) : FS (2 * a + 1) (p + q) := by
  rw [← rat_add_mk]
  refine fs_mk (Nat.mul_pos p.den_pos q.den_pos) ?_ ?_
  · have := Sz.add (h.1.mul g.2) (g.1.mul h.2)
    exact this.mono (by omega)
  · have := h.2.mul g.2
    rw [← Int.natCast_mul] at this
    exact this.mono (by omega)
theorem FS.mul {a : Nat} {p q : Rat} (h : FS a p) (g : FS a q) : FS (2 * a) (p * q) := by
  rw [← rat_mul_mk]
  refine fs_mk (Nat.mul_pos p.den_pos q.den_pos) ?_ ?_
  · exact (h.1.mul g.1).mono (by omega)
  · have := h.2.mul g.2
    rw [← Int.natCast_mul] at this
    exact this.mono (by omega)
end Pf
end
section
set_option Elab.async false
set_option linter.all false
set_option maxHeartbeats 1000000
set_option autoImplicit false
namespace Pf
open PySem
/-- a loop that looks at each thing and leaves with r at the first that fails -/
theorem loop_look {t : TgD} {b : DenS} {gs : List (Nat × PV)} {S : Sto} {r : RV} (Iv : Env → Prop) (hg : chkG gs S = true) (P : PV → Bool) : ∀ (xs : List PV), (∀ x ∈ xs, ∀ ρ, Iv ρ → ∃ ρ', (bd (t (.val x) ρ) fun ρ1 => b ρ1) S = .ok (ρ', if P x then .nx else .rt r) S ∧ Iv ρ') →
    ∀ ρ, Iv ρ → ∃ ρ', loop gs t b xs ρ S = .ok (ρ', if xs.all P then .nx else .rt r) S ∧ Iv ρ'
  | [], _, ρ, hI => ⟨ρ, by simp [loop, chk_ok hg], hI⟩
  | x :: xs, h, ρ, hI => by
    obtain ⟨ρ1, e1, h1⟩ := h x List.mem_cons_self ρ hI
    cases hp : P x with
    | false =>
      refine ⟨ρ1, ?_, h1⟩
      rw [hp] at e1
      have e3 : (bd (bd (t (.val x) ρ) fun ρ1 => b ρ1) (cont (loop gs t b xs))) S = .ok (ρ1, .rt r) S := by
        rw [e_bd, e1]
        rfl
      rw [bd_assoc] at e3
      rw [loop, e_bd, chk_ok hg]
      simp only [List.all_cons, hp, Bool.false_and]
      exact e3
    | true =>
      obtain ⟨ρ2, e2, h2⟩ := loop_look Iv hg P xs (fun y hy => h y (List.mem_cons_of_mem _ hy)) ρ1 h1
      refine ⟨ρ2, ?_, h2⟩
      rw [hp] at e1
      have e3 : (bd (bd (t (.val x) ρ) fun ρ1 => b ρ1) (cont (loop gs t b xs))) S = .ok (ρ2, if xs.all P then .nx else .rt r) S := by
        rw [e_bd, e1]
        exact e2
      rw [bd_assoc] at e3
      rw [loop, e_bd, chk_ok hg]
      simp only [List.all_cons, hp, Bool.true_and]
      exact e3
end Pf
end
section
set_option Elab.async false
set_option linter.all false
set_option maxHeartbeats 1000000
set_option autoImplicit false
namespace Pf
open PySem
/-! loops and comprehensions that stand in a goal (generalize hx : loop _ _ _ _ _ _ = x) -/
/-- a turn looks, and leaves with r where p fails -/
def LkOk (res : Res (Env × Fl)) (p : Bool) (r : RV) (S : Sto) (Iv : Env → Prop) : Prop := ∃ ρ', res = .ok (ρ', if p then .nx else .rt r) S ∧ Iv ρ'
theorem LkOk.nx {p : Bool} {r : RV} {S : Sto} {Iv : Env → Prop} {ρ : Env} (h : p = true) (hI : Iv ρ) : LkOk (.ok (ρ, .nx) S) p r S Iv := ⟨ρ, by rw [h]; rfl, hI⟩
theorem LkOk.ct {p : Bool} {r : RV} {S : Sto} {Iv : Env → Prop} {ρ : Env} (h : p = false) (hI : Iv ρ) : LkOk (.ok (ρ, .rt r) S) p r S Iv := ⟨ρ, by rw [h]; rfl, hI⟩
section
variable {α : Type} {t : TgD} {b : DenS} {gs : List (Nat × PV)} {S : Sto} {r : RV} {x : Res (Env × Fl)} {ρ : Env}
theorem loop_mapG (Iv : Env → Prop) (hg : chkG gs S = true) (P : α → Bool) (g : α → PV) : ∀ (ys : List α), (∀ y ∈ ys, ∀ ρ, Iv ρ → LkOk ((bd (t (.val (g y)) ρ) fun ρ1 => b ρ1) S) (P y) r S Iv) →
    ∀ ρ, Iv ρ → LkOk (loop gs t b (ys.map g) ρ S) (ys.all P) r S Iv
  | [], _, ρ, hI => ⟨ρ, by simp [loop, chk_ok hg], hI⟩
  | y :: ys, h, ρ, hI => by
    obtain ⟨ρ1, e1, h1⟩ := h y List.mem_cons_self ρ hI
    cases hp : P y with
    | false =>
      refine ⟨ρ1, ?_, h1⟩
      rw [hp] at e1
      have e3 : (bd (bd (t (.val (g y)) ρ) fun ρ1 => b ρ1) (cont (loop gs t b (ys.map g)))) S = .ok (ρ1, .rt r) S := by
        rw [e_bd, e1]
        rfl
      rw [bd_assoc] at e3
      rw [List.map_cons, loop, e_bd, chk_ok hg]
      simp only [List.all_cons, hp, Bool.false_and]
      exact e3
    | true =>
      obtain ⟨ρ2, e2, h2⟩ := loop_mapG Iv hg P g ys (fun y hy => h y (List.mem_cons_of_mem _ hy)) ρ1 h1
      refine ⟨ρ2, ?_, h2⟩
      rw [hp] at e1
      have e3 : (bd (bd (t (.val (g y)) ρ) fun ρ1 => b ρ1) (cont (loop gs t b (ys.map g)))) S = .ok (ρ2, if ys.all P then .nx else .rt r) S := by
        rw [e_bd, e1]
        exact e2
      rw [bd_assoc] at e3
      rw [List.map_cons, loop, e_bd, chk_ok hg]
      simp only [List.all_cons, hp, Bool.true_and]
      exact e3
theorem loop_map_of {g : α → PV} {ys : List α} (hx : loop gs t b (ys.map g) ρ S = x) (Iv : Env → Prop) (P : α → Bool) (r : RV) (hg : chkG gs S = true) (hI : Iv ρ)
    (h : ∀ y ∈ ys, ∀ ρ, Iv ρ → LkOk ((bd (t (.val (g y)) ρ) fun ρ1 => b ρ1) S) (P y) r S Iv) : LkOk x (ys.all P) r S Iv := hx ▸ loop_mapG Iv hg P g ys h ρ hI
theorem loop_rng_of {n : Nat} (hx : loop gs t b ((List.range n).map fun i => PV.int (i : Nat)) ρ S = x) (Iv : Env → Prop) (P : Nat → Bool) (r : RV) (hg : chkG gs S = true) (hI : Iv ρ)
    (h : ∀ i, i < n → ∀ ρ, Iv ρ → LkOk ((bd (t (.val (.int (i : Nat))) ρ) fun ρ1 => b ρ1) S) (P i) r S Iv) : LkOk x ((List.range n).all P) r S Iv :=
  loop_map_of hx Iv P r hg hI fun i hi => h i (List.mem_range.mp hi)
end
/-! the turns of a loop that goes on to the end -/
def InOk (res : Res (Env × Fl)) (Iv : Env → Sto → Prop) : Prop := ∃ ρ' S', res = .ok (ρ', .nx) S' ∧ Iv ρ' S'
theorem InOk.mk {Iv : Env → Sto → Prop} {ρ : Env} {S : Sto} (h : Iv ρ S) : InOk (.ok (ρ, .nx) S) Iv := ⟨ρ, S, rfl, h⟩
theorem loop_inv_of {t : TgD} {b : DenS} {gs : List (Nat × PV)} {xs : List PV} {ρ : Env} {S : Sto} {x : Res (Env × Fl)} (hx : loop gs t b xs ρ S = x) (Iv : Nat → Env → Sto → Prop) (hg : ∀ i ρ S, Iv i ρ S → chkG gs S = true) (h0 : Iv 0 ρ S)
    (h : ∀ j y, xs[j]? = some y → ∀ ρ S, Iv j ρ S → InOk ((bd (t (.val y) ρ) fun ρ1 => b ρ1) S) (Iv (j + 1))) : InOk x (Iv xs.length) := by
  obtain ⟨ρ', S', e, hI⟩ := loop_inv Iv hg xs 0 (fun j y hj ρ S hI => by
    rw [Nat.zero_add] at hI ⊢
    exact h j y hj ρ S hI) ρ S h0
  rw [Nat.zero_add] at hI
  exact ⟨ρ', S', hx ▸ e, hI⟩
/-- the same of turns that keep one and the same -/
theorem loop_keep_of {t : TgD} {b : DenS} {gs : List (Nat × PV)} {xs : List PV} {ρ : Env} {S : Sto} {x : Res (Env × Fl)} (hx : loop gs t b xs ρ S = x) (Iv : Env → Sto → Prop) (hg : ∀ ρ S, Iv ρ S → chkG gs S = true) (h0 : Iv ρ S)
    (h : ∀ y ∈ xs, ∀ ρ S, Iv ρ S → InOk ((bd (t (.val y) ρ) fun ρ1 => b ρ1) S) Iv) : InOk x Iv :=
  loop_inv_of hx (fun _ => Iv) (fun _ => hg) h0 fun j y hj => h y (List.mem_of_getElem? hj)
/-! comprehensions -/
section
variable {α : Type} {t : TgD} {it : ItD} {c : Option Den} {e : Den} {vs : List Nat} {S S1 : Sto} {ρ : Env} {x : Res RV} {gs : List (Nat × PV)}
theorem cl_mapG (hg : chkG gs S = true) (g h : α → PV) : ∀ ys : List α, (∀ y ∈ ys, ∃ ρ1, t (.val (g y)) ρ S = .ok ρ1 S ∧ e ρ1 S = .ok (.val (h y)) S) → cl gs t none e (ys.map g) ρ S = .ok (ys.map h) S
  | [], _ => by simp [cl, chk_ok hg]
  | y :: ys, k => by
    obtain ⟨ρ1, h0, h1⟩ := k y List.mem_cons_self
    have ih := cl_mapG hg g h ys fun z hz => k z (List.mem_cons_of_mem _ hz)
    simp [cl, turnC, condM, chk_ok hg, h0, h1, ih]
theorem dComp_mapG {g : α → PV} {ys : List α} (h : α → PV) (h1 : it ρ S = .ok (ys.map g, gs) S) (hl : ys.length ≤ sizeLine) (hg : chkG gs S = true) (k : ∀ y ∈ ys, ∃ ρ1, t (.val (g y)) (wipeE ρ vs) S = .ok ρ1 S ∧ e ρ1 S = .ok (.val (h y)) S) :
    dComp it t none e vs ρ S = .ok (.own (.lst (ys.map h))) S := dComp_ok h1 (by rwa [List.length_map]) (cl_mapG hg g h ys k)
end
/-! lists side by side -/
theorem zip2_map {α β : Type} (f : α → PV) (g : β → PV) : ∀ (xs : List α) (ys : List β), zip2 (xs.map f) (ys.map g) = (xs.zip ys).map fun p => .tup [f p.1, g p.2]
  | [], ys => by cases ys <;> rfl
  | x :: xs, [] => rfl
  | x :: xs, y :: ys => by simp only [List.map_cons, zip2, List.zip_cons_cons, zip2_map f g xs ys]
theorem zip3_map {α β γ : Type} (f : α → PV) (g : β → PV) (h : γ → PV) : ∀ (xs : List α) (ys : List β) (zs : List γ), zip3 (xs.map f) (ys.map g) (zs.map h) = (xs.zip (ys.zip zs)).map fun p => .tup [f p.1, g p.2.1, h p.2.2]
  | [], ys, zs => by cases ys <;> cases zs <;> rfl
  | x :: xs, [], zs => by cases zs <;> rfl
  | x :: xs, y :: ys, [] => rfl
  | x :: xs, y :: ys, z :: zs => by simp only [List.map_cons, zip3, List.zip_cons_cons, zip3_map f g h xs ys zs]
theorem numd_map {α : Type} (f : α → PV) : ∀ (n : Nat) (xs : List α), numd n (xs.map f) = (xs.zipIdx n).map fun p => .tup [.int (p.2 : Nat), f p.1]
  | n, [] => rfl
  | n, x :: xs => by simp only [List.map_cons, numd, List.zipIdx_cons, numd_map f (n + 1) xs]
theorem ints_mapG {α : Type} (h : α → Int) : ∀ ys : List α, ints? (ys.map fun y => PV.int (h y)) = some (ys.map h)
  | [] => rfl
  | y :: ys => by simp only [List.map_cons, ints?, ints_mapG h ys, Option.map_some]
theorem fsum_mapG {α : Type} (h : α → Int) (ys : List α) : fSum (.lst (ys.map fun y => .int (h y))) = some (.val (.int (ys.map h).sum)) := by simp only [fSum, ints_mapG, Option.map_some]
theorem fsum_int (ys : List Int) : fSum (.lst (ys.map .int)) = some (.val (.int ys.sum)) := by simp only [fSum, ints_map, Option.map_some]
theorem fmax_mapG {α : Type} (h : α → Int) (y : α) (ys : List α) : fMax (.lst ((y :: ys).map fun y => .int (h y))) = some (.val (.int (maxI (h y) (ys.map h)))) := by
  have e := ints_mapG h (y :: ys)
  unfold fMax
  simp only
  rw [e] <;> rfl
theorem fmin_mapG {α : Type} (h : α → Int) (y : α) (ys : List α) : fMin (.lst ((y :: ys).map fun y => .int (h y))) = some (.val (.int (minI (h y) (ys.map h)))) := by
  have e := ints_mapG h (y :: ys)
  unfold fMin
  simp only
  rw [e] <;> rfl
theorem bls_mapG {α : Type} (h : α → Bool) : ∀ ys : List α, bls? (ys.map fun y => PV.bl (h y)) = some (ys.map h)
  | [] => rfl
  | y :: ys => by simp only [List.map_cons, bls?, bls_mapG h ys, Option.map_some]
theorem fall_mapG {α : Type} (h : α → Bool) (ys : List α) : fAll (.lst (ys.map fun y => .bl (h y))) = some (.val (.bl (ys.all h))) := by
  simp only [fAll, bls_mapG, Option.map_some, List.all_map] <;> rfl
theorem fany_mapG {α : Type} (h : α → Bool) (ys : List α) : fAny (.lst (ys.map fun y => .bl (h y))) = some (.val (.bl (ys.any h))) := by
  simp only [fAny, bls_mapG, Option.map_some, List.any_map] <;> rfl
theorem cut_take (xs : List PV) (k : Nat) : cutP xs none (some (k : Int)) = xs.take k := by
  unfold cutP
  rw [HT.sIx_none, HT.sIx_nat, List.drop_zero, Nat.sub_zero]
  by_cases h : k ≤ xs.length
  · rw [Nat.min_eq_left h]
  · rw [Nat.min_eq_right (by omega), List.take_of_length_le (Nat.le_refl _), List.take_of_length_le (by omega)]
theorem cut_drop (xs : List PV) (k : Nat) : cutP xs (some (k : Int)) none = xs.drop k := by
  unfold cutP
  rw [HT.sIx_none, HT.sIx_nat]
  by_cases h : k ≤ xs.length
  · rw [Nat.min_eq_left h, List.take_of_length_le (by rw [List.length_drop]; omega)]
  · rw [Nat.min_eq_right (by omega), List.drop_of_length_le (by omega), List.drop_of_length_le (by omega), List.take_nil]
@[simp] theorem cut_take1 (xs : List PV) : cutP xs none (some 1) = xs.take 1 := cut_take xs 1
@[simp] theorem cut_drop1 (xs : List PV) : cutP xs (some 1) none = xs.tail := by rw [← List.drop_one]; exact cut_drop xs 1
@[simp] theorem e_zip3 {ρ : Env} {ds : List Den} : itZip3 ds ρ = bd (evAll ds ρ) (fun rs => match rs with
  | [r, q, u] => bd (bindV false r) fun s => bd (bindV false q) fun t => bd (bindV false u) fun w => bd (srcOf s) fun x => bd (srcOf t) fun y => bd (srcOf w) fun z => ret (zip3 x.1 y.1 z.1, x.2 ++ (y.2 ++ z.2))
  | _ => stk) := nr rfl
/-- a whole number in a list of such -/
theorem bin_int (i : Int) (ns : List Int) : bIn (.int i) (.lst (ns.map .int)) = some (.val (.bl (ns.contains i))) := by
  have h2 : (ns.map PV.int).all flat = true := by rw [List.all_map, List.all_eq_true]; exact fun x _ => rfl
  have h3 : flat (.int i) = true := rfl
  simp only [bIn, inP, h3, h2, Bool.and_self, if_true, Option.map_some]
  congr 3
  rw [List.any_map, Bool.eq_iff_iff]
  simp
theorem bin_intT (i : Int) (ns : List Int) : bIn (.int i) (.tup (ns.map .int)) = some (.val (.bl (ns.contains i))) := by
  have h2 : (ns.map PV.int).all flat = true := by rw [List.all_map, List.all_eq_true]; exact fun x _ => rfl
  have h3 : flat (.int i) = true := rfl
  simp only [bIn, inP, h3, h2, Bool.and_self, if_true, Option.map_some]
  congr 3
  rw [List.any_map, Bool.eq_iff_iff]
  simp
theorem bnin_int (i : Int) (ns : List Int) : bNin (.int i) (.lst (ns.map .int)) = some (.val (.bl (!ns.contains i))) := by
  have h := bin_int i ns
  unfold bIn at h
  unfold bNin
  cases e : inP (.int i) (.lst (ns.map .int)) with
  | none => rw [e] at h; cases h
  | some b => rw [e] at h; simp only [Option.map_some, Option.some.injEq, RV.val.injEq, PV.bl.injEq] at h ⊢; rw [h]
theorem map_rng {α β : Type} (f : α → β) (xs : List α) (d : α) : xs.map f = (List.range xs.length).map fun i => f (xs.getD i d) := by
  refine List.ext_getElem (by simp) fun i h1 h2 => ?_
  rw [List.length_map] at h1
  simp [h1]
theorem zip2_same {α : Type} (f g : α → PV) (xs : List α) : zip2 (xs.map f) (xs.map g) = xs.map fun x => .tup [f x, g x] := by
  induction xs with
  | nil => rfl
  | cons x xs ih => simp only [List.map_cons, zip2, ih]
theorem zip3_same {α : Type} (f g h : α → PV) (xs : List α) : zip3 (xs.map f) (xs.map g) (xs.map h) = xs.map fun x => .tup [f x, g x, h x] := by
  induction xs with
  | nil => rfl
  | cons x xs ih => simp only [List.map_cons, zip3, ih]
theorem numd_rng (f : Nat → PV) (n : Nat) : numd 0 ((List.range n).map f) = (List.range n).map fun i => .tup [.int (i : Nat), f i] := by
  refine List.ext_getElem? fun i => ?_
  rw [numd_get]
  by_cases h : i < n
  · simp [h]
  · simp [h]
theorem inP_tl (p : PV) (xs : List PV) (h1 : flat p = true) (h2 : xs.all flat = true) : bIn p (.lst xs) = some (.val (.bl (xs.any fun z => eqv z p))) ∧ bIn p (.tup xs) = some (.val (.bl (xs.any fun z => eqv z p))) := by
  simp [bIn, inP, h1, h2]
/-- a loop that leaves at the first that fails, with what belongs to it -/
theorem loop_first_of {α : Type} {t : TgD} {b : DenS} {gs : List (Nat × PV)} {S : Sto} {x : Res (Env × Fl)} {g : α → PV} (Iv : Env → Prop) (P : α → Bool) (r : α → RV) (hg : chkG gs S = true) : ∀ {ys : List α} {ρ : Env} (hx : loop gs t b (ys.map g) ρ S = x) (hI : Iv ρ)
    (h : ∀ y ∈ ys, ∀ ρ, Iv ρ → ∃ ρ', (bd (t (.val (g y)) ρ) fun ρ1 => b ρ1) S = .ok (ρ', if P y then .nx else .rt (r y)) S ∧ Iv ρ'), ∃ ρ', Iv ρ' ∧ (x = .ok (ρ', .nx) S ∨ ∃ y ∈ ys, x = .ok (ρ', .rt (r y)) S)
  | [], ρ, hx, hI, _ => ⟨ρ, hI, .inl (by rw [← hx]; simp [loop, chk_ok hg])⟩
  | y :: ys, ρ, hx, hI, h => by
    obtain ⟨ρ1, e1, h1⟩ := h y List.mem_cons_self ρ hI
    cases hp : P y with
    | false =>
      refine ⟨ρ1, h1, .inr ⟨y, List.mem_cons_self, ?_⟩⟩
      rw [hp] at e1
      have e3 : (bd (bd (t (.val (g y)) ρ) fun ρ1 => b ρ1) (cont (loop gs t b (ys.map g)))) S = .ok (ρ1, .rt (r y)) S := by
        rw [e_bd, e1]
        rfl
      rw [bd_assoc] at e3
      rw [← hx, List.map_cons, loop, e_bd, chk_ok hg]
      exact e3
    | true =>
      obtain ⟨ρ2, h2, e2⟩ := loop_first_of Iv P r hg (ys := ys) rfl h1 (fun y hy => h y (List.mem_cons_of_mem _ hy))
      rw [hp] at e1
      have e3 : loop gs t b ((y :: ys).map g) ρ S = loop gs t b (ys.map g) ρ1 S := by
        have e4 : (bd (bd (t (.val (g y)) ρ) fun ρ1 => b ρ1) (cont (loop gs t b (ys.map g)))) S = loop gs t b (ys.map g) ρ1 S := by
          rw [e_bd, e1]
          rfl
        rw [bd_assoc] at e4
        rw [List.map_cons, loop, e_bd, chk_ok hg]
        exact e4
      rw [e3] at hx
      rw [hx] at e2
      refine ⟨ρ2, h2, ?_⟩
      rcases e2 with e | ⟨z, hz, e⟩
      · exact .inl e
      · exact .inr ⟨z, List.mem_cons_of_mem _ hz, e⟩
theorem cl_filtG {α : Type} {i : Nat} {ρ : Env} {S : Sto} {gs : List (Nat × PV)} {c e : Den} (hg : chkG gs S = true) (P : α → Bool) (g h : α → PV) : ∀ ys : List α, (∀ y ∈ ys, c (ρ.set i (some (.val (g y)))) S = .ok (.val (.bl (P y))) S ∧ e (ρ.set i (some (.val (g y)))) S = .ok (.val (h y)) S) →
    cl gs (tgName i false) (some c) e (ys.map g) ρ S = .ok ((ys.filter P).map h) S
  | [], _ => by simp [cl, chk_ok hg]
  | y :: ys, k => by
    obtain ⟨h1, h2⟩ := k y List.mem_cons_self
    have ih := cl_filtG hg P g h ys fun z hz => k z (List.mem_cons_of_mem _ hz)
    cases hp : P y <;> simp [cl, turnC, condM, chk_ok hg, h1, h2, ih, hp]
theorem dComp_filtG {α : Type} {i : Nat} {it : ItD} {ρ : Env} {S : Sto} {c e : Den} {vs : List Nat} {gs : List (Nat × PV)} {g : α → PV} {ys : List α} (P : α → Bool) (h : α → PV) (h1 : it ρ S = .ok (ys.map g, gs) S) (hl : ys.length ≤ sizeLine) (hg : chkG gs S = true)
    (k : ∀ y ∈ ys, c ((wipeE ρ vs).set i (some (.val (g y)))) S = .ok (.val (.bl (P y))) S ∧ e ((wipeE ρ vs).set i (some (.val (g y)))) S = .ok (.val (h y)) S) :
    dComp it (tgName i false) (some c) e vs ρ S = .ok (.own (.lst ((ys.filter P).map h))) S := dComp_ok h1 (by rwa [List.length_map]) (cl_filtG hg P g h ys k)
end Pf
end
section
set_option Elab.async false
set_option linter.all false
set_option maxHeartbeats 1000000
set_option maxRecDepth 100000
set_option autoImplicit false
namespace Pf
open PySem
/-! drawing: the pot is the first cell -/
section
variable {i : Nat} {it : ItD} {e : Den} {vs : List Nat} {xs : List PV} {ρ : Env} {T : Sto} {p : PV}
/-- a comprehension whose turns draw -/
theorem dComp_pot (Q : PV → PV → Prop) (h1 : it ρ (.live p :: T) = .ok (xs, []) (.live p :: T)) (hl : xs.length ≤ sizeLine) (hp : PotOk p)
    (h2 : ∀ x ∈ xs, ∀ q, PotOk q → ∃ q' r y, e ((wipeE ρ vs).set i (some (.val x))) (.live q :: T) = .ok r (.live q' :: T) ∧ (r = .val y ∨ r = .own y) ∧ PotOk q' ∧ Q x y) :
    ∃ ps p', dComp it (tgName i false) none e vs ρ (.live p :: T) = .ok (.own (.lst ps)) (.live p' :: T) ∧ PotOk p' ∧ Paired Q xs ps := by
  obtain ⟨ps, S2, e2, ⟨p2, rfl, hp2⟩, q2⟩ := dComp_inv (ρ := ρ) (t := tgName i false) (c := none) (e := e) (vs := vs) (fun S => ∃ q, S = .live q :: T ∧ PotOk q) Q h1 hl (fun _ _ => rfl) ⟨p, rfl, hp⟩ (fun x hx S hS => by
    obtain ⟨q, rfl, hq⟩ := hS
    obtain ⟨q', r, y, e1, hr, hq', hQ⟩ := h2 x hx q hq
    refine ⟨y, .live q' :: T, ?_, ⟨q', rfl, hq'⟩, hQ⟩
    rcases hr with rfl | rfl <;> simp [turnC, condM, chk, e1])
  exact ⟨ps, p2, e2, hp2, q2⟩
end
theorem dComp_pot_of {i : Nat} {it : ItD} {e : Den} {vs : List Nat} {ρ : Env} {T : Sto} {p : PV} {x : Res RV} (hx : dComp it (tgName i false) none e vs ρ (.live p :: T) = x) (xs : List PV) (Q : PV → PV → Prop) (h1 : it ρ (.live p :: T) = .ok (xs, []) (.live p :: T)) (hl : xs.length ≤ sizeLine) (hp : PotOk p)
    (h2 : ∀ x ∈ xs, ∀ q, PotOk q → ∃ q' r y, e ((wipeE ρ vs).set i (some (.val x))) (.live q :: T) = .ok r (.live q' :: T) ∧ (r = .val y ∨ r = .own y) ∧ PotOk q' ∧ Q x y) :
    ∃ ps p', x = .ok (.own (.lst ps)) (.live p' :: T) ∧ PotOk p' ∧ Paired Q xs ps := hx ▸ dComp_pot Q h1 hl hp h2
def Tr (r : FRes) : Prop := ∃ outs, r = .ok (.val (.bl true)) outs
theorem Tr.mk {outs : Sto} : Tr (.ok (.val (.bl true)) outs) := ⟨outs, rfl⟩
/-! values that are shown, with whole numbers that are not too great -/
mutual
def smI : PV → Bool
  | .int i => decide (i.natAbs ≤ 10 ^ 40)
  | .tup xs => smIs xs
  | .lst xs => smIs xs
  | _ => true
def smIs : List PV → Bool
  | [] => true
  | x :: xs => smI x && smIs xs
end
theorem smIs_all (xs : List PV) : smIs xs = xs.all smI := by
  induction xs with
  | nil => rfl
  | cons x xs ih => rw [smIs, ih]; rfl
structure Gd (n k : Nat) (v : PV) : Prop where
  b : Bd n k v
  s : smI v = true
theorem Gd.mono {n k m l : Nat} {v : PV} (h : Gd n k v) (h1 : n ≤ m) (h2 : k ≤ l) : Gd m l v := ⟨h.b.mono h1 h2, h.s⟩
theorem gd_tup {n k m : Nat} {xs : List PV} (h : ∀ x ∈ xs, Gd n k x) (hl : xs.length ≤ m) : Gd (n + 1) (m * (k + 2) + 4) (.tup xs) :=
  ⟨bd_tup (fun x hx => (h x hx).b) hl, by rw [smI, smIs_all]; exact List.all_eq_true.mpr fun x hx => (h x hx).s⟩
theorem gd_lst {n k m : Nat} {xs : List PV} (h : ∀ x ∈ xs, Gd n k x) (hl : xs.length ≤ m) : Gd (n + 1) (m * (k + 2) + 4) (.lst xs) :=
  ⟨bd_lst (fun x hx => (h x hx).b) hl, by rw [smI, smIs_all]; exact List.all_eq_true.mpr fun x hx => (h x hx).s⟩
theorem gd_int {i : Int} (h : i.natAbs ≤ 10 ^ 40) : Gd 0 2000 (.int i) := by
  refine ⟨⟨?_, ?_⟩, by rw [smI]; exact decide_eq_true h⟩
  · have h2 : (10 : Nat) ^ 40 < 2 ^ 200 := by decide
    have := log2_le (n := i.natAbs) (k := 200) (by omega) (by omega)
    show decide (i.natAbs.log2 < 1920) = true
    exact decide_eq_true (by omega)
  · rw [rsz]
    split <;> omega
theorem gd_int' {i : Int} (h : i.natAbs < 1000) : Gd 0 20 (.int i) := ⟨bd_int h, by rw [smI]; exact decide_eq_true (by omega)⟩
theorem gd_cons {n k : Nat} {y : PV} {ys : List PV} (h1 : Gd n k y) (h2 : ∀ x ∈ ys, Gd n k x) : ∀ x ∈ y :: ys, Gd n k x := fun x hx => by
  rcases List.mem_cons.mp hx with h | h
  · subst h; exact h1
  · exact h2 x h
theorem gd_app {n k : Nat} {xs ys : List PV} (h1 : ∀ x ∈ xs, Gd n k x) (h2 : ∀ x ∈ ys, Gd n k x) : ∀ x ∈ xs ++ ys, Gd n k x := fun x hx => by
  rcases List.mem_append.mp hx with h | h
  · exact h1 x h
  · exact h2 x h
theorem gd_nil {n k : Nat} : ∀ x ∈ ([] : List PV), Gd n k x := fun x hx => by cases hx
theorem gd_cut {n k : Nat} {xs : List PV} {lo hi : Option Int} (h : ∀ x ∈ xs, Gd n k x) : ∀ x ∈ cutP xs lo hi, Gd n k x := fun x hx => h x (cutP_sub x hx)
theorem gd_fix {n k : Nat} {v : PV} (h : (shw n v && (decide (rsz v ≤ k) && smI v)) = true) : Gd n k v := by
  simp only [Bool.and_eq_true, decide_eq_true_eq] at h
  exact ⟨⟨h.1, h.2.1⟩, h.2.2⟩
/-- many fixed ones at once -/
theorem gd_fixs {n k : Nat} {xs : List PV} (h : xs.all (fun v => shw n v && (decide (rsz v ≤ k) && smI v)) = true) : ∀ v ∈ xs, Gd n k v := fun v hv => gd_fix (List.all_eq_true.mp h v hv)
theorem Gd.scr {n k : Nat} {v : PV} (h : Gd n k v) : ∀ ns, v ≠ .scr ns := fun ns e => by
  subst e
  have := h.b.1
  simp [shw] at this
theorem Gd.rows {n k : Nat} {v : PV} (h : Gd n k v) : ∀ x ∈ rowsOf v, smI x = true := by
  have hs := h.s
  cases v with
  | lst xs => rw [smI, smIs_all] at hs; exact fun x hx => List.all_eq_true.mp hs x hx
  | tup xs => rw [smI, smIs_all] at hs; exact fun x hx => List.all_eq_true.mp hs x hx
  | scr ns => exact absurd rfl (h.scr ns)
  | _ => exact fun x hx => by cases hx
theorem Gd.len {n k : Nat} {v : PV} (h : Gd n k v) : (rowsOf v).length ≤ k := by
  have key : ∀ xs : List PV, xs.length ≤ rsz.rszs xs := fun xs => by
    induction xs with
    | nil => simp [rsz.rszs]
    | cons x xs ih => rw [rsz.rszs, List.length_cons]; omega
  have hb := h.b.2
  cases v with
  | lst xs => rw [rsz] at hb; have := key xs; show xs.length ≤ k; omega
  | tup xs => rw [rsz] at hb; have := key xs; show xs.length ≤ k; omega
  | scr ns => exact absurd rfl (h.scr ns)
  | _ => exact Nat.zero_le _
theorem gd_frac {q : Rat} (h1 : q.num.natAbs ≤ 10 ^ 40) (h2 : q.den ≤ 10 ^ 40) : Gd 1 4010 (frac q) := (gd_tup (m := 2) (gd_cons (gd_int h1) (gd_cons (gd_int (i := (q.den : Nat)) (by omega)) gd_nil)) (by simp)).mono (by omega) (by omega)
theorem gd_repr {n k : Nat} {v : PV} (h : Gd n k v) (hn : n ≤ 60) (hk : k ≤ 10000000) : fRepr v = some (.val (.str (shT v))) := repr_ok (h.b.mono hn (by unfold sizeLine; omega))
end Pf
end
section
set_option Elab.async false
set_option linter.all false
set_option maxHeartbeats 1000000
set_option maxRecDepth 100000
set_option autoImplicit false
namespace Pf
open PySem
/-! least sums along lists of places -/
def wt (D : Nat → Nat → Int) : List Nat → Int
  | [] => 0
  | [_] => 0
  | x :: y :: r => D x y + wt D (y :: r)
variable {D : Nat → Nat → Int} {m : Nat}
theorem wt_app (D : Nat → Nat → Int) (x : Nat) (c : List Nat) : ∀ a : List Nat, wt D (a ++ x :: c) = wt D (a ++ [x]) + wt D (x :: c)
  | [] => by simp [wt]
  | [y] => by
    cases c with
    | nil => simp [wt]
    | cons z c => simp only [List.cons_append, List.nil_append, wt]; omega
  | y :: z :: a => by
    have ih := wt_app D x c (z :: a)
    simp only [List.cons_append, wt] at ih ⊢
    omega
structure Walk (m i j : Nat) (l : List Nat) : Prop where
  hd : l.head? = some i
  la : l.getLast? = some j
  lt : ∀ n ∈ l, n < m
/-- no ring is below 0 -/
structure NoRing (D : Nat → Nat → Int) (m : Nat) : Prop where
  zero : ∀ i, D i i = 0
  cyc : ∀ (x : Nat) (b : List Nat), (x :: b).Nodup → (∀ n ∈ x :: b, n < m) → 0 ≤ wt D (x :: b ++ [x])
theorem last_app {α : Type} (a : List α) (x : α) (c : List α) : (a ++ x :: c).getLast? = (x :: c).getLast? := by
  rw [List.getLast?_append]
  cases h : (x :: c).getLast? with
  | none => simp at h
  | some y => rfl
theorem simple_of (h : NoRing D m) : ∀ (l : List Nat) (i j : Nat), Walk m i j l → ∃ l', Walk m i j l' ∧ l'.Nodup ∧ wt D l' ≤ wt D l
  | [], i, j, w => by cases w.hd
  | [x], i, j, w => ⟨[x], w, by simp, Int.le_refl _⟩
  | x :: y :: r, i, j, w => by
    have e : x = i := by simpa using w.hd
    subst e
    have w1 : Walk m y j (y :: r) := ⟨rfl, by have := w.la; rwa [List.getLast?_cons_cons] at this, fun n hn => w.lt n (List.mem_cons_of_mem _ hn)⟩
    obtain ⟨t, w2, nd, le⟩ := simple_of h (y :: r) y j w1
    cases t with
    | nil => cases w2.hd
    | cons z t =>
      have e : z = y := by simpa using w2.hd
      subst e
      have hx : x < m := w.lt x List.mem_cons_self
      by_cases hm : x ∈ z :: t
      · obtain ⟨b, c, e⟩ := List.append_of_mem hm
        have hnd := nd
        rw [e] at hnd
        have nd2 : (x :: c).Nodup := (List.nodup_append.mp hnd).2.1
        have ndb : (x :: b).Nodup := by
          rw [List.nodup_cons]
          refine ⟨fun hb => ?_, (List.nodup_append.mp hnd).1⟩
          exact (List.nodup_append.mp hnd).2.2 x hb x List.mem_cons_self rfl
        refine ⟨x :: c, ⟨rfl, ?_, fun n hn => w2.lt n (by rw [e]; exact List.mem_append_right _ hn)⟩, nd2, ?_⟩
        · have := w2.la
          rwa [e, last_app] at this
        · have h1 : wt D (x :: z :: t) = wt D (x :: b ++ [x]) + wt D (x :: c) := by
            rw [e, ← List.cons_append, wt_app]
          have h2 := h.cyc x b ndb (fun n hn => by
            rcases List.mem_cons.mp hn with rfl | hn
            · exact hx
            · exact w2.lt n (by rw [e]; exact List.mem_append_left _ hn))
          simp only [wt] at h1 ⊢
          omega
      · refine ⟨x :: z :: t, ⟨rfl, by rw [List.getLast?_cons_cons]; exact w2.la, fun n hn => ?_⟩, List.nodup_cons.mpr ⟨hm, nd⟩, ?_⟩
        · rcases List.mem_cons.mp hn with rfl | hn
          · exact hx
          · exact w2.lt n hn
        · simp only [wt] at le ⊢
          omega
/-- the least sums -/
def IsFar (D : Nat → Nat → Int) (m i j : Nat) (z : Int) : Prop := (∃ l, Walk m i j l ∧ l.Nodup ∧ wt D l = z) ∧ ∀ l, Walk m i j l → l.Nodup → z ≤ wt D l
theorem IsFar.uniq {i j : Nat} {y z : Int} (h : IsFar D m i j y) (g : IsFar D m i j z) : y = z := by
  obtain ⟨⟨l, w, n, e⟩, a⟩ := h
  obtain ⟨⟨k, w2, n2, e2⟩, b⟩ := g
  have := a k w2 n2
  have := b l w n
  omega
def Far (D : Nat → Nat → Int) (m : Nat) (f : Nat → Nat → Int) : Prop := ∀ i j, i < m → j < m → IsFar D m i j (f i j)
section
variable {f : Nat → Nat → Int} (h : NoRing D m) (hf : Far D m f)
include h hf
theorem far_walk {i j : Nat} {l : List Nat} (w : Walk m i j l) : f i j ≤ wt D l := by
  obtain ⟨l', w', nd, le⟩ := simple_of h l i j w
  have hi := w.lt i (List.mem_of_head? w.hd)
  have hj := w.lt j (List.mem_of_getLast? w.la)
  have := (hf i j hi hj).2 l' w' nd
  omega
theorem far_zero {i : Nat} (hi : i < m) : f i i = 0 := by
  have h1 := far_walk h hf (i := i) (j := i) (l := [i]) ⟨rfl, rfl, fun n hn => by rw [List.mem_singleton.mp hn]; exact hi⟩
  obtain ⟨⟨l, w, nd, e⟩, _⟩ := hf i i hi hi
  cases l with
  | nil => cases w.hd
  | cons x t =>
    have ex : x = i := by simpa using w.hd
    subst ex
    cases t with
    | nil => rw [← e]; rfl
    | cons y t =>
      have := w.la
      rw [List.getLast?_cons_cons] at this
      exact absurd (List.mem_of_getLast? this) (List.nodup_cons.mp nd).1
theorem far_tri {i j k : Nat} (hi : i < m) (hj : j < m) (hk : k < m) : f i j ≤ f i k + f k j := by
  obtain ⟨⟨l, w, _, e⟩, _⟩ := hf i k hi hk
  obtain ⟨⟨l2, w2, _, e2⟩, _⟩ := hf k j hk hj
  cases l2 with
  | nil => cases w2.hd
  | cons x c =>
    have ex : x = k := by simpa using w2.hd
    subst ex
    obtain ⟨a, ea⟩ : ∃ a, l = a ++ [x] := by
      have hne : l ≠ [] := fun e => by rw [e] at w; cases w.hd
      refine ⟨l.dropLast, ?_⟩
      have h1 := List.dropLast_concat_getLast hne
      have h2 := w.la
      rw [List.getLast?_eq_some_getLast hne] at h2
      cases h2
      exact h1.symm
    have := far_walk h hf (i := i) (j := j) (l := a ++ x :: c) ⟨by
      have := w.hd
      rw [ea] at this
      cases a with
      | nil => exact this
      | cons y a => exact this, by rw [last_app]; exact w2.la, fun n hn => by
      rcases List.mem_append.mp hn with hn | hn
      · exact w.lt n (by rw [ea]; exact List.mem_append_left _ hn)
      · exact w2.lt n hn⟩
    rw [wt_app, ← ea, e, e2] at this
    exact this
theorem far_le {i j : Nat} (hi : i < m) (hj : j < m) : f i j ≤ D i j := by
  have := far_walk h hf (i := i) (j := j) (l := [i, j]) ⟨rfl, rfl, fun n hn => by
    rcases List.mem_cons.mp hn with rfl | hn
    · exact hi
    · rw [List.mem_singleton.mp hn]; exact hj⟩
  simpa [wt] using this
end
/-! a table in which middles are let one after another -/
def Upb (D : Nat → Nat → Int) (m k : Nat) (F : Nat → Nat → Int) : Prop := ∀ (l : List Nat) (i j : Nat), Walk m i j l → l.Nodup → (∀ n ∈ l.tail.dropLast, n < k) → F i j ≤ wt D l
theorem upb_0 {F : Nat → Nat → Int} (hF : ∀ i j, i < m → j < m → F i j = if i = j then 0 else D i j) : Upb D m 0 F := fun l i j w nd hn => by
  cases l with
  | nil => cases w.hd
  | cons x t =>
    have ex : x = i := by simpa using w.hd
    subst ex
    have hx := w.lt x List.mem_cons_self
    cases t with
    | nil =>
      have ej : x = j := by simpa using w.la
      subst ej
      rw [hF x x hx hx, if_pos rfl]
      exact Int.le_refl _
    | cons y t =>
      cases t with
      | nil =>
        have ej : y = j := by simpa using w.la
        subst ej
        have hy := w.lt y (by simp)
        have hne : x ≠ y := fun e => by subst e; simp at nd
        rw [hF x y hx hy, if_neg hne]
        simp [wt]
      | cons z t => exact absurd (hn y (by simp [List.dropLast])) (by omega)
theorem upb_succ {k : Nat} {F F' : Nat → Nat → Int} (hk : k < m) (h : Upb D m k F) (h1 : ∀ i j, i < m → j < m → F' i j ≤ F i j) (h2 : ∀ i j, i < m → j < m → F' i j ≤ F i k + F k j) : Upb D m (k + 1) F' := fun l i j w nd hn => by
  have hi := w.lt i (List.mem_of_head? w.hd)
  have hj := w.lt j (List.mem_of_getLast? w.la)
  by_cases hm : k ∈ l.tail.dropLast
  · cases l with
    | nil => cases w.hd
    | cons x t =>
      have ex : x = i := by simpa using w.hd
      subst ex
      have hm : k ∈ t.dropLast := hm
      have hn : ∀ n ∈ t.dropLast, n < k + 1 := hn
      obtain ⟨a, c, e⟩ := List.append_of_mem hm
      have hne : t ≠ [] := fun z => by rw [z] at hm; cases hm
      have et : t = a ++ k :: (c ++ [j]) := by
        have h3 := List.dropLast_concat_getLast hne
        have h4 := w.la
        have h5 : (x :: t).getLast? = t.getLast? := by cases t with | nil => exact absurd rfl hne | cons y t => exact List.getLast?_cons_cons
        rw [h5, List.getLast?_eq_some_getLast hne] at h4
        have h6 : t.getLast hne = j := by simpa using h4
        rw [h6, e] at h3
        rw [← h3]
        simp
      subst et
      have nd1 := (List.nodup_cons.mp nd)
      have nd2 := List.nodup_append.mp nd1.2
      have w1 : Walk m x k (x :: a ++ [k]) := ⟨rfl, by rw [last_app]; rfl, fun n hn => by
        rcases List.mem_append.mp hn with hn | hn
        · rcases List.mem_cons.mp hn with rfl | hn
          · exact hi
          · exact w.lt n (by simp [hn])
        · rw [List.mem_singleton.mp hn]; exact hk⟩
      have w2 : Walk m k j (k :: (c ++ [j])) := ⟨rfl, by rw [← List.cons_append, last_app]; rfl, fun n hn => w.lt n (List.mem_cons_of_mem _ (List.mem_append_right _ hn))⟩
      have n1 : (x :: a ++ [k]).Nodup := by
        rw [List.cons_append, List.nodup_cons]
        refine ⟨fun hx => nd1.1 ?_, ?_⟩
        · rcases List.mem_append.mp hx with hx | hx
          · exact List.mem_append_left _ hx
          · rw [List.mem_singleton.mp hx]; exact List.mem_append_right _ List.mem_cons_self
        · rw [List.nodup_append]
          refine ⟨nd2.1, by simp, fun y hy z hz => ?_⟩
          rw [List.mem_singleton.mp hz]
          exact nd2.2.2 y hy k List.mem_cons_self
      have i1 := h _ _ _ w1 n1 (fun n hn' => by
        have : (x :: a ++ [k]).tail.dropLast = a := by simp
        rw [this] at hn'
        have h3 := hn n (by rw [e]; exact List.mem_append_left _ hn')
        have h4 := nd2.2.2 n hn' k List.mem_cons_self
        omega)
      have i2 := h _ _ _ w2 nd2.2.1 (fun n hn' => by
        have : (k :: (c ++ [j])).tail.dropLast = c := by simp
        rw [this] at hn'
        have h3 := hn n (by rw [e]; exact List.mem_append_right _ (List.mem_cons_of_mem _ hn'))
        have h4 := (List.nodup_cons.mp nd2.2.1).1
        have h5 : n ≠ k := fun z => h4 (by rw [← z]; exact List.mem_append_left _ hn')
        omega)
      have := h2 x j hi hj
      have h6 := wt_app D k (c ++ [j]) (x :: a)
      rw [← List.cons_append]
      omega
  · have := h l i j w nd (fun n hn' => by
      have := hn n hn'
      have : n ≠ k := fun z => hm (z ▸ hn')
      omega)
    have := h1 i j hi hj
    omega
theorem upb_far {F f : Nat → Nat → Int} (hf : Far D m f) (h : Upb D m m F) (hl : ∀ i j, i < m → j < m → f i j ≤ F i j) : ∀ i j, i < m → j < m → F i j = f i j := fun i j hi hj => by
  obtain ⟨⟨l, w, nd, e⟩, _⟩ := hf i j hi hj
  have := h l i j w nd (fun n hn => w.lt n (List.mem_of_mem_tail ((List.dropLast_sublist _).subset hn)))
  have := hl i j hi hj
  omega
/-! least of so many -/
def mn (m : Nat) (g : Nat → Int) : Int := match (List.range m).map g with
  | [] => 0
  | x :: t => minI x t
theorem mn_spec (hm : 0 < m) (g : Nat → Int) : (∃ j, j < m ∧ mn m g = g j) ∧ ∀ j, j < m → mn m g ≤ g j := by
  unfold mn
  cases h : (List.range m).map g with
  | nil => have := congrArg List.length h; simp at this; omega
  | cons x t =>
    obtain ⟨a, b⟩ := minI_mem t x
    rw [← h] at a b
    obtain ⟨j, hj, e⟩ := List.mem_map.mp a
    exact ⟨⟨j, List.mem_range.mp hj, e.symm⟩, fun j hj => b _ (List.mem_map.mpr ⟨j, List.mem_range.mpr hj, rfl⟩)⟩
theorem fmin_rng (hm : 0 < m) (g : Nat → Int) : fMin (.lst ((List.range m).map fun i => .int (g i))) = some (.val (.int (mn m g))) := by
  have e := ints_mapG g (List.range m)
  unfold fMin mn
  simp only
  rw [e]
  cases h : (List.range m).map g with
  | nil => have := congrArg List.length h; simp at this; omega
  | cons x t => rfl
theorem mn_congr {g g' : Nat → Int} (h : ∀ j, j < m → g j = g' j) : mn m g = mn m g' := by
  unfold mn
  have : (List.range m).map g = (List.range m).map g' := List.map_congr_left fun j hj => h j (List.mem_range.mp hj)
  rw [this]
end Pf
end
section
set_option Elab.async false
set_option linter.all false
set_option maxHeartbeats 1000000
set_option autoImplicit false
namespace Pf
open PySem PySem.Spec L2
/-! repr of a list display: the list is nobody's, so nothing in it is frozen -/
def fRepL (ps : List PV) : Option RV := if lenOk ps.length then fRepr (.lst ps) else none
def dRepL (ds : List Den) : Den := dCl fRepL ds
@[simp] theorem e_repL {ds : List Den} {ρ : Env} : dRepL ds ρ = bd (evAll ds ρ) fun rs => runN fRepL rs := nr rfl
section
variable {X : Cx} {pins : List (Addr × Obj)} {σ : L2.St} {H : Hp} {s : Shared}
theorem RpW.ext {K : Frag} {g : G} {H : Hp} (sr : SRc K g) (hH : ∀ b x, g.H b = some x → H b = some x) {p : PV} {v : V} (h : RpW K g.H g.F p v) : RpW K H g.F p v := by
  have k : Keep g { g with H := H } := ⟨fun _ h => h, fun b x e _ => hH b x e⟩
  cases p with
  | lst xs => obtain ⟨a, vs, e, q, r⟩ := h; exact ⟨a, vs, e, hH _ _ q, RpL.keep k xs vs r⟩
  | dct kvs =>
    obtain ⟨a, e, q⟩ := h
    refine ⟨a, e, ?_⟩
    rcases q with ⟨l, e1, r⟩ | ⟨l, e1, r⟩
    · exact .inl ⟨l, hH _ _ e1, RpK.keep k kvs l r⟩
    · exact .inr ⟨l, hH _ _ e1, RpT.keep k kvs l r⟩
  | _ => exact Rp.keep k _ v h
theorem RpWs.rd (I : Inv X pins σ H s) {F : Addr → Prop} : ∀ (n : Nat) (ps : List PV) (vs : List V) (us : List Value), ps.all (shw n) = true → RpWs X.K H F ps vs → Vals vs us → ∃ as, ReadsAll s.heap us (toDs ps) as ∧ ∀ b ∈ as, H b ≠ none
  | n, [], _, us, _, .nil, r => by cases r; exact ⟨_, .nil, by simp⟩
  | n, p :: ps, _, us, h, .cons a b, r => by
    cases r with
    | cons r1 r2 =>
      rw [List.all_cons, Bool.and_eq_true] at h
      obtain ⟨as, h1, h2⟩ := RpW.rd I h.1 a r1
      obtain ⟨bs, h3, h4⟩ := RpWs.rd I n ps _ _ h.2 b r2
      exact ⟨_, .cons h1 h3, fun c hc => (List.mem_append.mp hc).elim (h2 c) (h4 c)⟩
end
section
variable {X : Cx} {W : WS} {es : List Expr} {ds : List Den} {p p2 pos q : Pos}
def rRepL (K : Frag) : List V → Hp → VK → Prop := fun xs H Q => ∃ (a : Addr) (vs : List V) (g : G) (ps : List PV), xs = [.ref a] ∧ g.H a = none ∧ H = upd g.H a (.lst vs) ∧ SRc K g ∧ RpWs K g.H g.F ps vs ∧ shw 60 (.lst ps) = true ∧ rsz (.lst ps) ≤ sizeLine ∧ Q (.str (toD (.lst ps)).shown) H
theorem c_reprL (hg : X.A.guards = some []) (hu : X.A.units + 100 < cLine) (hs : ∃ o, X.base.get? sysModules = some o) : CallR X (.builtin "repr") (rRepL X.K) := by
  intro pins s σ H xs us Q I rr ⟨a, vs, g, ps, e, ha, hH, sr, hp, h1, h2, hQ⟩
  subst e
  cases rr with
  | cons r1 r2 =>
    cases r2
    cases r1
    have hw : RpWs X.K H g.F ps vs := by
      subst hH
      have key : ∀ {ps : List PV} {vs : List V}, RpWs X.K g.H g.F ps vs → ∀ vs', RpWs X.K (upd g.H a (.lst vs')) g.F ps vs := fun {ps vs} h vs' => by
        induction h with
        | nil => exact .nil
        | cons q _ ih => exact .cons (RpW.ext sr (fun b x e => by rw [upd_ne (ne_new ha e)]; exact e) q) ih
      exact key hp vs
    have hq : H a = some (.lst vs) := by rw [hH]; exact upd_same
    obtain ⟨its, rv, ⟨o, m, ho, hc, _, hd⟩, _⟩ := I.list (.inl (.inl hq))
    obtain ⟨as, r1, r2⟩ := RpWs.rd I 59 ps vs _ (by simpa [shw] using h1) hw rv
    obtain ⟨sh, dp⟩ := shw_ok 60 (.lst ps) h1
    have hsz : (toD (.lst ps)).shown.length ≤ sizeLine := Nat.le_trans (shw_len 60 _ h1) h2
    have rd : Reads s.heap (.ref a) (toD (.lst ps)) _ := Reads.list ho hc hd r1
    refine repr_of_reads' rd sh (fun _ hm => ?_) hg (by omega) (fun _ _ e => e) (fun h' u tk hk => ?_) hsz
    · obtain ⟨o, ho⟩ := hs
      refine (?_ : H sysModules ≠ none) (I.bs _ _ ho).2
      rcases List.mem_cons.mp hm with e | hm
      · rw [e, hq]; simp
      · exact r2 _ hm
    · exact ⟨.str (toD (.lst ps)).shown, _, I.kept hk, ⟨u, rfl⟩, hQ⟩
theorem pe_drepL (hgd : X.A.guards = some []) (hu : X.A.units + 100 < cLine) (hs : ∃ o, X.base.get? sysModules = some o) (hg : Gl X "repr") (hm : X.mg "repr" = none) (hv : bootBuiltins "repr" = some (.builtin "repr")) (ha : PA X es (tDs X.K W ds))
    (he : starEach [.List es q] X.env = (false, eval (.List es q) X.env) :: starEach [] X.env := by rfl) (hpl : (backTo pos (starEach [] X.env)).any (·.1) = false := by rfl) : PE X (.Call (.Name "repr" p) [.List es q] [] pos) (tD X.K W (dRepL ds)) :=
  peW (pe_callB (c_reprL hgd hu hs) hg hm hv (pa_cons (pe_lst ha) pa_nil he) (by decide) (by decide) he hpl) fun σ H Q h => by
    obtain ⟨ρ, g, e, sr, se, h⟩ := h
    subst e
    unfold tCB tCons tLst tNil
    refine tDs.bd (Stp.refl g) sr se h fun rs g1 vs st _ sr1 se1 hvs h1 => ?_
    obtain ⟨ps, x, e1, e3, k⟩ := h1.runN
    have hw := hvs.peeks sr1 e1
    unfold fRepL at e3
    split at e3
    · next hl =>
      unfold fRepr at e3
      split at e3
      · next h2 =>
        cases e3
        rw [Bool.and_eq_true, decide_eq_true_eq] at h2
        have hlen : ps.length = vs.length := Paired.length hw
        refine ⟨by rw [← hlen]; exact of_decide_eq_true hl, fun a ha => ?_⟩
        exact ⟨a, vs, g1, ps, rfl, ha, rfl, sr1, hw, h2.1, h2.2, k (g1.put a (.lst vs)) rfl (st.trans (Stp.put ha)) (sr1.put ha) _ rfl⟩
      · cases e3
    · cases e3
end
end Pf
end
section
set_option Elab.async false
set_option linter.all false
set_option maxHeartbeats 1000000
set_option maxRecDepth 100000
set_option autoImplicit false
namespace Pf
open PySem
/-! all lists of unlike places, by their lengths -/
def ext (m : Nat) (l : List Nat) : List (List Nat) := ((List.range m).filter fun s => !l.contains s).map fun s => l ++ [s]
def lev (m : Nat) : Nat → List (List Nat)
  | 0 => (List.range m).map fun s => [s]
  | t + 1 => (lev m t).flatMap (ext m)
theorem mem_ext {m : Nat} {l r : List Nat} : r ∈ ext m l ↔ ∃ s, s < m ∧ s ∉ l ∧ r = l ++ [s] := by
  unfold ext
  rw [List.mem_map]
  constructor
  · rintro ⟨s, h, rfl⟩
    rw [List.mem_filter, List.mem_range] at h
    exact ⟨s, h.1, by simpa using h.2, rfl⟩
  · rintro ⟨s, h1, h2, rfl⟩
    exact ⟨s, by rw [List.mem_filter, List.mem_range]; exact ⟨h1, by simpa using h2⟩, rfl⟩
theorem mem_lev {m : Nat} : ∀ (t : Nat) (r : List Nat), r ∈ lev m t ↔ r.length = t + 1 ∧ r.Nodup ∧ ∀ n ∈ r, n < m
  | 0, r => by
    unfold lev
    rw [List.mem_map]
    constructor
    · rintro ⟨s, h, rfl⟩
      exact ⟨rfl, by simp, fun n hn => by rw [List.mem_singleton.mp hn]; exact List.mem_range.mp h⟩
    · rintro ⟨h1, _, h3⟩
      match r, h1 with
      | [s], _ => exact ⟨s, List.mem_range.mpr (h3 s (by simp)), rfl⟩
  | t + 1, r => by
    unfold lev
    rw [List.mem_flatMap]
    constructor
    · rintro ⟨l, hl, hr⟩
      obtain ⟨s, h1, h2, rfl⟩ := mem_ext.mp hr
      obtain ⟨k1, k2, k3⟩ := (mem_lev t l).mp hl
      refine ⟨by simp [k1], ?_, fun n hn => ?_⟩
      · rw [List.nodup_append]
        refine ⟨k2, by simp, fun x hx y hy => ?_⟩
        rw [List.mem_singleton.mp hy]
        exact fun e => h2 (e ▸ hx)
      · rcases List.mem_append.mp hn with hn | hn
        · exact k3 n hn
        · rw [List.mem_singleton.mp hn]; exact h1
    · rintro ⟨h1, h2, h3⟩
      have hne : r ≠ [] := fun e => by rw [e] at h1; cases h1
      have e := List.dropLast_concat_getLast hne
      rw [← e] at h2
      have h4 := List.nodup_append.mp h2
      refine ⟨r.dropLast, (mem_lev t _).mpr ⟨by rw [List.length_dropLast]; omega, h4.1, fun n hn => h3 n ((List.dropLast_sublist _).subset hn)⟩, mem_ext.mpr ⟨r.getLast hne, h3 _ (List.getLast_mem hne), fun hx => h4.2.2 _ hx _ (by simp) rfl, e.symm⟩⟩
theorem nodup_len : ∀ (m : Nat) (l : List Nat), l.Nodup → (∀ n ∈ l, n < m) → l.length ≤ m
  | 0, l, _, h => by
    cases l with
    | nil => simp
    | cons x l => exact absurd (h x List.mem_cons_self) (by omega)
  | m + 1, l, nd, h => by
    by_cases hm : m ∈ l
    · have h1 := nodup_len m (l.erase m) (nd.erase m) (fun n hn => by
        have h2 := h n (List.mem_of_mem_erase hn)
        have h3 : n ≠ m := (List.Nodup.mem_erase_iff nd |>.mp hn).1
        omega)
      rw [List.length_erase_of_mem hm] at h1
      omega
    · have := nodup_len m l nd (fun n hn => by
        have h2 := h n hn
        have h3 : n ≠ m := fun e => hm (e ▸ hn)
        omega)
      omega
def alls (m : Nat) : List (List Nat) := (List.range m).flatMap (lev m)
theorem mem_alls {m : Nat} {r : List Nat} : r ∈ alls m ↔ r ≠ [] ∧ r.Nodup ∧ ∀ n ∈ r, n < m := by
  unfold alls
  rw [List.mem_flatMap]
  constructor
  · rintro ⟨t, _, h⟩
    obtain ⟨h1, h2, h3⟩ := (mem_lev t r).mp h
    exact ⟨fun e => (by rw [e] at h1; cases h1), h2, h3⟩
  · rintro ⟨h1, h2, h3⟩
    have h4 := nodup_len m r h2 h3
    have h5 := List.length_pos_iff.mpr h1
    exact ⟨r.length - 1, List.mem_range.mpr (by omega), (mem_lev _ r).mpr ⟨by omega, h2, h3⟩⟩
/-- no list of unlike places comes round below 0 -/
theorem noRing_of {D : Nat → Nat → Int} {m : Nat} (h0 : ∀ i, D i i = 0) (h : ∀ r ∈ alls m, 1 < r.length → 0 ≤ wt D (r ++ r.take 1)) : NoRing D m where
  zero := h0
  cyc := fun x b nd hb => by
    cases b with
    | nil => simp [wt, h0]
    | cons y b => exact h (x :: y :: b) (mem_alls.mpr ⟨by simp, nd, hb⟩) (by simp)
theorem far_ex {D : Nat → Nat → Int} {m : Nat} {i j : Nat} (hi : i < m) (hj : j < m) : ∃ l, Walk m i j l ∧ l.Nodup := by
  by_cases h : i = j
  · subst h
    exact ⟨[i], ⟨rfl, rfl, fun n hn => by rw [List.mem_singleton.mp hn]; exact hi⟩, by simp⟩
  · exact ⟨[i, j], ⟨rfl, rfl, fun n hn => by
      rcases List.mem_cons.mp hn with rfl | hn
      · exact hi
      · rw [List.mem_singleton.mp hn]; exact hj⟩, by simpa using h⟩
theorem walk_alls {m i j : Nat} {l : List Nat} (w : Walk m i j l) (nd : l.Nodup) : l ∈ alls m := mem_alls.mpr ⟨fun e => (by rw [e] at w; cases w.hd), nd, w.lt⟩
/-! loops that may leave -/
def Vr (r : RV) (p : PV) : Prop := r = .val p ∨ r = .own p
theorem Vr.v {p : PV} : Vr (.val p) p := .inl rfl
theorem Vr.o {p : PV} : Vr (.own p) p := .inr rfl
section
variable {α : Type} {t : TgD} {b : DenS} {gs : List (Nat × PV)} {S : Sto} {x : Res (Env × Fl)} {ρ : Env}
/-- leaves at the first that fails -/
def FdOk (res : Res (Env × Fl)) (p : Bool) (r : RV) (S : Sto) (Iv : Env → Prop) : Prop := ∃ ρ', res = .ok (ρ', if p then .nx else .rt r) S ∧ Iv ρ'
theorem loop_find_of {g : α → PV} (Iv : Env → Prop) (P : α → Bool) (r : α → RV) (hg : chkG gs S = true) : ∀ {ys : List α} {ρ : Env}, loop gs t b (ys.map g) ρ S = x → Iv ρ →
    (∀ y ∈ ys, ∀ ρ, Iv ρ → LkOk ((bd (t (.val (g y)) ρ) fun ρ1 => b ρ1) S) (P y) (r y) S Iv) → ∃ ρ', Iv ρ' ∧ x = .ok (ρ', match ys.find? (fun y => !P y) with | none => .nx | some y => .rt (r y)) S
  | [], ρ, hx, hI, _ => ⟨ρ, hI, by rw [← hx]; simp [loop, chk_ok hg]⟩
  | y :: ys, ρ, hx, hI, h => by
    obtain ⟨ρ1, e1, h1⟩ := h y List.mem_cons_self ρ hI
    cases hp : P y with
    | false =>
      refine ⟨ρ1, h1, ?_⟩
      rw [hp] at e1
      have e3 : (bd (bd (t (.val (g y)) ρ) fun ρ1 => b ρ1) (cont (loop gs t b (ys.map g)))) S = .ok (ρ1, .rt (r y)) S := by
        rw [e_bd, e1]
        rfl
      rw [bd_assoc] at e3
      rw [List.find?_cons, hp]
      rw [← hx, List.map_cons, loop, e_bd, chk_ok hg]
      exact e3
    | true =>
      rw [hp] at e1
      have e3 : loop gs t b ((y :: ys).map g) ρ S = loop gs t b (ys.map g) ρ1 S := by
        have e4 : (bd (bd (t (.val (g y)) ρ) fun ρ1 => b ρ1) (cont (loop gs t b (ys.map g)))) S = loop gs t b (ys.map g) ρ1 S := by
          rw [e_bd, e1]
          rfl
        rw [bd_assoc] at e4
        rw [List.map_cons, loop, e_bd, chk_ok hg]
        exact e4
      rw [e3] at hx
      obtain ⟨ρ2, h2, e2⟩ := loop_find_of Iv P r hg hx h1 (fun y hy => h y (List.mem_cons_of_mem _ hy))
      refine ⟨ρ2, h2, ?_⟩
      rw [List.find?_cons, hp]
      exact e2
end
/-- a loop whose turns change things and may leave -/
def PkOk (res : Res (Env × Fl)) (o : Option RV) (Iv Rv : Env → Sto → Prop) : Prop := ∃ ρ' S', (match o with | none => res = .ok (ρ', .nx) S' ∧ Iv ρ' S' | some r => res = .ok (ρ', .rt r) S' ∧ Rv ρ' S')
theorem PkOk.nx {o : Option RV} {Iv Rv : Env → Sto → Prop} {ρ : Env} {S : Sto} (h : o = none) (hI : Iv ρ S) : PkOk (.ok (ρ, .nx) S) o Iv Rv := ⟨ρ, S, by rw [h]; exact ⟨rfl, hI⟩⟩
theorem PkOk.rt {o : Option RV} {r : RV} {Iv Rv : Env → Sto → Prop} {ρ : Env} {S : Sto} (h : o = some r) (hI : Rv ρ S) : PkOk (.ok (ρ, .rt r) S) o Iv Rv := ⟨ρ, S, by rw [h]; exact ⟨rfl, hI⟩⟩
theorem loop_pickG {t : TgD} {b : DenS} {gs : List (Nat × PV)} (Iv : Nat → Env → Sto → Prop) (Rv : Env → Sto → Prop) (P : Nat → Option RV) (hg : ∀ i ρ S, Iv i ρ S → chkG gs S = true) : ∀ (xs : List PV) (k : Nat) {ρ : Env} {S : Sto}, Iv k ρ S →
    (∀ j y, xs[j]? = some y → ∀ ρ S, Iv (k + j) ρ S → PkOk ((bd (t (.val y) ρ) fun ρ1 => b ρ1) S) (P (k + j)) (Iv (k + j + 1)) Rv) → PkOk (loop gs t b xs ρ S) ((List.range xs.length).findSome? fun j => P (k + j)) (Iv (k + xs.length)) Rv
  | [], k, ρ, S, hI, _ => by
    have e : loop gs t b [] ρ S = .ok (ρ, .nx) S := by simp [loop, chk_ok (hg _ _ _ hI)]
    rw [e]
    exact PkOk.nx rfl hI
  | y :: xs, k, ρ, S, hI, h => by
    obtain ⟨ρ1, S1, h1⟩ := h 0 y rfl ρ S hI
    have hr : (List.range (y :: xs).length).findSome? (fun j => P (k + j)) = match P k with | some r => some r | none => (List.range xs.length).findSome? fun j => P (k + 1 + j) := by
      rw [List.length_cons, List.range_succ_eq_map, List.findSome?_cons, List.findSome?_map]
      simp only [Nat.add_zero]
      cases P k with
      | some r => rfl
      | none =>
        simp only
        congr 1
        funext j
        show P (k + (j + 1)) = P (k + 1 + j)
        congr 1
        omega
    rw [hr]
    cases hp : P k with
    | some r =>
      rw [Nat.add_zero, hp] at h1
      obtain ⟨e1, h2⟩ := h1
      have e3 : (bd (bd (t (.val y) ρ) fun ρ1 => b ρ1) (cont (loop gs t b xs))) S = .ok (ρ1, .rt r) S1 := by
        rw [e_bd, e1]
        rfl
      rw [bd_assoc] at e3
      have e4 : loop gs t b (y :: xs) ρ S = .ok (ρ1, .rt r) S1 := by
        rw [loop, e_bd, chk_ok (hg _ _ _ hI)]
        exact e3
      rw [e4]
      exact .rt rfl h2
    | none =>
      rw [Nat.add_zero, hp] at h1
      obtain ⟨e1, h2⟩ := h1
      have e3 : loop gs t b (y :: xs) ρ S = loop gs t b xs ρ1 S1 := by
        have e4 : (bd (bd (t (.val y) ρ) fun ρ1 => b ρ1) (cont (loop gs t b xs))) S = loop gs t b xs ρ1 S1 := by
          rw [e_bd, e1]
          rfl
        rw [bd_assoc] at e4
        rw [loop, e_bd, chk_ok (hg _ _ _ hI)]
        exact e4
      rw [e3]
      have := loop_pickG Iv Rv P hg xs (k + 1) h2 (fun j z hj ρ S hI => by
        have e0 : k + 1 + j = k + (j + 1) := by omega
        rw [e0] at hI ⊢
        exact h (j + 1) z (by simpa using hj) ρ S hI)
      have e5 : k + (y :: xs).length = k + 1 + xs.length := by simp; omega
      rw [e5]
      exact this
theorem loop_pick_of {t : TgD} {b : DenS} {gs : List (Nat × PV)} {xs : List PV} {ρ : Env} {S : Sto} {x : Res (Env × Fl)} (hx : loop gs t b xs ρ S = x) (Iv : Nat → Env → Sto → Prop) (Rv : Env → Sto → Prop) (P : Nat → Option RV) (hg : ∀ i ρ S, Iv i ρ S → chkG gs S = true) (h0 : Iv 0 ρ S)
    (h : ∀ j y, xs[j]? = some y → ∀ ρ S, Iv j ρ S → PkOk ((bd (t (.val y) ρ) fun ρ1 => b ρ1) S) (P j) (Iv (j + 1)) Rv) : PkOk x ((List.range xs.length).findSome? P) (Iv xs.length) Rv := by
  have := loop_pickG Iv Rv P hg xs 0 h0 (fun j y hj ρ S hI => by
    rw [Nat.zero_add] at hI ⊢
    exact h j y hj ρ S hI)
  simp only [Nat.zero_add] at this
  exact hx ▸ this
/-! comprehensions whose turns give new objects, too -/
section
variable {α : Type} {i : Nat} {t : TgD} {it : ItD} {c e : Den} {vs : List Nat} {S : Sto} {ρ : Env} {gs : List (Nat × PV)}
theorem force_Vr {r : RV} {p : PV} (h : Vr r p) : force r S = .ok p S := by
  rcases h with rfl | rfl <;> rfl
theorem cl_mapO (hg : chkG gs S = true) (g h : α → PV) : ∀ ys : List α, (∀ y ∈ ys, ∃ ρ1 r, t (.val (g y)) ρ S = .ok ρ1 S ∧ e ρ1 S = .ok r S ∧ Vr r (h y)) → cl gs t none e (ys.map g) ρ S = .ok (ys.map h) S
  | [], _ => by simp [cl, chk_ok hg]
  | y :: ys, k => by
    obtain ⟨ρ1, r, h0, h1, h2⟩ := k y List.mem_cons_self
    have ih := cl_mapO hg g h ys fun z hz => k z (List.mem_cons_of_mem _ hz)
    simp [cl, turnC, condM, chk_ok hg, h0, h1, ih, force_Vr h2]
theorem dComp_mapO {g : α → PV} {ys : List α} (h : α → PV) (h1 : it ρ S = .ok (ys.map g, gs) S) (hl : ys.length ≤ sizeLine) (hg : chkG gs S = true) (k : ∀ y ∈ ys, ∃ ρ1 r, t (.val (g y)) (wipeE ρ vs) S = .ok ρ1 S ∧ e ρ1 S = .ok r S ∧ Vr r (h y)) :
    dComp it t none e vs ρ S = .ok (.own (.lst (ys.map h))) S := dComp_ok h1 (by rwa [List.length_map]) (cl_mapO hg g h ys k)
theorem cl_filtO (hg : chkG gs S = true) (P : α → Bool) (g h : α → PV) : ∀ ys : List α, (∀ y ∈ ys, c (ρ.set i (some (.val (g y)))) S = .ok (.val (.bl (P y))) S ∧ (P y = true → ∃ r, e (ρ.set i (some (.val (g y)))) S = .ok r S ∧ Vr r (h y))) →
    cl gs (tgName i false) (some c) e (ys.map g) ρ S = .ok ((ys.filter P).map h) S
  | [], _ => by simp [cl, chk_ok hg]
  | y :: ys, k => by
    obtain ⟨h1, h2⟩ := k y List.mem_cons_self
    have ih := cl_filtO hg P g h ys fun z hz => k z (List.mem_cons_of_mem _ hz)
    cases hp : P y with
    | false => simp [cl, turnC, condM, chk_ok hg, h1, ih, hp]
    | true =>
      obtain ⟨r, h3, h4⟩ := h2 hp
      simp [cl, turnC, condM, chk_ok hg, h1, h3, ih, hp, force_Vr h4]
theorem dComp_filtO {g : α → PV} {ys : List α} (P : α → Bool) (h : α → PV) (h1 : it ρ S = .ok (ys.map g, gs) S) (hl : ys.length ≤ sizeLine) (hg : chkG gs S = true)
    (k : ∀ y ∈ ys, c ((wipeE ρ vs).set i (some (.val (g y)))) S = .ok (.val (.bl (P y))) S ∧ (P y = true → ∃ r, e ((wipeE ρ vs).set i (some (.val (g y)))) S = .ok r S ∧ Vr r (h y))) :
    dComp it (tgName i false) (some c) e vs ρ S = .ok (.own (.lst ((ys.filter P).map h))) S := dComp_ok h1 (by rwa [List.length_map]) (cl_filtO hg P g h ys k)
end
theorem rng2_nat (a b : Nat) (h : a ≤ b) (hb : b < 1000000) : rng2 [.int (a : Int), .int (b : Int)] = some ((List.range (b - a)).map fun i => .int ((a + i : Nat) : Int)) := by
  have e1 : okI (a : Int) = true := by unfold okI; simp; omega
  have e2 : okI (b : Int) = true := by unfold okI; simp; omega
  show (if okI (a : Int) && okI (b : Int) then some (rngI (a : Int) ((b : Int) - (a : Int)).toNat) else none) = _
  rw [e1, e2, Bool.and_self, if_pos rfl]
  have e3 : ((b : Int) - (a : Int)).toNat = b - a := by omega
  rw [e3]
  unfold rngI
  congr 1
theorem setF_nat {xs : List PV} {k : Nat} {z : PV} (h : k < xs.length) : setF (.int (k : Nat)) z (.lst xs) = some (.lst (xs.set k z), .non) := by
  simp [setF, ixN_nat h]
theorem set_rng {α : Type} (f : Nat → α) (n k : Nat) (z : α) : ((List.range n).map f).set k z = (List.range n).map fun i => if i = k then z else f i := by
  refine List.ext_getElem (by simp) fun i h1 h2 => ?_
  simp only [List.length_set, List.length_map, List.length_range] at h1
  rw [List.getElem_set]
  by_cases h : k = i
  · subst h; simp
  · rw [if_neg h]; simp [Ne.symm h]
theorem ext_ok {xs ys : List PV} (h : xs.length + ys.length ≤ 100000) : extF (.lst ys) (.lst xs) = some (.lst (xs ++ ys), .non) := by
  simp only [extF]
  rw [if_pos (by unfold sizeLine; omega)]
theorem app_ok {xs : List PV} {y : PV} (h : xs.length < 100000) : appF y (.lst xs) = some (.lst (xs ++ [y]), .non) := by
  simp only [appF]
  rw [if_pos (by unfold sizeLine; omega)]
theorem idx_rngL {n k : Nat} {f : Nat → PV} (h : k < n) : bIdx (.lst ((List.range n).map f)) (.int (k : Nat)) = some (.val (f k)) := idx_l (by rw [List.getElem?_map, List.getElem?_range h]; rfl)
end Pf
end
section
set_option Elab.async false
set_option linter.all false
set_option maxHeartbeats 1000000
set_option maxRecDepth 100000
set_option autoImplicit false
namespace Pf
open PySem
/-! sums of fractions -/
def rsum : List Rat → Rat
  | [] => 0
  | q :: qs => q + rsum qs
theorem rsum_append (xs ys : List Rat) : rsum (xs ++ ys) = rsum xs + rsum ys := by
  induction xs with
  | nil => simp [rsum, Rat.zero_add]
  | cons x xs ih => rw [List.cons_append, rsum, rsum, ih, Rat.add_assoc]
theorem rsum_take {qs : List Rat} {j : Nat} (h : j < qs.length) : rsum (qs.take (j + 1)) = rsum (qs.take j) + qs[j] := by
  rw [List.take_succ_eq_append_getElem h, rsum_append]
  simp [rsum, Rat.add_zero]
/-- parts of a whole -/
theorem rsum_parts (s : Nat) : ∀ ns : List Int, rsum (ns.map fun n => mkRat n s) = mkRat ns.sum s
  | [] => by simp [rsum, Rat.mkRat_eq_div]; grind
  | n :: ns => by
    rw [List.map_cons, rsum, rsum_parts s ns, List.sum_cons, Rat.mkRat_eq_div, Rat.mkRat_eq_div, Rat.mkRat_eq_div, Rat.intCast_add]
    grind
theorem rat_self {s : Nat} (h : 0 < s) : mkRat (s : Int) s = 1 := by
  rw [Rat.mkRat_eq_div]
  have : ((s : Nat) : Rat) ≠ 0 := by
    intro e
    have := congrArg Rat.num e
    simp at this
    omega
  have e : (((s : Nat) : Int) : Rat) = ((s : Nat) : Rat) := rfl
  rw [e]
  grind
theorem FS.sub {a : Nat} {p q : Rat} (h : FS a p) (g : FS a q) : FS (2 * a + 1) (p - q) := by
  rw [← rat_sub_mk]
  refine fs_mk (Nat.mul_pos p.den_pos q.den_pos) ?_ ?_
  · have := Sz.sub (h.1.mul g.2) (g.1.mul h.2)
    exact this.mono (by omega)
  · have := h.2.mul g.2
    rw [← Int.natCast_mul] at this
    exact this.mono (by omega)
theorem FS.neg {a : Nat} {p : Rat} (h : FS a p) : FS a (-p) := ⟨by rw [Rat.neg_num]; exact h.1.neg, by rw [Rat.neg_den]; exact h.2⟩
theorem fs_0 {k : Nat} (h : 1 ≤ k) : FS k 0 := ⟨by unfold Sz; show 0 < 2 ^ k; exact Nat.two_pow_pos k, by unfold Sz; show 1 < 2 ^ k; exact Nat.one_lt_two_pow (by omega)⟩
/-- sizes of sums of k-sized ones -/
def grow (k : Nat) : Nat → Nat
  | 0 => k
  | n + 1 => 2 * grow k n + 1
theorem grow_le (k : Nat) : ∀ n, k ≤ grow k n
  | 0 => Nat.le_refl _
  | n + 1 => by have := grow_le k n; unfold grow; omega
theorem grow_mono (k : Nat) {n m : Nat} (h : n ≤ m) : grow k n ≤ grow k m := by
  induction h with
  | refl => exact Nat.le_refl _
  | step _ ih => rename_i m' _; have : grow k m'.succ = 2 * grow k m' + 1 := rfl; omega
theorem fs_rsum {k : Nat} (hk : 1 ≤ k) {qs : List Rat} (h : ∀ q ∈ qs, FS k q) : ∀ j, j ≤ qs.length → FS (grow k j) (rsum (qs.take j))
  | 0, _ => by simp [rsum, grow]; exact fs_0 hk
  | j + 1, hj => by
    rw [rsum_take (by omega : j < qs.length)]
    exact FS.add (fs_rsum hk h j (by omega)) ((h _ (List.getElem_mem _)).mono (grow_le k j))
/-! the same of lists and tuples -/
theorem frac_int (z : Int) : frac (z : Rat) = .tup [.int z, .int 1] := rfl
theorem fs_int {z : Int} {k : Nat} (h : Sz k z) (hk : 1 ≤ k) : FS k (z : Rat) := ⟨h, by unfold Sz; show 1 < 2 ^ k; exact Nat.one_lt_two_pow (by omega)⟩
theorem idx_f0 (q : Rat) : bIdx (frac q) (.int 0) = some (.val (.int q.num)) := by simp [frac]
theorem idx_f1 (q : Rat) : bIdx (frac q) (.int 1) = some (.val (.int (q.den : Nat))) := by simp [frac]
theorem frac_neg (q : Rat) : frac (-q) = .tup [.int (-q.num), .int (q.den : Nat)] := by
  simp only [frac, Rat.neg_num, Rat.neg_den]
theorem eqv_frac (p q : Rat) : bEq (frac p) (frac q) = some (.val (.bl (decide (p = q)))) := by
  have e : eqv (frac p) (frac q) = decide (p = q) := by
    rw [Bool.eq_iff_iff]
    simp only [eqv, frac, toD, toDs, PyData.eqv, PyData.eqvAll, Bool.and_true, Bool.and_eq_true, beq_iff_eq, decide_eq_true_eq]
    constructor
    · rintro ⟨h1, h2⟩
      exact Rat.ext h1 (by omega)
    · rintro rfl; exact ⟨rfl, rfl⟩
  have d : ∀ q : Rat, dat 60 (frac q) = true := fun q => by simp [frac, dat]
  have s : ∀ q : Rat, isS (frac q) = false := fun q => rfl
  simp [bEq, s, d, e]
theorem bne_bb (a b : Bool) : bNe (.bl a) (.bl b) = some (.val (.bl (!decide (a = b)))) := by cases a <;> cases b <;> rfl
theorem beq_bb (a b : Bool) : bEq (.bl a) (.bl b) = some (.val (.bl (decide (a = b)))) := by cases a <;> cases b <;> rfl
theorem bis_bb (a b : Bool) : bIs (.bl a) (.bl b) = some (.val (.bl (decide (a = b)))) := rfl
theorem bisn_bb (a b : Bool) : bIsN (.bl a) (.bl b) = some (.val (.bl (!decide (a = b)))) := rfl
/-- repr of a list of two -/
theorem repL2 {x y : PV} {n k : Nat} (hx : Gd n k x) (hy : Gd n k y) (hn : n ≤ 50) (hk : k ≤ 1000000) : fRepL [x, y] = some (.val (.str (shT (.lst [x, y])))) := by
  have g := gd_lst (m := 2) (gd_cons hx (gd_cons hy gd_nil)) (by simp)
  have h := gd_repr g (by omega) (by omega)
  simp [fRepL, lenOk, sizeLine, h]
theorem gd_intsL {xs : List Int} {m : Nat} (h : ∀ i ∈ xs, i.natAbs ≤ 10 ^ 40) (hl : xs.length ≤ m) : Gd 1 (m * 2002 + 4) (.lst (xs.map .int)) := (gd_lst (m := m) (fun x hx => by
  obtain ⟨i, hi, rfl⟩ := List.mem_map.mp hx
  exact gd_int (h i hi)) (by simpa using hl))
theorem gd_fracs {qs : List Rat} {k : Nat} (hk : k ≤ 130) (h : ∀ q ∈ qs, FS k q) : ∀ x ∈ qs.map frac, Gd 1 4010 x := fun x hx => by
  obtain ⟨q, hq, rfl⟩ := List.mem_map.mp hx
  obtain ⟨h1, h2⟩ := h q hq
  have h1 := h1.mono hk
  have h2 := h2.mono hk
  unfold Sz at h1 h2
  have h3 : (2 : Nat) ^ 130 ≤ 10 ^ 40 := by decide
  rw [Int.natAbs_natCast] at h2
  exact gd_frac (by omega) (by omega)
theorem bd_big {i : Int} {k : Nat} (h : Sz k i) (hk : k ≤ 1900) : Bd 0 2000 (.int i) := by
  refine ⟨?_, ?_⟩
  · have := log2_leS h
    show decide (i.natAbs.log2 < 1920) = true
    exact decide_eq_true (by omega)
  · rw [rsz]
    split <;> omega
theorem bd_frac {q : Rat} {k : Nat} (h : FS k q) (hk : k ≤ 1900) : Bd 1 4010 (frac q) := (bd_tup (m := 2) (bd_cons (bd_big h.1 hk) (bd_cons (bd_big h.2 hk) bd_nil)) (by simp)).mono (by omega) (by omega)
theorem repB2 {x y : PV} {n k : Nat} (hx : Bd n k x) (hy : Bd n k y) (hn : n ≤ 50) (hk : k ≤ 1000000) : fRepL [x, y] = some (.val (.str (shT (.lst [x, y])))) := by
  have g := bd_lst (m := 2) (bd_cons hx (bd_cons hy bd_nil)) (by simp)
  have h := repr_ok (g.mono (by omega : n + 1 ≤ 60) (by unfold sizeLine; omega))
  simp [fRepL, lenOk, sizeLine, h, shT]
/-! comprehensions with any target -/
section
variable {α : Type} {t : TgD} {it : ItD} {c e : Den} {vs : List Nat} {S : Sto} {ρ : Env} {gs : List (Nat × PV)}
theorem cl_filtT (hg : chkG gs S = true) (P : α → Bool) (g h : α → PV) : ∀ ys : List α, (∀ y ∈ ys, ∃ ρ1, t (.val (g y)) ρ S = .ok ρ1 S ∧ c ρ1 S = .ok (.val (.bl (P y))) S ∧ (P y = true → ∃ r, e ρ1 S = .ok r S ∧ Vr r (h y))) →
    cl gs t (some c) e (ys.map g) ρ S = .ok ((ys.filter P).map h) S
  | [], _ => by simp [cl, chk_ok hg]
  | y :: ys, k => by
    obtain ⟨ρ1, h0, h1, h2⟩ := k y List.mem_cons_self
    have ih := cl_filtT hg P g h ys fun z hz => k z (List.mem_cons_of_mem _ hz)
    cases hp : P y with
    | false => simp [cl, turnC, condM, chk_ok hg, h0, h1, ih, hp]
    | true =>
      obtain ⟨r, h3, h4⟩ := h2 hp
      simp [cl, turnC, condM, chk_ok hg, h0, h1, h3, ih, hp, force_Vr h4]
theorem dComp_filtT {g : α → PV} {ys : List α} (P : α → Bool) (h : α → PV) (h1 : it ρ S = .ok (ys.map g, gs) S) (hl : ys.length ≤ sizeLine) (hg : chkG gs S = true)
    (k : ∀ y ∈ ys, ∃ ρ1, t (.val (g y)) (wipeE ρ vs) S = .ok ρ1 S ∧ c ρ1 S = .ok (.val (.bl (P y))) S ∧ (P y = true → ∃ r, e ρ1 S = .ok r S ∧ Vr r (h y))) :
    dComp it t (some c) e vs ρ S = .ok (.own (.lst ((ys.filter P).map h))) S := dComp_ok h1 (by rwa [List.length_map]) (cl_filtT hg P g h ys k)
end
/-! the greatest, its first place -/
def mx (xs : List Int) : Int := match xs with
  | [] => 0
  | x :: t => maxI x t
theorem fmax_ne {xs : List Int} (h : xs ≠ []) : fMax (.lst (xs.map .int)) = some (.val (.int (mx xs))) := by
  cases xs with
  | nil => exact absurd rfl h
  | cons x t =>
    have := fmax_mapG (fun i : Int => i) x t
    rw [List.map_id'] at this
    exact this
theorem mx_spec {xs : List Int} (h : xs ≠ []) : mx xs ∈ xs ∧ ∀ x ∈ xs, x ≤ mx xs := by
  cases xs with
  | nil => exact absurd rfl h
  | cons x t => exact maxI_mem t x
theorem mx_le {xs : List Int} (h : xs ≠ []) {b : Int} : mx xs ≤ b ↔ ∀ x ∈ xs, x ≤ b := by
  obtain ⟨h1, h2⟩ := mx_spec h
  exact ⟨fun k x hx => Int.le_trans (h2 x hx) k, fun k => k _ h1⟩
def bx (xs : List Int) : Nat := (fstIx (.int (mx xs)) (xs.map .int)).getD 0
theorem bx_ok {xs : List Int} (h : xs ≠ []) : bIndex (.lst (xs.map .int)) (.int (mx xs)) = some (.val (.int (bx xs : Nat))) ∧ xs[bx xs]? = some (mx xs) := by
  have key : ∀ (m : Int) (ns : List Int), m ∈ ns → ∃ k, fstIx (.int m) (ns.map .int) = some k ∧ ns[k]? = some m := fun m ns => by
    induction ns with
    | nil => exact fun h => by cases h
    | cons n ns ih =>
      intro h
      by_cases e : n = m
      · subst e
        exact ⟨0, by simp [fstIx], by simp⟩
      · have h : m ∈ ns := by
          rcases List.mem_cons.mp h with h | h
          · exact absurd h.symm e
          · exact h
        obtain ⟨k, h1, h2⟩ := ih h
        refine ⟨k + 1, ?_, by simpa using h2⟩
        simp only [List.map_cons, fstIx, eqv_int, e, decide_false, h1]
        simp
  obtain ⟨k, h1, h2⟩ := key _ xs (mx_spec h).1
  have e : bx xs = k := by simp [bx, h1]
  rw [e]
  refine ⟨?_, h2⟩
  have h3 : (xs.map PV.int).all (dat 50) = true := by rw [List.all_map, List.all_eq_true]; exact fun x _ => rfl
  simp [bIndex, h1, dat]
/-! what a potential bounds -/
theorem wt_pot {D : Nat → Nat → Int} {m : Nat} {φ : Nat → Int} (h : ∀ i j, i < m → j < m → φ i - φ j ≤ D i j) : ∀ (l : List Nat) (i j : Nat), Walk m i j l → φ i - φ j ≤ wt D l
  | [], i, j, w => by cases w.hd
  | [x], i, j, w => by
    have e1 : x = i := by simpa using w.hd
    have e2 : x = j := by simpa using w.la
    subst e1; subst e2
    simp [wt]
  | x :: y :: r, i, j, w => by
    have e : x = i := by simpa using w.hd
    subst e
    have w1 : Walk m y j (y :: r) := ⟨rfl, by have := w.la; rwa [List.getLast?_cons_cons] at this, fun n hn => w.lt n (List.mem_cons_of_mem _ hn)⟩
    have ih := wt_pot h (y :: r) y j w1
    have k := h x y (w.lt x (by simp)) (w.lt y (by simp))
    simp only [wt]
    omega
theorem noRing_pot {D : Nat → Nat → Int} {m : Nat} {φ : Nat → Int} (h0 : ∀ i, D i i = 0) (h : ∀ i j, i < m → j < m → φ i - φ j ≤ D i j) : NoRing D m where
  zero := h0
  cyc := fun x b nd hb => by
    have := wt_pot h (x :: b ++ [x]) x x ⟨rfl, by rw [last_app]; rfl, fun n hn => by
      rcases List.mem_append.mp hn with hn | hn
      · exact hb n hn
      · rw [List.mem_singleton.mp hn]; exact hb x List.mem_cons_self⟩
    omega
theorem far_pot {D : Nat → Nat → Int} {m : Nat} {φ : Nat → Int} {f : Nat → Nat → Int} (hf : Far D m f) (h : ∀ i j, i < m → j < m → φ i - φ j ≤ D i j) {i j : Nat} (hi : i < m) (hj : j < m) : φ i - φ j ≤ f i j := by
  obtain ⟨⟨l, w, nd, e⟩, -⟩ := hf i j hi hj
  have := wt_pot h l i j w
  omega
end Pf
end
section
set_option Elab.async false
set_option linter.all false
set_option maxHeartbeats 1000000
set_option maxRecDepth 100000
set_option autoImplicit false
namespace Pf
open PySem PySem.Spec L2
/-! lists of lists that are changed inside: a cell whose places are values or cells -/
def svNE : SV → NE
  | .val p => .pv p
  | .ref n => .cl n
/-- a list display whose new objects are cells -/
def nstM (mus : List Bool) (rs : List RV) : M RV := bd (bindMany mus rs) fun ss => if lenOk ss.length then fun S => .ok (.ref S.length) (S ++ [.nest (ss.map svNE)]) else stk
def dNst (mus : List Bool) (ds : List Den) : Den := fun ρ => bd (evAll ds ρ) (nstM mus)
/-- a place of a list of lists -/
def ixM (r q : RV) : M RV := fun S => match r with
  | .ref n => (match S[n]? with
    | some (.nest es) => (match q with
      | .val (.int i) => (match L2.atI es i with
        | some (.pv p) => .ok (.val p) S
        | some (.cl m) => .ok (.ref m) S
        | none => .stuck)
      | _ => .stuck)
    | _ => run2 bIdx r q S)
  | _ => run2 bIdx r q S
def dIxN (a b : Den) : Den := fun ρ => bd (a ρ) fun r => bd (b ρ) fun q => ixM r q
section
variable {K : Frag} {W : WS} {W0 : XW} {g g0 g1 : G}
theorem NeL.len : ∀ {es : List NE} {vs : List V}, NeL K g es vs → es.length = vs.length
  | [], _, h => by have h : _ = [] := h; subst h; rfl
  | .pv p :: es, _, ⟨v, r, e, _, b⟩ => by rw [e, List.length_cons, List.length_cons, NeL.len b]
  | .cl n :: es, _, ⟨a, r, e, _, b⟩ => by rw [e, List.length_cons, List.length_cons, NeL.len b]
def Ne1 (K : Frag) (g : G) : NE → V → Prop
  | .pv p, v => Rp K g.H g.F p v
  | .cl n, v => ∃ a, v = .ref a ∧ g.A[n]? = some a
theorem NeL.get : ∀ {es : List NE} {vs : List V} {j : Nat} {e : NE}, NeL K g es vs → es[j]? = some e → ∃ v, vs[j]? = some v ∧ Ne1 K g e v
  | [], _, j, e, h, k => by simp at k
  | .pv p :: es, _, 0, e, ⟨v, r, e0, h, _⟩, k => by simp at k; subst k e0; exact ⟨v, rfl, h⟩
  | .cl n :: es, _, 0, e, ⟨a, r, e0, h, _⟩, k => by simp at k; subst k e0; exact ⟨.ref a, rfl, a, rfl, h⟩
  | .pv p :: es, _, j + 1, e, ⟨v, r, e0, _, b⟩, k => by subst e0; exact NeL.get (j := j) b (by simpa using k)
  | .cl n :: es, _, j + 1, e, ⟨a, r, e0, _, b⟩, k => by subst e0; exact NeL.get (j := j) b (by simpa using k)
theorem NeL.atI {es : List NE} {vs : List V} {i : Int} {e : NE} (h : NeL K g es vs) (k : L2.atI es i = some e) : ∃ v, L2.atI vs i = some v ∧ Ne1 K g e v := by
  unfold L2.atI at k ⊢
  rw [← h.len]
  cases e1 : ixN es.length i with
  | none => rw [e1] at k; cases k
  | some j => rw [e1] at k; exact h.get k
theorem NeL.of {ss : List SV} {vs : List V} (h : Paired (Rs K g) ss vs) : NeL K g (ss.map svNE) vs := by
  induction h with
  | nil => rfl
  | @cons s v _ _ a b ih =>
    cases s with
    | val p => exact ⟨v, _, rfl, a, ih⟩
    | ref n => obtain ⟨b, e, k⟩ := a; subst e; exact ⟨b, _, rfl, k, ih⟩
/-- a new cell of places -/
def G.nst (g : G) (es : List NE) (a : Addr) (vs : List V) : G := { S := g.S ++ [.nest es], A := g.A ++ [a], H := upd g.H a (.lst vs), F := g.F }
theorem nst_ok (st : Stp g0 g) (s : SRc K g) {es : List NE} {vs : List V} {a : Addr} (h : NeL K g es vs) (hn : g.H a = none) : Stp g0 (g.nst es a vs) ∧ SRc K (g.nst es a vs) ∧ (g.nst es a vs).A[g.S.length]? = some a := by
  have kp : Keep g (g.nst es a vs) := ⟨fun _ h => h, fun b x e _ => by show upd g.H a _ b = _; rw [upd_ne (ne_new hn e)]; exact e⟩
  have ea : ∀ (n : Nat) (b : Addr), g.A[n]? = some b → (g.nst es a vs).A[n]? = some b := fun n b e => by
    show (g.A ++ [a])[n]? = _
    rw [List.getElem?_append_left (List.getElem?_eq_some_iff.mp e).1]
    exact e
  have dom : ∀ b x, g.H b = some x → ∃ y, (g.nst es a vs).H b = some y := fun b x e => ⟨x, by show upd g.H a _ b = _; rw [upd_ne (ne_new hn e)]; exact e⟩
  have nA : a ∉ g.A := fun m => by obtain ⟨x, e⟩ := s.dom a m; rw [hn] at e; cases e
  have nF : ¬ g.F a := fun m => by obtain ⟨x, e⟩ := s.fd a m; rw [hn] at e; cases e
  have lvs : ∀ b, Lv (g.nst es a vs) b → Lv g b ∨ b = a := fun b ⟨m, v, ⟨e1, mv⟩, e2⟩ => by
    have e1 : (g.S ++ [Cell.nest es])[m]? = _ := e1
    have e2 : (g.A ++ [a])[m]? = _ := e2
    by_cases hm : m < g.S.length
    · rw [List.getElem?_append_left hm] at e1
      rw [List.getElem?_append_left (by rw [s.len]; exact hm)] at e2
      exact .inl ⟨m, v, ⟨e1, mv⟩, e2⟩
    · rw [List.getElem?_append_right (by rw [s.len]; omega)] at e2
      refine .inr ?_
      have := List.mem_of_getElem? e2
      simpa using this
  have z : g0.H a = none := st.absent hn
  refine ⟨⟨fun b x e n => ?_, fun b x e => ?_, st.fz, st.fz', fun m b e => ea m b (st.ext m b e), fun b hb => ?_, fun b q => ?_, PlS.trans st.pl st.ge (plApp _), by show _ ≤ (g.S ++ [Cell.nest es]).length; rw [List.length_append]; have := st.ge; omega⟩,
    ⟨by show (g.A ++ [a]).length = (g.S ++ [Cell.nest es]).length; rw [List.length_append, List.length_append, s.len]; rfl, ?_, fun m b c e1 e2 => ?_, fun b hb => ?_, fun b m => let ⟨x, e⟩ := s.fd b m; dom b x e⟩, ?_⟩
  · have e' := st.keep b x e n
    show upd g.H a _ b = _
    rw [upd_ne (ne_new hn e')]
    exact e'
  · obtain ⟨y, e'⟩ := st.dom b x e
    exact dom b y e'
  · rcases List.mem_append.mp hb with hb | hb
    · exact st.newA b hb
    · have : b = a := by simpa using hb
      subst this; exact .inr z
  · rcases lvs b q with q | q
    · exact st.new b q
    · subst q; exact .inr z
  · exact List.nodup_append.mpr ⟨s.nd, by simp, fun x hx y hy => by
      have : y = a := by simpa using hy
      subst this
      exact fun e => nA (e ▸ hx)⟩
  · have e1 : (g.A ++ [a])[m]? = _ := e1
    have e2 : (g.S ++ [Cell.nest es])[m]? = _ := e2
    by_cases hm : m < g.S.length
    · rw [List.getElem?_append_left hm] at e2
      rw [List.getElem?_append_left (by rw [s.len]; exact hm)] at e1
      exact CellOk.keep (g := g) kp ea (fun mc => by
        obtain ⟨x, hx⟩ := (s.cell m b c e1 e2).ex mc
        show upd g.H a _ b = _
        rw [upd_ne (ne_new hn hx)]) (fun _ h => h) (s.cell m b c e1 e2)
    · rw [List.getElem?_append_right (by omega)] at e2
      rw [List.getElem?_append_right (by rw [s.len]; omega)] at e1
      have h1 : b = a := by simpa using List.mem_of_getElem? e1
      have h2 : c = Cell.nest es := by simpa using List.mem_of_getElem? e2
      subst h1 h2
      exact ⟨⟨vs, upd_same, NeL.keep kp ea es vs h⟩, nF⟩
  · rcases List.mem_append.mp hb with hb | hb
    · obtain ⟨x, e⟩ := s.dom b hb
      exact dom b x e
    · have : b = a := by simpa using hb
      subst this; exact ⟨_, upd_same⟩
  · show (g.A ++ [a])[g.S.length]? = _
    rw [← s.len, List.getElem?_append_right (Nat.le_refl _), Nat.sub_self]
    rfl
theorem tNst_of {mus : List Bool} {ds : List Den} {σ : L2.St} {H : Hp} {Q : VK} (h : tD K W (dNst mus ds) σ H Q) : tLst (tDs K W ds) σ H Q := by
  obtain ⟨ρ, g, e, sr, se, h⟩ := h
  subst e
  refine tDs.bd (Stp.refl g) sr se h fun rs g1 vs st _ sr1 se1 hvs h1 => ?_
  unfold nstM at h1
  obtain ⟨ss, g2, e2, st2, sr2, r2, _, _, h2⟩ := bindMany_ok st sr1 hvs h1
  rw [← e2]
  split at h2
  · next hl =>
    have hn := NeL.of r2
    refine ⟨by rw [← hn.len, List.length_map]; exact of_decide_eq_true hl, fun p hp => ?_⟩
    obtain ⟨k1, k2, k3⟩ := nst_ok (g0 := g2) (Stp.refl g2) sr2 hn hp
    unfold WG at h2
    exact h2 (g2.nst (ss.map svNE) p vs) rfl (st2.trans k1) k2 (.ref p) ⟨p, rfl, k3⟩
  · exact (stk_ok h2).elim
def rIxN (K : Frag) : R2 := fun x y H Q => rOp K bIdx x y H Q ∨ ∃ a vs i w, x = .ref a ∧ y = .int i ∧ H a = some (.lst vs) ∧ L2.atI vs i = some w ∧ Q w H
theorem ixN_d {X : Cx} : IxR X (rIxN X.K) := by
  intro value slice pins s σ H x y v u Q I rx ry h hs
  rcases h with h | ⟨a, vs, i, w, rfl, rfl, ha, e, q⟩
  · exact ix_d value slice pins s σ H x y v u Q I rx ry h hs
  · exact ix_list value slice pins s σ _ _ _ v u Q I rx ry ⟨a, vs, i, w, rfl, rfl, .inl (.inl ha), e, q⟩ hs
theorem ixM_run {r q : RV} {S : Sto} {Q : RV → G → Prop} (h : WG K W0 g S (ixM r q) Q) : WG K W0 g S (run2 bIdx r q) Q ∨ ∃ n es i, r = .ref n ∧ S[n]? = some (.nest es) ∧ q = .val (.int i) ∧ ∃ e, L2.atI es i = some e ∧ ∀ g', g'.S = S → Stp g g' → SRc K g' → Q (match e with | .pv p => .val p | .cl m => .ref m) g' := by
  unfold WG ixM at h
  cases r with
  | val p => exact .inl h
  | own p => exact .inl h
  | ref n =>
    cases hS : S[n]? with
    | none => simp only [hS] at h; exact .inl h
    | some c =>
      cases c with
      | live p => simp only [hS] at h; exact .inl h
      | froz p => simp only [hS] at h; exact .inl h
      | nest es =>
        simp only [hS] at h
        cases q with
        | val p =>
          cases p with
          | int i =>
            simp only at h
            cases e : L2.atI es i with
            | none => simp only [e] at h
            | some y =>
              refine .inr ⟨n, es, i, rfl, hS, rfl, y, e, ?_⟩
              cases y with
              | pv p => simp only [e] at h; exact h
              | cl m => simp only [e] at h; exact h
          | _ => simp only at h
        | _ => simp only at h
theorem tIxN_of {da db : Den} {σ : L2.St} {H : Hp} {Q : VK} (h : tD K W (dIxN da db) σ H Q) : tOp (rIxN K) (tD K W da) (tD K W db) σ H Q := by
  obtain ⟨ρ, g, e, sr, se, h⟩ := h
  subst e
  refine tD.bd (Stp.refl g) sr se h fun r g1 v st _ sr1 se1 hv h1 => ?_
  refine tD.bd st sr1 se1 h1 fun q g2 v2 st2 st02 sr2 se2 hv2 h2 => ?_
  rcases ixM_run h2 with h2 | ⟨n, es, i, rfl, hS, rfl, e, he, k⟩
  · left
    obtain ⟨p, p', x, e1, e2, e3, k⟩ := h2.run2
    exact ⟨g2, p, p', x, rfl, sr2, (hv.step sr1 st2).peek sr2 e1, hv2.peek sr2 e2, e3, fun g' v' hS st' sr' hr => k g' hS (st02.trans st') sr' v' (hr.from st02)⟩
  · right
    obtain ⟨a, rfl, hA⟩ := hv.step sr1 st2
    obtain ⟨⟨vs, hH, hn⟩, _⟩ := sr2.cell n a _ hA hS
    obtain ⟨w, hw, h3⟩ := hn.atI he
    have hv2 : v2 = .int i := hv2
    refine ⟨a, vs, i, w, rfl, hv2, hH, hw, k g2 rfl st02 sr2 w ?_⟩
    cases e with
    | pv p => exact h3
    | cl m => exact h3
end
section
variable {X : Cx} {W : WS} {es : List Expr} {ds : List Den} {a b : Expr} {da db : Den} {pos : Pos}
theorem pe_dnst {mus : List Bool} (h : PA X es (tDs X.K W ds)) : PE X (.List es pos) (tD X.K W (dNst mus ds)) := peW (pe_lst h) fun _ _ _ h => tNst_of h
theorem pe_dixN (ha : PE X a (tD X.K W da)) (hb : PE X b (tD X.K W db)) (h : ∀ l u s q, b ≠ .Slice l u s q) : PE X (.Subscript a b pos) (tD X.K W (dIxN da db)) :=
  peW (pe_ix ixN_d ha hb (plainIx h)) fun _ _ _ h => tIxN_of h
end
/-! what a cell of places shows -/
def rsvL (f : Cell → Option PV) (S : Sto) : List NE → Option (List PV)
  | [] => some []
  | .pv p :: es => (rsvL f S es).map fun ps => p :: ps
  | .cl m :: es => S[m]?.bind fun c => (f c).bind fun p => (rsvL f S es).map fun ps => p :: ps
def rsvC (S : Sto) : Nat → Cell → Option PV
  | 0, c => pkC c
  | n + 1, c => match c with
    | .nest es => (rsvL (rsvC S n) S es).map .lst
    | c => pkC c
def peekD (r : RV) (S : Sto) : Option PV := match r with
  | .ref n => S[n]?.bind (rsvC S 3)
  | r => peek r S
def peeksD : List RV → Sto → Option (List PV)
  | [], _ => some []
  | r :: rs, S => (peekD r S).bind fun p => (peeksD rs S).map fun ps => p :: ps
def runND (f : List PV → Option RV) (rs : List RV) : M RV := fun S => (match peeksD rs S with
  | some ps => (match f ps with
    | some x => .ok x S
    | none => .stuck)
  | none => .stuck)
def dRepLD (ds : List Den) : Den := fun ρ => bd (evAll ds ρ) (runND fRepL)
section
variable {K : Frag} {W : WS} {g g0 g1 : G}
/-- all that stands, frozen -/
def G.ice (g : G) : G := { S := [], A := [], H := g.H, F := fun b => g.F b ∨ b ∈ g.A }
theorem ice_ok (s : SRc K g) : SRc K g.ice where
  len := rfl
  nd := List.nodup_nil
  cell := fun n a c e _ => by simp [G.ice] at e
  dom := fun a m => by simp [G.ice] at m
  fd := fun a m => by
    rcases m with m | m
    · exact s.fd a m
    · exact s.dom a m
theorem ice_keep : Keep g g.ice := ⟨fun _ h => .inl h, fun _ _ e _ => e⟩
theorem pk_ice (s : SRc K g) {n : Nat} {a : Addr} {c : Cell} {p : PV} (hA : g.A[n]? = some a) (hS : g.S[n]? = some c) (e : pkC c = some p) : Rp K g.H g.ice.F p (.ref a) := by
  have k := s.cell n a c hA hS
  cases c with
  | live q =>
    obtain rfl : q = p := by simpa [pkC] using e
    have hat : At K g.H g.ice.F q a := k.1.keep' ice_keep (g' := g.ice) rfl
    exact Rp.ofAt hat (.inr (List.mem_of_getElem? hA))
  | froz q => cases e; exact Rp.keep ice_keep _ _ k
  | nest es => cases e
theorem rsvL_ice (s : SRc K g) {f : Cell → Option PV} (hf : ∀ (n : Nat) (a : Addr) (c : Cell) (p : PV), g.A[n]? = some a → g.S[n]? = some c → f c = some p → Rp K g.H g.ice.F p (.ref a)) : ∀ {es : List NE} {vs : List V} {ps : List PV}, NeL K g es vs → rsvL f g.S es = some ps → RpL K g.H g.ice.F ps vs
  | [], vs, ps, h, e => by have h : vs = [] := h; subst h; cases e; rfl
  | .pv p :: es, _, ps, ⟨v, r, e0, h1, h2⟩, e => by
    subst e0
    simp only [rsvL] at e
    cases e1 : rsvL f g.S es with
    | none => rw [e1] at e; cases e
    | some qs => rw [e1] at e; cases e; exact ⟨v, r, rfl, Rp.keep ice_keep _ _ h1, rsvL_ice s hf h2 e1⟩
  | .cl m :: es, _, ps, ⟨a, r, e0, h1, h2⟩, e => by
    subst e0
    simp only [rsvL] at e
    cases e1 : g.S[m]? with
    | none => rw [e1] at e; cases e
    | some c =>
      rw [e1, Option.bind_some] at e
      cases e2 : f c with
      | none => rw [e2] at e; cases e
      | some p =>
        rw [e2, Option.bind_some] at e
        cases e3 : rsvL f g.S es with
        | none => rw [e3] at e; cases e
        | some qs => rw [e3] at e; cases e; exact ⟨.ref a, r, rfl, hf m a c p h1 e1 e2, rsvL_ice s hf h2 e3⟩
theorem rsvC_ice (s : SRc K g) : ∀ (k n : Nat) (a : Addr) (c : Cell) (p : PV), g.A[n]? = some a → g.S[n]? = some c → rsvC g.S k c = some p → Rp K g.H g.ice.F p (.ref a)
  | 0, n, a, c, p, hA, hS, e => pk_ice s hA hS e
  | k + 1, n, a, c, p, hA, hS, e => by
    cases c with
    | live q => exact pk_ice s hA hS e
    | froz q => exact pk_ice s hA hS e
    | nest es =>
      simp only [rsvC] at e
      cases e1 : rsvL (rsvC g.S k) g.S es with
      | none => rw [e1] at e; cases e
      | some ps =>
        rw [e1] at e; cases e
        obtain ⟨⟨vs, hH, hn⟩, _⟩ := s.cell n a _ hA hS
        exact ⟨a, vs, rfl, ⟨hH, .inr (List.mem_of_getElem? hA)⟩, rsvL_ice s (rsvC_ice s k) hn e1⟩
theorem Rr.peekD {r : RV} {v : V} {p : PV} (s : SRc K g) (h : Rr K g0 g r v) (e : peekD r g.S = some p) : RpW K g.H g.ice.F p v := by
  cases r with
  | val q => cases e; exact Rp.w (Rp.keep ice_keep _ _ h)
  | own q => cases e; obtain ⟨a, rfl, h, _⟩ := h; exact (h.keep' ice_keep (g' := g.ice) rfl).w
  | ref n =>
    obtain ⟨a, rfl, hA⟩ := h
    simp only [Pf.peekD] at e
    cases e1 : g.S[n]? with
    | none => rw [e1] at e; cases e
    | some c => rw [e1, Option.bind_some] at e; exact Rp.w (rsvC_ice s 3 n a c p hA e1 e)
theorem RrP.peeksD (s : SRc K g) : ∀ {rs : List RV} {vs : List V} {ps : List PV}, RrP K g0 g rs vs → peeksD rs g.S = some ps → RpWs K g.H g.ice.F ps vs
  | _, _, _, .nil, e => by cases e; exact .nil
  | r :: rs, _, _, .cons a b, e => by
    simp only [Pf.peeksD] at e
    cases e1 : Pf.peekD r g.S with
    | none => rw [e1] at e; cases e
    | some p =>
      rw [e1, Option.bind_some] at e
      cases e2 : Pf.peeksD rs g.S with
      | none => rw [e2] at e; cases e
      | some ps => rw [e2] at e; cases e; exact .cons (a.peekD s e1) (RrP.peeksD s b e2)
end
section
variable {X : Cx} {W : WS} {es : List Expr} {ds : List Den} {p p2 pos q : Pos}
theorem pe_drepLD (hgd : X.A.guards = some []) (hu : X.A.units + 100 < cLine) (hs : ∃ o, X.base.get? sysModules = some o) (hg : Gl X "repr") (hm : X.mg "repr" = none) (hv : bootBuiltins "repr" = some (.builtin "repr")) (ha : PA X es (tDs X.K W ds))
    (he : starEach [.List es q] X.env = (false, eval (.List es q) X.env) :: starEach [] X.env := by rfl) (hpl : (backTo pos (starEach [] X.env)).any (·.1) = false := by rfl) : PE X (.Call (.Name "repr" p) [.List es q] [] pos) (tD X.K W (dRepLD ds)) :=
  peW (pe_callB (c_reprL hgd hu hs) hg hm hv (pa_cons (pe_lst ha) pa_nil he) (by decide) (by decide) he hpl) fun σ H Q h => by
    obtain ⟨ρ, g, e, sr, se, h⟩ := h
    subst e
    unfold tCB tCons tLst tNil
    refine tDs.bd (Stp.refl g) sr se h fun rs g1 vs st _ sr1 se1 hvs h1 => ?_
    unfold WG runND at h1
    cases e1 : peeksD rs g1.S with
    | none => simp only [e1] at h1
    | some ps =>
      have hw := hvs.1.peeksD sr1 e1
      cases e3 : fRepL ps with
      | none => simp only [e1, e3] at h1
      | some x =>
        simp only [e1, e3] at h1
        unfold fRepL at e3
        split at e3
        · next hl =>
          unfold fRepr at e3
          split at e3
          · next h2 =>
            cases e3
            rw [Bool.and_eq_true, decide_eq_true_eq] at h2
            have hlen : ps.length = vs.length := Paired.length hw
            refine ⟨by rw [← hlen]; exact of_decide_eq_true hl, fun a ha => ?_⟩
            exact ⟨a, vs, g1.ice, ps, rfl, ha, rfl, ice_ok sr1, hw, h2.1, h2.2, h1 (g1.put a (.lst vs)) rfl (st.trans (Stp.put ha)) (sr1.put ha) _ rfl⟩
          · cases e3
        · cases e3
end
/-! evaluated -/
section
variable {ρ : Env} {S : Sto} {a b : Den} {n m : Nat} {es : List NE} {ds : List Den} {mus : List Bool}
@[simp] theorem e_nst : dNst mus ds ρ = bd (evAll ds ρ) (nstM mus) := nr rfl
@[simp] theorem e_nstM {rs : List RV} : nstM mus rs = bd (bindMany mus rs) fun ss => if lenOk ss.length then fun S => .ok (.ref S.length) (S ++ [.nest (ss.map svNE)]) else stk := nr rfl
@[simp] theorem svNE_v {p : PV} : svNE (.val p) = .pv p := nr rfl
@[simp] theorem svNE_r {n : Nat} : svNE (.ref n) = .cl n := nr rfl
@[simp] theorem e_ixN : dIxN a b ρ = bd (a ρ) fun r => bd (b ρ) fun q => ixM r q := nr rfl
@[simp] theorem e_ixMv {p : PV} {q : RV} : ixM (.val p) q = run2 bIdx (.val p) q := nr rfl
@[simp] theorem e_ixMo {p : PV} {q : RV} : ixM (.own p) q = run2 bIdx (.own p) q := nr rfl
def ixC (n : Nat) (q : RV) (S : Sto) : Cell → Res RV
  | .nest es => (match q with
      | .val (.int i) => (match L2.atI es i with
        | some (.pv p) => .ok (.val p) S
        | some (.cl m) => .ok (.ref m) S
        | none => .stuck)
      | _ => .stuck)
  | _ => run2 bIdx (.ref n) q S
def ixE (S : Sto) : Option NE → Res RV
  | some (.pv p) => .ok (.val p) S
  | some (.cl m) => .ok (.ref m) S
  | none => .stuck
def ixO (n : Nat) (q : RV) (S : Sto) : Option Cell → Res RV
  | some c => ixC n q S c
  | none => run2 bIdx (.ref n) q S
@[simp] theorem ixO_s {q : RV} {c : Cell} : ixO n q S (some c) = ixC n q S c := nr rfl
@[simp] theorem e_ixMr {q : RV} : ixM (.ref n) q S = ixO n q S S[n]? := by
  cases h : S[n]? with
  | none => simp only [ixM, ixO, h]
  | some c => cases c <;> simp only [ixM, ixO, ixC, h]
@[simp] theorem ixC_n {i : Int} : ixC n (.val (.int i)) S (.nest es) = ixE S (L2.atI es i) := by
  simp only [ixC, ixE]
@[simp] theorem ixC_l {q : RV} {p : PV} : ixC n q S (.live p) = run2 bIdx (.ref n) q S := nr rfl
@[simp] theorem ixC_f {q : RV} {p : PV} : ixC n q S (.froz p) = run2 bIdx (.ref n) q S := nr rfl
@[simp] theorem ixE_p {p : PV} : ixE S (some (.pv p)) = .ok (.val p) S := nr rfl
@[simp] theorem ixE_c {m : Nat} : ixE S (some (.cl m)) = .ok (.ref m) S := nr rfl
@[simp] theorem atI_n0 {x : NE} {xs : List NE} : L2.atI (x :: xs) 0 = some x := by
  have := atI_nat (xs := x :: xs) (k := 0) (x := x) rfl
  simpa using this
@[simp] theorem atI_n1 {x y : NE} {xs : List NE} : L2.atI (x :: y :: xs) 1 = some y := by
  have := atI_nat (xs := x :: y :: xs) (k := 1) (x := y) rfl
  simpa using this
@[simp] theorem atI_n2 {x y z : NE} {xs : List NE} : L2.atI (x :: y :: z :: xs) 2 = some z := by
  have := atI_nat (xs := x :: y :: z :: xs) (k := 2) (x := z) rfl
  simpa using this
@[simp] theorem e_repLD : dRepLD ds ρ = bd (evAll ds ρ) (runND fRepL) := nr rfl
@[simp] theorem e_runND {f : List PV → Option RV} {rs : List RV} : runND f rs S = ob (peeksD rs S) fun ps => ob (f ps) fun x => .ok x S := by
  unfold runND
  cases peeksD rs S with
  | none => rfl
  | some ps => cases h : f ps <;> simp [h]
@[simp] theorem e_pkD0 : peeksD [] S = some [] := nr rfl
@[simp] theorem e_pkD1 {r : RV} {rs : List RV} : peeksD (r :: rs) S = (peekD r S).bind fun p => (peeksD rs S).map fun ps => p :: ps := nr rfl
@[simp] theorem e_pkDv {p : PV} : peekD (.val p) S = some p := nr rfl
@[simp] theorem e_pkDo {p : PV} : peekD (.own p) S = some p := nr rfl
@[simp] theorem e_pkDr : peekD (.ref n) S = S[n]?.bind (rsvC S 3) := nr rfl
@[simp] theorem rsvC_l {k : Nat} {p : PV} : rsvC S k (.live p) = some p := by cases k <;> rfl
@[simp] theorem rsvC_f {k : Nat} {p : PV} : rsvC S k (.froz p) = some p := by cases k <;> rfl
@[simp] theorem rsvC_n {k : Nat} : rsvC S (k + 1) (.nest es) = (rsvL (rsvC S k) S es).map .lst := nr rfl
@[simp] theorem rsvC_n3 : rsvC S 3 (.nest es) = (rsvL (rsvC S 2) S es).map .lst := nr rfl
@[simp] theorem rsvC_n2 : rsvC S 2 (.nest es) = (rsvL (rsvC S 1) S es).map .lst := nr rfl
@[simp] theorem rsvL_0 {f : Cell → Option PV} : rsvL f S [] = some [] := nr rfl
@[simp] theorem rsvL_p {f : Cell → Option PV} {p : PV} : rsvL f S (.pv p :: es) = (rsvL f S es).map fun ps => p :: ps := nr rfl
@[simp] theorem rsvL_c {f : Cell → Option PV} : rsvL f S (.cl m :: es) = S[m]?.bind fun c => (f c).bind fun p => (rsvL f S es).map fun ps => p :: ps := nr rfl
end
end Pf
end
section
set_option Elab.async false
set_option linter.all false
set_option maxHeartbeats 4000000
set_option maxRecDepth 100000
set_option autoImplicit false
namespace K64
open PySem PySem.Spec PyProof.Rows L2 Pf
def top (i : Nat) : Stmt := PySem.Challenge.pw_playpapers_k64_whole_spans_of_payments.main.body.getD i (.Pass ⟨0, 0, 0, 0⟩)
theorem nd_MOST_OUTCOMES : (("MOST_OUTCOMES" : Str) == ("__debug__" : Str)) = false := by decide +kernel
theorem nc_MOST_OUTCOMES : (("MOST_OUTCOMES" : Str) == ("__classdict__" : Str)) = false := by decide +kernel
theorem nd_MOST_SORTS : (("MOST_SORTS" : Str) == ("__debug__" : Str)) = false := by decide +kernel
theorem nc_MOST_SORTS : (("MOST_SORTS" : Str) == ("__classdict__" : Str)) = false := by decide +kernel
theorem nd_MOST_WORTH : (("MOST_WORTH" : Str) == ("__debug__" : Str)) = false := by decide +kernel
theorem nc_MOST_WORTH : (("MOST_WORTH" : Str) == ("__classdict__" : Str)) = false := by decide +kernel
theorem nd__law_base_right : (("_law_base_right" : Str) == ("__debug__" : Str)) = false := by decide +kernel
theorem nc__law_base_right : (("_law_base_right" : Str) == ("__classdict__" : Str)) = false := by decide +kernel
theorem nd__law_case : (("_law_case" : Str) == ("__debug__" : Str)) = false := by decide +kernel
theorem nc__law_case : (("_law_case" : Str) == ("__classdict__" : Str)) = false := by decide +kernel
theorem nd__law_draw : (("_law_draw" : Str) == ("__debug__" : Str)) = false := by decide +kernel
theorem nc__law_draw : (("_law_draw" : Str) == ("__classdict__" : Str)) = false := by decide +kernel
theorem nd__law_far : (("_law_far" : Str) == ("__debug__" : Str)) = false := by decide +kernel
theorem nc__law_far : (("_law_far" : Str) == ("__classdict__" : Str)) = false := by decide +kernel
theorem nd__law_lists : (("_law_lists" : Str) == ("__debug__" : Str)) = false := by decide +kernel
theorem nc__law_lists : (("_law_lists" : Str) == ("__classdict__" : Str)) = false := by decide +kernel
theorem nd__law_loss : (("_law_loss" : Str) == ("__debug__" : Str)) = false := by decide +kernel
theorem nc__law_loss : (("_law_loss" : Str) == ("__classdict__" : Str)) = false := by decide +kernel
theorem nd__law_losses : (("_law_losses" : Str) == ("__debug__" : Str)) = false := by decide +kernel
theorem nc__law_losses : (("_law_losses" : Str) == ("__classdict__" : Str)) = false := by decide +kernel
theorem nd__law_mixed_of : (("_law_mixed_of" : Str) == ("__debug__" : Str)) = false := by decide +kernel
theorem nc__law_mixed_of : (("_law_mixed_of" : Str) == ("__classdict__" : Str)) = false := by decide +kernel
theorem nd__law_pick : (("_law_pick" : Str) == ("__debug__" : Str)) = false := by decide +kernel
theorem nc__law_pick : (("_law_pick" : Str) == ("__classdict__" : Str)) = false := by decide +kernel
theorem nd__law_plain : (("_law_plain" : Str) == ("__debug__" : Str)) = false := by decide +kernel
theorem nc__law_plain : (("_law_plain" : Str) == ("__classdict__" : Str)) = false := by decide +kernel
theorem nd__law_plus : (("_law_plus" : Str) == ("__debug__" : Str)) = false := by decide +kernel
theorem nc__law_plus : (("_law_plus" : Str) == ("__classdict__" : Str)) = false := by decide +kernel
theorem nd__law_pot : (("_law_pot" : Str) == ("__debug__" : Str)) = false := by decide +kernel
theorem nc__law_pot : (("_law_pot" : Str) == ("__classdict__" : Str)) = false := by decide +kernel
theorem nd__law_right : (("_law_right" : Str) == ("__debug__" : Str)) = false := by decide +kernel
theorem nc__law_right : (("_law_right" : Str) == ("__classdict__" : Str)) = false := by decide +kernel
theorem nd__law_ring : (("_law_ring" : Str) == ("__debug__" : Str)) = false := by decide +kernel
theorem nc__law_ring : (("_law_ring" : Str) == ("__classdict__" : Str)) = false := by decide +kernel
theorem nd__law_times : (("_law_times" : Str) == ("__debug__" : Str)) = false := by decide +kernel
theorem nc__law_times : (("_law_times" : Str) == ("__classdict__" : Str)) = false := by decide +kernel
theorem nd_abs : (("abs" : Str) == ("__debug__" : Str)) = false := by decide +kernel
theorem nc_abs : (("abs" : Str) == ("__classdict__" : Str)) = false := by decide +kernel
theorem nd_all : (("all" : Str) == ("__debug__" : Str)) = false := by decide +kernel
theorem nc_all : (("all" : Str) == ("__classdict__" : Str)) = false := by decide +kernel
theorem nd_are_payments : (("are_payments" : Str) == ("__debug__" : Str)) = false := by decide +kernel
theorem nc_are_payments : (("are_payments" : Str) == ("__classdict__" : Str)) = false := by decide +kernel
theorem nd_are_worths_of : (("are_worths_of" : Str) == ("__debug__" : Str)) = false := by decide +kernel
theorem nc_are_worths_of : (("are_worths_of" : Str) == ("__classdict__" : Str)) = false := by decide +kernel
theorem nd_base : (("base" : Str) == ("__debug__" : Str)) = false := by decide +kernel
theorem nc_base : (("base" : Str) == ("__classdict__" : Str)) = false := by decide +kernel
theorem nd_bool : (("bool" : Str) == ("__debug__" : Str)) = false := by decide +kernel
theorem nc_bool : (("bool" : Str) == ("__classdict__" : Str)) = false := by decide +kernel
theorem nd_bottom : (("bottom" : Str) == ("__debug__" : Str)) = false := by decide +kernel
theorem nc_bottom : (("bottom" : Str) == ("__classdict__" : Str)) = false := by decide +kernel
theorem nd_case : (("case" : Str) == ("__debug__" : Str)) = false := by decide +kernel
theorem nc_case : (("case" : Str) == ("__classdict__" : Str)) = false := by decide +kernel
theorem nd_cell : (("cell" : Str) == ("__debug__" : Str)) = false := by decide +kernel
theorem nc_cell : (("cell" : Str) == ("__classdict__" : Str)) = false := by decide +kernel
theorem nd_check_case : (("check_case" : Str) == ("__debug__" : Str)) = false := by decide +kernel
theorem nc_check_case : (("check_case" : Str) == ("__classdict__" : Str)) = false := by decide +kernel
theorem nd_check_had : (("check_had" : Str) == ("__debug__" : Str)) = false := by decide +kernel
theorem nc_check_had : (("check_had" : Str) == ("__classdict__" : Str)) = false := by decide +kernel
theorem nd_check_sort : (("check_sort" : Str) == ("__debug__" : Str)) = false := by decide +kernel
theorem nc_check_sort : (("check_sort" : Str) == ("__classdict__" : Str)) = false := by decide +kernel
theorem nd_common : (("common" : Str) == ("__debug__" : Str)) = false := by decide +kernel
theorem nc_common : (("common" : Str) == ("__classdict__" : Str)) = false := by decide +kernel
theorem nd_digit : (("digit" : Str) == ("__debug__" : Str)) = false := by decide +kernel
theorem nc_digit : (("digit" : Str) == ("__classdict__" : Str)) = false := by decide +kernel
theorem nd_divisor : (("divisor" : Str) == ("__debug__" : Str)) = false := by decide +kernel
theorem nc_divisor : (("divisor" : Str) == ("__classdict__" : Str)) = false := by decide +kernel
theorem nd_divmod : (("divmod" : Str) == ("__debug__" : Str)) = false := by decide +kernel
theorem nc_divmod : (("divmod" : Str) == ("__classdict__" : Str)) = false := by decide +kernel
theorem nd_do_make_true : (("do_make_true" : Str) == ("__debug__" : Str)) = false := by decide +kernel
theorem nc_do_make_true : (("do_make_true" : Str) == ("__classdict__" : Str)) = false := by decide +kernel
theorem nd_due : (("due" : Str) == ("__debug__" : Str)) = false := by decide +kernel
theorem nc_due : (("due" : Str) == ("__classdict__" : Str)) = false := by decide +kernel
theorem nd_far : (("far" : Str) == ("__debug__" : Str)) = false := by decide +kernel
theorem nc_far : (("far" : Str) == ("__classdict__" : Str)) = false := by decide +kernel
theorem nd_found : (("found" : Str) == ("__debug__" : Str)) = false := by decide +kernel
theorem nc_found : (("found" : Str) == ("__classdict__" : Str)) = false := by decide +kernel
theorem nd_greatest_payments : (("greatest_payments" : Str) == ("__debug__" : Str)) = false := by decide +kernel
theorem nc_greatest_payments : (("greatest_payments" : Str) == ("__classdict__" : Str)) = false := by decide +kernel
theorem nd_high : (("high" : Str) == ("__debug__" : Str)) = false := by decide +kernel
theorem nc_high : (("high" : Str) == ("__classdict__" : Str)) = false := by decide +kernel
theorem nd_int : (("int" : Str) == ("__debug__" : Str)) = false := by decide +kernel
theorem nc_int : (("int" : Str) == ("__classdict__" : Str)) = false := by decide +kernel
theorem nd_is_below : (("is_below" : Str) == ("__debug__" : Str)) = false := by decide +kernel
theorem nc_is_below : (("is_below" : Str) == ("__classdict__" : Str)) = false := by decide +kernel
theorem nd_is_case_of : (("is_case_of" : Str) == ("__debug__" : Str)) = false := by decide +kernel
theorem nc_is_case_of : (("is_case_of" : Str) == ("__classdict__" : Str)) = false := by decide +kernel
theorem nd_is_fraction_of : (("is_fraction_of" : Str) == ("__debug__" : Str)) = false := by decide +kernel
theorem nc_is_fraction_of : (("is_fraction_of" : Str) == ("__classdict__" : Str)) = false := by decide +kernel
theorem nd_is_integer : (("is_integer" : Str) == ("__debug__" : Str)) = false := by decide +kernel
theorem nc_is_integer : (("is_integer" : Str) == ("__classdict__" : Str)) = false := by decide +kernel
theorem nd_is_list : (("is_list" : Str) == ("__debug__" : Str)) = false := by decide +kernel
theorem nc_is_list : (("is_list" : Str) == ("__classdict__" : Str)) = false := by decide +kernel
theorem nd_is_within : (("is_within" : Str) == ("__debug__" : Str)) = false := by decide +kernel
theorem nc_is_within : (("is_within" : Str) == ("__classdict__" : Str)) = false := by decide +kernel
theorem nd_k : (("k" : Str) == ("__debug__" : Str)) = false := by decide +kernel
theorem nc_k : (("k" : Str) == ("__classdict__" : Str)) = false := by decide +kernel
theorem nd_last : (("last" : Str) == ("__debug__" : Str)) = false := by decide +kernel
theorem nc_last : (("last" : Str) == ("__classdict__" : Str)) = false := by decide +kernel
theorem nd_late : (("late" : Str) == ("__debug__" : Str)) = false := by decide +kernel
theorem nc_late : (("late" : Str) == ("__classdict__" : Str)) = false := by decide +kernel
theorem nd_later : (("later" : Str) == ("__debug__" : Str)) = false := by decide +kernel
theorem nc_later : (("later" : Str) == ("__classdict__" : Str)) = false := by decide +kernel
theorem nd_law : (("law" : Str) == ("__debug__" : Str)) = false := by decide +kernel
theorem nc_law : (("law" : Str) == ("__classdict__" : Str)) = false := by decide +kernel
theorem nd_least : (("least" : Str) == ("__debug__" : Str)) = false := by decide +kernel
theorem nc_least : (("least" : Str) == ("__classdict__" : Str)) = false := by decide +kernel
theorem nd_least_payments : (("least_payments" : Str) == ("__debug__" : Str)) = false := by decide +kernel
theorem nc_least_payments : (("least_payments" : Str) == ("__classdict__" : Str)) = false := by decide +kernel
theorem nd_least_sums : (("least_sums" : Str) == ("__debug__" : Str)) = false := by decide +kernel
theorem nc_least_sums : (("least_sums" : Str) == ("__classdict__" : Str)) = false := by decide +kernel
theorem nd_len : (("len" : Str) == ("__debug__" : Str)) = false := by decide +kernel
theorem nc_len : (("len" : Str) == ("__classdict__" : Str)) = false := by decide +kernel
theorem nd_list : (("list" : Str) == ("__debug__" : Str)) = false := by decide +kernel
theorem nc_list : (("list" : Str) == ("__classdict__" : Str)) = false := by decide +kernel
theorem nd_lists : (("lists" : Str) == ("__debug__" : Str)) = false := by decide +kernel
theorem nc_lists : (("lists" : Str) == ("__classdict__" : Str)) = false := by decide +kernel
theorem nd_longer : (("longer" : Str) == ("__debug__" : Str)) = false := by decide +kernel
theorem nc_longer : (("longer" : Str) == ("__classdict__" : Str)) = false := by decide +kernel
theorem nd_loss : (("loss" : Str) == ("__debug__" : Str)) = false := by decide +kernel
theorem nc_loss : (("loss" : Str) == ("__classdict__" : Str)) = false := by decide +kernel
theorem nd_losses_round : (("losses_round" : Str) == ("__debug__" : Str)) = false := by decide +kernel
theorem nc_losses_round : (("losses_round" : Str) == ("__classdict__" : Str)) = false := by decide +kernel
theorem nd_low : (("low" : Str) == ("__debug__" : Str)) = false := by decide +kernel
theorem nc_low : (("low" : Str) == ("__classdict__" : Str)) = false := by decide +kernel
theorem nd_many : (("many" : Str) == ("__debug__" : Str)) = false := by decide +kernel
theorem nc_many : (("many" : Str) == ("__classdict__" : Str)) = false := by decide +kernel
theorem nd_max : (("max" : Str) == ("__debug__" : Str)) = false := by decide +kernel
theorem nc_max : (("max" : Str) == ("__classdict__" : Str)) = false := by decide +kernel
theorem nd_middle : (("middle" : Str) == ("__debug__" : Str)) = false := by decide +kernel
theorem nc_middle : (("middle" : Str) == ("__classdict__" : Str)) = false := by decide +kernel
theorem nd_min : (("min" : Str) == ("__debug__" : Str)) = false := by decide +kernel
theorem nc_min : (("min" : Str) == ("__classdict__" : Str)) = false := by decide +kernel
theorem nd_most : (("most" : Str) == ("__debug__" : Str)) = false := by decide +kernel
theorem nc_most : (("most" : Str) == ("__classdict__" : Str)) = false := by decide +kernel
theorem nd_named : (("named" : Str) == ("__debug__" : Str)) = false := by decide +kernel
theorem nc_named : (("named" : Str) == ("__classdict__" : Str)) = false := by decide +kernel
theorem nd_near : (("near" : Str) == ("__debug__" : Str)) = false := by decide +kernel
theorem nc_near : (("near" : Str) == ("__classdict__" : Str)) = false := by decide +kernel
theorem nd_number : (("number" : Str) == ("__debug__" : Str)) = false := by decide +kernel
theorem nc_number : (("number" : Str) == ("__classdict__" : Str)) = false := by decide +kernel
theorem nd_numbers : (("numbers" : Str) == ("__debug__" : Str)) = false := by decide +kernel
theorem nc_numbers : (("numbers" : Str) == ("__classdict__" : Str)) = false := by decide +kernel
theorem nd_one : (("one" : Str) == ("__debug__" : Str)) = false := by decide +kernel
theorem nc_one : (("one" : Str) == ("__classdict__" : Str)) = false := by decide +kernel
theorem nd_outcomes : (("outcomes" : Str) == ("__debug__" : Str)) = false := by decide +kernel
theorem nc_outcomes : (("outcomes" : Str) == ("__classdict__" : Str)) = false := by decide +kernel
theorem nd_own_worth : (("own_worth" : Str) == ("__debug__" : Str)) = false := by decide +kernel
theorem nc_own_worth : (("own_worth" : Str) == ("__classdict__" : Str)) = false := by decide +kernel
theorem nd_paid : (("paid" : Str) == ("__debug__" : Str)) = false := by decide +kernel
theorem nc_paid : (("paid" : Str) == ("__classdict__" : Str)) = false := by decide +kernel
theorem nd_pot : (("pot" : Str) == ("__debug__" : Str)) = false := by decide +kernel
theorem nc_pot : (("pot" : Str) == ("__classdict__" : Str)) = false := by decide +kernel
theorem nd_reduced : (("reduced" : Str) == ("__debug__" : Str)) = false := by decide +kernel
theorem nc_reduced : (("reduced" : Str) == ("__classdict__" : Str)) = false := by decide +kernel
theorem nd_repr : (("repr" : Str) == ("__debug__" : Str)) = false := by decide +kernel
theorem nc_repr : (("repr" : Str) == ("__classdict__" : Str)) = false := by decide +kernel
theorem nd_rest : (("rest" : Str) == ("__debug__" : Str)) = false := by decide +kernel
theorem nc_rest : (("rest" : Str) == ("__classdict__" : Str)) = false := by decide +kernel
theorem nd_ring : (("ring" : Str) == ("__debug__" : Str)) = false := by decide +kernel
theorem nc_ring : (("ring" : Str) == ("__classdict__" : Str)) = false := by decide +kernel
theorem nd_ring_of : (("ring_of" : Str) == ("__debug__" : Str)) = false := by decide +kernel
theorem nc_ring_of : (("ring_of" : Str) == ("__classdict__" : Str)) = false := by decide +kernel
theorem nd_row : (("row" : Str) == ("__debug__" : Str)) = false := by decide +kernel
theorem nc_row : (("row" : Str) == ("__classdict__" : Str)) = false := by decide +kernel
theorem nd_rows : (("rows" : Str) == ("__debug__" : Str)) = false := by decide +kernel
theorem nc_rows : (("rows" : Str) == ("__classdict__" : Str)) = false := by decide +kernel
theorem nd_rule : (("rule" : Str) == ("__debug__" : Str)) = false := by decide +kernel
theorem nc_rule : (("rule" : Str) == ("__classdict__" : Str)) = false := by decide +kernel
theorem nd_script : (("script" : Str) == ("__debug__" : Str)) = false := by decide +kernel
theorem nc_script : (("script" : Str) == ("__classdict__" : Str)) = false := by decide +kernel
theorem nd_shown : (("shown" : Str) == ("__debug__" : Str)) = false := by decide +kernel
theorem nc_shown : (("shown" : Str) == ("__classdict__" : Str)) = false := by decide +kernel
theorem nd_sign : (("sign" : Str) == ("__debug__" : Str)) = false := by decide +kernel
theorem nc_sign : (("sign" : Str) == ("__classdict__" : Str)) = false := by decide +kernel
theorem nd_some : (("some" : Str) == ("__debug__" : Str)) = false := by decide +kernel
theorem nc_some : (("some" : Str) == ("__classdict__" : Str)) = false := by decide +kernel
theorem nd_sort : (("sort" : Str) == ("__debug__" : Str)) = false := by decide +kernel
theorem nc_sort : (("sort" : Str) == ("__classdict__" : Str)) = false := by decide +kernel
theorem nd_span : (("span" : Str) == ("__debug__" : Str)) = false := by decide +kernel
theorem nc_span : (("span" : Str) == ("__classdict__" : Str)) = false := by decide +kernel
theorem nd_sum : (("sum" : Str) == ("__debug__" : Str)) = false := by decide +kernel
theorem nc_sum : (("sum" : Str) == ("__classdict__" : Str)) = false := by decide +kernel
theorem nd_sums : (("sums" : Str) == ("__debug__" : Str)) = false := by decide +kernel
theorem nc_sums : (("sums" : Str) == ("__classdict__" : Str)) = false := by decide +kernel
theorem nd_take : (("take" : Str) == ("__debug__" : Str)) = false := by decide +kernel
theorem nc_take : (("take" : Str) == ("__classdict__" : Str)) = false := by decide +kernel
theorem nd_told : (("told" : Str) == ("__debug__" : Str)) = false := by decide +kernel
theorem nc_told : (("told" : Str) == ("__classdict__" : Str)) = false := by decide +kernel
theorem nd_top : (("top" : Str) == ("__debug__" : Str)) = false := by decide +kernel
theorem nc_top : (("top" : Str) == ("__classdict__" : Str)) = false := by decide +kernel
theorem nd_tuple : (("tuple" : Str) == ("__debug__" : Str)) = false := by decide +kernel
theorem nc_tuple : (("tuple" : Str) == ("__classdict__" : Str)) = false := by decide +kernel
theorem nd_value : (("value" : Str) == ("__debug__" : Str)) = false := by decide +kernel
theorem nc_value : (("value" : Str) == ("__classdict__" : Str)) = false := by decide +kernel
theorem nd_weight : (("weight" : Str) == ("__debug__" : Str)) = false := by decide +kernel
theorem nc_weight : (("weight" : Str) == ("__classdict__" : Str)) = false := by decide +kernel
theorem nd_wide : (("wide" : Str) == ("__debug__" : Str)) = false := by decide +kernel
theorem nc_wide : (("wide" : Str) == ("__classdict__" : Str)) = false := by decide +kernel
theorem nd_worths : (("worths" : Str) == ("__debug__" : Str)) = false := by decide +kernel
theorem nc_worths : (("worths" : Str) == ("__classdict__" : Str)) = false := by decide +kernel
theorem bb_abs : bootBuiltins "abs" = some (.builtin "abs") := by decide +kernel
theorem bb_all : bootBuiltins "all" = some (.builtin "all") := by decide +kernel
theorem bb_bool : bootBuiltins "bool" = some (.type "bool") := by decide +kernel
theorem bb_divmod : bootBuiltins "divmod" = some (.builtin "divmod") := by decide +kernel
theorem bb_int : bootBuiltins "int" = some (.type "int") := by decide +kernel
theorem bb_isinstance : bootBuiltins "isinstance" = some (.builtin "isinstance") := by decide +kernel
theorem bb_len : bootBuiltins "len" = some (.builtin "len") := by decide +kernel
theorem bb_list : bootBuiltins "list" = some (.type "list") := by decide +kernel
theorem bb_max : bootBuiltins "max" = some (.builtin "max") := by decide +kernel
theorem bb_min : bootBuiltins "min" = some (.builtin "min") := by decide +kernel
theorem bb_range : bootBuiltins "range" = some (.type "range") := by decide +kernel
theorem bb_repr : bootBuiltins "repr" = some (.builtin "repr") := by decide +kernel
theorem bb_sum : bootBuiltins "sum" = some (.builtin "sum") := by decide +kernel
theorem bb_tuple : bootBuiltins "tuple" = some (.type "tuple") := by decide +kernel
theorem bb_zip : bootBuiltins "zip" = some (.type "zip") := by decide +kernel
def D__law_pot : He.DefD := ⟨("_law_pot", none), "_law_pot", "_law_pot", defArgs (top 38), defBody (top 38), defScope (top 38), [], []⟩
def D_is_integer : He.DefD := ⟨("is_integer", none), "is_integer", "is_integer", defArgs (top 7), defBody (top 7), defScope (top 7), [], []⟩
def D_is_within : He.DefD := ⟨("is_within", none), "is_within", "is_within", defArgs (top 8), defBody (top 8), defScope (top 8), [], []⟩
def D_is_list : He.DefD := ⟨("is_list", none), "is_list", "is_list", defArgs (top 9), defBody (top 9), defScope (top 9), [], []⟩
def D_are_worths_of : He.DefD := ⟨("are_worths_of", none), "are_worths_of", "are_worths_of", defArgs (top 20), defBody (top 20), defScope (top 20), [], []⟩
def D_is_case_of : He.DefD := ⟨("is_case_of", none), "is_case_of", "is_case_of", defArgs (top 21), defBody (top 21), defScope (top 21), [], []⟩
def D_check_case : He.DefD := ⟨("check_case", none), "check_case", "check_case", defArgs (top 22), defBody (top 22), defScope (top 22), [], []⟩
def D_check_sort : He.DefD := ⟨("check_sort", none), "check_sort", "check_sort", defArgs (top 23), defBody (top 23), defScope (top 23), [], []⟩
def D_own_worth : He.DefD := ⟨("own_worth", none), "own_worth", "own_worth", defArgs (top 25), defBody (top 25), defScope (top 25), [], []⟩
def D_loss : He.DefD := ⟨("loss", none), "loss", "loss", defArgs (top 26), defBody (top 26), defScope (top 26), [], []⟩
def D_losses_round : He.DefD := ⟨("losses_round", none), "losses_round", "losses_round", defArgs (top 27), defBody (top 27), defScope (top 27), [], []⟩
def D_ring_of : He.DefD := ⟨("ring_of", none), "ring_of", "ring_of", defArgs (top 28), defBody (top 28), defScope (top 28), [], []⟩
def D_check_had : He.DefD := ⟨("check_had", none), "check_had", "check_had", defArgs (top 24), defBody (top 24), defScope (top 24), [], []⟩
def D_least_sums : He.DefD := ⟨("least_sums", none), "least_sums", "least_sums", defArgs (top 29), defBody (top 29), defScope (top 29), [], []⟩
def D_span : He.DefD := ⟨("span", none), "span", "span", defArgs (top 32), defBody (top 32), defScope (top 32), [], []⟩
def D_greatest_payments : He.DefD := ⟨("greatest_payments", none), "greatest_payments", "greatest_payments", defArgs (top 33), defBody (top 33), defScope (top 33), [], []⟩
def D_ring : He.DefD := ⟨("ring", none), "ring", "ring", defArgs (top 36), defBody (top 36), defScope (top 36), [], []⟩
def D__law_draw : He.DefD := ⟨("_law_draw", none), "_law_draw", "_law_draw", defArgs (top 39), defBody (top 39), defScope (top 39), [], []⟩
def D__law_pick : He.DefD := ⟨("_law_pick", none), "_law_pick", "_law_pick", defArgs (top 40), defBody (top 40), defScope (top 40), [], []⟩
def D__law_case : He.DefD := ⟨("_law_case", none), "_law_case", "_law_case", defArgs (top 48), defBody (top 48), defScope (top 48), [], []⟩
def D__law_lists : He.DefD := ⟨("_law_lists", none), "_law_lists", "_law_lists", defArgs (top 50), defBody (top 50), defScope (top 50), [], []⟩
def D__law_loss : He.DefD := ⟨("_law_loss", none), "_law_loss", "_law_loss", defArgs (top 49), defBody (top 49), defScope (top 49), [], []⟩
def D__law_losses : He.DefD := ⟨("_law_losses", none), "_law_losses", "_law_losses", defArgs (top 51), defBody (top 51), defScope (top 51), [], []⟩
def D__law_ring : He.DefD := ⟨("_law_ring", none), "_law_ring", "_law_ring", defArgs (top 52), defBody (top 52), defScope (top 52), [], []⟩
def D__law_far : He.DefD := ⟨("_law_far", none), "_law_far", "_law_far", defArgs (top 53), defBody (top 53), defScope (top 53), [], []⟩
def D_divisor : He.DefD := ⟨("divisor", none), "divisor", "divisor", defArgs (top 10), defBody (top 10), defScope (top 10), [], []⟩
def D_reduced : He.DefD := ⟨("reduced", none), "reduced", "reduced", defArgs (top 13), defBody (top 13), defScope (top 13), [], []⟩
def D_take : He.DefD := ⟨("take", none), "take", "take", defArgs (top 14), defBody (top 14), defScope (top 14), [], []⟩
def D_is_below : He.DefD := ⟨("is_below", none), "is_below", "is_below", defArgs (top 15), defBody (top 15), defScope (top 15), [], []⟩
def D_is_fraction_of : He.DefD := ⟨("is_fraction_of", none), "is_fraction_of", "is_fraction_of", defArgs (top 11), defBody (top 11), defScope (top 11), [], []⟩
def D_are_payments : He.DefD := ⟨("are_payments", none), "are_payments", "are_payments", defArgs (top 30), defBody (top 30), defScope (top 30), [], []⟩
def D_do_make_true : He.DefD := ⟨("do_make_true", none), "do_make_true", "do_make_true", defArgs (top 31), defBody (top 31), defScope (top 31), [], []⟩
def D_least_payments : He.DefD := ⟨("least_payments", none), "least_payments", "least_payments", defArgs (top 34), defBody (top 34), defScope (top 34), [], []⟩
def D__law_plain : He.DefD := ⟨("_law_plain", none), "_law_plain", "_law_plain", defArgs (top 42), defBody (top 42), defScope (top 42), [], []⟩
def D__law_plus : He.DefD := ⟨("_law_plus", none), "_law_plus", "_law_plus", defArgs (top 43), defBody (top 43), defScope (top 43), [], []⟩
def D__law_times : He.DefD := ⟨("_law_times", none), "_law_times", "_law_times", defArgs (top 44), defBody (top 44), defScope (top 44), [], []⟩
def D__law_mixed_of : He.DefD := ⟨("_law_mixed_of", none), "_law_mixed_of", "_law_mixed_of", defArgs (top 55), defBody (top 55), defScope (top 55), [], []⟩
def D__law_base_right : He.DefD := ⟨("_law_base_right", none), "_law_base_right", "_law_base_right", defArgs (top 56), defBody (top 56), defScope (top 56), [], []⟩
def D__law_right : He.DefD := ⟨("_law_right", none), "_law_right", "_law_right", defArgs (top 57), defBody (top 57), defScope (top 57), [], []⟩
def D_law : He.DefD := ⟨("law", none), "law", "law", defArgs (top 58), defBody (top 58), defScope (top 58), [], []⟩
structure Fx (K : Frag) (mg : Str → Option Value) (base : Heap) : Prop where
  sys : ∃ o, base.get? sysModules = some o
  n_abs : mg "abs" = none
  n_all : mg "all" = none
  n_bool : mg "bool" = none
  n_divmod : mg "divmod" = none
  n_int : mg "int" = none
  n_isinstance : mg "isinstance" = none
  n_len : mg "len" = none
  n_list : mg "list" = none
  n_max : mg "max" = none
  n_min : mg "min" = none
  n_range : mg "range" = none
  n_repr : mg "repr" = none
  n_sum : mg "sum" = none
  n_tuple : mg "tuple" = none
  n_zip : mg "zip" = none
  i_MOST_OUTCOMES : ∃ t, mg "MOST_OUTCOMES" = some (.int 6 t)
  i_MOST_SORTS : ∃ t, mg "MOST_SORTS" = some (.int 5 t)
  i_MOST_WORTH : ∃ t, mg "MOST_WORTH" = some (.int 99 t)
  f__law_pot : ∃ (a : Addr) (fd : FuncData), FunD K D__law_pot.name D__law_pot.qual D__law_pot.params D__law_pot.body D__law_pot.scope [] [] a fd ∧ mg "_law_pot" = some (.ref a)
  f_is_integer : ∃ (a : Addr) (fd : FuncData), FunD K D_is_integer.name D_is_integer.qual D_is_integer.params D_is_integer.body D_is_integer.scope [] [] a fd ∧ mg "is_integer" = some (.ref a)
  f_is_within : ∃ (a : Addr) (fd : FuncData), FunD K D_is_within.name D_is_within.qual D_is_within.params D_is_within.body D_is_within.scope [] [] a fd ∧ mg "is_within" = some (.ref a)
  f_is_list : ∃ (a : Addr) (fd : FuncData), FunD K D_is_list.name D_is_list.qual D_is_list.params D_is_list.body D_is_list.scope [] [] a fd ∧ mg "is_list" = some (.ref a)
  f_are_worths_of : ∃ (a : Addr) (fd : FuncData), FunD K D_are_worths_of.name D_are_worths_of.qual D_are_worths_of.params D_are_worths_of.body D_are_worths_of.scope [] [] a fd ∧ mg "are_worths_of" = some (.ref a)
  f_is_case_of : ∃ (a : Addr) (fd : FuncData), FunD K D_is_case_of.name D_is_case_of.qual D_is_case_of.params D_is_case_of.body D_is_case_of.scope [] [] a fd ∧ mg "is_case_of" = some (.ref a)
  f_check_case : ∃ (a : Addr) (fd : FuncData), FunD K D_check_case.name D_check_case.qual D_check_case.params D_check_case.body D_check_case.scope [] [] a fd ∧ mg "check_case" = some (.ref a)
  f_check_sort : ∃ (a : Addr) (fd : FuncData), FunD K D_check_sort.name D_check_sort.qual D_check_sort.params D_check_sort.body D_check_sort.scope [] [] a fd ∧ mg "check_sort" = some (.ref a)
  f_own_worth : ∃ (a : Addr) (fd : FuncData), FunD K D_own_worth.name D_own_worth.qual D_own_worth.params D_own_worth.body D_own_worth.scope [] [] a fd ∧ mg "own_worth" = some (.ref a)
  f_loss : ∃ (a : Addr) (fd : FuncData), FunD K D_loss.name D_loss.qual D_loss.params D_loss.body D_loss.scope [] [] a fd ∧ mg "loss" = some (.ref a)
  f_losses_round : ∃ (a : Addr) (fd : FuncData), FunD K D_losses_round.name D_losses_round.qual D_losses_round.params D_losses_round.body D_losses_round.scope [] [] a fd ∧ mg "losses_round" = some (.ref a)
  f_ring_of : ∃ (a : Addr) (fd : FuncData), FunD K D_ring_of.name D_ring_of.qual D_ring_of.params D_ring_of.body D_ring_of.scope [] [] a fd ∧ mg "ring_of" = some (.ref a)
  f_check_had : ∃ (a : Addr) (fd : FuncData), FunD K D_check_had.name D_check_had.qual D_check_had.params D_check_had.body D_check_had.scope [] [] a fd ∧ mg "check_had" = some (.ref a)
  f_least_sums : ∃ (a : Addr) (fd : FuncData), FunD K D_least_sums.name D_least_sums.qual D_least_sums.params D_least_sums.body D_least_sums.scope [] [] a fd ∧ mg "least_sums" = some (.ref a)
  f_span : ∃ (a : Addr) (fd : FuncData), FunD K D_span.name D_span.qual D_span.params D_span.body D_span.scope [] [] a fd ∧ mg "span" = some (.ref a)
  f_greatest_payments : ∃ (a : Addr) (fd : FuncData), FunD K D_greatest_payments.name D_greatest_payments.qual D_greatest_payments.params D_greatest_payments.body D_greatest_payments.scope [] [] a fd ∧ mg "greatest_payments" = some (.ref a)
  f_ring : ∃ (a : Addr) (fd : FuncData), FunD K D_ring.name D_ring.qual D_ring.params D_ring.body D_ring.scope [] [] a fd ∧ mg "ring" = some (.ref a)
  f__law_draw : ∃ (a : Addr) (fd : FuncData), FunD K D__law_draw.name D__law_draw.qual D__law_draw.params D__law_draw.body D__law_draw.scope [] [] a fd ∧ mg "_law_draw" = some (.ref a)
  f__law_pick : ∃ (a : Addr) (fd : FuncData), FunD K D__law_pick.name D__law_pick.qual D__law_pick.params D__law_pick.body D__law_pick.scope [] [] a fd ∧ mg "_law_pick" = some (.ref a)
  f__law_case : ∃ (a : Addr) (fd : FuncData), FunD K D__law_case.name D__law_case.qual D__law_case.params D__law_case.body D__law_case.scope [] [] a fd ∧ mg "_law_case" = some (.ref a)
  f__law_lists : ∃ (a : Addr) (fd : FuncData), FunD K D__law_lists.name D__law_lists.qual D__law_lists.params D__law_lists.body D__law_lists.scope [] [] a fd ∧ mg "_law_lists" = some (.ref a)
  f__law_loss : ∃ (a : Addr) (fd : FuncData), FunD K D__law_loss.name D__law_loss.qual D__law_loss.params D__law_loss.body D__law_loss.scope [] [] a fd ∧ mg "_law_loss" = some (.ref a)
  f__law_losses : ∃ (a : Addr) (fd : FuncData), FunD K D__law_losses.name D__law_losses.qual D__law_losses.params D__law_losses.body D__law_losses.scope [] [] a fd ∧ mg "_law_losses" = some (.ref a)
  f__law_ring : ∃ (a : Addr) (fd : FuncData), FunD K D__law_ring.name D__law_ring.qual D__law_ring.params D__law_ring.body D__law_ring.scope [] [] a fd ∧ mg "_law_ring" = some (.ref a)
  f__law_far : ∃ (a : Addr) (fd : FuncData), FunD K D__law_far.name D__law_far.qual D__law_far.params D__law_far.body D__law_far.scope [] [] a fd ∧ mg "_law_far" = some (.ref a)
  f_divisor : ∃ (a : Addr) (fd : FuncData), FunD K D_divisor.name D_divisor.qual D_divisor.params D_divisor.body D_divisor.scope [] [] a fd ∧ mg "divisor" = some (.ref a)
  f_reduced : ∃ (a : Addr) (fd : FuncData), FunD K D_reduced.name D_reduced.qual D_reduced.params D_reduced.body D_reduced.scope [] [] a fd ∧ mg "reduced" = some (.ref a)
  f_take : ∃ (a : Addr) (fd : FuncData), FunD K D_take.name D_take.qual D_take.params D_take.body D_take.scope [] [] a fd ∧ mg "take" = some (.ref a)
  f_is_below : ∃ (a : Addr) (fd : FuncData), FunD K D_is_below.name D_is_below.qual D_is_below.params D_is_below.body D_is_below.scope [] [] a fd ∧ mg "is_below" = some (.ref a)
  f_is_fraction_of : ∃ (a : Addr) (fd : FuncData), FunD K D_is_fraction_of.name D_is_fraction_of.qual D_is_fraction_of.params D_is_fraction_of.body D_is_fraction_of.scope [] [] a fd ∧ mg "is_fraction_of" = some (.ref a)
  f_are_payments : ∃ (a : Addr) (fd : FuncData), FunD K D_are_payments.name D_are_payments.qual D_are_payments.params D_are_payments.body D_are_payments.scope [] [] a fd ∧ mg "are_payments" = some (.ref a)
  f_do_make_true : ∃ (a : Addr) (fd : FuncData), FunD K D_do_make_true.name D_do_make_true.qual D_do_make_true.params D_do_make_true.body D_do_make_true.scope [] [] a fd ∧ mg "do_make_true" = some (.ref a)
  f_least_payments : ∃ (a : Addr) (fd : FuncData), FunD K D_least_payments.name D_least_payments.qual D_least_payments.params D_least_payments.body D_least_payments.scope [] [] a fd ∧ mg "least_payments" = some (.ref a)
  f__law_plain : ∃ (a : Addr) (fd : FuncData), FunD K D__law_plain.name D__law_plain.qual D__law_plain.params D__law_plain.body D__law_plain.scope [] [] a fd ∧ mg "_law_plain" = some (.ref a)
  f__law_plus : ∃ (a : Addr) (fd : FuncData), FunD K D__law_plus.name D__law_plus.qual D__law_plus.params D__law_plus.body D__law_plus.scope [] [] a fd ∧ mg "_law_plus" = some (.ref a)
  f__law_times : ∃ (a : Addr) (fd : FuncData), FunD K D__law_times.name D__law_times.qual D__law_times.params D__law_times.body D__law_times.scope [] [] a fd ∧ mg "_law_times" = some (.ref a)
  f__law_mixed_of : ∃ (a : Addr) (fd : FuncData), FunD K D__law_mixed_of.name D__law_mixed_of.qual D__law_mixed_of.params D__law_mixed_of.body D__law_mixed_of.scope [] [] a fd ∧ mg "_law_mixed_of" = some (.ref a)
  f__law_base_right : ∃ (a : Addr) (fd : FuncData), FunD K D__law_base_right.name D__law_base_right.qual D__law_base_right.params D__law_base_right.body D__law_base_right.scope [] [] a fd ∧ mg "_law_base_right" = some (.ref a)
  f__law_right : ∃ (a : Addr) (fd : FuncData), FunD K D__law_right.name D__law_right.qual D__law_right.params D__law_right.body D__law_right.scope [] [] a fd ∧ mg "_law_right" = some (.ref a)
  f_law : ∃ (a : Addr) (fd : FuncData), FunD K D_law.name D_law.qual D_law.params D_law.body D_law.scope [] [] a fd ∧ mg "law" = some (.ref a)
def d__law_pot : DenS := dsSeq (dsAsg (tgName 2 false) (dBin bAdd (dBin bMul (dCst (.int 1453)) (dVar 1)) (dCst (.int 9767))))
      (dsSeq (dsIf (dBin bLt (dVar 1) (dCl (n1 fLen) [dVar 0])) (dsSeq (dsAsg (tgName 2 false) (dCl (n1 fAbs) [dBin bIdx (dVar 0) (dVar 1)]))
      (dsNx)) (dsNx))
      (dsSeq (dsRet (dLst [dCl (n2 fMax2) [dCst (.int 0), dBin bSub (dVar 2) (dBin bPow (dCst (.int 10)) (dCst (.int 18)))], dBin bAdd (dBin bMod (dCl (n1 fInt) [dBin bAdd (dBin bAdd (dBin bMul (dBin bMod (dCl (n1 fInt) [dVar 2]) (dCst (.int 2147483549))) (dCst (.int 40014))) (dBin bMul (dCst (.int 9767)) (dVar 1))) (dCst (.int 61))]) (dCst (.int 2147483563))) (dCst (.int 1))]))
      (dsNx)))
def f__law_pot : Fn := runF 3 d__law_pot
def d_is_integer : DenS := dsSeq (dsRet (dAnd (dUn (fIsi ["int"]) (dVar 0)) (dNot (dUn (fIsi ["bool"]) (dVar 0)))))
      (dsNx)
def f_is_integer : Fn := runF 1 d_is_integer
def d_is_within : DenS := dsSeq (dsRet (dAnd (dCall 1 f_is_integer [false] [dVar 0]) (dChain bLe bLe (dVar 1) (dVar 0) (dVar 2))))
      (dsNx)
def f_is_within : Fn := runF 3 d_is_within
def d_is_list : DenS := dsSeq (dsRet (dUn (fIsi ["list", "tuple"]) (dVar 0)))
      (dsNx)
def f_is_list : Fn := runF 1 d_is_list
def d_are_worths_of : DenS := dsSeq (dsIf (dOr (dNot (dCall 1 f_is_list [false] [dVar 0])) (dOr (dNot (dChain bLe bLe (dCst (.int 1)) (dCl (n1 fLen) [dVar 0]) (dCst (.int 5)))) (dNot (dCl (n1 fAll) [dComp (itSeq (dVar 0)) (tgName 1 false) none (dCall 1 f_is_list [false] [dVar 1]) [1]])))) (dsSeq (dsRet (dCst (.bl false)))
      (dsNx)) (dsNx))
      (dsSeq (dsIf (dOr (dNot (dChain bLe bLe (dCst (.int 1)) (dCl (n1 fLen) [dBin bIdx (dVar 0) (dCst (.int 0))]) (dCst (.int 6)))) (dNot (dCl (n1 fAll) [dComp (itSeq (dVar 0)) (tgName 1 false) none (dBin bEq (dCl (n1 fLen) [dVar 1]) (dCl (n1 fLen) [dBin bIdx (dVar 0) (dCst (.int 0))])) [1]]))) (dsSeq (dsRet (dCst (.bl false)))
      (dsNx)) (dsNx))
      (dsSeq (dsRet (dCl (n1 fAll) [dComp (itSeq (dVar 0)) (tgName 1 false) none (dCl (n1 fAll) [dComp (itSeq (dVar 1)) (tgName 2 false) none (dCall 3 f_is_within [false, false, false] [dVar 2, dBin bSub (dCst (.int 0)) (dCst (.int 99)), dCst (.int 99)]) [2]]) [1]]))
      (dsNx)))
def f_are_worths_of : Fn := runF 3 d_are_worths_of
def d_is_case_of : DenS := dsSeq (dsIf (dOr (dNot (dUn (fIsi ["tuple"]) (dVar 0))) (dOr (dBin bNe (dCl (n1 fLen) [dVar 0]) (dCst (.int 2))) (dOr (dNot (dCall 1 f_are_worths_of [false] [dBin bIdx (dVar 0) (dCst (.int 0))])) (dNot (dCall 1 f_is_list [false] [dBin bIdx (dVar 0) (dCst (.int 1))]))))) (dsSeq (dsRet (dCst (.bl false)))
      (dsNx)) (dsNx))
      (dsSeq (dsAsg (tgName 1 false) (dCl (n1 fLen) [dBin bIdx (dBin bIdx (dVar 0) (dCst (.int 0))) (dCst (.int 0))]))
      (dsSeq (dsRet (dAnd (dBin bEq (dCl (n1 fLen) [dBin bIdx (dVar 0) (dCst (.int 1))]) (dCl (n1 fLen) [dBin bIdx (dVar 0) (dCst (.int 0))])) (dCl (n1 fAll) [dComp (itSeq (dBin bIdx (dVar 0) (dCst (.int 1)))) (tgName 2 false) none (dCall 3 f_is_within [false, false, false] [dVar 2, dCst (.int 0), dBin bSub (dVar 1) (dCst (.int 1))]) [2]])))
      (dsNx)))
def f_is_case_of : Fn := runF 3 d_is_case_of
def d_check_case : DenS := dsSeq (dsIf (dNot (dCall 1 f_is_case_of [false] [dVar 0])) (dsSeq (dsNo)
      (dsNx)) (dsNx))
      (dsNx)
def f_check_case : Fn := runF 1 d_check_case
def d_check_sort : DenS := dsSeq (dsIf (dNot (dCall 3 f_is_within [false, false, false] [dVar 1, dCst (.int 0), dBin bSub (dCl (n1 fLen) [dBin bIdx (dVar 0) (dCst (.int 1))]) (dCst (.int 1))])) (dsSeq (dsNo)
      (dsNx)) (dsNx))
      (dsNx)
def f_check_sort : Fn := runF 2 d_check_sort
def d_own_worth : DenS := dsSeq (dsRet (dBin bIdx (dBin bIdx (dBin bIdx (dVar 0) (dCst (.int 0))) (dVar 1)) (dBin bIdx (dBin bIdx (dVar 0) (dCst (.int 1))) (dVar 1))))
      (dsNx)
def f_own_worth : Fn := runF 2 d_own_worth
def d_loss : DenS := dsSeq (dsRet (dBin bSub (dCall 2 f_own_worth [false, false] [dVar 0, dVar 1]) (dBin bIdx (dBin bIdx (dBin bIdx (dVar 0) (dCst (.int 0))) (dVar 1)) (dBin bIdx (dBin bIdx (dVar 0) (dCst (.int 1))) (dVar 2)))))
      (dsNx)
def f_loss : Fn := runF 3 d_loss
def d_losses_round : DenS := dsSeq (dsRet (dCl (n1 fSum) [dComp (itZip2 [dVar 1, dBin bAdd (dSli (dVar 1) (some (dCst (.int 1))) none) (dSli (dVar 1) none (some (dCst (.int 1))))]) (tgTup [tgName 2 false, tgName 3 false]) none (dCall 3 f_loss [false, false, false] [dVar 0, dVar 2, dVar 3]) [2, 3]]))
      (dsNx)
def f_losses_round : Fn := runF 4 d_losses_round
def d_ring_of : DenS := dsSeq (dsAsg (tgName 1 false) (dCl (n1 fLen) [dBin bIdx (dVar 0) (dCst (.int 1))]))
      (dsSeq (dsAsg (tgName 2 true) (dComp (itRng rng1 [dVar 1]) (tgName 6 false) none (dLst [dVar 6]) [6]))
      (dsSeq (dsFor (itRng rng2 [dCst (.int 1), dVar 1]) (tgName 3 false) (dsSeq (dsAsg (tgName 4 true) (dLst []))
      (dsSeq (dsFor (itSeq (dVar 2)) (tgName 5 false) (dsSeq (dsExpr (dExt (dVar 4) (dComp (itRng rng1 [dVar 1]) (tgName 6 false) (some (dBin bNin (dVar 6) (dVar 5))) (dBin bAdd (dVar 5) (dLst [dVar 6])) [6])))
      (dsNx)))
      (dsSeq (dsFor (itSeq (dVar 4)) (tgName 5 false) (dsSeq (dsIf (dBin bLt (dCall 2 f_losses_round [false, false] [dVar 0, dVar 5]) (dCst (.int 0))) (dsSeq (dsRet (dVar 5))
      (dsNx)) (dsNx))
      (dsNx)))
      (dsSeq (dsAsg (tgName 2 true) (dVar 4))
      (dsNx))))))
      (dsSeq (dsRet (dCst .non))
      (dsNx))))
def f_ring_of : Fn := runF 7 d_ring_of
def d_check_had : DenS := dsSeq (dsAsg (tgName 1 false) (dCall 1 f_ring_of [false] [dVar 0]))
      (dsSeq (dsIf (dBin bIsN (dVar 1) (dCst .non)) (dsSeq (dsNo)
      (dsNx)) (dsNx))
      (dsNx))
def f_check_had : Fn := runF 2 d_check_had
def d_least_sums : DenS := dsSeq (dsAsg (tgName 1 false) (dCl (n1 fLen) [dBin bIdx (dVar 0) (dCst (.int 1))]))
      (dsSeq (dsAsg (tgName 2 true) (dComp (itRng rng1 [dVar 1]) (tgName 4 false) none (dComp (itRng rng1 [dVar 1]) (tgName 6 false) none (dIte (dBin bEq (dVar 4) (dVar 6)) (dCst (.int 0)) (dCall 3 f_loss [false, false, false] [dVar 0, dVar 4, dVar 6])) [6]) [4]))
      (dsSeq (dsFor (itRng rng1 [dVar 1]) (tgName 3 false) (dsSeq (dsFor (itRng rng1 [dVar 1]) (tgName 4 false) (dsSeq (dsAsg (tgName 5 false) (dBin bIdx (dVar 2) (dVar 4)))
      (dsSeq (dsAsg (tgSub (dVar 2) (dVar 4)) (dComp (itRng rng1 [dVar 1]) (tgName 6 false) none (dCl (n2 fMin2) [dBin bIdx (dVar 5) (dVar 6), dBin bAdd (dBin bIdx (dVar 5) (dVar 3)) (dBin bIdx (dBin bIdx (dVar 2) (dVar 3)) (dVar 6))]) [6]))
      (dsNx))))
      (dsNx)))
      (dsSeq (dsRet (dVar 2))
      (dsNx))))
def f_least_sums : Fn := runF 7 d_least_sums
def d_span : DenS := dsSeq (dsExpr (dCall 1 f_check_case [false] [dVar 0]))
      (dsSeq (dsExpr (dCall 2 f_check_sort [false, false] [dVar 0, dVar 1]))
      (dsSeq (dsExpr (dCall 2 f_check_sort [false, false] [dVar 0, dVar 2]))
      (dsSeq (dsExpr (dCall 1 f_check_had [false] [dVar 0]))
      (dsSeq (dsAsg (tgName 3 false) (dCall 1 f_least_sums [false] [dVar 0]))
      (dsSeq (dsRet (dTup [dBin bSub (dCst (.int 0)) (dBin bIdx (dBin bIdx (dVar 3) (dVar 2)) (dVar 1)), dBin bIdx (dBin bIdx (dVar 3) (dVar 1)) (dVar 2)]))
      (dsNx))))))
def f_span : Fn := runF 4 d_span
def d_greatest_payments : DenS := dsSeq (dsExpr (dCall 1 f_check_case [false] [dVar 0]))
      (dsSeq (dsExpr (dCall 2 f_check_sort [false, false] [dVar 0, dVar 1]))
      (dsSeq (dsExpr (dCall 1 f_check_had [false] [dVar 0]))
      (dsSeq (dsRet (dComp (itSeq (dCall 1 f_least_sums [false] [dVar 0])) (tgName 2 false) none (dBin bIdx (dVar 2) (dVar 1)) [2]))
      (dsNx))))
def f_greatest_payments : Fn := runF 3 d_greatest_payments
def d_ring : DenS := dsSeq (dsExpr (dCall 1 f_check_case [false] [dVar 0]))
      (dsSeq (dsRet (dCall 1 f_ring_of [false] [dVar 0]))
      (dsNx))
def f_ring : Fn := runF 1 d_ring
def d__law_draw : DenS := dsSeq (dsIf (dBin bGt (dBin bIdx (dVar 0) (dCst (.int 0))) (dCst (.int 0))) (dsSeq (dsAsg (tgTup [tgSub (dVar 0) (dCst (.int 0)), tgName 2 false]) (dCl (n2 fDm) [dBin bIdx (dVar 0) (dCst (.int 0)), dVar 1]))
      (dsSeq (dsRet (dVar 2))
      (dsNx))) (dsNx))
      (dsSeq (dsAsg (tgSub (dVar 0) (dCst (.int 1))) (dBin bMod (dCl (n1 fInt) [dBin bAdd (dBin bMul (dBin bIdx (dVar 0) (dCst (.int 1))) (dCst (.int 39373))) (dCst (.int 1459))]) (dCst (.int 2147483587))))
      (dsSeq (dsRet (dBin bMod (dCl (n1 fInt) [dBin bDiv (dBin bMod (dCl (n1 fInt) [dBin bMul (dBin bIdx (dVar 0) (dCst (.int 1))) (dBin bIdx (dVar 0) (dCst (.int 1)))]) (dCst (.int 2147483563))) (dCst (.int 19))]) (dVar 1)))
      (dsNx)))
def f__law_draw : Fn := runF 3 d__law_draw
def d__law_pick : DenS := dsSeq (dsRet (dBin bIdx (dVar 1) (dCall 2 f__law_draw [true, false] [dVar 0, dCl (n1 fLen) [dVar 1]])))
      (dsNx)
def f__law_pick : Fn := runF 2 d__law_pick
def d__law_case : DenS := dsSeq (dsAsg (tgTup [tgName 3 false, tgName 4 false]) (dTup [dBin bAdd (dCst (.int 1)) (dCall 2 f__law_draw [true, false] [dVar 0, dVar 1]), dBin bAdd (dCst (.int 1)) (dCall 2 f__law_draw [true, false] [dVar 0, dCst (.int 4)])]))
      (dsSeq (dsAsg (tgName 5 false) (dComp (itRng rng1 [dVar 3]) (tgName 10 false) none (dComp (itRng rng1 [dVar 4]) (tgName 11 false) none (dBin bSub (dCall 2 f__law_draw [true, false] [dVar 0, dBin bAdd (dBin bMul (dCst (.int 2)) (dVar 2)) (dCst (.int 1))]) (dVar 2)) [11]) [10]))
      (dsSeq (dsAsg (tgName 6 true) (dComp (itRng rng1 [dVar 3]) (tgName 10 false) none (dCall 2 f__law_draw [true, false] [dVar 0, dVar 4]) [10]))
      (dsSeq (dsIf (dBin bGt (dCall 2 f__law_draw [true, false] [dVar 0, dCst (.int 3)]) (dCst (.int 0))) (dsSeq (dsAsg (tgName 7 false) (dComp (itRng rng1 [dVar 4]) (tgName 11 false) none (dBin bSub (dCall 2 f__law_draw [true, false] [dVar 0, dBin bAdd (dBin bMul (dCst (.int 2)) (dVar 2)) (dCst (.int 1))]) (dVar 2)) [11]))
      (dsSeq (dsAsg (tgName 6 true) (dLst []))
      (dsSeq (dsFor (itSeq (dVar 5)) (tgName 8 false) (dsSeq (dsAsg (tgName 9 false) (dComp (itZip2 [dVar 8, dVar 7]) (tgTup [tgName 12 false, tgName 13 false]) none (dBin bAdd (dVar 12) (dVar 13)) [12, 13]))
      (dsSeq (dsExpr (dApp (dVar 6) (dMIx (dVar 9) (dCl (n1 fMax) [dVar 9]))))
      (dsNx))))
      (dsNx)))) (dsNx))
      (dsSeq (dsRet (dTup [dVar 5, dVar 6]))
      (dsNx)))))
def f__law_case : Fn := runF 14 d__law_case
def d__law_lists : DenS := dsSeq (dsPar2 1 2 false false [dLst [], dLst [dLst []]])
      (dsSeq (dsFor (itRng rng1 [dVar 0]) (tgName 3 false) (dsSeq (dsAsg (tgName 4 true) (dLst []))
      (dsSeq (dsFor (itSeq (dVar 2)) (tgName 5 false) (dsSeq (dsExpr (dExt (dVar 4) (dComp (itRng rng1 [dVar 0]) (tgName 6 false) (some (dBin bNin (dVar 6) (dVar 5))) (dBin bAdd (dVar 5) (dLst [dVar 6])) [6])))
      (dsNx)))
      (dsSeq (dsPar2 1 2 false false [dBin bAdd (dVar 1) (dVar 4), dVar 4])
      (dsNx)))))
      (dsSeq (dsRet (dVar 1))
      (dsNx)))
def f__law_lists : Fn := runF 7 d__law_lists
def d__law_loss : DenS := dsSeq (dsRet (dBin bSub (dBin bIdx (dBin bIdx (dBin bIdx (dVar 0) (dCst (.int 0))) (dVar 1)) (dBin bIdx (dBin bIdx (dVar 0) (dCst (.int 1))) (dVar 1))) (dBin bIdx (dBin bIdx (dBin bIdx (dVar 0) (dCst (.int 0))) (dVar 1)) (dBin bIdx (dBin bIdx (dVar 0) (dCst (.int 1))) (dVar 2)))))
      (dsNx)
def f__law_loss : Fn := runF 3 d__law_loss
def d__law_losses : DenS := dsSeq (dsRet (dCl (n1 fSum) [dComp (itZip2 [dVar 1, dSli (dVar 1) (some (dCst (.int 1))) none]) (tgTup [tgName 2 false, tgName 3 false]) none (dCall 3 f__law_loss [false, false, false] [dVar 0, dVar 2, dVar 3]) [2, 3]]))
      (dsNx)
def f__law_losses : Fn := runF 4 d__law_losses
def d__law_ring : DenS := dsSeq (dsFor (itSeq (dCall 1 f__law_lists [false] [dCl (n1 fLen) [dBin bIdx (dVar 0) (dCst (.int 1))]])) (tgName 1 false) (dsSeq (dsIf (dAnd (dBin bGt (dCl (n1 fLen) [dVar 1]) (dCst (.int 1))) (dBin bLt (dCall 2 f__law_losses [false, false] [dVar 0, dBin bAdd (dVar 1) (dSli (dVar 1) none (some (dCst (.int 1))))]) (dCst (.int 0)))) (dsSeq (dsRet (dVar 1))
      (dsNx)) (dsNx))
      (dsNx)))
      (dsSeq (dsRet (dCst .non))
      (dsNx))
def f__law_ring : Fn := runF 2 d__law_ring
def d__law_far : DenS := dsSeq (dsAsg (tgName 3 false) (dComp (itSeq (dCall 1 f__law_lists [false] [dCl (n1 fLen) [dBin bIdx (dVar 0) (dCst (.int 1))]])) (tgName 4 false) (some (dAnd (dBin bEq (dBin bIdx (dVar 4) (dCst (.int 0))) (dVar 1)) (dBin bEq (dBin bIdx (dVar 4) (dUn uNeg (dCst (.int 1)))) (dVar 2)))) (dVar 4) [4]))
      (dsSeq (dsRet (dCl (n1 fMin) [dComp (itSeq (dVar 3)) (tgName 4 false) none (dCall 2 f__law_losses [false, false] [dVar 0, dVar 4]) [4]]))
      (dsNx))
def f__law_far : Fn := runF 5 d__law_far
def d_divisor : DenS := dsSeq (dsWhile 4000 (dBin bGt (dVar 1) (dCst (.int 0))) (dsSeq (dsPar2 0 1 false false [dVar 1, dBin bMod (dCl (n1 fInt) [dVar 0]) (dVar 1)])
      (dsNx)))
      (dsSeq (dsRet (dVar 0))
      (dsNx))
def f_divisor : Fn := runF 2 d_divisor
def d_reduced : DenS := dsSeq (dsIf (dBin bLt (dVar 1) (dCst (.int 0))) (dsSeq (dsPar2 0 1 false false [dBin bSub (dCst (.int 0)) (dVar 0), dBin bSub (dCst (.int 0)) (dVar 1)])
      (dsNx)) (dsNx))
      (dsSeq (dsAsg (tgName 2 false) (dCall 2 f_divisor [false, false] [dCl (n1 fAbs) [dVar 0], dVar 1]))
      (dsSeq (dsRet (dTup [dBin bDiv (dVar 0) (dVar 2), dBin bDiv (dVar 1) (dVar 2)]))
      (dsNx)))
def f_reduced : Fn := runF 3 d_reduced
def d_take : DenS := dsSeq (dsRet (dCall 2 f_reduced [false, false] [dBin bSub (dBin bMul (dBin bIdx (dVar 0) (dCst (.int 0))) (dBin bIdx (dVar 1) (dCst (.int 1)))) (dBin bMul (dBin bIdx (dVar 1) (dCst (.int 0))) (dBin bIdx (dVar 0) (dCst (.int 1)))), dBin bMul (dBin bIdx (dVar 0) (dCst (.int 1))) (dBin bIdx (dVar 1) (dCst (.int 1)))]))
      (dsNx)
def f_take : Fn := runF 2 d_take
def d_is_below : DenS := dsSeq (dsRet (dBin bLt (dBin bMul (dBin bIdx (dVar 0) (dCst (.int 0))) (dBin bIdx (dVar 1) (dCst (.int 1)))) (dBin bMul (dBin bIdx (dVar 1) (dCst (.int 0))) (dBin bIdx (dVar 0) (dCst (.int 1))))))
      (dsNx)
def f_is_below : Fn := runF 2 d_is_below
def d_is_fraction_of : DenS := dsSeq (dsIf (dOr (dNot (dUn (fIsi ["tuple"]) (dVar 0))) (dOr (dBin bNe (dCl (n1 fLen) [dVar 0]) (dCst (.int 2))) (dOr (dNot (dCall 1 f_is_integer [false] [dBin bIdx (dVar 0) (dCst (.int 0))])) (dNot (dCall 1 f_is_integer [false] [dBin bIdx (dVar 0) (dCst (.int 1))]))))) (dsSeq (dsRet (dCst (.bl false)))
      (dsNx)) (dsNx))
      (dsSeq (dsRet (dAnd (dBin bGe (dBin bIdx (dVar 0) (dCst (.int 1))) (dCst (.int 1))) (dBin bEq (dCall 2 f_divisor [false, false] [dCl (n1 fAbs) [dBin bIdx (dVar 0) (dCst (.int 0))], dBin bIdx (dVar 0) (dCst (.int 1))]) (dCst (.int 1)))))
      (dsNx))
def f_is_fraction_of : Fn := runF 1 d_is_fraction_of
def d_are_payments : DenS := dsSeq (dsRet (dAnd (dCall 1 f_is_list [false] [dVar 1]) (dAnd (dBin bEq (dCl (n1 fLen) [dVar 1]) (dCl (n1 fLen) [dBin bIdx (dVar 0) (dCst (.int 1))])) (dCl (n1 fAll) [dComp (itSeq (dVar 1)) (tgName 2 false) none (dCall 1 f_is_fraction_of [false] [dVar 2]) [2]]))))
      (dsNx)
def f_are_payments : Fn := runF 3 d_are_payments
def d_do_make_true : DenS := dsSeq (dsExpr (dCall 1 f_check_case [false] [dVar 0]))
      (dsSeq (dsIf (dNot (dCall 2 f_are_payments [false, false] [dVar 0, dVar 1])) (dsSeq (dsRet (dCst (.bl false)))
      (dsNx)) (dsNx))
      (dsSeq (dsAsg (tgName 2 false) (dCl (n1 fLen) [dBin bIdx (dVar 0) (dCst (.int 1))]))
      (dsSeq (dsFor (itRng rng1 [dVar 2]) (tgName 3 false) (dsSeq (dsFor (itRng rng1 [dVar 2]) (tgName 4 false) (dsSeq (dsIf (dCall 2 f_is_below [false, false] [dTup [dCall 3 f_loss [false, false, false] [dVar 0, dVar 3, dVar 4], dCst (.int 1)], dCall 2 f_take [false, false] [dBin bIdx (dVar 1) (dVar 3), dBin bIdx (dVar 1) (dVar 4)]]) (dsSeq (dsRet (dCst (.bl false)))
      (dsNx)) (dsNx))
      (dsNx)))
      (dsNx)))
      (dsSeq (dsRet (dCst (.bl true)))
      (dsNx)))))
def f_do_make_true : Fn := runF 5 d_do_make_true
def d_least_payments : DenS := dsSeq (dsExpr (dCall 1 f_check_case [false] [dVar 0]))
      (dsSeq (dsExpr (dCall 2 f_check_sort [false, false] [dVar 0, dVar 1]))
      (dsSeq (dsExpr (dCall 1 f_check_had [false] [dVar 0]))
      (dsSeq (dsRet (dComp (itSeq (dBin bIdx (dCall 1 f_least_sums [false] [dVar 0]) (dVar 1))) (tgName 2 false) none (dBin bSub (dCst (.int 0)) (dVar 2)) [2]))
      (dsNx))))
def f_least_payments : Fn := runF 3 d_least_payments
def d__law_plain : DenS := dsSeq (dsPar2 2 3 false false [dCl (n1 fAbs) [dVar 0], dCl (n1 fAbs) [dVar 1]])
      (dsSeq (dsWhile 4000 (dBin bNe (dVar 3) (dCst (.int 0))) (dsSeq (dsPar2 2 3 false false [dVar 3, dBin bMod (dCl (n1 fInt) [dVar 2]) (dVar 3)])
      (dsNx)))
      (dsSeq (dsAsg (tgName 4 false) (dIte (dBin bGt (dVar 1) (dCst (.int 0))) (dCst (.int 1)) (dUn uNeg (dCst (.int 1)))))
      (dsSeq (dsRet (dTup [dBin bDiv (dBin bMul (dVar 4) (dVar 0)) (dVar 2), dBin bDiv (dBin bMul (dVar 4) (dVar 1)) (dVar 2)]))
      (dsNx))))
def f__law_plain : Fn := runF 5 d__law_plain
def d__law_plus : DenS := dsSeq (dsRet (dCall 2 f__law_plain [false, false] [dBin bAdd (dBin bMul (dBin bIdx (dVar 0) (dCst (.int 0))) (dBin bIdx (dVar 1) (dCst (.int 1)))) (dBin bMul (dBin bIdx (dVar 1) (dCst (.int 0))) (dBin bIdx (dVar 0) (dCst (.int 1)))), dBin bMul (dBin bIdx (dVar 0) (dCst (.int 1))) (dBin bIdx (dVar 1) (dCst (.int 1)))]))
      (dsNx)
def f__law_plus : Fn := runF 2 d__law_plus
def d__law_times : DenS := dsSeq (dsRet (dCall 2 f__law_plain [false, false] [dBin bMul (dBin bIdx (dVar 0) (dCst (.int 0))) (dBin bIdx (dVar 1) (dCst (.int 0))), dBin bMul (dBin bIdx (dVar 0) (dCst (.int 1))) (dBin bIdx (dVar 1) (dCst (.int 1)))]))
      (dsNx)
def f__law_times : Fn := runF 2 d__law_times
def d__law_mixed_of : DenS := dsSeq (dsAsg (tgName 3 false) (dCall 2 f__law_plus [false, false] [dTup [dCst (.int 1), dCst (.int 1)], dTup [dBin bSub (dCst (.int 0)) (dBin bIdx (dVar 2) (dCst (.int 0))), dBin bIdx (dVar 2) (dCst (.int 1))]]))
      (dsSeq (dsRet (dComp (itZip2 [dVar 0, dVar 1]) (tgTup [tgName 4 false, tgName 5 false]) none (dCall 2 f__law_plus [false, false] [dCall 2 f__law_times [false, false] [dVar 2, dTup [dVar 4, dCst (.int 1)]], dCall 2 f__law_times [false, false] [dVar 3, dTup [dVar 5, dCst (.int 1)]]]) [4, 5]))
      (dsNx))
def f__law_mixed_of : Fn := runF 6 d__law_mixed_of
def d__law_base_right : DenS := dsSeq (dsAsg (tgName 3 false) (dCl (n1 fLen) [dBin bIdx (dVar 1) (dCst (.int 1))]))
      (dsSeq (dsAsg (tgName 4 false) (dComp (itRng rng1 [dVar 3]) (tgName 10 false) none (dCall 3 f__law_far [false, false, false] [dVar 1, dVar 10, dVar 2]) [10]))
      (dsSeq (dsAsg (tgName 5 false) (dComp (itRng rng1 [dVar 3]) (tgName 10 false) none (dBin bSub (dCst (.int 0)) (dCall 3 f__law_far [false, false, false] [dVar 1, dVar 2, dVar 10])) [10]))
      (dsSeq (dsAsg (tgName 6 false) (dNst [true, true] [dCall 2 f_greatest_payments [false, false] [dVar 1, dVar 2], dCall 2 f_least_payments [false, false] [dVar 1, dVar 2]]))
      (dsSeq (dsAsg (tgName 7 false) (dLst [dCallK 2 f_greatest_payments [1, 0] [false, false] [] [dVar 2, dVar 1], dCallK 2 f_least_payments [1, 0] [false, false] [] [dVar 2, dVar 1]]))
      (dsSeq (dsIf (dOr (dBin bNe (dRepLD [dVar 6, dVar 7]) (dCl (n1 fRepr) [dBin bMul (dLst [dLst [dVar 4, dVar 5]]) (dCst (.int 2))])) (dOr (dBin bNe (dBin bIdx (dVar 4) (dVar 2)) (dCst (.int 0))) (dBin bNe (dBin bIdx (dVar 5) (dVar 2)) (dCst (.int 0))))) (dsSeq (dsRet (dCst (.bl false)))
      (dsNx)) (dsNx))
      (dsSeq (dsFor (itSeq (dLst [dVar 4, dVar 5])) (tgName 8 true) (dsSeq (dsIf (dBin bIsN (dCall 2 f_do_make_true [false, false] [dVar 1, dComp (itSeq (dVar 8)) (tgName 11 false) none (dTup [dVar 11, dCst (.int 1)]) [11]]) (dCst (.bl true))) (dsSeq (dsRet (dCst (.bl false)))
      (dsNx)) (dsNx))
      (dsNx)))
      (dsSeq (dsFor (itSeq (dTup [dTup [dCst (.int 1), dCst (.int 2)], dTup [dCst (.int 1), dCst (.int 3)], dTup [dCall 2 f__law_draw [true, false] [dVar 0, dCst (.int 8)], dCst (.int 7)]])) (tgName 9 false) (dsSeq (dsIf (dBin bIsN (dCall 2 f_do_make_true [false, false] [dVar 1, dCall 3 f__law_mixed_of [false, false, false] [dVar 4, dVar 5, dCall 2 f__law_plain [false, false] [dBin bIdx (dVar 9) (dCst (.int 0)), dBin bIdx (dVar 9) (dCst (.int 1))]]]) (dCst (.bl true))) (dsSeq (dsRet (dCst (.bl false)))
      (dsNx)) (dsNx))
      (dsNx)))
      (dsSeq (dsFor (itRng rng1 [dVar 3]) (tgName 10 false) (dsSeq (dsAsg (tgName 8 true) (dComp (itSeq (dVar 4)) (tgName 11 false) none (dTup [dVar 11, dCst (.int 1)]) [11]))
      (dsSeq (dsAsg (tgSub (dVar 8) (dVar 10)) (dCall 2 f__law_plus [false, false] [dBin bIdx (dVar 8) (dVar 10), dTup [dCst (.int 1), dCst (.int 5)]]))
      (dsSeq (dsIf (dAnd (dBin bNe (dVar 10) (dVar 2)) (dBin bIsN (dCall 2 f_do_make_true [false, false] [dVar 1, dCl (n1 fTuple) [dVar 8]]) (dCst (.bl false)))) (dsSeq (dsRet (dCst (.bl false)))
      (dsNx)) (dsNx))
      (dsNx)))))
      (dsSeq (dsExpr (dApp (dIxN (dVar 6) (dCst (.int 0))) (dCst .non)))
      (dsSeq (dsRet (dBin bEq (dCl (n1 fRepr) [dCall 2 f_greatest_payments [false, false] [dVar 1, dVar 2]]) (dCl (n1 fRepr) [dVar 4])))
      (dsNx)))))))))))
def f__law_base_right : Fn := runF 12 d__law_base_right
def d__law_right : DenS := dsSeq (dsAsg (tgName 1 false) (dCall 3 f__law_case [true, false, false] [dVar 0, dCst (.int 4), dCall 2 f__law_pick [true, false] [dVar 0, dLst [dCst (.int 1), dCst (.int 3), dCst (.int 9)]]]))
      (dsSeq (dsIf (dBin bIsN (dCall 1 f__law_ring [false] [dVar 1]) (dCst .non)) (dsSeq (dsRet (dBin bEq (dCall 1 f_ring [false] [dVar 1]) (dCall 1 f__law_ring [false] [dVar 1])))
      (dsNx)) (dsNx))
      (dsSeq (dsPar2 2 3 false false [dCl (n1 fLen) [dBin bIdx (dVar 1) (dCst (.int 1))], dCl (n1 fRepr) [dVar 1]])
      (dsSeq (dsFor (itRng rng1 [dVar 2]) (tgName 4 false) (dsSeq (dsFor (itRng rng1 [dVar 2]) (tgName 5 false) (dsSeq (dsAsg (tgName 6 false) (dTup [dBin bSub (dCst (.int 0)) (dCall 3 f__law_far [false, false, false] [dVar 1, dVar 5, dVar 4]), dCall 3 f__law_far [false, false, false] [dVar 1, dVar 4, dVar 5]]))
      (dsSeq (dsIf (dOr (dBin bNe (dRepL [dCall 3 f_span [false, false, false] [dVar 1, dVar 4, dVar 5], dCallK 3 f_span [2, 1, 0] [false, false, false] [] [dVar 5, dVar 4, dVar 1]]) (dRepL [dVar 6, dVar 6])) (dBin bGt (dBin bIdx (dVar 6) (dCst (.int 0))) (dBin bIdx (dVar 6) (dCst (.int 1))))) (dsSeq (dsRet (dCst (.bl false)))
      (dsNx)) (dsNx))
      (dsSeq (dsIf (dAnd (dBin bEq (dBin bIdx (dBin bIdx (dVar 1) (dCst (.int 1))) (dVar 4)) (dBin bIdx (dBin bIdx (dVar 1) (dCst (.int 1))) (dVar 5))) (dBin bNe (dVar 6) (dTup [dCst (.int 0), dCst (.int 0)]))) (dsSeq (dsRet (dCst (.bl false)))
      (dsNx)) (dsNx))
      (dsSeq (dsAsg (tgName 7 false) (dCall 2 f_greatest_payments [false, false] [dVar 1, dCall 2 f__law_draw [true, false] [dVar 0, dVar 2]]))
      (dsSeq (dsIf (dNot (dChain bLe bLe (dBin bIdx (dVar 6) (dCst (.int 0))) (dBin bSub (dBin bIdx (dVar 7) (dVar 4)) (dBin bIdx (dVar 7) (dVar 5))) (dBin bIdx (dVar 6) (dCst (.int 1))))) (dsSeq (dsRet (dCst (.bl false)))
      (dsNx)) (dsNx))
      (dsNx)))))))
      (dsNx)))
      (dsSeq (dsRet (dAnd (dCl (n1 fAll) [dComp (itRng rng1 [dVar 2]) (tgName 8 false) none (dCall 3 f__law_base_right [true, false, false] [dVar 0, dVar 1, dVar 8]) [8]]) (dBin bEq (dCl (n1 fRepr) [dVar 1]) (dVar 3))))
      (dsNx)))))
def f__law_right : Fn := runF 9 d__law_right
def d_law : DenS := dsSeq (dsRet (dCl (n1 fAll) [dComp (itRng rng1 [dCl (n2 fMax2) [dCst (.int 1), dCl (n2 fMin2) [dCst (.int 3), dCl (n1 fLen) [dVar 0]]]]) (tgName 1 false) none (dCall 1 f__law_right [true] [dCall 2 f__law_pot [false, false] [dVar 0, dVar 1]]) [1]]))
      (dsNx)
def f_law : Fn := runF 2 d_law
theorem S__law_pot : FnScope ["script", "k", "cell"] ["script", "k"] D__law_pot.scope := ⟨rfl, rfl, rfl, by decide +kernel, rfl, by decide +kernel, by decide +kernel⟩
theorem b__law_pot (kV doc pm : Value) (an : Option Addr) (cdv ct : Value) (us : List Value) (h : us.length = (["script", "k"] : List Str).length) : bindArgs (PySem.W.fnOf D__law_pot.name D__law_pot.qual D__law_pot.params D__law_pot.body D__law_pot.scope .none kV doc pm an cdv ct) ⟨us, []⟩ = pure ((["script", "k"] : List Str).zip us) := match us, h with | [_, _], _ => rfl
theorem c__law_pot {P : Program} {w : World} {K : Frag} {mg : Str → Option Value} {base : Heap} (fx : Fx K mg base) : CalG P w K mg base 1 "_law_pot" D__law_pot ["script", "k"] f__law_pot := by
  obtain ⟨a, fd, F, hm⟩ := fx.f__law_pot
  refine calG (D := D__law_pot) (N := ["script", "k", "cell"]) (k := 0) (d := d__law_pot) F hm S__law_pot fun cdv A outer s H hr hgd => ?_
  exact pss_d1 (ps_dset (n := 2) (mu := false) S__law_pot.nd rfl (.inl rfl) (.inl rfl) (pe_dbin o_add (pe_dbin o_mul (pe_dint) (pe_dvar (i := 1) rfl (.inl rfl) nd_k nc_k)) (pe_dint)) rfl)
      (pss_d1 (ps_dif (pt_dcmp o_lt (pe_dvar (i := 1) rfl (.inl rfl) nd_k nc_k) (pe_dcb c_len rfl fx.n_len bb_len (pa_d1 (pe_dvar (i := 0) rfl (.inl rfl) nd_script nc_script) (pa_d0)) (by decide) nd_len) rfl) (pss_d1 (ps_dset (n := 2) (mu := false) S__law_pot.nd rfl (.inl rfl) (.inl rfl) (pe_dcb c_abs rfl fx.n_abs bb_abs (pa_d1 (pe_dix (pe_dvar (i := 0) rfl (.inl rfl) nd_script nc_script) (pe_dvar (i := 1) rfl (.inl rfl) nd_k nc_k) (fun _ _ _ _ h => nomatch h)) (pa_d0)) (by decide) nd_abs) rfl)
      (pss_d0)) (pss_d0))
      (pss_d1 (ps_dret (pe_dlst (pa_d1 (pe_dcb (c_max2 rfl) rfl fx.n_max bb_max (pa_d1 (pe_dint) (pa_d1 (pe_dbin o_sub (pe_dvar (i := 2) rfl (.inl rfl) nd_cell nc_cell) (pe_dbin o_pow (pe_dint) (pe_dint))) (pa_d0))) (by decide) nd_max) (pa_d1 (pe_dbin o_add (pe_dbin o_mod (pe_dct c_int rfl fx.n_int bb_int (pa_d1 (pe_dbin o_add (pe_dbin o_add (pe_dbin o_mul (pe_dbin o_mod (pe_dct c_int rfl fx.n_int bb_int (pa_d1 (pe_dvar (i := 2) rfl (.inl rfl) nd_cell nc_cell) (pa_d0)) (by decide) nd_int) (pe_dint)) (pe_dint)) (pe_dbin o_mul (pe_dint) (pe_dvar (i := 1) rfl (.inl rfl) nd_k nc_k))) (pe_dint)) (pa_d0)) (by decide) nd_int) (pe_dint)) (pe_dint)) (pa_d0)))))
      (pss_d0)))
theorem S_is_integer : FnScope ["value"] ["value"] D_is_integer.scope := ⟨rfl, rfl, rfl, by decide +kernel, rfl, by decide +kernel, by decide +kernel⟩
theorem b_is_integer (kV doc pm : Value) (an : Option Addr) (cdv ct : Value) (us : List Value) (h : us.length = (["value"] : List Str).length) : bindArgs (PySem.W.fnOf D_is_integer.name D_is_integer.qual D_is_integer.params D_is_integer.body D_is_integer.scope .none kV doc pm an cdv ct) ⟨us, []⟩ = pure ((["value"] : List Str).zip us) := match us, h with | [_], _ => rfl
theorem c_is_integer {P : Program} {w : World} {K : Frag} {mg : Str → Option Value} {base : Heap} (fx : Fx K mg base) : CalG P w K mg base 1 "is_integer" D_is_integer ["value"] f_is_integer := by
  obtain ⟨a, fd, F, hm⟩ := fx.f_is_integer
  refine calG (D := D_is_integer) (N := ["value"]) (k := 0) (d := d_is_integer) F hm S_is_integer fun cdv A outer s H hr hgd => ?_
  exact pss_d1 (ps_dret (pe_dand (pe_disi rfl fx.n_isinstance rfl fx.n_int bb_int (by decide) nd_int (pe_dvar (i := 0) rfl (.inl rfl) nd_value nc_value) rfl) (pe_d1 (pe_dnot (pe_disi rfl fx.n_isinstance rfl fx.n_bool bb_bool (by decide) nd_bool (pe_dvar (i := 0) rfl (.inl rfl) nd_value nc_value) rfl)))))
      (pss_d0)
theorem S_is_within : FnScope ["value", "least", "most"] ["value", "least", "most"] D_is_within.scope := ⟨rfl, rfl, rfl, by decide +kernel, rfl, by decide +kernel, by decide +kernel⟩
theorem b_is_within (kV doc pm : Value) (an : Option Addr) (cdv ct : Value) (us : List Value) (h : us.length = (["value", "least", "most"] : List Str).length) : bindArgs (PySem.W.fnOf D_is_within.name D_is_within.qual D_is_within.params D_is_within.body D_is_within.scope .none kV doc pm an cdv ct) ⟨us, []⟩ = pure ((["value", "least", "most"] : List Str).zip us) := match us, h with | [_, _, _], _ => rfl
theorem c_is_within {P : Program} {w : World} {K : Frag} {mg : Str → Option Value} {base : Heap} (fx : Fx K mg base) : CalG P w K mg base 2 "is_within" D_is_within ["value", "least", "most"] f_is_within := by
  obtain ⟨a, fd, F, hm⟩ := fx.f_is_within
  refine calG (D := D_is_within) (N := ["value", "least", "most"]) (k := 1) (d := d_is_within) F hm S_is_within fun cdv A outer s H hr hgd => ?_
  exact pss_d1 (ps_dret (pe_dand (pe_gcall (mus := [false]) (c_is_integer fx) hr (by decide) hgd rfl rfl b_is_integer (pa_d1 (pe_dvar (i := 0) rfl (.inl rfl) nd_value nc_value) (pa_d0)) nd_is_integer) (pe_d1 (pe_dchain o_le o_le (pe_dvar (i := 1) rfl (.inl rfl) nd_least nc_least) (pe_dvar (i := 0) rfl (.inl rfl) nd_value nc_value) (pe_dvar (i := 2) rfl (.inl rfl) nd_most nc_most) rfl))))
      (pss_d0)
theorem S_is_list : FnScope ["value"] ["value"] D_is_list.scope := ⟨rfl, rfl, rfl, by decide +kernel, rfl, by decide +kernel, by decide +kernel⟩
theorem b_is_list (kV doc pm : Value) (an : Option Addr) (cdv ct : Value) (us : List Value) (h : us.length = (["value"] : List Str).length) : bindArgs (PySem.W.fnOf D_is_list.name D_is_list.qual D_is_list.params D_is_list.body D_is_list.scope .none kV doc pm an cdv ct) ⟨us, []⟩ = pure ((["value"] : List Str).zip us) := match us, h with | [_], _ => rfl
theorem c_is_list {P : Program} {w : World} {K : Frag} {mg : Str → Option Value} {base : Heap} (fx : Fx K mg base) : CalG P w K mg base 1 "is_list" D_is_list ["value"] f_is_list := by
  obtain ⟨a, fd, F, hm⟩ := fx.f_is_list
  refine calG (D := D_is_list) (N := ["value"]) (k := 0) (d := d_is_list) F hm S_is_list fun cdv A outer s H hr hgd => ?_
  exact pss_d1 (ps_dret (pe_disi2 rfl fx.n_isinstance rfl fx.n_list bb_list (by decide) nd_list rfl fx.n_tuple bb_tuple (by decide) nd_tuple (pe_dvar (i := 0) rfl (.inl rfl) nd_value nc_value) rfl))
      (pss_d0)
theorem S_are_worths_of : FnScope ["value", "row", "one"] ["value"] D_are_worths_of.scope := ⟨rfl, rfl, rfl, by decide +kernel, rfl, by decide +kernel, by decide +kernel⟩
theorem b_are_worths_of (kV doc pm : Value) (an : Option Addr) (cdv ct : Value) (us : List Value) (h : us.length = (["value"] : List Str).length) : bindArgs (PySem.W.fnOf D_are_worths_of.name D_are_worths_of.qual D_are_worths_of.params D_are_worths_of.body D_are_worths_of.scope .none kV doc pm an cdv ct) ⟨us, []⟩ = pure ((["value"] : List Str).zip us) := match us, h with | [_], _ => rfl
theorem c_are_worths_of {P : Program} {w : World} {K : Frag} {mg : Str → Option Value} {base : Heap} (fx : Fx K mg base) : CalG P w K mg base 3 "are_worths_of" D_are_worths_of ["value"] f_are_worths_of := by
  obtain ⟨a, fd, F, hm⟩ := fx.f_are_worths_of
  refine calG (D := D_are_worths_of) (N := ["value", "row", "one"]) (k := 2) (d := d_are_worths_of) F hm S_are_worths_of fun cdv A outer s H hr hgd => ?_
  exact pss_d1 (ps_dif (PW.pt (pw_dor (pt_dnot (pt_dval (pe_gcall (mus := [false]) (c_is_list fx) hr (by decide) hgd rfl rfl b_is_list (pa_d1 (pe_dvar (i := 0) rfl (.inr (.inl rfl)) nd_value nc_value) (pa_d0)) nd_is_list) (fun _ => rfl))) (pw_dor (pt_dnot (pt_dchain o_le o_le (pe_dint) (pe_dcb c_len rfl fx.n_len bb_len (pa_d1 (pe_dvar (i := 0) rfl (.inr (.inl rfl)) nd_value nc_value) (pa_d0)) (by decide) nd_len) (glInt rfl fx.i_MOST_SORTS nd_MOST_SORTS) rfl)) (pw_d1 (pt_dnot (pt_dval (pe_dcb (c_all rfl) rfl fx.n_all bb_all (pa_d1 (pe_dcomp (own := [("row", 1)]) (is := [1]) rfl S_are_worths_of.nd (pi_dseq (pe_dvar (i := 0) rfl (.inr (.inl rfl)) nd_value nc_value)) rfl (fun _ _ _ _ _ => pg_dname (n := 1) S_are_worths_of.nd rfl (.inl rfl) (.inr rfl)) (fun _ _ _ _ _ => pts_nil) (fun _ _ _ _ _ => pe_gcall (mus := [false]) (c_is_list fx) hr (by decide) hgd rfl rfl b_is_list (pa_d1 (pe_dvar (i := 1) rfl (.inl rfl) nd_row nc_row) (pa_d0)) nd_is_list) (fun _ => rfl) rfl) (pa_d0)) (by decide) nd_all) (fun _ => rfl))))))) (pss_d1 (ps_dret (pe_dbl))
      (pss_d0)) (pss_d0))
      (pss_d1 (ps_dif (PW.pt (pw_dor (pt_dnot (pt_dchain o_le o_le (pe_dint) (pe_dcb c_len rfl fx.n_len bb_len (pa_d1 (pe_dix (pe_dvar (i := 0) rfl (.inr (.inl rfl)) nd_value nc_value) (pe_dint) (fun _ _ _ _ h => nomatch h)) (pa_d0)) (by decide) nd_len) (glInt rfl fx.i_MOST_OUTCOMES nd_MOST_OUTCOMES) rfl)) (pw_d1 (pt_dnot (pt_dval (pe_dcb (c_all rfl) rfl fx.n_all bb_all (pa_d1 (pe_dcomp (own := [("row", 1)]) (is := [1]) rfl S_are_worths_of.nd (pi_dseq (pe_dvar (i := 0) rfl (.inr (.inl rfl)) nd_value nc_value)) rfl (fun _ _ _ _ _ => pg_dname (n := 1) S_are_worths_of.nd rfl (.inl rfl) (.inr rfl)) (fun _ _ _ _ _ => pts_nil) (fun _ _ _ _ _ => pe_dcmp (o_eq hr.units) (pe_dcb c_len rfl fx.n_len bb_len (pa_d1 (pe_dvar (i := 1) rfl (.inl rfl) nd_row nc_row) (pa_d0)) (by decide) nd_len) (pe_dcb c_len rfl fx.n_len bb_len (pa_d1 (pe_dix (pe_dvar (i := 0) rfl (.inr (.inl rfl)) nd_value nc_value) (pe_dint) (fun _ _ _ _ h => nomatch h)) (pa_d0)) (by decide) nd_len) rfl) (fun _ => rfl) rfl) (pa_d0)) (by decide) nd_all) (fun _ => rfl)))))) (pss_d1 (ps_dret (pe_dbl))
      (pss_d0)) (pss_d0))
      (pss_d1 (ps_dret (pe_dcb (c_all rfl) rfl fx.n_all bb_all (pa_d1 (pe_dcomp (own := [("row", 1)]) (is := [1]) rfl S_are_worths_of.nd (pi_dseq (pe_dvar (i := 0) rfl (.inr (.inl rfl)) nd_value nc_value)) rfl (fun _ _ _ _ _ => pg_dname (n := 1) S_are_worths_of.nd rfl (.inl rfl) (.inr rfl)) (fun _ _ _ _ _ => pts_nil) (fun _ _ _ _ _ => pe_dcb (c_all rfl) rfl fx.n_all bb_all (pa_d1 (pe_dcomp (own := [("one", 2)]) (is := [2]) rfl S_are_worths_of.nd (pi_dseq (pe_dvar (i := 1) rfl (.inl rfl) nd_row nc_row)) rfl (fun _ _ _ _ _ => pg_dname (n := 2) S_are_worths_of.nd rfl (.inl rfl) (.inr rfl)) (fun _ _ _ _ _ => pts_nil) (fun _ _ _ _ _ => pe_gcall (mus := [false, false, false]) (c_is_within fx) hr (by decide) hgd rfl rfl b_is_within (pa_d1 (pe_dvar (i := 2) rfl (.inl rfl) nd_one nc_one) (pa_d1 (pe_dbin o_sub (pe_dint) (glInt rfl fx.i_MOST_WORTH nd_MOST_WORTH)) (pa_d1 (glInt rfl fx.i_MOST_WORTH nd_MOST_WORTH) (pa_d0)))) nd_is_within) (fun _ => rfl) rfl) (pa_d0)) (by decide) nd_all) (fun _ => rfl) rfl) (pa_d0)) (by decide) nd_all))
      (pss_d0)))
theorem S_is_case_of : FnScope ["value", "many", "one"] ["value"] D_is_case_of.scope := ⟨rfl, rfl, rfl, by decide +kernel, rfl, by decide +kernel, by decide +kernel⟩
theorem b_is_case_of (kV doc pm : Value) (an : Option Addr) (cdv ct : Value) (us : List Value) (h : us.length = (["value"] : List Str).length) : bindArgs (PySem.W.fnOf D_is_case_of.name D_is_case_of.qual D_is_case_of.params D_is_case_of.body D_is_case_of.scope .none kV doc pm an cdv ct) ⟨us, []⟩ = pure ((["value"] : List Str).zip us) := match us, h with | [_], _ => rfl
theorem c_is_case_of {P : Program} {w : World} {K : Frag} {mg : Str → Option Value} {base : Heap} (fx : Fx K mg base) : CalG P w K mg base 4 "is_case_of" D_is_case_of ["value"] f_is_case_of := by
  obtain ⟨a, fd, F, hm⟩ := fx.f_is_case_of
  refine calG (D := D_is_case_of) (N := ["value", "many", "one"]) (k := 3) (d := d_is_case_of) F hm S_is_case_of fun cdv A outer s H hr hgd => ?_
  exact pss_d1 (ps_dif (PW.pt (pw_dor (pt_dnot (pt_dval (pe_disi rfl fx.n_isinstance rfl fx.n_tuple bb_tuple (by decide) nd_tuple (pe_dvar (i := 0) rfl (.inl rfl) nd_value nc_value) rfl) (fun _ => rfl))) (pw_dor (pt_dcmp (o_ne hr.units) (pe_dcb c_len rfl fx.n_len bb_len (pa_d1 (pe_dvar (i := 0) rfl (.inl rfl) nd_value nc_value) (pa_d0)) (by decide) nd_len) (pe_dint) rfl) (pw_dor (pt_dnot (pt_dval (pe_gcall (mus := [false]) (c_are_worths_of fx) hr (by decide) hgd rfl rfl b_are_worths_of (pa_d1 (pe_dix (pe_dvar (i := 0) rfl (.inl rfl) nd_value nc_value) (pe_dint) (fun _ _ _ _ h => nomatch h)) (pa_d0)) nd_are_worths_of) (fun _ => rfl))) (pw_d1 (pt_dnot (pt_dval (pe_gcall (mus := [false]) (c_is_list fx) hr (by decide) hgd rfl rfl b_is_list (pa_d1 (pe_dix (pe_dvar (i := 0) rfl (.inl rfl) nd_value nc_value) (pe_dint) (fun _ _ _ _ h => nomatch h)) (pa_d0)) nd_is_list) (fun _ => rfl)))))))) (pss_d1 (ps_dret (pe_dbl))
      (pss_d0)) (pss_d0))
      (pss_d1 (ps_dset (n := 1) (mu := false) S_is_case_of.nd rfl (.inr rfl) (.inl rfl) (pe_dcb c_len rfl fx.n_len bb_len (pa_d1 (pe_dix (pe_dix (pe_dvar (i := 0) rfl (.inl rfl) nd_value nc_value) (pe_dint) (fun _ _ _ _ h => nomatch h)) (pe_dint) (fun _ _ _ _ h => nomatch h)) (pa_d0)) (by decide) nd_len) rfl)
      (pss_d1 (ps_dret (pe_dand (pe_dcmp (o_eq hr.units) (pe_dcb c_len rfl fx.n_len bb_len (pa_d1 (pe_dix (pe_dvar (i := 0) rfl (.inl rfl) nd_value nc_value) (pe_dint) (fun _ _ _ _ h => nomatch h)) (pa_d0)) (by decide) nd_len) (pe_dcb c_len rfl fx.n_len bb_len (pa_d1 (pe_dix (pe_dvar (i := 0) rfl (.inl rfl) nd_value nc_value) (pe_dint) (fun _ _ _ _ h => nomatch h)) (pa_d0)) (by decide) nd_len) rfl) (pe_d1 (pe_dcb (c_all rfl) rfl fx.n_all bb_all (pa_d1 (pe_dcomp (own := [("one", 2)]) (is := [2]) rfl S_is_case_of.nd (pi_dseq (pe_dix (pe_dvar (i := 0) rfl (.inl rfl) nd_value nc_value) (pe_dint) (fun _ _ _ _ h => nomatch h))) rfl (fun _ _ _ _ _ => pg_dname (n := 2) S_is_case_of.nd rfl (.inl rfl) (.inr rfl)) (fun _ _ _ _ _ => pts_nil) (fun _ _ _ _ _ => pe_gcall (mus := [false, false, false]) (c_is_within fx) hr (by decide) hgd rfl rfl b_is_within (pa_d1 (pe_dvar (i := 2) rfl (.inl rfl) nd_one nc_one) (pa_d1 (pe_dint) (pa_d1 (pe_dbin o_sub (pe_dvar (i := 1) rfl (.inr (.inl rfl)) nd_many nc_many) (pe_dint)) (pa_d0)))) nd_is_within) (fun _ => rfl) rfl) (pa_d0)) (by decide) nd_all))))
      (pss_d0)))
theorem S_check_case : FnScope ["value"] ["value"] D_check_case.scope := ⟨rfl, rfl, rfl, by decide +kernel, rfl, by decide +kernel, by decide +kernel⟩
theorem b_check_case (kV doc pm : Value) (an : Option Addr) (cdv ct : Value) (us : List Value) (h : us.length = (["value"] : List Str).length) : bindArgs (PySem.W.fnOf D_check_case.name D_check_case.qual D_check_case.params D_check_case.body D_check_case.scope .none kV doc pm an cdv ct) ⟨us, []⟩ = pure ((["value"] : List Str).zip us) := match us, h with | [_], _ => rfl
theorem c_check_case {P : Program} {w : World} {K : Frag} {mg : Str → Option Value} {base : Heap} (fx : Fx K mg base) : CalG P w K mg base 5 "check_case" D_check_case ["value"] f_check_case := by
  obtain ⟨a, fd, F, hm⟩ := fx.f_check_case
  refine calG (D := D_check_case) (N := ["value"]) (k := 4) (d := d_check_case) F hm S_check_case fun cdv A outer s H hr hgd => ?_
  exact pss_d1 (ps_dif (pt_dnot (pt_dval (pe_gcall (mus := [false]) (c_is_case_of fx) hr (by decide) hgd rfl rfl b_is_case_of (pa_d1 (pe_dvar (i := 0) rfl (.inl rfl) nd_value nc_value) (pa_d0)) nd_is_case_of) (fun _ => rfl))) (pss_d1 (ps_dno)
      (pss_d0)) (pss_d0))
      (pss_d0)
theorem S_check_sort : FnScope ["case", "value"] ["case", "value"] D_check_sort.scope := ⟨rfl, rfl, rfl, by decide +kernel, rfl, by decide +kernel, by decide +kernel⟩
theorem b_check_sort (kV doc pm : Value) (an : Option Addr) (cdv ct : Value) (us : List Value) (h : us.length = (["case", "value"] : List Str).length) : bindArgs (PySem.W.fnOf D_check_sort.name D_check_sort.qual D_check_sort.params D_check_sort.body D_check_sort.scope .none kV doc pm an cdv ct) ⟨us, []⟩ = pure ((["case", "value"] : List Str).zip us) := match us, h with | [_, _], _ => rfl
theorem c_check_sort {P : Program} {w : World} {K : Frag} {mg : Str → Option Value} {base : Heap} (fx : Fx K mg base) : CalG P w K mg base 3 "check_sort" D_check_sort ["case", "value"] f_check_sort := by
  obtain ⟨a, fd, F, hm⟩ := fx.f_check_sort
  refine calG (D := D_check_sort) (N := ["case", "value"]) (k := 2) (d := d_check_sort) F hm S_check_sort fun cdv A outer s H hr hgd => ?_
  exact pss_d1 (ps_dif (pt_dnot (pt_dval (pe_gcall (mus := [false, false, false]) (c_is_within fx) hr (by decide) hgd rfl rfl b_is_within (pa_d1 (pe_dvar (i := 1) rfl (.inl rfl) nd_value nc_value) (pa_d1 (pe_dint) (pa_d1 (pe_dbin o_sub (pe_dcb c_len rfl fx.n_len bb_len (pa_d1 (pe_dix (pe_dvar (i := 0) rfl (.inl rfl) nd_case nc_case) (pe_dint) (fun _ _ _ _ h => nomatch h)) (pa_d0)) (by decide) nd_len) (pe_dint)) (pa_d0)))) nd_is_within) (fun _ => rfl))) (pss_d1 (ps_dno)
      (pss_d0)) (pss_d0))
      (pss_d0)
theorem S_own_worth : FnScope ["case", "sort"] ["case", "sort"] D_own_worth.scope := ⟨rfl, rfl, rfl, by decide +kernel, rfl, by decide +kernel, by decide +kernel⟩
theorem b_own_worth (kV doc pm : Value) (an : Option Addr) (cdv ct : Value) (us : List Value) (h : us.length = (["case", "sort"] : List Str).length) : bindArgs (PySem.W.fnOf D_own_worth.name D_own_worth.qual D_own_worth.params D_own_worth.body D_own_worth.scope .none kV doc pm an cdv ct) ⟨us, []⟩ = pure ((["case", "sort"] : List Str).zip us) := match us, h with | [_, _], _ => rfl
theorem c_own_worth {P : Program} {w : World} {K : Frag} {mg : Str → Option Value} {base : Heap} (fx : Fx K mg base) : CalG P w K mg base 1 "own_worth" D_own_worth ["case", "sort"] f_own_worth := by
  obtain ⟨a, fd, F, hm⟩ := fx.f_own_worth
  refine calG (D := D_own_worth) (N := ["case", "sort"]) (k := 0) (d := d_own_worth) F hm S_own_worth fun cdv A outer s H hr hgd => ?_
  exact pss_d1 (ps_dret (pe_dix (pe_dix (pe_dix (pe_dvar (i := 0) rfl (.inl rfl) nd_case nc_case) (pe_dint) (fun _ _ _ _ h => nomatch h)) (pe_dvar (i := 1) rfl (.inl rfl) nd_sort nc_sort) (fun _ _ _ _ h => nomatch h)) (pe_dix (pe_dix (pe_dvar (i := 0) rfl (.inl rfl) nd_case nc_case) (pe_dint) (fun _ _ _ _ h => nomatch h)) (pe_dvar (i := 1) rfl (.inl rfl) nd_sort nc_sort) (fun _ _ _ _ h => nomatch h)) (fun _ _ _ _ h => nomatch h)))
      (pss_d0)
theorem S_loss : FnScope ["case", "one", "late"] ["case", "one", "late"] D_loss.scope := ⟨rfl, rfl, rfl, by decide +kernel, rfl, by decide +kernel, by decide +kernel⟩
theorem b_loss (kV doc pm : Value) (an : Option Addr) (cdv ct : Value) (us : List Value) (h : us.length = (["case", "one", "late"] : List Str).length) : bindArgs (PySem.W.fnOf D_loss.name D_loss.qual D_loss.params D_loss.body D_loss.scope .none kV doc pm an cdv ct) ⟨us, []⟩ = pure ((["case", "one", "late"] : List Str).zip us) := match us, h with | [_, _, _], _ => rfl
theorem c_loss {P : Program} {w : World} {K : Frag} {mg : Str → Option Value} {base : Heap} (fx : Fx K mg base) : CalG P w K mg base 2 "loss" D_loss ["case", "one", "late"] f_loss := by
  obtain ⟨a, fd, F, hm⟩ := fx.f_loss
  refine calG (D := D_loss) (N := ["case", "one", "late"]) (k := 1) (d := d_loss) F hm S_loss fun cdv A outer s H hr hgd => ?_
  exact pss_d1 (ps_dret (pe_dbin o_sub (pe_gcall (mus := [false, false]) (c_own_worth fx) hr (by decide) hgd rfl rfl b_own_worth (pa_d1 (pe_dvar (i := 0) rfl (.inl rfl) nd_case nc_case) (pa_d1 (pe_dvar (i := 1) rfl (.inl rfl) nd_one nc_one) (pa_d0))) nd_own_worth) (pe_dix (pe_dix (pe_dix (pe_dvar (i := 0) rfl (.inl rfl) nd_case nc_case) (pe_dint) (fun _ _ _ _ h => nomatch h)) (pe_dvar (i := 1) rfl (.inl rfl) nd_one nc_one) (fun _ _ _ _ h => nomatch h)) (pe_dix (pe_dix (pe_dvar (i := 0) rfl (.inl rfl) nd_case nc_case) (pe_dint) (fun _ _ _ _ h => nomatch h)) (pe_dvar (i := 2) rfl (.inl rfl) nd_late nc_late) (fun _ _ _ _ h => nomatch h)) (fun _ _ _ _ h => nomatch h))))
      (pss_d0)
theorem S_losses_round : FnScope ["case", "ring", "one", "late"] ["case", "ring"] D_losses_round.scope := ⟨rfl, rfl, rfl, by decide +kernel, rfl, by decide +kernel, by decide +kernel⟩
theorem b_losses_round (kV doc pm : Value) (an : Option Addr) (cdv ct : Value) (us : List Value) (h : us.length = (["case", "ring"] : List Str).length) : bindArgs (PySem.W.fnOf D_losses_round.name D_losses_round.qual D_losses_round.params D_losses_round.body D_losses_round.scope .none kV doc pm an cdv ct) ⟨us, []⟩ = pure ((["case", "ring"] : List Str).zip us) := match us, h with | [_, _], _ => rfl
theorem c_losses_round {P : Program} {w : World} {K : Frag} {mg : Str → Option Value} {base : Heap} (fx : Fx K mg base) : CalG P w K mg base 3 "losses_round" D_losses_round ["case", "ring"] f_losses_round := by
  obtain ⟨a, fd, F, hm⟩ := fx.f_losses_round
  refine calG (D := D_losses_round) (N := ["case", "ring", "one", "late"]) (k := 2) (d := d_losses_round) F hm S_losses_round fun cdv A outer s H hr hgd => ?_
  exact pss_d1 (ps_dret (pe_dcb (c_sum rfl) rfl fx.n_sum bb_sum (pa_d1 (pe_dcomp (own := [("one", 2), ("late", 3)]) (is := ([2] ++ ([3] ++ []))) rfl S_losses_round.nd (pi_dzip2 rfl fx.n_zip (pa_d1 (pe_dvar (i := 1) rfl (.inl rfl) nd_ring nc_ring) (pa_d1 (pe_dbin o_add (pe_dsli (pe_dvar (i := 1) rfl (.inl rfl) nd_ring nc_ring) (po_d1 (pe_dint)) po_d0) (pe_dsli (pe_dvar (i := 1) rfl (.inl rfl) nd_ring nc_ring) po_d0 (po_d1 (pe_dint)))) (pa_d0)))) rfl (fun _ _ _ _ _ => pg_dtup rfl (pgs_d1 (pg_dname (n := 2) S_losses_round.nd rfl (.inl rfl) (.inr rfl)) (pgs_d1 (pg_dname (n := 3) S_losses_round.nd rfl (.inl rfl) (.inr rfl)) (pgs_d0) rfl) rfl) rfl rfl) (fun _ _ _ _ _ => pts_nil) (fun _ _ _ _ _ => pe_gcall (mus := [false, false, false]) (c_loss fx) hr (by decide) hgd rfl rfl b_loss (pa_d1 (pe_dvar (i := 0) rfl (.inr (.inl rfl)) nd_case nc_case) (pa_d1 (pe_dvar (i := 2) rfl (.inl rfl) nd_one nc_one) (pa_d1 (pe_dvar (i := 3) rfl (.inl rfl) nd_late nc_late) (pa_d0)))) nd_loss) (fun _ => rfl) rfl) (pa_d0)) (by decide) nd_sum))
      (pss_d0)
theorem S_ring_of : FnScope ["case", "many", "lists", "turn", "later", "some", "sort"] ["case"] D_ring_of.scope := ⟨rfl, rfl, rfl, by decide +kernel, rfl, by decide +kernel, by decide +kernel⟩
theorem b_ring_of (kV doc pm : Value) (an : Option Addr) (cdv ct : Value) (us : List Value) (h : us.length = (["case"] : List Str).length) : bindArgs (PySem.W.fnOf D_ring_of.name D_ring_of.qual D_ring_of.params D_ring_of.body D_ring_of.scope .none kV doc pm an cdv ct) ⟨us, []⟩ = pure ((["case"] : List Str).zip us) := match us, h with | [_], _ => rfl
theorem c_ring_of {P : Program} {w : World} {K : Frag} {mg : Str → Option Value} {base : Heap} (fx : Fx K mg base) : CalG P w K mg base 4 "ring_of" D_ring_of ["case"] f_ring_of := by
  obtain ⟨a, fd, F, hm⟩ := fx.f_ring_of
  refine calG (D := D_ring_of) (N := ["case", "many", "lists", "turn", "later", "some", "sort"]) (k := 3) (d := d_ring_of) F hm S_ring_of fun cdv A outer s H hr hgd => ?_
  exact pss_d1 (ps_dset (n := 1) (mu := false) S_ring_of.nd rfl (.inl rfl) (.inl rfl) (pe_dcb c_len rfl fx.n_len bb_len (pa_d1 (pe_dix (pe_dvar (i := 0) rfl (.inl rfl) nd_case nc_case) (pe_dint) (fun _ _ _ _ h => nomatch h)) (pa_d0)) (by decide) nd_len) rfl)
      (pss_d1 (ps_dsetLc (i := 2) (mu := true) (own := [("sort", 6)]) (is := [6]) rfl S_ring_of.nd rfl rfl (sw_true rfl rfl rfl rfl) (pi_drng1 rfl fx.n_range (pa_d1 (pe_dvar (i := 1) rfl (.inl rfl) nd_many nc_many) (pa_d0))) rfl (fun _ _ _ _ _ => pg_dname (n := 6) S_ring_of.nd rfl (.inl rfl) (.inr rfl)) (fun _ _ _ _ _ => pts_nil) (fun _ _ _ _ _ => pe_dlst (pa_d1 (pe_dvar (i := 6) rfl (.inl rfl) nd_sort nc_sort) (pa_d0))) (fun _ => rfl) rfl)
      (pss_d1 (ps_dfor PassesOwn.never rfl (pi_drng2 rfl fx.n_range (pa_d1 (pe_dint) (pa_d1 (pe_dvar (i := 1) rfl (.inl rfl) nd_many nc_many) (pa_d0)))) (pg_dname (n := 3) S_ring_of.nd rfl (.inl rfl) (.inl rfl)) (pss_d1 (ps_dset (n := 4) (mu := true) S_ring_of.nd rfl (.inl rfl) (.inl rfl) (pe_dlst (pa_d0)) rfl)
      (pss_d1 (ps_dfor PassesOwn.never rfl (pi_dseq (pe_dvar (i := 2) rfl (.inl rfl) nd_lists nc_lists)) (pg_dname (n := 5) S_ring_of.nd rfl (.inr rfl) (.inl rfl)) (pss_d1 (ps_dexpr (pe_dext ⟨rfl, rfl, rfl⟩ (fun _ _ h => nomatch h) (pe_dvar (i := 4) rfl (.inl rfl) nd_later nc_later) (pe_dcomp (own := [("sort", 6)]) (is := [6]) rfl S_ring_of.nd (pi_drng1 rfl fx.n_range (pa_d1 (pe_dvar (i := 1) rfl (.inl rfl) nd_many nc_many) (pa_d0))) rfl (fun _ _ _ _ _ => pg_dname (n := 6) S_ring_of.nd rfl (.inl rfl) (.inr rfl)) (fun _ _ _ _ _ => pts_one (pt_dcmp (o_nin (Room.u65 hr)) (pe_dvar (i := 6) rfl (.inl rfl) nd_sort nc_sort) (pe_dvar (i := 5) rfl (.inr (.inl rfl)) nd_some nc_some) rfl)) (fun _ _ _ _ _ => pe_dbin o_add (pe_dvar (i := 5) rfl (.inr (.inl rfl)) nd_some nc_some) (pe_dlst (pa_d1 (pe_dvar (i := 6) rfl (.inl rfl) nd_sort nc_sort) (pa_d0)))) (fun _ => rfl) rfl)) rfl)
      (pss_d0)) (fun _ => rfl))
      (pss_d1 (ps_dfor PassesOwn.never rfl (pi_dseq (pe_dvar (i := 4) rfl (.inl rfl) nd_later nc_later)) (pg_dname (n := 5) S_ring_of.nd rfl (.inr rfl) (.inl rfl)) (pss_d1 (ps_dif (pt_dcmp o_lt (pe_gcall (mus := [false, false]) (c_losses_round fx) hr (by decide) hgd rfl rfl b_losses_round (pa_d1 (pe_dvar (i := 0) rfl (.inl rfl) nd_case nc_case) (pa_d1 (pe_dvar (i := 5) rfl (.inr (.inl rfl)) nd_some nc_some) (pa_d0))) nd_losses_round) (pe_dint) rfl) (pss_d1 (ps_dret (pe_dvar (i := 5) rfl (.inr (.inl rfl)) nd_some nc_some))
      (pss_d0)) (pss_d0))
      (pss_d0)) (fun _ => rfl))
      (pss_d1 (ps_dset (n := 2) (mu := true) S_ring_of.nd rfl (.inl rfl) (.inl rfl) (pe_dvar (i := 4) rfl (.inl rfl) nd_later nc_later) rfl)
      (pss_d0))))) (fun _ => rfl))
      (pss_d1 (ps_dret (pe_dnon))
      (pss_d0))))
theorem S_check_had : FnScope ["case", "found"] ["case"] D_check_had.scope := ⟨rfl, rfl, rfl, by decide +kernel, rfl, by decide +kernel, by decide +kernel⟩
theorem b_check_had (kV doc pm : Value) (an : Option Addr) (cdv ct : Value) (us : List Value) (h : us.length = (["case"] : List Str).length) : bindArgs (PySem.W.fnOf D_check_had.name D_check_had.qual D_check_had.params D_check_had.body D_check_had.scope .none kV doc pm an cdv ct) ⟨us, []⟩ = pure ((["case"] : List Str).zip us) := match us, h with | [_], _ => rfl
theorem c_check_had {P : Program} {w : World} {K : Frag} {mg : Str → Option Value} {base : Heap} (fx : Fx K mg base) : CalG P w K mg base 5 "check_had" D_check_had ["case"] f_check_had := by
  obtain ⟨a, fd, F, hm⟩ := fx.f_check_had
  refine calG (D := D_check_had) (N := ["case", "found"]) (k := 4) (d := d_check_had) F hm S_check_had fun cdv A outer s H hr hgd => ?_
  exact pss_d1 (ps_dset (n := 1) (mu := false) S_check_had.nd rfl (.inl rfl) (.inl rfl) (pe_gcall (mus := [false]) (c_ring_of fx) hr (by decide) hgd rfl rfl b_ring_of (pa_d1 (pe_dvar (i := 0) rfl (.inl rfl) nd_case nc_case) (pa_d0)) nd_ring_of) rfl)
      (pss_d1 (ps_dif (pt_dcmp o_isn (pe_dvar (i := 1) rfl (.inl rfl) nd_found nc_found) (pe_dnon) rfl) (pss_d1 (ps_dno)
      (pss_d0)) (pss_d0))
      (pss_d0))
theorem S_least_sums : FnScope ["case", "many", "found", "middle", "one", "row", "late"] ["case"] D_least_sums.scope := ⟨rfl, rfl, rfl, by decide +kernel, rfl, by decide +kernel, by decide +kernel⟩
theorem b_least_sums (kV doc pm : Value) (an : Option Addr) (cdv ct : Value) (us : List Value) (h : us.length = (["case"] : List Str).length) : bindArgs (PySem.W.fnOf D_least_sums.name D_least_sums.qual D_least_sums.params D_least_sums.body D_least_sums.scope .none kV doc pm an cdv ct) ⟨us, []⟩ = pure ((["case"] : List Str).zip us) := match us, h with | [_], _ => rfl
theorem c_least_sums {P : Program} {w : World} {K : Frag} {mg : Str → Option Value} {base : Heap} (fx : Fx K mg base) : CalG P w K mg base 3 "least_sums" D_least_sums ["case"] f_least_sums := by
  obtain ⟨a, fd, F, hm⟩ := fx.f_least_sums
  refine calG (D := D_least_sums) (N := ["case", "many", "found", "middle", "one", "row", "late"]) (k := 2) (d := d_least_sums) F hm S_least_sums fun cdv A outer s H hr hgd => ?_
  exact pss_d1 (ps_dset (n := 1) (mu := false) S_least_sums.nd rfl (.inr rfl) (.inl rfl) (pe_dcb c_len rfl fx.n_len bb_len (pa_d1 (pe_dix (pe_dvar (i := 0) rfl (.inr (.inl rfl)) nd_case nc_case) (pe_dint) (fun _ _ _ _ h => nomatch h)) (pa_d0)) (by decide) nd_len) rfl)
      (pss_d1 (ps_dset (n := 2) (mu := true) S_least_sums.nd rfl (.inr rfl) (.inl rfl) (pe_dcomp (own := [("one", 4)]) (is := [4]) rfl S_least_sums.nd (pi_drng1 rfl fx.n_range (pa_d1 (pe_dvar (i := 1) rfl (.inr (.inl rfl)) nd_many nc_many) (pa_d0))) rfl (fun _ _ _ _ _ => pg_dname (n := 4) S_least_sums.nd rfl (.inr rfl) (.inl rfl)) (fun _ _ _ _ _ => pts_nil) (fun _ _ _ _ _ => pe_dcomp (own := [("late", 6)]) (is := [6]) rfl S_least_sums.nd (pi_drng1 rfl fx.n_range (pa_d1 (pe_dvar (i := 1) rfl (.inr (.inl rfl)) nd_many nc_many) (pa_d0))) rfl (fun _ _ _ _ _ => pg_dname (n := 6) S_least_sums.nd rfl (.inl rfl) (.inr rfl)) (fun _ _ _ _ _ => pts_nil) (fun _ _ _ _ _ => pe_dite (pt_dcmp (o_eq hr.units) (pe_dvar (i := 4) rfl (.inr (.inl rfl)) nd_one nc_one) (pe_dvar (i := 6) rfl (.inl rfl) nd_late nc_late) rfl) (pe_dint) (pe_gcall (mus := [false, false, false]) (c_loss fx) hr (by decide) hgd rfl rfl b_loss (pa_d1 (pe_dvar (i := 0) rfl (.inr (.inl rfl)) nd_case nc_case) (pa_d1 (pe_dvar (i := 4) rfl (.inr (.inl rfl)) nd_one nc_one) (pa_d1 (pe_dvar (i := 6) rfl (.inl rfl) nd_late nc_late) (pa_d0)))) nd_loss)) (fun _ => rfl) rfl) (fun _ => rfl) rfl) rfl)
      (pss_d1 (ps_dfor PassesOwn.never rfl (pi_drng1 rfl fx.n_range (pa_d1 (pe_dvar (i := 1) rfl (.inr (.inl rfl)) nd_many nc_many) (pa_d0))) (pg_dname (n := 3) S_least_sums.nd rfl (.inr rfl) (.inl rfl)) (pss_d1 (ps_dfor PassesOwn.never rfl (pi_drng1 rfl fx.n_range (pa_d1 (pe_dvar (i := 1) rfl (.inr (.inl rfl)) nd_many nc_many) (pa_d0))) (pg_dname (n := 4) S_least_sums.nd rfl (.inl rfl) (.inl rfl)) (pss_d1 (ps_dset (n := 5) (mu := false) S_least_sums.nd rfl (.inr rfl) (.inl rfl) (pe_dix (pe_dvar (i := 2) rfl (.inr (.inl rfl)) nd_found nc_found) (pe_dvar (i := 4) rfl (.inl rfl) nd_one nc_one) (fun _ _ _ _ h => nomatch h)) rfl)
      (pss_d1 (ps_dasg (is := []) (pe_dcomp (own := [("late", 6)]) (is := [6]) rfl S_least_sums.nd (pi_drng1 rfl fx.n_range (pa_d1 (pe_dvar (i := 1) rfl (.inr (.inl rfl)) nd_many nc_many) (pa_d0))) rfl (fun _ _ _ _ _ => pg_dname (n := 6) S_least_sums.nd rfl (.inl rfl) (.inr rfl)) (fun _ _ _ _ _ => pts_nil) (fun _ _ _ _ _ => pe_dcb (c_min2 rfl) rfl fx.n_min bb_min (pa_d1 (pe_dix (pe_dvar (i := 5) rfl (.inr (.inl rfl)) nd_row nc_row) (pe_dvar (i := 6) rfl (.inl rfl) nd_late nc_late) (fun _ _ _ _ h => nomatch h)) (pa_d1 (pe_dbin o_add (pe_dix (pe_dvar (i := 5) rfl (.inr (.inl rfl)) nd_row nc_row) (pe_dvar (i := 3) rfl (.inr (.inl rfl)) nd_middle nc_middle) (fun _ _ _ _ h => nomatch h)) (pe_dix (pe_dix (pe_dvar (i := 2) rfl (.inr (.inl rfl)) nd_found nc_found) (pe_dvar (i := 3) rfl (.inr (.inl rfl)) nd_middle nc_middle) (fun _ _ _ _ h => nomatch h)) (pe_dvar (i := 6) rfl (.inl rfl) nd_late nc_late) (fun _ _ _ _ h => nomatch h))) (pa_d0))) (by decide) nd_min) (fun _ => rfl) rfl) (pg_dsub (pe_dvar (i := 2) rfl (.inr (.inl rfl)) nd_found nc_found) (pe_dvar (i := 4) rfl (.inl rfl) nd_one nc_one) (fun _ => rfl)) rfl rfl rfl)
      (pss_d0))) (fun _ => rfl))
      (pss_d0)) (fun _ => rfl))
      (pss_d1 (ps_dret (pe_dvar (i := 2) rfl (.inr (.inl rfl)) nd_found nc_found))
      (pss_d0))))
theorem S_span : FnScope ["case", "one", "late", "sums"] ["case", "one", "late"] D_span.scope := ⟨rfl, rfl, rfl, by decide +kernel, rfl, by decide +kernel, by decide +kernel⟩
theorem b_span (kV doc pm : Value) (an : Option Addr) (cdv ct : Value) (us : List Value) (h : us.length = (["case", "one", "late"] : List Str).length) : bindArgs (PySem.W.fnOf D_span.name D_span.qual D_span.params D_span.body D_span.scope .none kV doc pm an cdv ct) ⟨us, []⟩ = pure ((["case", "one", "late"] : List Str).zip us) := match us, h with | [_, _, _], _ => rfl
theorem k_span_0_late_one_case (kV doc pm : Value) (an : Option Addr) (cdv ct : Value) (ws : List Value) (h2 : ws.length = 3) : bindArgs (PySem.W.fnOf D_span.name D_span.qual D_span.params D_span.body D_span.scope .none kV doc pm an cdv ct) ⟨[], (["late", "one", "case"] : List Str).zip ws⟩ = pure ((["case", "one", "late"] : List Str).zip (permL [2, 1, 0] ws)) := match ws, h2 with | [_, _, _], _ => rfl
theorem c_span {P : Program} {w : World} {K : Frag} {mg : Str → Option Value} {base : Heap} (fx : Fx K mg base) : CalG P w K mg base 6 "span" D_span ["case", "one", "late"] f_span := by
  obtain ⟨a, fd, F, hm⟩ := fx.f_span
  refine calG (D := D_span) (N := ["case", "one", "late", "sums"]) (k := 5) (d := d_span) F hm S_span fun cdv A outer s H hr hgd => ?_
  exact pss_d1 (ps_dexpr (pe_gcall (mus := [false]) (c_check_case fx) hr (by decide) hgd rfl rfl b_check_case (pa_d1 (pe_dvar (i := 0) rfl (.inl rfl) nd_case nc_case) (pa_d0)) nd_check_case) rfl)
      (pss_d1 (ps_dexpr (pe_gcall (mus := [false, false]) (c_check_sort fx) hr (by decide) hgd rfl rfl b_check_sort (pa_d1 (pe_dvar (i := 0) rfl (.inl rfl) nd_case nc_case) (pa_d1 (pe_dvar (i := 1) rfl (.inl rfl) nd_one nc_one) (pa_d0))) nd_check_sort) rfl)
      (pss_d1 (ps_dexpr (pe_gcall (mus := [false, false]) (c_check_sort fx) hr (by decide) hgd rfl rfl b_check_sort (pa_d1 (pe_dvar (i := 0) rfl (.inl rfl) nd_case nc_case) (pa_d1 (pe_dvar (i := 2) rfl (.inl rfl) nd_late nc_late) (pa_d0))) nd_check_sort) rfl)
      (pss_d1 (ps_dexpr (pe_gcall (mus := [false]) (c_check_had fx) hr (by decide) hgd rfl rfl b_check_had (pa_d1 (pe_dvar (i := 0) rfl (.inl rfl) nd_case nc_case) (pa_d0)) nd_check_had) rfl)
      (pss_d1 (ps_dset (n := 3) (mu := false) S_span.nd rfl (.inl rfl) (.inl rfl) (pe_gcall (mus := [false]) (c_least_sums fx) hr (by decide) hgd rfl rfl b_least_sums (pa_d1 (pe_dvar (i := 0) rfl (.inl rfl) nd_case nc_case) (pa_d0)) nd_least_sums) rfl)
      (pss_d1 (ps_dret (pe_dtup (pa_d1 (pe_dbin o_sub (pe_dint) (pe_dix (pe_dix (pe_dvar (i := 3) rfl (.inl rfl) nd_sums nc_sums) (pe_dvar (i := 2) rfl (.inl rfl) nd_late nc_late) (fun _ _ _ _ h => nomatch h)) (pe_dvar (i := 1) rfl (.inl rfl) nd_one nc_one) (fun _ _ _ _ h => nomatch h))) (pa_d1 (pe_dix (pe_dix (pe_dvar (i := 3) rfl (.inl rfl) nd_sums nc_sums) (pe_dvar (i := 1) rfl (.inl rfl) nd_one nc_one) (fun _ _ _ _ h => nomatch h)) (pe_dvar (i := 2) rfl (.inl rfl) nd_late nc_late) (fun _ _ _ _ h => nomatch h)) (pa_d0)))))
      (pss_d0))))))
theorem S_greatest_payments : FnScope ["case", "base", "row"] ["case", "base"] D_greatest_payments.scope := ⟨rfl, rfl, rfl, by decide +kernel, rfl, by decide +kernel, by decide +kernel⟩
theorem b_greatest_payments (kV doc pm : Value) (an : Option Addr) (cdv ct : Value) (us : List Value) (h : us.length = (["case", "base"] : List Str).length) : bindArgs (PySem.W.fnOf D_greatest_payments.name D_greatest_payments.qual D_greatest_payments.params D_greatest_payments.body D_greatest_payments.scope .none kV doc pm an cdv ct) ⟨us, []⟩ = pure ((["case", "base"] : List Str).zip us) := match us, h with | [_, _], _ => rfl
theorem k_greatest_payments_0_base_case (kV doc pm : Value) (an : Option Addr) (cdv ct : Value) (ws : List Value) (h2 : ws.length = 2) : bindArgs (PySem.W.fnOf D_greatest_payments.name D_greatest_payments.qual D_greatest_payments.params D_greatest_payments.body D_greatest_payments.scope .none kV doc pm an cdv ct) ⟨[], (["base", "case"] : List Str).zip ws⟩ = pure ((["case", "base"] : List Str).zip (permL [1, 0] ws)) := match ws, h2 with | [_, _], _ => rfl
theorem c_greatest_payments {P : Program} {w : World} {K : Frag} {mg : Str → Option Value} {base : Heap} (fx : Fx K mg base) : CalG P w K mg base 6 "greatest_payments" D_greatest_payments ["case", "base"] f_greatest_payments := by
  obtain ⟨a, fd, F, hm⟩ := fx.f_greatest_payments
  refine calG (D := D_greatest_payments) (N := ["case", "base", "row"]) (k := 5) (d := d_greatest_payments) F hm S_greatest_payments fun cdv A outer s H hr hgd => ?_
  exact pss_d1 (ps_dexpr (pe_gcall (mus := [false]) (c_check_case fx) hr (by decide) hgd rfl rfl b_check_case (pa_d1 (pe_dvar (i := 0) rfl (.inl rfl) nd_case nc_case) (pa_d0)) nd_check_case) rfl)
      (pss_d1 (ps_dexpr (pe_gcall (mus := [false, false]) (c_check_sort fx) hr (by decide) hgd rfl rfl b_check_sort (pa_d1 (pe_dvar (i := 0) rfl (.inl rfl) nd_case nc_case) (pa_d1 (pe_dvar (i := 1) rfl (.inr (.inl rfl)) nd_base nc_base) (pa_d0))) nd_check_sort) rfl)
      (pss_d1 (ps_dexpr (pe_gcall (mus := [false]) (c_check_had fx) hr (by decide) hgd rfl rfl b_check_had (pa_d1 (pe_dvar (i := 0) rfl (.inl rfl) nd_case nc_case) (pa_d0)) nd_check_had) rfl)
      (pss_d1 (ps_dret (pe_dcomp (own := [("row", 2)]) (is := [2]) rfl S_greatest_payments.nd (pi_dseq (pe_gcall (mus := [false]) (c_least_sums fx) hr (by decide) hgd rfl rfl b_least_sums (pa_d1 (pe_dvar (i := 0) rfl (.inl rfl) nd_case nc_case) (pa_d0)) nd_least_sums)) rfl (fun _ _ _ _ _ => pg_dname (n := 2) S_greatest_payments.nd rfl (.inl rfl) (.inr rfl)) (fun _ _ _ _ _ => pts_nil) (fun _ _ _ _ _ => pe_dix (pe_dvar (i := 2) rfl (.inl rfl) nd_row nc_row) (pe_dvar (i := 1) rfl (.inr (.inl rfl)) nd_base nc_base) (fun _ _ _ _ h => nomatch h)) (fun _ => rfl) rfl))
      (pss_d0))))
theorem S_ring : FnScope ["case"] ["case"] D_ring.scope := ⟨rfl, rfl, rfl, by decide +kernel, rfl, by decide +kernel, by decide +kernel⟩
theorem b_ring (kV doc pm : Value) (an : Option Addr) (cdv ct : Value) (us : List Value) (h : us.length = (["case"] : List Str).length) : bindArgs (PySem.W.fnOf D_ring.name D_ring.qual D_ring.params D_ring.body D_ring.scope .none kV doc pm an cdv ct) ⟨us, []⟩ = pure ((["case"] : List Str).zip us) := match us, h with | [_], _ => rfl
theorem c_ring {P : Program} {w : World} {K : Frag} {mg : Str → Option Value} {base : Heap} (fx : Fx K mg base) : CalG P w K mg base 6 "ring" D_ring ["case"] f_ring := by
  obtain ⟨a, fd, F, hm⟩ := fx.f_ring
  refine calG (D := D_ring) (N := ["case"]) (k := 5) (d := d_ring) F hm S_ring fun cdv A outer s H hr hgd => ?_
  exact pss_d1 (ps_dexpr (pe_gcall (mus := [false]) (c_check_case fx) hr (by decide) hgd rfl rfl b_check_case (pa_d1 (pe_dvar (i := 0) rfl (.inl rfl) nd_case nc_case) (pa_d0)) nd_check_case) rfl)
      (pss_d1 (ps_dret (pe_gcall (mus := [false]) (c_ring_of fx) hr (by decide) hgd rfl rfl b_ring_of (pa_d1 (pe_dvar (i := 0) rfl (.inl rfl) nd_case nc_case) (pa_d0)) nd_ring_of))
      (pss_d0))
theorem S__law_draw : FnScope ["pot", "many", "digit"] ["pot", "many"] D__law_draw.scope := ⟨rfl, rfl, rfl, by decide +kernel, rfl, by decide +kernel, by decide +kernel⟩
theorem b__law_draw (kV doc pm : Value) (an : Option Addr) (cdv ct : Value) (us : List Value) (h : us.length = (["pot", "many"] : List Str).length) : bindArgs (PySem.W.fnOf D__law_draw.name D__law_draw.qual D__law_draw.params D__law_draw.body D__law_draw.scope .none kV doc pm an cdv ct) ⟨us, []⟩ = pure ((["pot", "many"] : List Str).zip us) := match us, h with | [_, _], _ => rfl
theorem c__law_draw {P : Program} {w : World} {K : Frag} {mg : Str → Option Value} {base : Heap} (fx : Fx K mg base) : CalG P w K mg base 1 "_law_draw" D__law_draw ["pot", "many"] f__law_draw := by
  obtain ⟨a, fd, F, hm⟩ := fx.f__law_draw
  refine calG (D := D__law_draw) (N := ["pot", "many", "digit"]) (k := 0) (d := d__law_draw) F hm S__law_draw fun cdv A outer s H hr hgd => ?_
  exact pss_d1 (ps_dif (pt_dcmp o_gt (pe_dix (pe_dvar (i := 0) rfl (.inl rfl) nd_pot nc_pot) (pe_dint) (fun _ _ _ _ h => nomatch h)) (pe_dint) rfl) (pss_d1 (ps_dasg (is := ([] ++ ([2] ++ []))) (pe_dcb c_dm rfl fx.n_divmod bb_divmod (pa_d1 (pe_dix (pe_dvar (i := 0) rfl (.inl rfl) nd_pot nc_pot) (pe_dint) (fun _ _ _ _ h => nomatch h)) (pa_d1 (pe_dvar (i := 1) rfl (.inl rfl) nd_many nc_many) (pa_d0))) (by decide) nd_divmod) (pg_dtup rfl (pgs_d1 (pg_dsub (pe_dvar (i := 0) rfl (.inl rfl) nd_pot nc_pot) (pe_dint) (fun _ => rfl)) (pgs_d1 (pg_dname (n := 2) S__law_draw.nd rfl (.inl rfl) (.inl rfl)) (pgs_d0) rfl) rfl) rfl rfl) rfl rfl rfl)
      (pss_d1 (ps_dret (pe_dvar (i := 2) rfl (.inl rfl) nd_digit nc_digit))
      (pss_d0))) (pss_d0))
      (pss_d1 (ps_dasg (is := []) (pe_dbin o_mod (pe_dct c_int rfl fx.n_int bb_int (pa_d1 (pe_dbin o_add (pe_dbin o_mul (pe_dix (pe_dvar (i := 0) rfl (.inl rfl) nd_pot nc_pot) (pe_dint) (fun _ _ _ _ h => nomatch h)) (pe_dint)) (pe_dint)) (pa_d0)) (by decide) nd_int) (pe_dint)) (pg_dsub (pe_dvar (i := 0) rfl (.inl rfl) nd_pot nc_pot) (pe_dint) (fun _ => rfl)) rfl rfl rfl)
      (pss_d1 (ps_dret (pe_dbin o_mod (pe_dct c_int rfl fx.n_int bb_int (pa_d1 (pe_dbin o_div (pe_dbin o_mod (pe_dct c_int rfl fx.n_int bb_int (pa_d1 (pe_dbin o_mul (pe_dix (pe_dvar (i := 0) rfl (.inl rfl) nd_pot nc_pot) (pe_dint) (fun _ _ _ _ h => nomatch h)) (pe_dix (pe_dvar (i := 0) rfl (.inl rfl) nd_pot nc_pot) (pe_dint) (fun _ _ _ _ h => nomatch h))) (pa_d0)) (by decide) nd_int) (pe_dint)) (pe_dint)) (pa_d0)) (by decide) nd_int) (pe_dvar (i := 1) rfl (.inl rfl) nd_many nc_many)))
      (pss_d0)))
theorem S__law_pick : FnScope ["pot", "some"] ["pot", "some"] D__law_pick.scope := ⟨rfl, rfl, rfl, by decide +kernel, rfl, by decide +kernel, by decide +kernel⟩
theorem b__law_pick (kV doc pm : Value) (an : Option Addr) (cdv ct : Value) (us : List Value) (h : us.length = (["pot", "some"] : List Str).length) : bindArgs (PySem.W.fnOf D__law_pick.name D__law_pick.qual D__law_pick.params D__law_pick.body D__law_pick.scope .none kV doc pm an cdv ct) ⟨us, []⟩ = pure ((["pot", "some"] : List Str).zip us) := match us, h with | [_, _], _ => rfl
theorem c__law_pick {P : Program} {w : World} {K : Frag} {mg : Str → Option Value} {base : Heap} (fx : Fx K mg base) : CalG P w K mg base 2 "_law_pick" D__law_pick ["pot", "some"] f__law_pick := by
  obtain ⟨a, fd, F, hm⟩ := fx.f__law_pick
  refine calG (D := D__law_pick) (N := ["pot", "some"]) (k := 1) (d := d__law_pick) F hm S__law_pick fun cdv A outer s H hr hgd => ?_
  exact pss_d1 (ps_dret (pe_dix (pe_dvar (i := 1) rfl (.inl rfl) nd_some nc_some) (pe_gcall (mus := [true, false]) (c__law_draw fx) hr (by decide) hgd rfl rfl b__law_draw (pa_d1 (pe_dvar (i := 0) rfl (.inl rfl) nd_pot nc_pot) (pa_d1 (pe_dcb c_len rfl fx.n_len bb_len (pa_d1 (pe_dvar (i := 1) rfl (.inl rfl) nd_some nc_some) (pa_d0)) (by decide) nd_len) (pa_d0))) nd__law_draw) (fun _ _ _ _ h => nomatch h)))
      (pss_d0)
theorem S__law_case : FnScope ["pot", "most", "wide", "many", "outcomes", "worths", "rule", "numbers", "row", "sums", "sort", "outcome", "one", "number"] ["pot", "most", "wide"] D__law_case.scope := ⟨rfl, rfl, rfl, by decide +kernel, rfl, by decide +kernel, by decide +kernel⟩
theorem b__law_case (kV doc pm : Value) (an : Option Addr) (cdv ct : Value) (us : List Value) (h : us.length = (["pot", "most", "wide"] : List Str).length) : bindArgs (PySem.W.fnOf D__law_case.name D__law_case.qual D__law_case.params D__law_case.body D__law_case.scope .none kV doc pm an cdv ct) ⟨us, []⟩ = pure ((["pot", "most", "wide"] : List Str).zip us) := match us, h with | [_, _, _], _ => rfl
theorem c__law_case {P : Program} {w : World} {K : Frag} {mg : Str → Option Value} {base : Heap} (fx : Fx K mg base) : CalG P w K mg base 2 "_law_case" D__law_case ["pot", "most", "wide"] f__law_case := by
  obtain ⟨a, fd, F, hm⟩ := fx.f__law_case
  refine calG (D := D__law_case) (N := ["pot", "most", "wide", "many", "outcomes", "worths", "rule", "numbers", "row", "sums", "sort", "outcome", "one", "number"]) (k := 1) (d := d__law_case) F hm S__law_case fun cdv A outer s H hr hgd => ?_
  exact pss_d1 (ps_dasg (is := ([3] ++ ([4] ++ []))) (pe_dtup (pa_d1 (pe_dbin o_add (pe_dint) (pe_gcall (mus := [true, false]) (c__law_draw fx) hr (by decide) hgd rfl rfl b__law_draw (pa_d1 (pe_dvar (i := 0) rfl (.inr (.inl rfl)) nd_pot nc_pot) (pa_d1 (pe_dvar (i := 1) rfl (.inl rfl) nd_most nc_most) (pa_d0))) nd__law_draw)) (pa_d1 (pe_dbin o_add (pe_dint) (pe_gcall (mus := [true, false]) (c__law_draw fx) hr (by decide) hgd rfl rfl b__law_draw (pa_d1 (pe_dvar (i := 0) rfl (.inr (.inl rfl)) nd_pot nc_pot) (pa_d1 (pe_dint) (pa_d0))) nd__law_draw)) (pa_d0)))) (pg_dtup rfl (pgs_d1 (pg_dname (n := 3) S__law_case.nd rfl (.inl rfl) (.inl rfl)) (pgs_d1 (pg_dname (n := 4) S__law_case.nd rfl (.inr rfl) (.inl rfl)) (pgs_d0) rfl) rfl) rfl rfl) rfl rfl rfl)
      (pss_d1 (ps_dsetLc (i := 5) (mu := false) (own := [("sort", 10)]) (is := [10]) rfl S__law_case.nd rfl rfl (sw_true rfl rfl rfl rfl) (pi_drng1 rfl fx.n_range (pa_d1 (pe_dvar (i := 3) rfl (.inl rfl) nd_many nc_many) (pa_d0))) rfl (fun _ _ _ _ _ => pg_dname (n := 10) S__law_case.nd rfl (.inl rfl) (.inr rfl)) (fun _ _ _ _ _ => pts_nil) (fun _ _ _ _ _ => pe_dcomp (own := [("outcome", 11)]) (is := [11]) rfl S__law_case.nd (pi_drng1 rfl fx.n_range (pa_d1 (pe_dvar (i := 4) rfl (.inr (.inl rfl)) nd_outcomes nc_outcomes) (pa_d0))) rfl (fun _ _ _ _ _ => pg_dname (n := 11) S__law_case.nd rfl (.inl rfl) (.inr rfl)) (fun _ _ _ _ _ => pts_nil) (fun _ _ _ _ _ => pe_dbin o_sub (pe_gcall (mus := [true, false]) (c__law_draw fx) hr (by decide) hgd rfl rfl b__law_draw (pa_d1 (pe_dvar (i := 0) rfl (.inr (.inl rfl)) nd_pot nc_pot) (pa_d1 (pe_dbin o_add (pe_dbin o_mul (pe_dint) (pe_dvar (i := 2) rfl (.inr (.inl rfl)) nd_wide nc_wide)) (pe_dint)) (pa_d0))) nd__law_draw) (pe_dvar (i := 2) rfl (.inr (.inl rfl)) nd_wide nc_wide)) (fun _ => rfl) rfl) (fun _ => rfl) rfl)
      (pss_d1 (ps_dsetLc (i := 6) (mu := true) (own := [("sort", 10)]) (is := [10]) rfl S__law_case.nd rfl rfl (sw_true rfl rfl rfl rfl) (pi_drng1 rfl fx.n_range (pa_d1 (pe_dvar (i := 3) rfl (.inl rfl) nd_many nc_many) (pa_d0))) rfl (fun _ _ _ _ _ => pg_dname (n := 10) S__law_case.nd rfl (.inl rfl) (.inr rfl)) (fun _ _ _ _ _ => pts_nil) (fun _ _ _ _ _ => pe_gcall (mus := [true, false]) (c__law_draw fx) hr (by decide) hgd rfl rfl b__law_draw (pa_d1 (pe_dvar (i := 0) rfl (.inr (.inl rfl)) nd_pot nc_pot) (pa_d1 (pe_dvar (i := 4) rfl (.inr (.inl rfl)) nd_outcomes nc_outcomes) (pa_d0))) nd__law_draw) (fun _ => rfl) rfl)
      (pss_d1 (ps_dif (pt_dcmp o_gt (pe_gcall (mus := [true, false]) (c__law_draw fx) hr (by decide) hgd rfl rfl b__law_draw (pa_d1 (pe_dvar (i := 0) rfl (.inr (.inl rfl)) nd_pot nc_pot) (pa_d1 (pe_dint) (pa_d0))) nd__law_draw) (pe_dint) rfl) (pss_d1 (ps_dsetLc (i := 7) (mu := false) (own := [("outcome", 11)]) (is := [11]) rfl S__law_case.nd rfl rfl (sw_true rfl rfl rfl rfl) (pi_drng1 rfl fx.n_range (pa_d1 (pe_dvar (i := 4) rfl (.inr (.inl rfl)) nd_outcomes nc_outcomes) (pa_d0))) rfl (fun _ _ _ _ _ => pg_dname (n := 11) S__law_case.nd rfl (.inl rfl) (.inr rfl)) (fun _ _ _ _ _ => pts_nil) (fun _ _ _ _ _ => pe_dbin o_sub (pe_gcall (mus := [true, false]) (c__law_draw fx) hr (by decide) hgd rfl rfl b__law_draw (pa_d1 (pe_dvar (i := 0) rfl (.inr (.inl rfl)) nd_pot nc_pot) (pa_d1 (pe_dbin o_add (pe_dbin o_mul (pe_dint) (pe_dvar (i := 2) rfl (.inr (.inl rfl)) nd_wide nc_wide)) (pe_dint)) (pa_d0))) nd__law_draw) (pe_dvar (i := 2) rfl (.inr (.inl rfl)) nd_wide nc_wide)) (fun _ => rfl) rfl)
      (pss_d1 (ps_dset (n := 6) (mu := true) S__law_case.nd rfl (.inl rfl) (.inl rfl) (pe_dlst (pa_d0)) rfl)
      (pss_d1 (ps_dfor PassesOwn.never rfl (pi_dseq (pe_dvar (i := 5) rfl (.inl rfl) nd_worths nc_worths)) (pg_dname (n := 8) S__law_case.nd rfl (.inl rfl) (.inl rfl)) (pss_d1 (ps_dsetLc (i := 9) (mu := false) (own := [("one", 12), ("number", 13)]) (is := ([12] ++ ([13] ++ []))) rfl S__law_case.nd rfl rfl (sw_true rfl rfl rfl rfl) (pi_dzip2 rfl fx.n_zip (pa_d1 (pe_dvar (i := 8) rfl (.inl rfl) nd_row nc_row) (pa_d1 (pe_dvar (i := 7) rfl (.inl rfl) nd_numbers nc_numbers) (pa_d0)))) rfl (fun _ _ _ _ _ => pg_dtup rfl (pgs_d1 (pg_dname (n := 12) S__law_case.nd rfl (.inl rfl) (.inr rfl)) (pgs_d1 (pg_dname (n := 13) S__law_case.nd rfl (.inl rfl) (.inr rfl)) (pgs_d0) rfl) rfl) rfl rfl) (fun _ _ _ _ _ => pts_nil) (fun _ _ _ _ _ => pe_dbin o_add (pe_dvar (i := 12) rfl (.inl rfl) nd_one nc_one) (pe_dvar (i := 13) rfl (.inl rfl) nd_number nc_number)) (fun _ => rfl) rfl)
      (pss_d1 (ps_dexpr (pe_dapp ⟨rfl, rfl, rfl⟩ (fun _ _ h => nomatch h) (pe_dvar (i := 6) rfl (.inl rfl) nd_rule nc_rule) (pe_dindex (Room.u65 hr) ⟨rfl, rfl, rfl⟩ (fun _ _ h => nomatch h) (pe_dvar (i := 9) rfl (.inl rfl) nd_sums nc_sums) (pe_dcb (c_max rfl) rfl fx.n_max bb_max (pa_d1 (pe_dvar (i := 9) rfl (.inl rfl) nd_sums nc_sums) (pa_d0)) (by decide) nd_max))) rfl)
      (pss_d0))) (fun _ => rfl))
      (pss_d0)))) (pss_d0))
      (pss_d1 (ps_dret (pe_dtup (pa_d1 (pe_dvar (i := 5) rfl (.inl rfl) nd_worths nc_worths) (pa_d1 (pe_dvar (i := 6) rfl (.inl rfl) nd_rule nc_rule) (pa_d0)))))
      (pss_d0)))))
theorem S__law_lists : FnScope ["many", "found", "last", "turn", "longer", "row", "sort"] ["many"] D__law_lists.scope := ⟨rfl, rfl, rfl, by decide +kernel, rfl, by decide +kernel, by decide +kernel⟩
theorem b__law_lists (kV doc pm : Value) (an : Option Addr) (cdv ct : Value) (us : List Value) (h : us.length = (["many"] : List Str).length) : bindArgs (PySem.W.fnOf D__law_lists.name D__law_lists.qual D__law_lists.params D__law_lists.body D__law_lists.scope .none kV doc pm an cdv ct) ⟨us, []⟩ = pure ((["many"] : List Str).zip us) := match us, h with | [_], _ => rfl
theorem c__law_lists {P : Program} {w : World} {K : Frag} {mg : Str → Option Value} {base : Heap} (fx : Fx K mg base) : CalG P w K mg base 1 "_law_lists" D__law_lists ["many"] f__law_lists := by
  obtain ⟨a, fd, F, hm⟩ := fx.f__law_lists
  refine calG (D := D__law_lists) (N := ["many", "found", "last", "turn", "longer", "row", "sort"]) (k := 0) (d := d__law_lists) F hm S__law_lists fun cdv A outer s H hr hgd => ?_
  exact pss_d1 (ps_dpar2 (i := 1) (j := 2) (mi := false) (mj := false) rfl S__law_lists.nd rfl rfl (by decide) rfl rfl (pa_d1 (pe_dlst (pa_d0)) (pa_d1 (pe_dlst (pa_d1 (pe_dlst (pa_d0)) (pa_d0))) (pa_d0))) rfl)
      (pss_d1 (ps_dfor PassesOwn.never rfl (pi_drng1 rfl fx.n_range (pa_d1 (pe_dvar (i := 0) rfl (.inl rfl) nd_many nc_many) (pa_d0))) (pg_dname (n := 3) S__law_lists.nd rfl (.inl rfl) (.inl rfl)) (pss_d1 (ps_dset (n := 4) (mu := true) S__law_lists.nd rfl (.inl rfl) (.inl rfl) (pe_dlst (pa_d0)) rfl)
      (pss_d1 (ps_dfor PassesOwn.never rfl (pi_dseq (pe_dvar (i := 2) rfl (.inl rfl) nd_last nc_last)) (pg_dname (n := 5) S__law_lists.nd rfl (.inr rfl) (.inl rfl)) (pss_d1 (ps_dexpr (pe_dext ⟨rfl, rfl, rfl⟩ (fun _ _ h => nomatch h) (pe_dvar (i := 4) rfl (.inl rfl) nd_longer nc_longer) (pe_dcomp (own := [("sort", 6)]) (is := [6]) rfl S__law_lists.nd (pi_drng1 rfl fx.n_range (pa_d1 (pe_dvar (i := 0) rfl (.inl rfl) nd_many nc_many) (pa_d0))) rfl (fun _ _ _ _ _ => pg_dname (n := 6) S__law_lists.nd rfl (.inl rfl) (.inr rfl)) (fun _ _ _ _ _ => pts_one (pt_dcmp (o_nin (Room.u65 hr)) (pe_dvar (i := 6) rfl (.inl rfl) nd_sort nc_sort) (pe_dvar (i := 5) rfl (.inr (.inl rfl)) nd_row nc_row) rfl)) (fun _ _ _ _ _ => pe_dbin o_add (pe_dvar (i := 5) rfl (.inr (.inl rfl)) nd_row nc_row) (pe_dlst (pa_d1 (pe_dvar (i := 6) rfl (.inl rfl) nd_sort nc_sort) (pa_d0)))) (fun _ => rfl) rfl)) rfl)
      (pss_d0)) (fun _ => rfl))
      (pss_d1 (ps_dpar2 (i := 1) (j := 2) (mi := false) (mj := false) rfl S__law_lists.nd rfl rfl (by decide) rfl rfl (pa_d1 (pe_dbin o_add (pe_dvar (i := 1) rfl (.inl rfl) nd_found nc_found) (pe_dvar (i := 4) rfl (.inl rfl) nd_longer nc_longer)) (pa_d1 (pe_dvar (i := 4) rfl (.inl rfl) nd_longer nc_longer) (pa_d0))) rfl)
      (pss_d0)))) (fun _ => rfl))
      (pss_d1 (ps_dret (pe_dvar (i := 1) rfl (.inl rfl) nd_found nc_found))
      (pss_d0)))
theorem S__law_loss : FnScope ["case", "one", "late"] ["case", "one", "late"] D__law_loss.scope := ⟨rfl, rfl, rfl, by decide +kernel, rfl, by decide +kernel, by decide +kernel⟩
theorem b__law_loss (kV doc pm : Value) (an : Option Addr) (cdv ct : Value) (us : List Value) (h : us.length = (["case", "one", "late"] : List Str).length) : bindArgs (PySem.W.fnOf D__law_loss.name D__law_loss.qual D__law_loss.params D__law_loss.body D__law_loss.scope .none kV doc pm an cdv ct) ⟨us, []⟩ = pure ((["case", "one", "late"] : List Str).zip us) := match us, h with | [_, _, _], _ => rfl
theorem c__law_loss {P : Program} {w : World} {K : Frag} {mg : Str → Option Value} {base : Heap} (fx : Fx K mg base) : CalG P w K mg base 1 "_law_loss" D__law_loss ["case", "one", "late"] f__law_loss := by
  obtain ⟨a, fd, F, hm⟩ := fx.f__law_loss
  refine calG (D := D__law_loss) (N := ["case", "one", "late"]) (k := 0) (d := d__law_loss) F hm S__law_loss fun cdv A outer s H hr hgd => ?_
  exact pss_d1 (ps_dret (pe_dbin o_sub (pe_dix (pe_dix (pe_dix (pe_dvar (i := 0) rfl (.inl rfl) nd_case nc_case) (pe_dint) (fun _ _ _ _ h => nomatch h)) (pe_dvar (i := 1) rfl (.inl rfl) nd_one nc_one) (fun _ _ _ _ h => nomatch h)) (pe_dix (pe_dix (pe_dvar (i := 0) rfl (.inl rfl) nd_case nc_case) (pe_dint) (fun _ _ _ _ h => nomatch h)) (pe_dvar (i := 1) rfl (.inl rfl) nd_one nc_one) (fun _ _ _ _ h => nomatch h)) (fun _ _ _ _ h => nomatch h)) (pe_dix (pe_dix (pe_dix (pe_dvar (i := 0) rfl (.inl rfl) nd_case nc_case) (pe_dint) (fun _ _ _ _ h => nomatch h)) (pe_dvar (i := 1) rfl (.inl rfl) nd_one nc_one) (fun _ _ _ _ h => nomatch h)) (pe_dix (pe_dix (pe_dvar (i := 0) rfl (.inl rfl) nd_case nc_case) (pe_dint) (fun _ _ _ _ h => nomatch h)) (pe_dvar (i := 2) rfl (.inl rfl) nd_late nc_late) (fun _ _ _ _ h => nomatch h)) (fun _ _ _ _ h => nomatch h))))
      (pss_d0)
theorem S__law_losses : FnScope ["case", "row", "one", "late"] ["case", "row"] D__law_losses.scope := ⟨rfl, rfl, rfl, by decide +kernel, rfl, by decide +kernel, by decide +kernel⟩
theorem b__law_losses (kV doc pm : Value) (an : Option Addr) (cdv ct : Value) (us : List Value) (h : us.length = (["case", "row"] : List Str).length) : bindArgs (PySem.W.fnOf D__law_losses.name D__law_losses.qual D__law_losses.params D__law_losses.body D__law_losses.scope .none kV doc pm an cdv ct) ⟨us, []⟩ = pure ((["case", "row"] : List Str).zip us) := match us, h with | [_, _], _ => rfl
theorem c__law_losses {P : Program} {w : World} {K : Frag} {mg : Str → Option Value} {base : Heap} (fx : Fx K mg base) : CalG P w K mg base 2 "_law_losses" D__law_losses ["case", "row"] f__law_losses := by
  obtain ⟨a, fd, F, hm⟩ := fx.f__law_losses
  refine calG (D := D__law_losses) (N := ["case", "row", "one", "late"]) (k := 1) (d := d__law_losses) F hm S__law_losses fun cdv A outer s H hr hgd => ?_
  exact pss_d1 (ps_dret (pe_dcb (c_sum rfl) rfl fx.n_sum bb_sum (pa_d1 (pe_dcomp (own := [("one", 2), ("late", 3)]) (is := ([2] ++ ([3] ++ []))) rfl S__law_losses.nd (pi_dzip2 rfl fx.n_zip (pa_d1 (pe_dvar (i := 1) rfl (.inl rfl) nd_row nc_row) (pa_d1 (pe_dsli (pe_dvar (i := 1) rfl (.inl rfl) nd_row nc_row) (po_d1 (pe_dint)) po_d0) (pa_d0)))) rfl (fun _ _ _ _ _ => pg_dtup rfl (pgs_d1 (pg_dname (n := 2) S__law_losses.nd rfl (.inl rfl) (.inr rfl)) (pgs_d1 (pg_dname (n := 3) S__law_losses.nd rfl (.inl rfl) (.inr rfl)) (pgs_d0) rfl) rfl) rfl rfl) (fun _ _ _ _ _ => pts_nil) (fun _ _ _ _ _ => pe_gcall (mus := [false, false, false]) (c__law_loss fx) hr (by decide) hgd rfl rfl b__law_loss (pa_d1 (pe_dvar (i := 0) rfl (.inr (.inl rfl)) nd_case nc_case) (pa_d1 (pe_dvar (i := 2) rfl (.inl rfl) nd_one nc_one) (pa_d1 (pe_dvar (i := 3) rfl (.inl rfl) nd_late nc_late) (pa_d0)))) nd__law_loss) (fun _ => rfl) rfl) (pa_d0)) (by decide) nd_sum))
      (pss_d0)
theorem S__law_ring : FnScope ["case", "row"] ["case"] D__law_ring.scope := ⟨rfl, rfl, rfl, by decide +kernel, rfl, by decide +kernel, by decide +kernel⟩
theorem b__law_ring (kV doc pm : Value) (an : Option Addr) (cdv ct : Value) (us : List Value) (h : us.length = (["case"] : List Str).length) : bindArgs (PySem.W.fnOf D__law_ring.name D__law_ring.qual D__law_ring.params D__law_ring.body D__law_ring.scope .none kV doc pm an cdv ct) ⟨us, []⟩ = pure ((["case"] : List Str).zip us) := match us, h with | [_], _ => rfl
theorem c__law_ring {P : Program} {w : World} {K : Frag} {mg : Str → Option Value} {base : Heap} (fx : Fx K mg base) : CalG P w K mg base 3 "_law_ring" D__law_ring ["case"] f__law_ring := by
  obtain ⟨a, fd, F, hm⟩ := fx.f__law_ring
  refine calG (D := D__law_ring) (N := ["case", "row"]) (k := 2) (d := d__law_ring) F hm S__law_ring fun cdv A outer s H hr hgd => ?_
  exact pss_d1 (ps_dfor PassesOwn.never rfl (pi_dseq (pe_gcall (mus := [false]) (c__law_lists fx) hr (by decide) hgd rfl rfl b__law_lists (pa_d1 (pe_dcb c_len rfl fx.n_len bb_len (pa_d1 (pe_dix (pe_dvar (i := 0) rfl (.inl rfl) nd_case nc_case) (pe_dint) (fun _ _ _ _ h => nomatch h)) (pa_d0)) (by decide) nd_len) (pa_d0)) nd__law_lists)) (pg_dname (n := 1) S__law_ring.nd rfl (.inl rfl) (.inl rfl)) (pss_d1 (ps_dif (PW.pt (pw_dand (pt_dcmp o_gt (pe_dcb c_len rfl fx.n_len bb_len (pa_d1 (pe_dvar (i := 1) rfl (.inl rfl) nd_row nc_row) (pa_d0)) (by decide) nd_len) (pe_dint) rfl) (pw_d1 (pt_dcmp o_lt (pe_gcall (mus := [false, false]) (c__law_losses fx) hr (by decide) hgd rfl rfl b__law_losses (pa_d1 (pe_dvar (i := 0) rfl (.inl rfl) nd_case nc_case) (pa_d1 (pe_dbin o_add (pe_dvar (i := 1) rfl (.inl rfl) nd_row nc_row) (pe_dsli (pe_dvar (i := 1) rfl (.inl rfl) nd_row nc_row) po_d0 (po_d1 (pe_dint)))) (pa_d0))) nd__law_losses) (pe_dint) rfl)))) (pss_d1 (ps_dret (pe_dvar (i := 1) rfl (.inl rfl) nd_row nc_row))
      (pss_d0)) (pss_d0))
      (pss_d0)) (fun _ => rfl))
      (pss_d1 (ps_dret (pe_dnon))
      (pss_d0))
theorem S__law_far : FnScope ["case", "one", "late", "rows", "row"] ["case", "one", "late"] D__law_far.scope := ⟨rfl, rfl, rfl, by decide +kernel, rfl, by decide +kernel, by decide +kernel⟩
theorem b__law_far (kV doc pm : Value) (an : Option Addr) (cdv ct : Value) (us : List Value) (h : us.length = (["case", "one", "late"] : List Str).length) : bindArgs (PySem.W.fnOf D__law_far.name D__law_far.qual D__law_far.params D__law_far.body D__law_far.scope .none kV doc pm an cdv ct) ⟨us, []⟩ = pure ((["case", "one", "late"] : List Str).zip us) := match us, h with | [_, _, _], _ => rfl
theorem c__law_far {P : Program} {w : World} {K : Frag} {mg : Str → Option Value} {base : Heap} (fx : Fx K mg base) : CalG P w K mg base 3 "_law_far" D__law_far ["case", "one", "late"] f__law_far := by
  obtain ⟨a, fd, F, hm⟩ := fx.f__law_far
  refine calG (D := D__law_far) (N := ["case", "one", "late", "rows", "row"]) (k := 2) (d := d__law_far) F hm S__law_far fun cdv A outer s H hr hgd => ?_
  exact pss_d1 (ps_dsetLc (i := 3) (mu := false) (own := [("row", 4)]) (is := [4]) rfl S__law_far.nd rfl rfl (sw_true rfl rfl rfl rfl) (pi_dseq (pe_gcall (mus := [false]) (c__law_lists fx) hr (by decide) hgd rfl rfl b__law_lists (pa_d1 (pe_dcb c_len rfl fx.n_len bb_len (pa_d1 (pe_dix (pe_dvar (i := 0) rfl (.inr (.inl rfl)) nd_case nc_case) (pe_dint) (fun _ _ _ _ h => nomatch h)) (pa_d0)) (by decide) nd_len) (pa_d0)) nd__law_lists)) rfl (fun _ _ _ _ _ => pg_dname (n := 4) S__law_far.nd rfl (.inl rfl) (.inr rfl)) (fun _ _ _ _ _ => pts_one (PW.pt (pw_dand (pt_dcmp (o_eq hr.units) (pe_dix (pe_dvar (i := 4) rfl (.inl rfl) nd_row nc_row) (pe_dint) (fun _ _ _ _ h => nomatch h)) (pe_dvar (i := 1) rfl (.inr (.inl rfl)) nd_one nc_one) rfl) (pw_d1 (pt_dcmp (o_eq hr.units) (pe_dix (pe_dvar (i := 4) rfl (.inl rfl) nd_row nc_row) (pe_dun o_neg (pe_dint)) (fun _ _ _ _ h => nomatch h)) (pe_dvar (i := 2) rfl (.inr (.inl rfl)) nd_late nc_late) rfl))))) (fun _ _ _ _ _ => pe_dvar (i := 4) rfl (.inl rfl) nd_row nc_row) (fun _ => rfl) rfl)
      (pss_d1 (ps_dret (pe_dcb (c_min rfl) rfl fx.n_min bb_min (pa_d1 (pe_dcomp (own := [("row", 4)]) (is := [4]) rfl S__law_far.nd (pi_dseq (pe_dvar (i := 3) rfl (.inl rfl) nd_rows nc_rows)) rfl (fun _ _ _ _ _ => pg_dname (n := 4) S__law_far.nd rfl (.inl rfl) (.inr rfl)) (fun _ _ _ _ _ => pts_nil) (fun _ _ _ _ _ => pe_gcall (mus := [false, false]) (c__law_losses fx) hr (by decide) hgd rfl rfl b__law_losses (pa_d1 (pe_dvar (i := 0) rfl (.inr (.inl rfl)) nd_case nc_case) (pa_d1 (pe_dvar (i := 4) rfl (.inl rfl) nd_row nc_row) (pa_d0))) nd__law_losses) (fun _ => rfl) rfl) (pa_d0)) (by decide) nd_min))
      (pss_d0))
theorem S_divisor : FnScope ["one", "late"] ["one", "late"] D_divisor.scope := ⟨rfl, rfl, rfl, by decide +kernel, rfl, by decide +kernel, by decide +kernel⟩
theorem b_divisor (kV doc pm : Value) (an : Option Addr) (cdv ct : Value) (us : List Value) (h : us.length = (["one", "late"] : List Str).length) : bindArgs (PySem.W.fnOf D_divisor.name D_divisor.qual D_divisor.params D_divisor.body D_divisor.scope .none kV doc pm an cdv ct) ⟨us, []⟩ = pure ((["one", "late"] : List Str).zip us) := match us, h with | [_, _], _ => rfl
theorem c_divisor {P : Program} {w : World} {K : Frag} {mg : Str → Option Value} {base : Heap} (fx : Fx K mg base) : CalG P w K mg base 1 "divisor" D_divisor ["one", "late"] f_divisor := by
  obtain ⟨a, fd, F, hm⟩ := fx.f_divisor
  refine calG (D := D_divisor) (N := ["one", "late"]) (k := 0) (d := d_divisor) F hm S_divisor fun cdv A outer s H hr hgd => ?_
  exact pss_d1 (ps_dwhile PassesOwn.never (pt_dcmp o_gt (pe_dvar (i := 1) rfl (.inl rfl) nd_late nc_late) (pe_dint) rfl) (pss_d1 (ps_dpar2 (i := 0) (j := 1) (mi := false) (mj := false) rfl S_divisor.nd rfl rfl (by decide) rfl rfl (pa_d1 (pe_dvar (i := 1) rfl (.inl rfl) nd_late nc_late) (pa_d1 (pe_dbin o_mod (pe_dct c_int rfl fx.n_int bb_int (pa_d1 (pe_dvar (i := 0) rfl (.inl rfl) nd_one nc_one) (pa_d0)) (by decide) nd_int) (pe_dvar (i := 1) rfl (.inl rfl) nd_late nc_late)) (pa_d0))) rfl)
      (pss_d0)))
      (pss_d1 (ps_dret (pe_dvar (i := 0) rfl (.inl rfl) nd_one nc_one))
      (pss_d0))
theorem S_reduced : FnScope ["top", "bottom", "common"] ["top", "bottom"] D_reduced.scope := ⟨rfl, rfl, rfl, by decide +kernel, rfl, by decide +kernel, by decide +kernel⟩
theorem b_reduced (kV doc pm : Value) (an : Option Addr) (cdv ct : Value) (us : List Value) (h : us.length = (["top", "bottom"] : List Str).length) : bindArgs (PySem.W.fnOf D_reduced.name D_reduced.qual D_reduced.params D_reduced.body D_reduced.scope .none kV doc pm an cdv ct) ⟨us, []⟩ = pure ((["top", "bottom"] : List Str).zip us) := match us, h with | [_, _], _ => rfl
theorem c_reduced {P : Program} {w : World} {K : Frag} {mg : Str → Option Value} {base : Heap} (fx : Fx K mg base) : CalG P w K mg base 2 "reduced" D_reduced ["top", "bottom"] f_reduced := by
  obtain ⟨a, fd, F, hm⟩ := fx.f_reduced
  refine calG (D := D_reduced) (N := ["top", "bottom", "common"]) (k := 1) (d := d_reduced) F hm S_reduced fun cdv A outer s H hr hgd => ?_
  exact pss_d1 (ps_dif (pt_dcmp o_lt (pe_dvar (i := 1) rfl (.inl rfl) nd_bottom nc_bottom) (pe_dint) rfl) (pss_d1 (ps_dpar2 (i := 0) (j := 1) (mi := false) (mj := false) rfl S_reduced.nd rfl rfl (by decide) rfl rfl (pa_d1 (pe_dbin o_sub (pe_dint) (pe_dvar (i := 0) rfl (.inl rfl) nd_top nc_top)) (pa_d1 (pe_dbin o_sub (pe_dint) (pe_dvar (i := 1) rfl (.inl rfl) nd_bottom nc_bottom)) (pa_d0))) rfl)
      (pss_d0)) (pss_d0))
      (pss_d1 (ps_dset (n := 2) (mu := false) S_reduced.nd rfl (.inl rfl) (.inl rfl) (pe_gcall (mus := [false, false]) (c_divisor fx) hr (by decide) hgd rfl rfl b_divisor (pa_d1 (pe_dcb c_abs rfl fx.n_abs bb_abs (pa_d1 (pe_dvar (i := 0) rfl (.inl rfl) nd_top nc_top) (pa_d0)) (by decide) nd_abs) (pa_d1 (pe_dvar (i := 1) rfl (.inl rfl) nd_bottom nc_bottom) (pa_d0))) nd_divisor) rfl)
      (pss_d1 (ps_dret (pe_dtup (pa_d1 (pe_dbin o_div (pe_dvar (i := 0) rfl (.inl rfl) nd_top nc_top) (pe_dvar (i := 2) rfl (.inl rfl) nd_common nc_common)) (pa_d1 (pe_dbin o_div (pe_dvar (i := 1) rfl (.inl rfl) nd_bottom nc_bottom) (pe_dvar (i := 2) rfl (.inl rfl) nd_common nc_common)) (pa_d0)))))
      (pss_d0)))
theorem S_take : FnScope ["one", "late"] ["one", "late"] D_take.scope := ⟨rfl, rfl, rfl, by decide +kernel, rfl, by decide +kernel, by decide +kernel⟩
theorem b_take (kV doc pm : Value) (an : Option Addr) (cdv ct : Value) (us : List Value) (h : us.length = (["one", "late"] : List Str).length) : bindArgs (PySem.W.fnOf D_take.name D_take.qual D_take.params D_take.body D_take.scope .none kV doc pm an cdv ct) ⟨us, []⟩ = pure ((["one", "late"] : List Str).zip us) := match us, h with | [_, _], _ => rfl
theorem c_take {P : Program} {w : World} {K : Frag} {mg : Str → Option Value} {base : Heap} (fx : Fx K mg base) : CalG P w K mg base 3 "take" D_take ["one", "late"] f_take := by
  obtain ⟨a, fd, F, hm⟩ := fx.f_take
  refine calG (D := D_take) (N := ["one", "late"]) (k := 2) (d := d_take) F hm S_take fun cdv A outer s H hr hgd => ?_
  exact pss_d1 (ps_dret (pe_gcall (mus := [false, false]) (c_reduced fx) hr (by decide) hgd rfl rfl b_reduced (pa_d1 (pe_dbin o_sub (pe_dbin o_mul (pe_dix (pe_dvar (i := 0) rfl (.inl rfl) nd_one nc_one) (pe_dint) (fun _ _ _ _ h => nomatch h)) (pe_dix (pe_dvar (i := 1) rfl (.inl rfl) nd_late nc_late) (pe_dint) (fun _ _ _ _ h => nomatch h))) (pe_dbin o_mul (pe_dix (pe_dvar (i := 1) rfl (.inl rfl) nd_late nc_late) (pe_dint) (fun _ _ _ _ h => nomatch h)) (pe_dix (pe_dvar (i := 0) rfl (.inl rfl) nd_one nc_one) (pe_dint) (fun _ _ _ _ h => nomatch h)))) (pa_d1 (pe_dbin o_mul (pe_dix (pe_dvar (i := 0) rfl (.inl rfl) nd_one nc_one) (pe_dint) (fun _ _ _ _ h => nomatch h)) (pe_dix (pe_dvar (i := 1) rfl (.inl rfl) nd_late nc_late) (pe_dint) (fun _ _ _ _ h => nomatch h))) (pa_d0))) nd_reduced))
      (pss_d0)
theorem S_is_below : FnScope ["one", "late"] ["one", "late"] D_is_below.scope := ⟨rfl, rfl, rfl, by decide +kernel, rfl, by decide +kernel, by decide +kernel⟩
theorem b_is_below (kV doc pm : Value) (an : Option Addr) (cdv ct : Value) (us : List Value) (h : us.length = (["one", "late"] : List Str).length) : bindArgs (PySem.W.fnOf D_is_below.name D_is_below.qual D_is_below.params D_is_below.body D_is_below.scope .none kV doc pm an cdv ct) ⟨us, []⟩ = pure ((["one", "late"] : List Str).zip us) := match us, h with | [_, _], _ => rfl
theorem c_is_below {P : Program} {w : World} {K : Frag} {mg : Str → Option Value} {base : Heap} (fx : Fx K mg base) : CalG P w K mg base 1 "is_below" D_is_below ["one", "late"] f_is_below := by
  obtain ⟨a, fd, F, hm⟩ := fx.f_is_below
  refine calG (D := D_is_below) (N := ["one", "late"]) (k := 0) (d := d_is_below) F hm S_is_below fun cdv A outer s H hr hgd => ?_
  exact pss_d1 (ps_dret (pe_dcmp o_lt (pe_dbin o_mul (pe_dix (pe_dvar (i := 0) rfl (.inl rfl) nd_one nc_one) (pe_dint) (fun _ _ _ _ h => nomatch h)) (pe_dix (pe_dvar (i := 1) rfl (.inl rfl) nd_late nc_late) (pe_dint) (fun _ _ _ _ h => nomatch h))) (pe_dbin o_mul (pe_dix (pe_dvar (i := 1) rfl (.inl rfl) nd_late nc_late) (pe_dint) (fun _ _ _ _ h => nomatch h)) (pe_dix (pe_dvar (i := 0) rfl (.inl rfl) nd_one nc_one) (pe_dint) (fun _ _ _ _ h => nomatch h))) rfl))
      (pss_d0)
theorem S_is_fraction_of : FnScope ["value"] ["value"] D_is_fraction_of.scope := ⟨rfl, rfl, rfl, by decide +kernel, rfl, by decide +kernel, by decide +kernel⟩
theorem b_is_fraction_of (kV doc pm : Value) (an : Option Addr) (cdv ct : Value) (us : List Value) (h : us.length = (["value"] : List Str).length) : bindArgs (PySem.W.fnOf D_is_fraction_of.name D_is_fraction_of.qual D_is_fraction_of.params D_is_fraction_of.body D_is_fraction_of.scope .none kV doc pm an cdv ct) ⟨us, []⟩ = pure ((["value"] : List Str).zip us) := match us, h with | [_], _ => rfl
theorem c_is_fraction_of {P : Program} {w : World} {K : Frag} {mg : Str → Option Value} {base : Heap} (fx : Fx K mg base) : CalG P w K mg base 2 "is_fraction_of" D_is_fraction_of ["value"] f_is_fraction_of := by
  obtain ⟨a, fd, F, hm⟩ := fx.f_is_fraction_of
  refine calG (D := D_is_fraction_of) (N := ["value"]) (k := 1) (d := d_is_fraction_of) F hm S_is_fraction_of fun cdv A outer s H hr hgd => ?_
  exact pss_d1 (ps_dif (PW.pt (pw_dor (pt_dnot (pt_dval (pe_disi rfl fx.n_isinstance rfl fx.n_tuple bb_tuple (by decide) nd_tuple (pe_dvar (i := 0) rfl (.inl rfl) nd_value nc_value) rfl) (fun _ => rfl))) (pw_dor (pt_dcmp (o_ne hr.units) (pe_dcb c_len rfl fx.n_len bb_len (pa_d1 (pe_dvar (i := 0) rfl (.inl rfl) nd_value nc_value) (pa_d0)) (by decide) nd_len) (pe_dint) rfl) (pw_dor (pt_dnot (pt_dval (pe_gcall (mus := [false]) (c_is_integer fx) hr (by decide) hgd rfl rfl b_is_integer (pa_d1 (pe_dix (pe_dvar (i := 0) rfl (.inl rfl) nd_value nc_value) (pe_dint) (fun _ _ _ _ h => nomatch h)) (pa_d0)) nd_is_integer) (fun _ => rfl))) (pw_d1 (pt_dnot (pt_dval (pe_gcall (mus := [false]) (c_is_integer fx) hr (by decide) hgd rfl rfl b_is_integer (pa_d1 (pe_dix (pe_dvar (i := 0) rfl (.inl rfl) nd_value nc_value) (pe_dint) (fun _ _ _ _ h => nomatch h)) (pa_d0)) nd_is_integer) (fun _ => rfl)))))))) (pss_d1 (ps_dret (pe_dbl))
      (pss_d0)) (pss_d0))
      (pss_d1 (ps_dret (pe_dand (pe_dcmp o_ge (pe_dix (pe_dvar (i := 0) rfl (.inl rfl) nd_value nc_value) (pe_dint) (fun _ _ _ _ h => nomatch h)) (pe_dint) rfl) (pe_d1 (pe_dcmp (o_eq hr.units) (pe_gcall (mus := [false, false]) (c_divisor fx) hr (by decide) hgd rfl rfl b_divisor (pa_d1 (pe_dcb c_abs rfl fx.n_abs bb_abs (pa_d1 (pe_dix (pe_dvar (i := 0) rfl (.inl rfl) nd_value nc_value) (pe_dint) (fun _ _ _ _ h => nomatch h)) (pa_d0)) (by decide) nd_abs) (pa_d1 (pe_dix (pe_dvar (i := 0) rfl (.inl rfl) nd_value nc_value) (pe_dint) (fun _ _ _ _ h => nomatch h)) (pa_d0))) nd_divisor) (pe_dint) rfl))))
      (pss_d0))
theorem S_are_payments : FnScope ["case", "value", "one"] ["case", "value"] D_are_payments.scope := ⟨rfl, rfl, rfl, by decide +kernel, rfl, by decide +kernel, by decide +kernel⟩
theorem b_are_payments (kV doc pm : Value) (an : Option Addr) (cdv ct : Value) (us : List Value) (h : us.length = (["case", "value"] : List Str).length) : bindArgs (PySem.W.fnOf D_are_payments.name D_are_payments.qual D_are_payments.params D_are_payments.body D_are_payments.scope .none kV doc pm an cdv ct) ⟨us, []⟩ = pure ((["case", "value"] : List Str).zip us) := match us, h with | [_, _], _ => rfl
theorem c_are_payments {P : Program} {w : World} {K : Frag} {mg : Str → Option Value} {base : Heap} (fx : Fx K mg base) : CalG P w K mg base 3 "are_payments" D_are_payments ["case", "value"] f_are_payments := by
  obtain ⟨a, fd, F, hm⟩ := fx.f_are_payments
  refine calG (D := D_are_payments) (N := ["case", "value", "one"]) (k := 2) (d := d_are_payments) F hm S_are_payments fun cdv A outer s H hr hgd => ?_
  exact pss_d1 (ps_dret (pe_dand (pe_gcall (mus := [false]) (c_is_list fx) hr (by decide) hgd rfl rfl b_is_list (pa_d1 (pe_dvar (i := 1) rfl (.inl rfl) nd_value nc_value) (pa_d0)) nd_is_list) (pe_dand (pe_dcmp (o_eq hr.units) (pe_dcb c_len rfl fx.n_len bb_len (pa_d1 (pe_dvar (i := 1) rfl (.inl rfl) nd_value nc_value) (pa_d0)) (by decide) nd_len) (pe_dcb c_len rfl fx.n_len bb_len (pa_d1 (pe_dix (pe_dvar (i := 0) rfl (.inl rfl) nd_case nc_case) (pe_dint) (fun _ _ _ _ h => nomatch h)) (pa_d0)) (by decide) nd_len) rfl) (pe_d1 (pe_dcb (c_all rfl) rfl fx.n_all bb_all (pa_d1 (pe_dcomp (own := [("one", 2)]) (is := [2]) rfl S_are_payments.nd (pi_dseq (pe_dvar (i := 1) rfl (.inl rfl) nd_value nc_value)) rfl (fun _ _ _ _ _ => pg_dname (n := 2) S_are_payments.nd rfl (.inl rfl) (.inr rfl)) (fun _ _ _ _ _ => pts_nil) (fun _ _ _ _ _ => pe_gcall (mus := [false]) (c_is_fraction_of fx) hr (by decide) hgd rfl rfl b_is_fraction_of (pa_d1 (pe_dvar (i := 2) rfl (.inl rfl) nd_one nc_one) (pa_d0)) nd_is_fraction_of) (fun _ => rfl) rfl) (pa_d0)) (by decide) nd_all)))))
      (pss_d0)
theorem S_do_make_true : FnScope ["case", "value", "many", "one", "late"] ["case", "value"] D_do_make_true.scope := ⟨rfl, rfl, rfl, by decide +kernel, rfl, by decide +kernel, by decide +kernel⟩
theorem b_do_make_true (kV doc pm : Value) (an : Option Addr) (cdv ct : Value) (us : List Value) (h : us.length = (["case", "value"] : List Str).length) : bindArgs (PySem.W.fnOf D_do_make_true.name D_do_make_true.qual D_do_make_true.params D_do_make_true.body D_do_make_true.scope .none kV doc pm an cdv ct) ⟨us, []⟩ = pure ((["case", "value"] : List Str).zip us) := match us, h with | [_, _], _ => rfl
theorem c_do_make_true {P : Program} {w : World} {K : Frag} {mg : Str → Option Value} {base : Heap} (fx : Fx K mg base) : CalG P w K mg base 6 "do_make_true" D_do_make_true ["case", "value"] f_do_make_true := by
  obtain ⟨a, fd, F, hm⟩ := fx.f_do_make_true
  refine calG (D := D_do_make_true) (N := ["case", "value", "many", "one", "late"]) (k := 5) (d := d_do_make_true) F hm S_do_make_true fun cdv A outer s H hr hgd => ?_
  exact pss_d1 (ps_dexpr (pe_gcall (mus := [false]) (c_check_case fx) hr (by decide) hgd rfl rfl b_check_case (pa_d1 (pe_dvar (i := 0) rfl (.inl rfl) nd_case nc_case) (pa_d0)) nd_check_case) rfl)
      (pss_d1 (ps_dif (pt_dnot (pt_dval (pe_gcall (mus := [false, false]) (c_are_payments fx) hr (by decide) hgd rfl rfl b_are_payments (pa_d1 (pe_dvar (i := 0) rfl (.inl rfl) nd_case nc_case) (pa_d1 (pe_dvar (i := 1) rfl (.inl rfl) nd_value nc_value) (pa_d0))) nd_are_payments) (fun _ => rfl))) (pss_d1 (ps_dret (pe_dbl))
      (pss_d0)) (pss_d0))
      (pss_d1 (ps_dset (n := 2) (mu := false) S_do_make_true.nd rfl (.inl rfl) (.inl rfl) (pe_dcb c_len rfl fx.n_len bb_len (pa_d1 (pe_dix (pe_dvar (i := 0) rfl (.inl rfl) nd_case nc_case) (pe_dint) (fun _ _ _ _ h => nomatch h)) (pa_d0)) (by decide) nd_len) rfl)
      (pss_d1 (ps_dfor PassesOwn.never rfl (pi_drng1 rfl fx.n_range (pa_d1 (pe_dvar (i := 2) rfl (.inl rfl) nd_many nc_many) (pa_d0))) (pg_dname (n := 3) S_do_make_true.nd rfl (.inl rfl) (.inl rfl)) (pss_d1 (ps_dfor PassesOwn.never rfl (pi_drng1 rfl fx.n_range (pa_d1 (pe_dvar (i := 2) rfl (.inl rfl) nd_many nc_many) (pa_d0))) (pg_dname (n := 4) S_do_make_true.nd rfl (.inl rfl) (.inl rfl)) (pss_d1 (ps_dif (pt_dval (pe_gcall (mus := [false, false]) (c_is_below fx) hr (by decide) hgd rfl rfl b_is_below (pa_d1 (pe_dtup (pa_d1 (pe_gcall (mus := [false, false, false]) (c_loss fx) hr (by decide) hgd rfl rfl b_loss (pa_d1 (pe_dvar (i := 0) rfl (.inl rfl) nd_case nc_case) (pa_d1 (pe_dvar (i := 3) rfl (.inl rfl) nd_one nc_one) (pa_d1 (pe_dvar (i := 4) rfl (.inl rfl) nd_late nc_late) (pa_d0)))) nd_loss) (pa_d1 (pe_dint) (pa_d0)))) (pa_d1 (pe_gcall (mus := [false, false]) (c_take fx) hr (by decide) hgd rfl rfl b_take (pa_d1 (pe_dix (pe_dvar (i := 1) rfl (.inl rfl) nd_value nc_value) (pe_dvar (i := 3) rfl (.inl rfl) nd_one nc_one) (fun _ _ _ _ h => nomatch h)) (pa_d1 (pe_dix (pe_dvar (i := 1) rfl (.inl rfl) nd_value nc_value) (pe_dvar (i := 4) rfl (.inl rfl) nd_late nc_late) (fun _ _ _ _ h => nomatch h)) (pa_d0))) nd_take) (pa_d0))) nd_is_below) (fun _ => rfl)) (pss_d1 (ps_dret (pe_dbl))
      (pss_d0)) (pss_d0))
      (pss_d0)) (fun _ => rfl))
      (pss_d0)) (fun _ => rfl))
      (pss_d1 (ps_dret (pe_dbl))
      (pss_d0)))))
theorem S_least_payments : FnScope ["case", "base", "one"] ["case", "base"] D_least_payments.scope := ⟨rfl, rfl, rfl, by decide +kernel, rfl, by decide +kernel, by decide +kernel⟩
theorem b_least_payments (kV doc pm : Value) (an : Option Addr) (cdv ct : Value) (us : List Value) (h : us.length = (["case", "base"] : List Str).length) : bindArgs (PySem.W.fnOf D_least_payments.name D_least_payments.qual D_least_payments.params D_least_payments.body D_least_payments.scope .none kV doc pm an cdv ct) ⟨us, []⟩ = pure ((["case", "base"] : List Str).zip us) := match us, h with | [_, _], _ => rfl
theorem k_least_payments_0_base_case (kV doc pm : Value) (an : Option Addr) (cdv ct : Value) (ws : List Value) (h2 : ws.length = 2) : bindArgs (PySem.W.fnOf D_least_payments.name D_least_payments.qual D_least_payments.params D_least_payments.body D_least_payments.scope .none kV doc pm an cdv ct) ⟨[], (["base", "case"] : List Str).zip ws⟩ = pure ((["case", "base"] : List Str).zip (permL [1, 0] ws)) := match ws, h2 with | [_, _], _ => rfl
theorem c_least_payments {P : Program} {w : World} {K : Frag} {mg : Str → Option Value} {base : Heap} (fx : Fx K mg base) : CalG P w K mg base 6 "least_payments" D_least_payments ["case", "base"] f_least_payments := by
  obtain ⟨a, fd, F, hm⟩ := fx.f_least_payments
  refine calG (D := D_least_payments) (N := ["case", "base", "one"]) (k := 5) (d := d_least_payments) F hm S_least_payments fun cdv A outer s H hr hgd => ?_
  exact pss_d1 (ps_dexpr (pe_gcall (mus := [false]) (c_check_case fx) hr (by decide) hgd rfl rfl b_check_case (pa_d1 (pe_dvar (i := 0) rfl (.inl rfl) nd_case nc_case) (pa_d0)) nd_check_case) rfl)
      (pss_d1 (ps_dexpr (pe_gcall (mus := [false, false]) (c_check_sort fx) hr (by decide) hgd rfl rfl b_check_sort (pa_d1 (pe_dvar (i := 0) rfl (.inl rfl) nd_case nc_case) (pa_d1 (pe_dvar (i := 1) rfl (.inl rfl) nd_base nc_base) (pa_d0))) nd_check_sort) rfl)
      (pss_d1 (ps_dexpr (pe_gcall (mus := [false]) (c_check_had fx) hr (by decide) hgd rfl rfl b_check_had (pa_d1 (pe_dvar (i := 0) rfl (.inl rfl) nd_case nc_case) (pa_d0)) nd_check_had) rfl)
      (pss_d1 (ps_dret (pe_dcomp (own := [("one", 2)]) (is := [2]) rfl S_least_payments.nd (pi_dseq (pe_dix (pe_gcall (mus := [false]) (c_least_sums fx) hr (by decide) hgd rfl rfl b_least_sums (pa_d1 (pe_dvar (i := 0) rfl (.inl rfl) nd_case nc_case) (pa_d0)) nd_least_sums) (pe_dvar (i := 1) rfl (.inl rfl) nd_base nc_base) (fun _ _ _ _ h => nomatch h))) rfl (fun _ _ _ _ _ => pg_dname (n := 2) S_least_payments.nd rfl (.inl rfl) (.inr rfl)) (fun _ _ _ _ _ => pts_nil) (fun _ _ _ _ _ => pe_dbin o_sub (pe_dint) (pe_dvar (i := 2) rfl (.inl rfl) nd_one nc_one)) (fun _ => rfl) rfl))
      (pss_d0))))
theorem S__law_plain : FnScope ["top", "bottom", "one", "late", "sign"] ["top", "bottom"] D__law_plain.scope := ⟨rfl, rfl, rfl, by decide +kernel, rfl, by decide +kernel, by decide +kernel⟩
theorem b__law_plain (kV doc pm : Value) (an : Option Addr) (cdv ct : Value) (us : List Value) (h : us.length = (["top", "bottom"] : List Str).length) : bindArgs (PySem.W.fnOf D__law_plain.name D__law_plain.qual D__law_plain.params D__law_plain.body D__law_plain.scope .none kV doc pm an cdv ct) ⟨us, []⟩ = pure ((["top", "bottom"] : List Str).zip us) := match us, h with | [_, _], _ => rfl
theorem c__law_plain {P : Program} {w : World} {K : Frag} {mg : Str → Option Value} {base : Heap} (fx : Fx K mg base) : CalG P w K mg base 1 "_law_plain" D__law_plain ["top", "bottom"] f__law_plain := by
  obtain ⟨a, fd, F, hm⟩ := fx.f__law_plain
  refine calG (D := D__law_plain) (N := ["top", "bottom", "one", "late", "sign"]) (k := 0) (d := d__law_plain) F hm S__law_plain fun cdv A outer s H hr hgd => ?_
  exact pss_d1 (ps_dpar2 (i := 2) (j := 3) (mi := false) (mj := false) rfl S__law_plain.nd rfl rfl (by decide) rfl rfl (pa_d1 (pe_dcb c_abs rfl fx.n_abs bb_abs (pa_d1 (pe_dvar (i := 0) rfl (.inl rfl) nd_top nc_top) (pa_d0)) (by decide) nd_abs) (pa_d1 (pe_dcb c_abs rfl fx.n_abs bb_abs (pa_d1 (pe_dvar (i := 1) rfl (.inl rfl) nd_bottom nc_bottom) (pa_d0)) (by decide) nd_abs) (pa_d0))) rfl)
      (pss_d1 (ps_dwhile PassesOwn.never (pt_dcmp (o_ne hr.units) (pe_dvar (i := 3) rfl (.inl rfl) nd_late nc_late) (pe_dint) rfl) (pss_d1 (ps_dpar2 (i := 2) (j := 3) (mi := false) (mj := false) rfl S__law_plain.nd rfl rfl (by decide) rfl rfl (pa_d1 (pe_dvar (i := 3) rfl (.inl rfl) nd_late nc_late) (pa_d1 (pe_dbin o_mod (pe_dct c_int rfl fx.n_int bb_int (pa_d1 (pe_dvar (i := 2) rfl (.inl rfl) nd_one nc_one) (pa_d0)) (by decide) nd_int) (pe_dvar (i := 3) rfl (.inl rfl) nd_late nc_late)) (pa_d0))) rfl)
      (pss_d0)))
      (pss_d1 (ps_dset (n := 4) (mu := false) S__law_plain.nd rfl (.inl rfl) (.inl rfl) (pe_dite (pt_dcmp o_gt (pe_dvar (i := 1) rfl (.inl rfl) nd_bottom nc_bottom) (pe_dint) rfl) (pe_dint) (pe_dun o_neg (pe_dint))) rfl)
      (pss_d1 (ps_dret (pe_dtup (pa_d1 (pe_dbin o_div (pe_dbin o_mul (pe_dvar (i := 4) rfl (.inl rfl) nd_sign nc_sign) (pe_dvar (i := 0) rfl (.inl rfl) nd_top nc_top)) (pe_dvar (i := 2) rfl (.inl rfl) nd_one nc_one)) (pa_d1 (pe_dbin o_div (pe_dbin o_mul (pe_dvar (i := 4) rfl (.inl rfl) nd_sign nc_sign) (pe_dvar (i := 1) rfl (.inl rfl) nd_bottom nc_bottom)) (pe_dvar (i := 2) rfl (.inl rfl) nd_one nc_one)) (pa_d0)))))
      (pss_d0))))
theorem S__law_plus : FnScope ["one", "late"] ["one", "late"] D__law_plus.scope := ⟨rfl, rfl, rfl, by decide +kernel, rfl, by decide +kernel, by decide +kernel⟩
theorem b__law_plus (kV doc pm : Value) (an : Option Addr) (cdv ct : Value) (us : List Value) (h : us.length = (["one", "late"] : List Str).length) : bindArgs (PySem.W.fnOf D__law_plus.name D__law_plus.qual D__law_plus.params D__law_plus.body D__law_plus.scope .none kV doc pm an cdv ct) ⟨us, []⟩ = pure ((["one", "late"] : List Str).zip us) := match us, h with | [_, _], _ => rfl
theorem c__law_plus {P : Program} {w : World} {K : Frag} {mg : Str → Option Value} {base : Heap} (fx : Fx K mg base) : CalG P w K mg base 2 "_law_plus" D__law_plus ["one", "late"] f__law_plus := by
  obtain ⟨a, fd, F, hm⟩ := fx.f__law_plus
  refine calG (D := D__law_plus) (N := ["one", "late"]) (k := 1) (d := d__law_plus) F hm S__law_plus fun cdv A outer s H hr hgd => ?_
  exact pss_d1 (ps_dret (pe_gcall (mus := [false, false]) (c__law_plain fx) hr (by decide) hgd rfl rfl b__law_plain (pa_d1 (pe_dbin o_add (pe_dbin o_mul (pe_dix (pe_dvar (i := 0) rfl (.inl rfl) nd_one nc_one) (pe_dint) (fun _ _ _ _ h => nomatch h)) (pe_dix (pe_dvar (i := 1) rfl (.inl rfl) nd_late nc_late) (pe_dint) (fun _ _ _ _ h => nomatch h))) (pe_dbin o_mul (pe_dix (pe_dvar (i := 1) rfl (.inl rfl) nd_late nc_late) (pe_dint) (fun _ _ _ _ h => nomatch h)) (pe_dix (pe_dvar (i := 0) rfl (.inl rfl) nd_one nc_one) (pe_dint) (fun _ _ _ _ h => nomatch h)))) (pa_d1 (pe_dbin o_mul (pe_dix (pe_dvar (i := 0) rfl (.inl rfl) nd_one nc_one) (pe_dint) (fun _ _ _ _ h => nomatch h)) (pe_dix (pe_dvar (i := 1) rfl (.inl rfl) nd_late nc_late) (pe_dint) (fun _ _ _ _ h => nomatch h))) (pa_d0))) nd__law_plain))
      (pss_d0)
theorem S__law_times : FnScope ["one", "late"] ["one", "late"] D__law_times.scope := ⟨rfl, rfl, rfl, by decide +kernel, rfl, by decide +kernel, by decide +kernel⟩
theorem b__law_times (kV doc pm : Value) (an : Option Addr) (cdv ct : Value) (us : List Value) (h : us.length = (["one", "late"] : List Str).length) : bindArgs (PySem.W.fnOf D__law_times.name D__law_times.qual D__law_times.params D__law_times.body D__law_times.scope .none kV doc pm an cdv ct) ⟨us, []⟩ = pure ((["one", "late"] : List Str).zip us) := match us, h with | [_, _], _ => rfl
theorem c__law_times {P : Program} {w : World} {K : Frag} {mg : Str → Option Value} {base : Heap} (fx : Fx K mg base) : CalG P w K mg base 2 "_law_times" D__law_times ["one", "late"] f__law_times := by
  obtain ⟨a, fd, F, hm⟩ := fx.f__law_times
  refine calG (D := D__law_times) (N := ["one", "late"]) (k := 1) (d := d__law_times) F hm S__law_times fun cdv A outer s H hr hgd => ?_
  exact pss_d1 (ps_dret (pe_gcall (mus := [false, false]) (c__law_plain fx) hr (by decide) hgd rfl rfl b__law_plain (pa_d1 (pe_dbin o_mul (pe_dix (pe_dvar (i := 0) rfl (.inl rfl) nd_one nc_one) (pe_dint) (fun _ _ _ _ h => nomatch h)) (pe_dix (pe_dvar (i := 1) rfl (.inl rfl) nd_late nc_late) (pe_dint) (fun _ _ _ _ h => nomatch h))) (pa_d1 (pe_dbin o_mul (pe_dix (pe_dvar (i := 0) rfl (.inl rfl) nd_one nc_one) (pe_dint) (fun _ _ _ _ h => nomatch h)) (pe_dix (pe_dvar (i := 1) rfl (.inl rfl) nd_late nc_late) (pe_dint) (fun _ _ _ _ h => nomatch h))) (pa_d0))) nd__law_plain))
      (pss_d0)
theorem S__law_mixed_of : FnScope ["one", "late", "weight", "rest", "near", "far"] ["one", "late", "weight"] D__law_mixed_of.scope := ⟨rfl, rfl, rfl, by decide +kernel, rfl, by decide +kernel, by decide +kernel⟩
theorem b__law_mixed_of (kV doc pm : Value) (an : Option Addr) (cdv ct : Value) (us : List Value) (h : us.length = (["one", "late", "weight"] : List Str).length) : bindArgs (PySem.W.fnOf D__law_mixed_of.name D__law_mixed_of.qual D__law_mixed_of.params D__law_mixed_of.body D__law_mixed_of.scope .none kV doc pm an cdv ct) ⟨us, []⟩ = pure ((["one", "late", "weight"] : List Str).zip us) := match us, h with | [_, _, _], _ => rfl
theorem c__law_mixed_of {P : Program} {w : World} {K : Frag} {mg : Str → Option Value} {base : Heap} (fx : Fx K mg base) : CalG P w K mg base 3 "_law_mixed_of" D__law_mixed_of ["one", "late", "weight"] f__law_mixed_of := by
  obtain ⟨a, fd, F, hm⟩ := fx.f__law_mixed_of
  refine calG (D := D__law_mixed_of) (N := ["one", "late", "weight", "rest", "near", "far"]) (k := 2) (d := d__law_mixed_of) F hm S__law_mixed_of fun cdv A outer s H hr hgd => ?_
  exact pss_d1 (ps_dset (n := 3) (mu := false) S__law_mixed_of.nd rfl (.inr rfl) (.inl rfl) (pe_gcall (mus := [false, false]) (c__law_plus fx) hr (by decide) hgd rfl rfl b__law_plus (pa_d1 (pe_dtup (pa_d1 (pe_dint) (pa_d1 (pe_dint) (pa_d0)))) (pa_d1 (pe_dtup (pa_d1 (pe_dbin o_sub (pe_dint) (pe_dix (pe_dvar (i := 2) rfl (.inr (.inl rfl)) nd_weight nc_weight) (pe_dint) (fun _ _ _ _ h => nomatch h))) (pa_d1 (pe_dix (pe_dvar (i := 2) rfl (.inr (.inl rfl)) nd_weight nc_weight) (pe_dint) (fun _ _ _ _ h => nomatch h)) (pa_d0)))) (pa_d0))) nd__law_plus) rfl)
      (pss_d1 (ps_dret (pe_dcomp (own := [("near", 4), ("far", 5)]) (is := ([4] ++ ([5] ++ []))) rfl S__law_mixed_of.nd (pi_dzip2 rfl fx.n_zip (pa_d1 (pe_dvar (i := 0) rfl (.inl rfl) nd_one nc_one) (pa_d1 (pe_dvar (i := 1) rfl (.inl rfl) nd_late nc_late) (pa_d0)))) rfl (fun _ _ _ _ _ => pg_dtup rfl (pgs_d1 (pg_dname (n := 4) S__law_mixed_of.nd rfl (.inl rfl) (.inr rfl)) (pgs_d1 (pg_dname (n := 5) S__law_mixed_of.nd rfl (.inl rfl) (.inr rfl)) (pgs_d0) rfl) rfl) rfl rfl) (fun _ _ _ _ _ => pts_nil) (fun _ _ _ _ _ => pe_gcall (mus := [false, false]) (c__law_plus fx) hr (by decide) hgd rfl rfl b__law_plus (pa_d1 (pe_gcall (mus := [false, false]) (c__law_times fx) hr (by decide) hgd rfl rfl b__law_times (pa_d1 (pe_dvar (i := 2) rfl (.inr (.inl rfl)) nd_weight nc_weight) (pa_d1 (pe_dtup (pa_d1 (pe_dvar (i := 4) rfl (.inl rfl) nd_near nc_near) (pa_d1 (pe_dint) (pa_d0)))) (pa_d0))) nd__law_times) (pa_d1 (pe_gcall (mus := [false, false]) (c__law_times fx) hr (by decide) hgd rfl rfl b__law_times (pa_d1 (pe_dvar (i := 3) rfl (.inr (.inl rfl)) nd_rest nc_rest) (pa_d1 (pe_dtup (pa_d1 (pe_dvar (i := 5) rfl (.inl rfl) nd_far nc_far) (pa_d1 (pe_dint) (pa_d0)))) (pa_d0))) nd__law_times) (pa_d0))) nd__law_plus) (fun _ => rfl) rfl))
      (pss_d0))
theorem S__law_base_right : FnScope ["pot", "case", "base", "many", "high", "low", "told", "named", "paid", "weight", "sort", "one"] ["pot", "case", "base"] D__law_base_right.scope := ⟨rfl, rfl, rfl, by decide +kernel, rfl, by decide +kernel, by decide +kernel⟩
theorem b__law_base_right (kV doc pm : Value) (an : Option Addr) (cdv ct : Value) (us : List Value) (h : us.length = (["pot", "case", "base"] : List Str).length) : bindArgs (PySem.W.fnOf D__law_base_right.name D__law_base_right.qual D__law_base_right.params D__law_base_right.body D__law_base_right.scope .none kV doc pm an cdv ct) ⟨us, []⟩ = pure ((["pot", "case", "base"] : List Str).zip us) := match us, h with | [_, _, _], _ => rfl
theorem c__law_base_right {P : Program} {w : World} {K : Frag} {mg : Str → Option Value} {base : Heap} (fx : Fx K mg base) : CalG P w K mg base 7 "_law_base_right" D__law_base_right ["pot", "case", "base"] f__law_base_right := by
  obtain ⟨a, fd, F, hm⟩ := fx.f__law_base_right
  refine calG (D := D__law_base_right) (N := ["pot", "case", "base", "many", "high", "low", "told", "named", "paid", "weight", "sort", "one"]) (k := 6) (d := d__law_base_right) F hm S__law_base_right fun cdv A outer s H hr hgd => ?_
  exact pss_d1 (ps_dset (n := 3) (mu := false) S__law_base_right.nd rfl (.inl rfl) (.inl rfl) (pe_dcb c_len rfl fx.n_len bb_len (pa_d1 (pe_dix (pe_dvar (i := 1) rfl (.inr (.inl rfl)) nd_case nc_case) (pe_dint) (fun _ _ _ _ h => nomatch h)) (pa_d0)) (by decide) nd_len) rfl)
      (pss_d1 (ps_dsetLc (i := 4) (mu := false) (own := [("sort", 10)]) (is := [10]) rfl S__law_base_right.nd rfl rfl (sw_true rfl rfl rfl rfl) (pi_drng1 rfl fx.n_range (pa_d1 (pe_dvar (i := 3) rfl (.inl rfl) nd_many nc_many) (pa_d0))) rfl (fun _ _ _ _ _ => pg_dname (n := 10) S__law_base_right.nd rfl (.inl rfl) (.inr rfl)) (fun _ _ _ _ _ => pts_nil) (fun _ _ _ _ _ => pe_gcall (mus := [false, false, false]) (c__law_far fx) hr (by decide) hgd rfl rfl b__law_far (pa_d1 (pe_dvar (i := 1) rfl (.inr (.inl rfl)) nd_case nc_case) (pa_d1 (pe_dvar (i := 10) rfl (.inl rfl) nd_sort nc_sort) (pa_d1 (pe_dvar (i := 2) rfl (.inr (.inl rfl)) nd_base nc_base) (pa_d0)))) nd__law_far) (fun _ => rfl) rfl)
      (pss_d1 (ps_dsetLc (i := 5) (mu := false) (own := [("sort", 10)]) (is := [10]) rfl S__law_base_right.nd rfl rfl (sw_true rfl rfl rfl rfl) (pi_drng1 rfl fx.n_range (pa_d1 (pe_dvar (i := 3) rfl (.inl rfl) nd_many nc_many) (pa_d0))) rfl (fun _ _ _ _ _ => pg_dname (n := 10) S__law_base_right.nd rfl (.inl rfl) (.inr rfl)) (fun _ _ _ _ _ => pts_nil) (fun _ _ _ _ _ => pe_dbin o_sub (pe_dint) (pe_gcall (mus := [false, false, false]) (c__law_far fx) hr (by decide) hgd rfl rfl b__law_far (pa_d1 (pe_dvar (i := 1) rfl (.inr (.inl rfl)) nd_case nc_case) (pa_d1 (pe_dvar (i := 2) rfl (.inr (.inl rfl)) nd_base nc_base) (pa_d1 (pe_dvar (i := 10) rfl (.inl rfl) nd_sort nc_sort) (pa_d0)))) nd__law_far)) (fun _ => rfl) rfl)
      (pss_d1 (ps_dset (n := 6) (mu := false) S__law_base_right.nd rfl (.inl rfl) (.inl rfl) (pe_dnst (mus := [true, true]) (pa_d1 (pe_gcall (mus := [false, false]) (c_greatest_payments fx) hr (by decide) hgd rfl rfl b_greatest_payments (pa_d1 (pe_dvar (i := 1) rfl (.inr (.inl rfl)) nd_case nc_case) (pa_d1 (pe_dvar (i := 2) rfl (.inr (.inl rfl)) nd_base nc_base) (pa_d0))) nd_greatest_payments) (pa_d1 (pe_gcall (mus := [false, false]) (c_least_payments fx) hr (by decide) hgd rfl rfl b_least_payments (pa_d1 (pe_dvar (i := 1) rfl (.inr (.inl rfl)) nd_case nc_case) (pa_d1 (pe_dvar (i := 2) rfl (.inr (.inl rfl)) nd_base nc_base) (pa_d0))) nd_least_payments) (pa_d0)))) rfl)
      (pss_d1 (ps_dset (n := 7) (mu := false) S__law_base_right.nd rfl (.inl rfl) (.inl rfl) (pe_dlst (pa_d1 (pe_gcallK0 (ks := ["base", "case"]) (perm := [1, 0]) (mus := [false, false]) (c_greatest_payments fx) hr (by decide) hgd rfl rfl rfl k_greatest_payments_0_base_case (pk_d1 (pe_dvar (i := 2) rfl (.inr (.inl rfl)) nd_base nc_base) (pk_d1 (pe_dvar (i := 1) rfl (.inr (.inl rfl)) nd_case nc_case) (pk_d0))) rfl rfl nd_greatest_payments) (pa_d1 (pe_gcallK0 (ks := ["base", "case"]) (perm := [1, 0]) (mus := [false, false]) (c_least_payments fx) hr (by decide) hgd rfl rfl rfl k_least_payments_0_base_case (pk_d1 (pe_dvar (i := 2) rfl (.inr (.inl rfl)) nd_base nc_base) (pk_d1 (pe_dvar (i := 1) rfl (.inr (.inl rfl)) nd_case nc_case) (pk_d0))) rfl rfl nd_least_payments) (pa_d0)))) rfl)
      (pss_d1 (ps_dif (PW.pt (pw_dor (pt_dcmp (o_ne hr.units) (pe_drepLD hgd (Room.u100 hr) fx.sys rfl fx.n_repr bb_repr (pa_d1 (pe_dvar (i := 6) rfl (.inl rfl) nd_told nc_told) (pa_d1 (pe_dvar (i := 7) rfl (.inl rfl) nd_named nc_named) (pa_d0)))) (pe_dcb (c_repr hgd (Room.u100 hr) fx.sys) rfl fx.n_repr bb_repr (pa_d1 (pe_dbin o_mul (pe_dlst (pa_d1 (pe_dlst (pa_d1 (pe_dvar (i := 4) rfl (.inl rfl) nd_high nc_high) (pa_d1 (pe_dvar (i := 5) rfl (.inl rfl) nd_low nc_low) (pa_d0)))) (pa_d0))) (pe_dint)) (pa_d0)) (by decide) nd_repr) rfl) (pw_dor (pt_dcmp (o_ne hr.units) (pe_dix (pe_dvar (i := 4) rfl (.inl rfl) nd_high nc_high) (pe_dvar (i := 2) rfl (.inr (.inl rfl)) nd_base nc_base) (fun _ _ _ _ h => nomatch h)) (pe_dint) rfl) (pw_d1 (pt_dcmp (o_ne hr.units) (pe_dix (pe_dvar (i := 5) rfl (.inl rfl) nd_low nc_low) (pe_dvar (i := 2) rfl (.inr (.inl rfl)) nd_base nc_base) (fun _ _ _ _ h => nomatch h)) (pe_dint) rfl))))) (pss_d1 (ps_dret (pe_dbl))
      (pss_d0)) (pss_d0))
      (pss_d1 (ps_dfor PassesOwn.never rfl (pi_dseq (pe_dlst (pa_d1 (pe_dvar (i := 4) rfl (.inl rfl) nd_high nc_high) (pa_d1 (pe_dvar (i := 5) rfl (.inl rfl) nd_low nc_low) (pa_d0))))) (pg_dname (n := 8) S__law_base_right.nd rfl (.inl rfl) (.inl rfl)) (pss_d1 (ps_dif (pt_dcmp o_isn (pe_gcall (mus := [false, false]) (c_do_make_true fx) hr (by decide) hgd rfl rfl b_do_make_true (pa_d1 (pe_dvar (i := 1) rfl (.inr (.inl rfl)) nd_case nc_case) (pa_d1 (pe_dcomp (own := [("one", 11)]) (is := [11]) rfl S__law_base_right.nd (pi_dseq (pe_dvar (i := 8) rfl (.inl rfl) nd_paid nc_paid)) rfl (fun _ _ _ _ _ => pg_dname (n := 11) S__law_base_right.nd rfl (.inl rfl) (.inr rfl)) (fun _ _ _ _ _ => pts_nil) (fun _ _ _ _ _ => pe_dtup (pa_d1 (pe_dvar (i := 11) rfl (.inl rfl) nd_one nc_one) (pa_d1 (pe_dint) (pa_d0)))) (fun _ => rfl) rfl) (pa_d0))) nd_do_make_true) (pe_dbl) rfl) (pss_d1 (ps_dret (pe_dbl))
      (pss_d0)) (pss_d0))
      (pss_d0)) (fun _ => rfl))
      (pss_d1 (ps_dfor PassesOwn.never rfl (pi_dseq (pe_dtup (pa_d1 (pe_dtup (pa_d1 (pe_dint) (pa_d1 (pe_dint) (pa_d0)))) (pa_d1 (pe_dtup (pa_d1 (pe_dint) (pa_d1 (pe_dint) (pa_d0)))) (pa_d1 (pe_dtup (pa_d1 (pe_gcall (mus := [true, false]) (c__law_draw fx) hr (by decide) hgd rfl rfl b__law_draw (pa_d1 (pe_dvar (i := 0) rfl (.inl rfl) nd_pot nc_pot) (pa_d1 (pe_dint) (pa_d0))) nd__law_draw) (pa_d1 (pe_dint) (pa_d0)))) (pa_d0)))))) (pg_dname (n := 9) S__law_base_right.nd rfl (.inl rfl) (.inl rfl)) (pss_d1 (ps_dif (pt_dcmp o_isn (pe_gcall (mus := [false, false]) (c_do_make_true fx) hr (by decide) hgd rfl rfl b_do_make_true (pa_d1 (pe_dvar (i := 1) rfl (.inr (.inl rfl)) nd_case nc_case) (pa_d1 (pe_gcall (mus := [false, false, false]) (c__law_mixed_of fx) hr (by decide) hgd rfl rfl b__law_mixed_of (pa_d1 (pe_dvar (i := 4) rfl (.inl rfl) nd_high nc_high) (pa_d1 (pe_dvar (i := 5) rfl (.inl rfl) nd_low nc_low) (pa_d1 (pe_gcall (mus := [false, false]) (c__law_plain fx) hr (by decide) hgd rfl rfl b__law_plain (pa_d1 (pe_dix (pe_dvar (i := 9) rfl (.inl rfl) nd_weight nc_weight) (pe_dint) (fun _ _ _ _ h => nomatch h)) (pa_d1 (pe_dix (pe_dvar (i := 9) rfl (.inl rfl) nd_weight nc_weight) (pe_dint) (fun _ _ _ _ h => nomatch h)) (pa_d0))) nd__law_plain) (pa_d0)))) nd__law_mixed_of) (pa_d0))) nd_do_make_true) (pe_dbl) rfl) (pss_d1 (ps_dret (pe_dbl))
      (pss_d0)) (pss_d0))
      (pss_d0)) (fun _ => rfl))
      (pss_d1 (ps_dfor PassesOwn.never rfl (pi_drng1 rfl fx.n_range (pa_d1 (pe_dvar (i := 3) rfl (.inl rfl) nd_many nc_many) (pa_d0))) (pg_dname (n := 10) S__law_base_right.nd rfl (.inl rfl) (.inl rfl)) (pss_d1 (ps_dsetLc (i := 8) (mu := true) (own := [("one", 11)]) (is := [11]) rfl S__law_base_right.nd rfl rfl (sw_true rfl rfl rfl rfl) (pi_dseq (pe_dvar (i := 4) rfl (.inl rfl) nd_high nc_high)) rfl (fun _ _ _ _ _ => pg_dname (n := 11) S__law_base_right.nd rfl (.inl rfl) (.inr rfl)) (fun _ _ _ _ _ => pts_nil) (fun _ _ _ _ _ => pe_dtup (pa_d1 (pe_dvar (i := 11) rfl (.inl rfl) nd_one nc_one) (pa_d1 (pe_dint) (pa_d0)))) (fun _ => rfl) rfl)
      (pss_d1 (ps_dasg (is := []) (pe_gcall (mus := [false, false]) (c__law_plus fx) hr (by decide) hgd rfl rfl b__law_plus (pa_d1 (pe_dix (pe_dvar (i := 8) rfl (.inl rfl) nd_paid nc_paid) (pe_dvar (i := 10) rfl (.inl rfl) nd_sort nc_sort) (fun _ _ _ _ h => nomatch h)) (pa_d1 (pe_dtup (pa_d1 (pe_dint) (pa_d1 (pe_dint) (pa_d0)))) (pa_d0))) nd__law_plus) (pg_dsub (pe_dvar (i := 8) rfl (.inl rfl) nd_paid nc_paid) (pe_dvar (i := 10) rfl (.inl rfl) nd_sort nc_sort) (fun _ => rfl)) rfl rfl rfl)
      (pss_d1 (ps_dif (PW.pt (pw_dand (pt_dcmp (o_ne hr.units) (pe_dvar (i := 10) rfl (.inl rfl) nd_sort nc_sort) (pe_dvar (i := 2) rfl (.inr (.inl rfl)) nd_base nc_base) rfl) (pw_d1 (pt_dcmp o_isn (pe_gcall (mus := [false, false]) (c_do_make_true fx) hr (by decide) hgd rfl rfl b_do_make_true (pa_d1 (pe_dvar (i := 1) rfl (.inr (.inl rfl)) nd_case nc_case) (pa_d1 (pe_dct c_tuple rfl fx.n_tuple bb_tuple (pa_d1 (pe_dvar (i := 8) rfl (.inl rfl) nd_paid nc_paid) (pa_d0)) (by decide) nd_tuple) (pa_d0))) nd_do_make_true) (pe_dbl) rfl)))) (pss_d1 (ps_dret (pe_dbl))
      (pss_d0)) (pss_d0))
      (pss_d0)))) (fun _ => rfl))
      (pss_d1 (ps_dexpr (pe_dapp ⟨rfl, rfl, rfl⟩ (fun _ _ h => nomatch h) (pe_dixN (pe_dvar (i := 6) rfl (.inl rfl) nd_told nc_told) (pe_dint) (fun _ _ _ _ h => nomatch h)) (pe_dnon)) rfl)
      (pss_d1 (ps_dret (pe_dcmp (o_eq hr.units) (pe_dcb (c_repr hgd (Room.u100 hr) fx.sys) rfl fx.n_repr bb_repr (pa_d1 (pe_gcall (mus := [false, false]) (c_greatest_payments fx) hr (by decide) hgd rfl rfl b_greatest_payments (pa_d1 (pe_dvar (i := 1) rfl (.inr (.inl rfl)) nd_case nc_case) (pa_d1 (pe_dvar (i := 2) rfl (.inr (.inl rfl)) nd_base nc_base) (pa_d0))) nd_greatest_payments) (pa_d0)) (by decide) nd_repr) (pe_dcb (c_repr hgd (Room.u100 hr) fx.sys) rfl fx.n_repr bb_repr (pa_d1 (pe_dvar (i := 4) rfl (.inl rfl) nd_high nc_high) (pa_d0)) (by decide) nd_repr) rfl))
      (pss_d0)))))))))))
theorem S__law_right : FnScope ["pot", "case", "many", "shown", "one", "late", "due", "paid", "base"] ["pot"] D__law_right.scope := ⟨rfl, rfl, rfl, by decide +kernel, rfl, by decide +kernel, by decide +kernel⟩
theorem b__law_right (kV doc pm : Value) (an : Option Addr) (cdv ct : Value) (us : List Value) (h : us.length = (["pot"] : List Str).length) : bindArgs (PySem.W.fnOf D__law_right.name D__law_right.qual D__law_right.params D__law_right.body D__law_right.scope .none kV doc pm an cdv ct) ⟨us, []⟩ = pure ((["pot"] : List Str).zip us) := match us, h with | [_], _ => rfl
theorem c__law_right {P : Program} {w : World} {K : Frag} {mg : Str → Option Value} {base : Heap} (fx : Fx K mg base) : CalG P w K mg base 8 "_law_right" D__law_right ["pot"] f__law_right := by
  obtain ⟨a, fd, F, hm⟩ := fx.f__law_right
  refine calG (D := D__law_right) (N := ["pot", "case", "many", "shown", "one", "late", "due", "paid", "base"]) (k := 7) (d := d__law_right) F hm S__law_right fun cdv A outer s H hr hgd => ?_
  exact pss_d1 (ps_dset (n := 1) (mu := false) S__law_right.nd rfl (.inr rfl) (.inl rfl) (pe_gcall (mus := [true, false, false]) (c__law_case fx) hr (by decide) hgd rfl rfl b__law_case (pa_d1 (pe_dvar (i := 0) rfl (.inr (.inl rfl)) nd_pot nc_pot) (pa_d1 (pe_dint) (pa_d1 (pe_gcall (mus := [true, false]) (c__law_pick fx) hr (by decide) hgd rfl rfl b__law_pick (pa_d1 (pe_dvar (i := 0) rfl (.inr (.inl rfl)) nd_pot nc_pot) (pa_d1 (pe_dlst (pa_d1 (pe_dint) (pa_d1 (pe_dint) (pa_d1 (pe_dint) (pa_d0))))) (pa_d0))) nd__law_pick) (pa_d0)))) nd__law_case) rfl)
      (pss_d1 (ps_dif (pt_dcmp o_isn (pe_gcall (mus := [false]) (c__law_ring fx) hr (by decide) hgd rfl rfl b__law_ring (pa_d1 (pe_dvar (i := 1) rfl (.inr (.inl rfl)) nd_case nc_case) (pa_d0)) nd__law_ring) (pe_dnon) rfl) (pss_d1 (ps_dret (pe_dcmp (o_eq hr.units) (pe_gcall (mus := [false]) (c_ring fx) hr (by decide) hgd rfl rfl b_ring (pa_d1 (pe_dvar (i := 1) rfl (.inr (.inl rfl)) nd_case nc_case) (pa_d0)) nd_ring) (pe_gcall (mus := [false]) (c__law_ring fx) hr (by decide) hgd rfl rfl b__law_ring (pa_d1 (pe_dvar (i := 1) rfl (.inr (.inl rfl)) nd_case nc_case) (pa_d0)) nd__law_ring) rfl))
      (pss_d0)) (pss_d0))
      (pss_d1 (ps_dpar2 (i := 2) (j := 3) (mi := false) (mj := false) rfl S__law_right.nd rfl rfl (by decide) rfl rfl (pa_d1 (pe_dcb c_len rfl fx.n_len bb_len (pa_d1 (pe_dix (pe_dvar (i := 1) rfl (.inr (.inl rfl)) nd_case nc_case) (pe_dint) (fun _ _ _ _ h => nomatch h)) (pa_d0)) (by decide) nd_len) (pa_d1 (pe_dcb (c_repr hgd (Room.u100 hr) fx.sys) rfl fx.n_repr bb_repr (pa_d1 (pe_dvar (i := 1) rfl (.inr (.inl rfl)) nd_case nc_case) (pa_d0)) (by decide) nd_repr) (pa_d0))) rfl)
      (pss_d1 (ps_dfor PassesOwn.never rfl (pi_drng1 rfl fx.n_range (pa_d1 (pe_dvar (i := 2) rfl (.inl rfl) nd_many nc_many) (pa_d0))) (pg_dname (n := 4) S__law_right.nd rfl (.inl rfl) (.inl rfl)) (pss_d1 (ps_dfor PassesOwn.never rfl (pi_drng1 rfl fx.n_range (pa_d1 (pe_dvar (i := 2) rfl (.inl rfl) nd_many nc_many) (pa_d0))) (pg_dname (n := 5) S__law_right.nd rfl (.inl rfl) (.inl rfl)) (pss_d1 (ps_dset (n := 6) (mu := false) S__law_right.nd rfl (.inl rfl) (.inl rfl) (pe_dtup (pa_d1 (pe_dbin o_sub (pe_dint) (pe_gcall (mus := [false, false, false]) (c__law_far fx) hr (by decide) hgd rfl rfl b__law_far (pa_d1 (pe_dvar (i := 1) rfl (.inr (.inl rfl)) nd_case nc_case) (pa_d1 (pe_dvar (i := 5) rfl (.inl rfl) nd_late nc_late) (pa_d1 (pe_dvar (i := 4) rfl (.inl rfl) nd_one nc_one) (pa_d0)))) nd__law_far)) (pa_d1 (pe_gcall (mus := [false, false, false]) (c__law_far fx) hr (by decide) hgd rfl rfl b__law_far (pa_d1 (pe_dvar (i := 1) rfl (.inr (.inl rfl)) nd_case nc_case) (pa_d1 (pe_dvar (i := 4) rfl (.inl rfl) nd_one nc_one) (pa_d1 (pe_dvar (i := 5) rfl (.inl rfl) nd_late nc_late) (pa_d0)))) nd__law_far) (pa_d0)))) rfl)
      (pss_d1 (ps_dif (PW.pt (pw_dor (pt_dcmp (o_ne hr.units) (pe_drepL hgd (Room.u100 hr) fx.sys rfl fx.n_repr bb_repr (pa_d1 (pe_gcall (mus := [false, false, false]) (c_span fx) hr (by decide) hgd rfl rfl b_span (pa_d1 (pe_dvar (i := 1) rfl (.inr (.inl rfl)) nd_case nc_case) (pa_d1 (pe_dvar (i := 4) rfl (.inl rfl) nd_one nc_one) (pa_d1 (pe_dvar (i := 5) rfl (.inl rfl) nd_late nc_late) (pa_d0)))) nd_span) (pa_d1 (pe_gcallK0 (ks := ["late", "one", "case"]) (perm := [2, 1, 0]) (mus := [false, false, false]) (c_span fx) hr (by decide) hgd rfl rfl rfl k_span_0_late_one_case (pk_d1 (pe_dvar (i := 5) rfl (.inl rfl) nd_late nc_late) (pk_d1 (pe_dvar (i := 4) rfl (.inl rfl) nd_one nc_one) (pk_d1 (pe_dvar (i := 1) rfl (.inr (.inl rfl)) nd_case nc_case) (pk_d0)))) rfl rfl nd_span) (pa_d0)))) (pe_drepL hgd (Room.u100 hr) fx.sys rfl fx.n_repr bb_repr (pa_d1 (pe_dvar (i := 6) rfl (.inl rfl) nd_due nc_due) (pa_d1 (pe_dvar (i := 6) rfl (.inl rfl) nd_due nc_due) (pa_d0)))) rfl) (pw_d1 (pt_dcmp o_gt (pe_dix (pe_dvar (i := 6) rfl (.inl rfl) nd_due nc_due) (pe_dint) (fun _ _ _ _ h => nomatch h)) (pe_dix (pe_dvar (i := 6) rfl (.inl rfl) nd_due nc_due) (pe_dint) (fun _ _ _ _ h => nomatch h)) rfl)))) (pss_d1 (ps_dret (pe_dbl))
      (pss_d0)) (pss_d0))
      (pss_d1 (ps_dif (PW.pt (pw_dand (pt_dcmp (o_eq hr.units) (pe_dix (pe_dix (pe_dvar (i := 1) rfl (.inr (.inl rfl)) nd_case nc_case) (pe_dint) (fun _ _ _ _ h => nomatch h)) (pe_dvar (i := 4) rfl (.inl rfl) nd_one nc_one) (fun _ _ _ _ h => nomatch h)) (pe_dix (pe_dix (pe_dvar (i := 1) rfl (.inr (.inl rfl)) nd_case nc_case) (pe_dint) (fun _ _ _ _ h => nomatch h)) (pe_dvar (i := 5) rfl (.inl rfl) nd_late nc_late) (fun _ _ _ _ h => nomatch h)) rfl) (pw_d1 (pt_dcmp (o_ne hr.units) (pe_dvar (i := 6) rfl (.inl rfl) nd_due nc_due) (pe_dtup (pa_d1 (pe_dint) (pa_d1 (pe_dint) (pa_d0)))) rfl)))) (pss_d1 (ps_dret (pe_dbl))
      (pss_d0)) (pss_d0))
      (pss_d1 (ps_dset (n := 7) (mu := false) S__law_right.nd rfl (.inl rfl) (.inl rfl) (pe_gcall (mus := [false, false]) (c_greatest_payments fx) hr (by decide) hgd rfl rfl b_greatest_payments (pa_d1 (pe_dvar (i := 1) rfl (.inr (.inl rfl)) nd_case nc_case) (pa_d1 (pe_gcall (mus := [true, false]) (c__law_draw fx) hr (by decide) hgd rfl rfl b__law_draw (pa_d1 (pe_dvar (i := 0) rfl (.inr (.inl rfl)) nd_pot nc_pot) (pa_d1 (pe_dvar (i := 2) rfl (.inl rfl) nd_many nc_many) (pa_d0))) nd__law_draw) (pa_d0))) nd_greatest_payments) rfl)
      (pss_d1 (ps_dif (pt_dnot (pt_dchain o_le o_le (pe_dix (pe_dvar (i := 6) rfl (.inl rfl) nd_due nc_due) (pe_dint) (fun _ _ _ _ h => nomatch h)) (pe_dbin o_sub (pe_dix (pe_dvar (i := 7) rfl (.inl rfl) nd_paid nc_paid) (pe_dvar (i := 4) rfl (.inl rfl) nd_one nc_one) (fun _ _ _ _ h => nomatch h)) (pe_dix (pe_dvar (i := 7) rfl (.inl rfl) nd_paid nc_paid) (pe_dvar (i := 5) rfl (.inl rfl) nd_late nc_late) (fun _ _ _ _ h => nomatch h))) (pe_dix (pe_dvar (i := 6) rfl (.inl rfl) nd_due nc_due) (pe_dint) (fun _ _ _ _ h => nomatch h)) rfl)) (pss_d1 (ps_dret (pe_dbl))
      (pss_d0)) (pss_d0))
      (pss_d0)))))) (fun _ => rfl))
      (pss_d0)) (fun _ => rfl))
      (pss_d1 (ps_dret (pe_dand (pe_dcb (c_all rfl) rfl fx.n_all bb_all (pa_d1 (pe_dcomp (own := [("base", 8)]) (is := [8]) rfl S__law_right.nd (pi_drng1 rfl fx.n_range (pa_d1 (pe_dvar (i := 2) rfl (.inl rfl) nd_many nc_many) (pa_d0))) rfl (fun _ _ _ _ _ => pg_dname (n := 8) S__law_right.nd rfl (.inl rfl) (.inr rfl)) (fun _ _ _ _ _ => pts_nil) (fun _ _ _ _ _ => pe_gcall (mus := [true, false, false]) (c__law_base_right fx) hr (by decide) hgd rfl rfl b__law_base_right (pa_d1 (pe_dvar (i := 0) rfl (.inr (.inl rfl)) nd_pot nc_pot) (pa_d1 (pe_dvar (i := 1) rfl (.inr (.inl rfl)) nd_case nc_case) (pa_d1 (pe_dvar (i := 8) rfl (.inl rfl) nd_base nc_base) (pa_d0)))) nd__law_base_right) (fun _ => rfl) rfl) (pa_d0)) (by decide) nd_all) (pe_d1 (pe_dcmp (o_eq hr.units) (pe_dcb (c_repr hgd (Room.u100 hr) fx.sys) rfl fx.n_repr bb_repr (pa_d1 (pe_dvar (i := 1) rfl (.inr (.inl rfl)) nd_case nc_case) (pa_d0)) (by decide) nd_repr) (pe_dvar (i := 3) rfl (.inl rfl) nd_shown nc_shown) rfl))))
      (pss_d0)))))
theorem S_law : FnScope ["script", "k"] ["script"] D_law.scope := ⟨rfl, rfl, rfl, by decide +kernel, rfl, by decide +kernel, by decide +kernel⟩
theorem b_law (kV doc pm : Value) (an : Option Addr) (cdv ct : Value) (us : List Value) (h : us.length = (["script"] : List Str).length) : bindArgs (PySem.W.fnOf D_law.name D_law.qual D_law.params D_law.body D_law.scope .none kV doc pm an cdv ct) ⟨us, []⟩ = pure ((["script"] : List Str).zip us) := match us, h with | [_], _ => rfl
theorem c_law {P : Program} {w : World} {K : Frag} {mg : Str → Option Value} {base : Heap} (fx : Fx K mg base) : CalG P w K mg base 9 "law" D_law ["script"] f_law := by
  obtain ⟨a, fd, F, hm⟩ := fx.f_law
  refine calG (D := D_law) (N := ["script", "k"]) (k := 8) (d := d_law) F hm S_law fun cdv A outer s H hr hgd => ?_
  exact pss_d1 (ps_dret (pe_dcb (c_all rfl) rfl fx.n_all bb_all (pa_d1 (pe_dcomp (own := [("k", 1)]) (is := [1]) rfl S_law.nd (pi_drng1 rfl fx.n_range (pa_d1 (pe_dcb (c_max2 rfl) rfl fx.n_max bb_max (pa_d1 (pe_dint) (pa_d1 (pe_dcb (c_min2 rfl) rfl fx.n_min bb_min (pa_d1 (pe_dint) (pa_d1 (pe_dcb c_len rfl fx.n_len bb_len (pa_d1 (pe_dvar (i := 0) rfl (.inr (.inl rfl)) nd_script nc_script) (pa_d0)) (by decide) nd_len) (pa_d0))) (by decide) nd_min) (pa_d0))) (by decide) nd_max) (pa_d0))) rfl (fun _ _ _ _ _ => pg_dname (n := 1) S_law.nd rfl (.inl rfl) (.inr rfl)) (fun _ _ _ _ _ => pts_nil) (fun _ _ _ _ _ => pe_gcall (mus := [true]) (c__law_right fx) hr (by decide) hgd rfl rfl b__law_right (pa_d1 (pe_gcall (mus := [false, false]) (c__law_pot fx) hr (by decide) hgd rfl rfl b__law_pot (pa_d1 (pe_dvar (i := 0) rfl (.inr (.inl rfl)) nd_script nc_script) (pa_d1 (pe_dvar (i := 1) rfl (.inl rfl) nd_k nc_k) (pa_d0))) nd__law_pot) (pa_d0)) nd__law_right) (fun _ => rfl) rfl) (pa_d0)) (by decide) nd_all))
      (pss_d0)
theorem fnG_law {P : Program} {w : World} {K : Frag} {mg : Str → Option Value} {base : Heap} {a : Addr} {fd : FuncData} (F : FunD K D_law.name D_law.qual D_law.params D_law.body D_law.scope [] [] a fd) (fx : Fx K mg base) : FnG P w K mg base 9 a fd ["script"] (spF K f_law) := by
  refine fnG_body (N := ["script", "k"]) (k := 8) (d := d_law) F S_law fun cdv A outer s H hr hgd => ?_
  exact pss_d1 (ps_dret (pe_dcb (c_all rfl) rfl fx.n_all bb_all (pa_d1 (pe_dcomp (own := [("k", 1)]) (is := [1]) rfl S_law.nd (pi_drng1 rfl fx.n_range (pa_d1 (pe_dcb (c_max2 rfl) rfl fx.n_max bb_max (pa_d1 (pe_dint) (pa_d1 (pe_dcb (c_min2 rfl) rfl fx.n_min bb_min (pa_d1 (pe_dint) (pa_d1 (pe_dcb c_len rfl fx.n_len bb_len (pa_d1 (pe_dvar (i := 0) rfl (.inr (.inl rfl)) nd_script nc_script) (pa_d0)) (by decide) nd_len) (pa_d0))) (by decide) nd_min) (pa_d0))) (by decide) nd_max) (pa_d0))) rfl (fun _ _ _ _ _ => pg_dname (n := 1) S_law.nd rfl (.inl rfl) (.inr rfl)) (fun _ _ _ _ _ => pts_nil) (fun _ _ _ _ _ => pe_gcall (mus := [true]) (c__law_right fx) hr (by decide) hgd rfl rfl b__law_right (pa_d1 (pe_gcall (mus := [false, false]) (c__law_pot fx) hr (by decide) hgd rfl rfl b__law_pot (pa_d1 (pe_dvar (i := 0) rfl (.inr (.inl rfl)) nd_script nc_script) (pa_d1 (pe_dvar (i := 1) rfl (.inl rfl) nd_k nc_k) (pa_d0))) nd__law_pot) (pa_d0)) nd__law_right) (fun _ => rfl) rfl) (pa_d0)) (by decide) nd_all))
      (pss_d0)
end K64
end
section
set_option Elab.async false
set_option linter.all false
set_option maxHeartbeats 1000000
set_option maxRecDepth 100000
set_option autoImplicit false
namespace K64
open PySem Pf
@[simp] theorem v_is_integer (v : PV) : f_is_integer [.val v] = .ok (.val (.bl (isI v))) [] := by
  cases v <;> rfl
@[simp] theorem v_is_within (v : PV) (a b : Int) : f_is_within [.val v, .val (.int a), .val (.int b)] = .ok (.val (.bl (inR a b v))) [] := by
  simp [f_is_within, d_is_within, v_is_integer]
  cases v <;> simp [isI, inR]
  next i =>
    by_cases h : a ≤ i <;> simp [h]
@[simp] theorem v_is_list (v : PV) : f_is_list [.val v] = .ok (.val (.bl (isL v))) [] := by
  cases v <;> rfl
theorem v_law_draw {p : PV} (hp : PotOk p) {many : Int} (h1 : 1 ≤ many) (h2 : many < 1073741824) :
    ∃ (p' : PV) (d : Int), f__law_draw [.cel p, .val (.int many)] = .ok (.val (.int d)) [.live p'] ∧ PotOk p' ∧ 0 ≤ d ∧ d < many := by
  obtain ⟨a, b, rfl, hb0, hb⟩ := hp
  by_cases ha : 0 < a
  · refine ⟨.lst [.int (a / many), .int b], a % many, ?_, ⟨_, _, rfl, hb0, hb⟩, Int.emod_nonneg _ (by omega), Int.emod_lt_of_pos _ (by omega)⟩
    simp [f__law_draw, d__law_draw, ha, dm_ok (show 0 < many by omega) h2]
  · have e0 : 0 ≤ (b * 39373 + 1459) % 2147483587 := Int.emod_nonneg _ (by omega)
    have e1 : (b * 39373 + 1459) % 2147483587 < 2147483587 := Int.emod_lt_of_pos _ (by omega)
    refine ⟨.lst [.int a, .int ((b * 39373 + 1459) % 2147483587)], _, ?_, ⟨_, _, rfl, e0, by omega⟩, Int.emod_nonneg (((b * 39373 + 1459) % 2147483587 * ((b * 39373 + 1459) % 2147483587)) % 2147483563 / 19) (by omega), Int.emod_lt_of_pos _ (by omega)⟩
    have m1 : bMul (.int b) (.int 39373) = some (.val (.int (b * 39373))) := mul_ok (by omega) (by omega)
    have m2 : bMul (.int ((b * 39373 + 1459) % 2147483587)) (.int ((b * 39373 + 1459) % 2147483587)) = some (.val (.int ((b * 39373 + 1459) % 2147483587 * ((b * 39373 + 1459) % 2147483587)))) := mul_ok (by omega) (by omega)
    have m3 : ∀ i : Int, bDiv (.int i) (.int 19) = some (.val (.int (i / 19))) := fun i => div_ok (by omega) (by omega)
    have m4 : ∀ i : Int, bMod (.int i) (.int 2147483587) = some (.val (.int (i % 2147483587))) := fun i => mod_ok (by omega)
    have m5 : ∀ i : Int, bMod (.int i) (.int 2147483563) = some (.val (.int (i % 2147483563))) := fun i => mod_ok (by omega)
    have m6 : ∀ i : Int, bMod (.int i) (.int many) = some (.val (.int (i % many))) := fun i => mod_ok (by omega)
    simp [f__law_draw, d__law_draw, ha, m1, m2, m3, m4, m5, m6]
theorem v_law_pot (ns : List Int) (k : Nat) (hk : k < 1000) : ∃ p, f__law_pot [.val (.scr ns), .val (.int (k : Nat))] = .ok (.own p) [] ∧ PotOk p := by
  have m1 : bMul (.int 1453) (.int (k : Int)) = some (.val (.int (1453 * (k : Int)))) := mul_ok (by omega) (by omega)
  have m1' : bMul (.int 9767) (.int (k : Int)) = some (.val (.int (9767 * (k : Int)))) := mul_ok (by omega) (by omega)
  have m2 : ∀ i : Int, bMul (.int (i % 2147483549)) (.int 40014) = some (.val (.int (i % 2147483549 * 40014))) := fun i => by
    have e0 : 0 ≤ i % 2147483549 := Int.emod_nonneg _ (by omega)
    have e1 : i % 2147483549 < 2147483549 := Int.emod_lt_of_pos _ (by omega)
    exact mul_ok (by omega) (by omega)
  have m4 : ∀ i : Int, bMod (.int i) (.int 2147483549) = some (.val (.int (i % 2147483549))) := fun i => mod_ok (by omega)
  have m5 : ∀ i : Int, bMod (.int i) (.int 2147483563) = some (.val (.int (i % 2147483563))) := fun i => mod_ok (by omega)
  have m6 : bPow (.int 10) (.int 18) = some (.val (.int 1000000000000000000)) := rfl
  have key : ∀ c : Int, PotOk (.lst [.int (if 0 < c - 1000000000000000000 then c - 1000000000000000000 else 0), .int ((c % 2147483549 * 40014 + 9767 * (k : Int) + 61) % 2147483563 + 1)]) := fun c => by
    have e0 : 0 ≤ (c % 2147483549 * 40014 + 9767 * (k : Int) + 61) % 2147483563 := Int.emod_nonneg _ (by omega)
    have e1 : (c % 2147483549 * 40014 + 9767 * (k : Int) + 61) % 2147483563 < 2147483563 := Int.emod_lt_of_pos _ (by omega)
    exact ⟨_, _, rfl, by omega, by omega⟩
  by_cases h : (k : Int) < ns.length
  · have hk2 : k < ns.length := by omega
    refine ⟨_, ?_, key (if ns[k] < 0 then -ns[k] else ns[k])⟩
    have hx : bIdx (.scr ns) (.int (k : Int)) = some (.val (.int ns[k])) := idx_s (List.getElem?_eq_getElem hk2)
    simp [f__law_pot, d__law_pot, m1, m1', m2, m4, m5, m6, h, hx, lenOk, sizeLine]
  · refine ⟨_, ?_, key (1453 * (k : Int) + 9767)⟩
    simp [f__law_pot, d__law_pot, m1, m1', m2, m4, m5, m6, h, lenOk, sizeLine]
theorem v_law_pick {p : PV} (hp : PotOk p) {xs : List PV} (h1 : 1 ≤ xs.length) (h2 : xs.length < 1000000) :
    ∃ (p' x : PV), f__law_pick [.cel p, .val (.lst xs)] = .ok (.val x) [.live p'] ∧ PotOk p' ∧ x ∈ xs := by
  obtain ⟨p', d, h, hp', d0, d1⟩ := v_law_draw hp (many := xs.length) (by omega) (by omega)
  obtain ⟨n, rfl⟩ := Int.eq_ofNat_of_zero_le d0
  have hn : n < xs.length := by omega
  have hx : bIdx (.lst xs) (.int ((n : Nat) : Int)) = some (.val xs[n]) := idx_l (List.getElem?_eq_getElem hn)
  exact ⟨p', xs[n], by simp [f__law_pick, d__law_pick, h, hx], hp', List.getElem_mem hn⟩
end K64
end
section
set_option Elab.async false
set_option linter.all false
set_option maxHeartbeats 1000000
set_option maxRecDepth 100000
set_option autoImplicit false
namespace K64
open PySem Pf
theorem idx_items {v : PV} {xs : List PV} {k : Nat} {x : PV} (h : itemsOf v = some xs) (e : xs[k]? = some x) : bIdx v (.int (k : Nat)) = some (.val x) := by
  cases v with
  | lst ys => cases h; exact idx_l e
  | tup ys => cases h; exact idx_t e
  | scr ns =>
    cases h
    rw [List.getElem?_map] at e
    cases h1 : ns[k]? with
    | none => rw [h1] at e; cases e
    | some n => rw [h1] at e; cases e; exact idx_s h1
  | _ => cases h
/-- worths of a case: many rows of one length -/
def lenR (r : PV) : Nat := (rowsOf r).length
def areW (w : PV) : Bool := isL w && (decide (1 ≤ lenR w) && decide (lenR w ≤ 5)) && (rowsOf w).all isL && (match rowsOf w with
  | [] => false
  | r :: _ => (decide (1 ≤ lenR r) && decide (lenR r ≤ 6)) && (rowsOf w).all (fun x => decide (lenR x = lenR r)) && (rowsOf w).all fun x => (rowsOf x).all (inR (-99) 99))
theorem len_isL {r : PV} (h : isL r = true) : fLen r = some (.val (.int (lenR r : Nat))) ∧ itemsOf r = some (rowsOf r) := by
  obtain ⟨ys, i1, i2, i3⟩ := isL_items h
  unfold lenR
  rw [i3]
  exact ⟨i2, i1⟩
@[simp] theorem v_are_worths_of (w : PV) : f_are_worths_of [.val w] = .ok (.val (.bl (areW w))) [] := by
  simp [f_are_worths_of, d_are_worths_of]
  cases hw : isL w with
  | false => simp [areW, hw]
  | true =>
    obtain ⟨i2, i1⟩ := len_isL hw
    simp [i2]
    by_cases h1 : 1 ≤ lenR w
    · by_cases h5 : lenR w ≤ 5
      · have h1' : (1 : Int) ≤ lenR w := by omega
        have h5' : (lenR w : Int) ≤ 5 := by omega
        simp [h1', h5']
        have hlen : (rowsOf w).length = lenR w := rfl
        rw [dComp_map (xs := rowsOf w) (gs := []) (fun x => .bl (isL x)) (by simp [i1]) (by rw [hlen]; unfold sizeLine; omega) rfl (fun x _ => by simp)]
        cases hr : (rowsOf w).all isL with
        | false => simp [fall_of hr, areW, hw, h1, h5, hr]
        | true =>
          cases hx : rowsOf w with
          | nil => rw [← hlen, hx] at h1; simp at h1
          | cons r rs =>
            have h0 : bIdx w (.int 0) = some (.val r) := idx_items (k := 0) i1 (by rw [hx]; rfl)
            have hrl : isL r = true := List.all_eq_true.mp hr r (by rw [hx]; exact List.mem_cons_self)
            obtain ⟨j2, j1⟩ := len_isL hrl
            rw [← hx]
            simp [fall_of hr, h0, j2]
            have hA : areW w = ((decide (1 ≤ lenR r) && decide (lenR r ≤ 6)) && (rowsOf w).all (fun x => decide (lenR x = lenR r)) && (rowsOf w).all fun x => (rowsOf x).all (inR (-99) 99)) := by
              unfold areW
              rw [hw, hr]
              simp only [h1, h5, decide_true, Bool.and_self, Bool.true_and]
              rw [hx]
            by_cases m1 : 1 ≤ lenR r
            · by_cases m6 : lenR r ≤ 6
              · have m1' : (1 : Int) ≤ lenR r := by omega
                have m6' : (lenR r : Int) ≤ 6 := by omega
                simp [m1', m6']
                rw [dComp_map (xs := rowsOf w) (gs := []) (fun x => .bl (decide (lenR x = lenR r))) (by simp [i1]) (by rw [hlen]; unfold sizeLine; omega) rfl (fun x hxm => by
                  obtain ⟨k2, k1⟩ := len_isL (List.all_eq_true.mp hr x hxm)
                  simp [k2, h0, j2]
                  omega)]
                cases hq : (rowsOf w).all (fun x => decide (lenR x = lenR r)) with
                | false =>
                  rw [hq] at hA
                  simp [fall_of hq, hA]
                | true =>
                  simp [fall_of hq]
                  rw [dComp_map (xs := rowsOf w) (gs := []) (fun x => .bl ((rowsOf x).all (inR (-99) 99))) (by simp [i1]) (by rw [hlen]; unfold sizeLine; omega) rfl (fun x hxm => by
                    have hxl := List.all_eq_true.mp hr x hxm
                    obtain ⟨k2, k1⟩ := len_isL hxl
                    have hxe : lenR x = lenR r := by simpa using List.all_eq_true.mp hq x hxm
                    simp
                    rw [dComp_map (xs := rowsOf x) (gs := []) (fun x => .bl (inR (-99) 99 x)) (by simp [k1]) (by show lenR x ≤ sizeLine; unfold sizeLine; omega) rfl (fun x _ => by simp)]
                    simp [fall_ok])]
                  cases hz : (rowsOf w).all (fun x => (rowsOf x).all (inR (-99) 99)) with
                  | false => rw [hq, hz] at hA; simp [fall_of hz, hA]
                  | true => rw [hq, hz] at hA; simp [fall_of hz, hA, m1, m6]
              · have m6' : ¬ (lenR r : Int) ≤ 6 := by omega
                have hA2 : areW w = false := by rw [hA]; simp [m6]
                by_cases m1' : (1 : Int) ≤ lenR r <;> simp [m1', m6', hA2]
            · have m1' : ¬ (1 : Int) ≤ lenR r := by omega
              have hA2 : areW w = false := by rw [hA]; simp [m1]
              simp [m1', hA2]
      · have h5' : ¬ (lenR w : Int) ≤ 5 := by omega
        have hA2 : areW w = false := by unfold areW; simp [h5]
        by_cases h1' : (1 : Int) ≤ lenR w <;> simp [h1', h5', hA2]
    · have h1' : ¬ (1 : Int) ≤ lenR w := by omega
      have hA2 : areW w = false := by unfold areW; simp [h1]
      simp [h1', hA2]
end K64
end
section
set_option Elab.async false
set_option linter.all false
set_option maxHeartbeats 1000000
set_option maxRecDepth 100000
set_option autoImplicit false
namespace K64
open PySem Pf
def fstLen (w : PV) : Nat := match rowsOf w with | [] => 0 | r :: _ => lenR r
def isC (v : PV) : Bool := match v with
  | .tup [w, c] => areW w && (isL c && (decide (lenR c = lenR w) && (rowsOf c).all (inR 0 ((fstLen w : Int) - 1))))
  | _ => false
theorem isC_pair (w c : PV) : isC (.tup [w, c]) = (areW w && (isL c && (decide (lenR c = lenR w) && (rowsOf c).all (inR 0 ((fstLen w : Int) - 1))))) := rfl
structure WOk (w : PV) (r : PV) (rs : List PV) : Prop where
  l : isL w = true
  rows : rowsOf w = r :: rs
  lo : 1 ≤ lenR w
  hi : lenR w ≤ 5
  ls : (rowsOf w).all isL = true
  alo : 1 ≤ lenR r
  ahi : lenR r ≤ 6
  len : (rowsOf w).all (fun x => decide (lenR x = lenR r)) = true
  cells : (rowsOf w).all (fun x => (rowsOf x).all (inR (-99) 99)) = true
theorem areW_iff {w : PV} (h : areW w = true) : ∃ r rs, WOk w r rs := by
  unfold areW at h
  cases hx : rowsOf w with
  | nil => rw [hx] at h; simp at h
  | cons r rs =>
    refine ⟨r, rs, ?_⟩
    rw [hx] at h
    simp only [Bool.and_eq_true, decide_eq_true_eq] at h
    obtain ⟨⟨⟨h1, h2, h3⟩, h4⟩, ⟨⟨h5, h6⟩, h7⟩, h8⟩ := h
    exact ⟨h1, hx, h2, h3, by rw [hx]; exact h4, h5, h6, by rw [hx]; exact h7, by rw [hx]; exact h8⟩
@[simp] theorem v_is_case_of (v : PV) : f_is_case_of [.val v] = .ok (.val (.bl (isC v))) [] := by
  simp [f_is_case_of, d_is_case_of]
  match v with
  | .tup [w, c] =>
    simp [isC, isTu]
    cases hw : areW w with
    | false => simp [isTu]
    | true =>
      cases hc : isL c with
      | false => simp [isTu, hc]
      | true =>
        obtain ⟨r, rs, W⟩ := areW_iff hw
        obtain ⟨i2, i1⟩ := len_isL W.l
        obtain ⟨c2, c1⟩ := len_isL hc
        have h0 : bIdx w (.int 0) = some (.val r) := idx_items (k := 0) i1 (by rw [W.rows]; rfl)
        obtain ⟨r2, r1⟩ := len_isL (List.all_eq_true.mp W.ls r (by rw [W.rows]; exact List.mem_cons_self))
        have hf : fstLen w = lenR r := by unfold fstLen; rw [W.rows]
        have e0 : (PV.int ((lenR r : Int) - 1)) = .int ((fstLen w : Int) - 1) := by rw [hf]
        simp [h0, r2, c2, i2, isTu, hc]
        by_cases hl : lenR c = lenR w
        · have hl' : (lenR c : Int) = lenR w := by omega
          simp [hl]
          rw [dComp_map (xs := rowsOf c) (gs := []) (fun x => .bl (inR 0 ((fstLen w : Int) - 1) x)) (by simp [c1]) (by show lenR c ≤ sizeLine; have := W.hi; unfold sizeLine; omega) rfl (fun x _ => by simp [hf])]
          simp [fall_ok]
        · have hl' : ¬ (lenR c : Int) = lenR w := by omega
          simp [hl, hl']
  | .tup [] => simp [isC, isTu]
  | .tup [a] => simp [isC, isTu]
  | .tup (a :: b :: c :: ds) =>
    have h : ¬ ((ds.length : Int) + 1 + 1 + 1 = 2) := by omega
    simp [isC, isTu, h]
  | .non => simp [isC, isTu]
  | .bl _ => simp [isC, isTu]
  | .int _ => simp [isC, isTu]
  | .str _ => simp [isC, isTu]
  | .lst _ => simp [isC, isTu]
  | .dct _ => simp [isC, isTu]
  | .scr _ => simp [isC, isTu]
theorem v_check_case {v : PV} (h : isC v = true) : f_check_case [.val v] = .ok (.val .non) [] := by simp [f_check_case, d_check_case, h]
theorem neg99 : (-99 : Int) = -99 := rfl
end K64
end
section
set_option Elab.async false
set_option linter.all false
set_option maxHeartbeats 1000000
set_option maxRecDepth 100000
set_option autoImplicit false
namespace K64
open PySem Pf
theorem v_divisor (a b : Nat) (hb : Sz 1900 (b : Nat)) : f_divisor [.val (.int (a : Nat)), .val (.int (b : Nat))] = .ok (.val (.int (Nat.gcd b a : Nat))) [] := by
  have hE := euclid (c := dBin bGt (dVar 1) (dCst (.int 0))) (b := dsSeq (dsPar2 0 1 false false [dVar 1, dBin bMod (dCl (n1 fInt) [dVar 0]) (dVar 1)]) (dsNx))
    (E := fun a l => [some (.val (.int (a : Nat))), some (.val (.int (l : Nat)))]) (S := []) (fun a => by simp) (fun a l h => by simp; omega) (fun a l h => by
      have hm : bMod (.int (a : Nat)) (.int (l : Nat)) = some (.val (.int ((a : Int) % (l : Nat)))) := mod_ok (by omega)
      simp [hm]) 1900 4000 a b (by unfold Sz at hb; rwa [Int.natAbs_natCast] at hb) (by omega)
  simp [f_divisor, d_divisor, hE]
theorem v_reduced (t : Int) (b : Nat) (hb0 : 0 < b) (hb : Sz 1900 (b : Nat)) : f_reduced [.val (.int t), .val (.int (b : Nat))] = .ok (.val (frac (mkRat t b))) [] := by
  have ha : (if t < 0 then -t else t) = ((t.natAbs : Nat) : Int) := by split <;> omega
  have hg : 0 < Nat.gcd b t.natAbs := Nat.gcd_pos_of_pos_left _ hb0
  have hgs : Sz 1900 ((Nat.gcd b t.natAbs : Nat) : Int) := by
    have : Nat.gcd b t.natAbs ≤ b := Nat.gcd_le_left _ hb0
    unfold Sz at *
    omega
  have h1 : ∀ x : Int, bDiv (.int x) (.int ((Nat.gcd b t.natAbs : Nat) : Int)) = some (.val (.int (x / ((Nat.gcd b t.natAbs : Nat) : Int)))) := fun x => div_sz (by omega) hgs (by omega)
  have hn : ¬ ((b : Int) < 0) := by omega
  simp [f_reduced, d_reduced, hn, ha, v_divisor _ _ hb, h1, lenOk, sizeLine]
  rw [frac_mk hb0, Nat.gcd_comm]
theorem v_law_plain (t : Int) (b : Nat) (hb0 : 0 < b) (ht : Sz 5000 t) (hb : Sz 1900 (b : Nat)) : f__law_plain [.val (.int t), .val (.int (b : Nat))] = .ok (.val (frac (mkRat t b))) [] := by
  have hE := euclid (c := dBin bNe (dVar 3) (dCst (.int 0))) (b := dsSeq (dsPar2 2 3 false false [dVar 3, dBin bMod (dCl (n1 fInt) [dVar 2]) (dVar 3)]) (dsNx))
    (E := fun a l => [some (.val (.int t)), some (.val (.int (b : Nat))), some (.val (.int (a : Nat))), some (.val (.int (l : Nat))), none]) (S := []) (fun a => by simp) (fun a l h => by simp; omega) (fun a l h => by
      have hm : bMod (.int (a : Nat)) (.int (l : Nat)) = some (.val (.int ((a : Int) % (l : Nat)))) := mod_ok (by omega)
      simp [hm]) 1900 4000 t.natAbs b (by unfold Sz at hb; rwa [Int.natAbs_natCast] at hb) (by omega)
  have ha : (if t < 0 then -t else t) = ((t.natAbs : Nat) : Int) := by split <;> omega
  have ha2 : (if (b : Int) < 0 then -(b : Int) else b) = (b : Int) := by split <;> omega
  have hg : 0 < Nat.gcd b t.natAbs := Nat.gcd_pos_of_pos_left _ hb0
  have hgs : Sz 1900 ((Nat.gcd b t.natAbs : Nat) : Int) := by
    have : Nat.gcd b t.natAbs ≤ b := Nat.gcd_le_left _ hb0
    unfold Sz at *
    omega
  have h1 : ∀ x : Int, bDiv (.int x) (.int ((Nat.gcd b t.natAbs : Nat) : Int)) = some (.val (.int (x / ((Nat.gcd b t.natAbs : Nat) : Int)))) := fun x => div_sz (by omega) hgs (by omega)
  have hp : (0 : Int) < b := by omega
  have m1 : bMul (.int 1) (.int t) = some (.val (.int (1 * t))) := mul_sz (a := 1) (b := 5000) (by unfold Sz; decide) ht (by omega)
  have m2 : bMul (.int 1) (.int (b : Nat)) = some (.val (.int (1 * (b : Nat)))) := mul_sz (a := 1) (b := 1900) (by unfold Sz; decide) hb (by omega)
  simp [f__law_plain, d__law_plain, ha, ha2, hE, hp, hb0, h1, m1, m2, lenOk, sizeLine]
  rw [frac_mk hb0, Nat.gcd_comm]
end K64
end
section
set_option Elab.async false
set_option linter.all false
set_option maxHeartbeats 1000000
set_option maxRecDepth 100000
set_option autoImplicit false
namespace K64
open PySem Pf
/-- sums and differences of fractions, orders -/
theorem fs_bot {k : Nat} {p q : Rat} (hp : FS k p) (hq : FS k q) : Sz (2 * k) ((p.den * q.den : Nat) : Int) := by
  rw [Int.natCast_mul]
  exact (hp.2.mul hq.2).mono (by omega)
theorem v_take {k : Nat} {p q : Rat} (hp : FS k p) (hq : FS k q) (hk : k ≤ 900) : f_take [.val (frac p), .val (frac q)] = .ok (.val (frac (p - q))) [] := by
  have m1 : bMul (.int p.num) (.int (q.den : Nat)) = some (.val (.int (p.num * (q.den : Nat)))) := mul_sz hp.1 hq.2 (by omega)
  have m2 : bMul (.int q.num) (.int (p.den : Nat)) = some (.val (.int (q.num * (p.den : Nat)))) := mul_sz hq.1 hp.2 (by omega)
  have m3 : bMul (.int (p.den : Nat)) (.int (q.den : Nat)) = some (.val (.int ((p.den * q.den : Nat) : Int))) := by
    rw [Int.natCast_mul]
    exact mul_sz hp.2 hq.2 (by omega)
  have h := v_reduced (p.num * (q.den : Nat) - q.num * (p.den : Nat)) (p.den * q.den) (Nat.mul_pos p.den_pos q.den_pos) ((fs_bot hp hq).mono (by omega))
  rw [rat_sub_mk] at h
  simp only [frac, Int.natCast_mul] at h m3 ⊢
  simp [f_take, d_take, m1, m2, m3, h]
theorem v_law_plus {k : Nat} {p q : Rat} (hp : FS k p) (hq : FS k q) (hk : k ≤ 900) : f__law_plus [.val (frac p), .val (frac q)] = .ok (.val (frac (p + q))) [] := by
  have m1 : bMul (.int p.num) (.int (q.den : Nat)) = some (.val (.int (p.num * (q.den : Nat)))) := mul_sz hp.1 hq.2 (by omega)
  have m2 : bMul (.int q.num) (.int (p.den : Nat)) = some (.val (.int (q.num * (p.den : Nat)))) := mul_sz hq.1 hp.2 (by omega)
  have m3 : bMul (.int (p.den : Nat)) (.int (q.den : Nat)) = some (.val (.int ((p.den * q.den : Nat) : Int))) := by
    rw [Int.natCast_mul]
    exact mul_sz hp.2 hq.2 (by omega)
  have hs : Sz (2 * k + 1) (p.num * (q.den : Nat) + q.num * (p.den : Nat)) := Sz.add ((hp.1.mul hq.2).mono (by omega)) ((hq.1.mul hp.2).mono (by omega))
  have h := v_law_plain (p.num * (q.den : Nat) + q.num * (p.den : Nat)) (p.den * q.den) (Nat.mul_pos p.den_pos q.den_pos) (hs.mono (by omega)) ((fs_bot hp hq).mono (by omega))
  rw [rat_add_mk] at h
  simp only [frac, Int.natCast_mul] at h m3 ⊢
  simp [f__law_plus, d__law_plus, m1, m2, m3, h]
theorem v_is_below {k : Nat} {p q : Rat} (hp : FS k p) (hq : FS k q) (hk : k ≤ 900) : f_is_below [.val (frac p), .val (frac q)] = .ok (.val (.bl (decide (p < q)))) [] := by
  have m1 : bMul (.int p.num) (.int (q.den : Nat)) = some (.val (.int (p.num * (q.den : Nat)))) := mul_sz hp.1 hq.2 (by omega)
  have m2 : bMul (.int q.num) (.int (p.den : Nat)) = some (.val (.int (q.num * (p.den : Nat)))) := mul_sz hq.1 hp.2 (by omega)
  rw [← rat_lt_mk]
  simp [f_is_below, d_is_below, m1, m2, frac]
end K64
end
section
set_option Elab.async false
set_option linter.all false
set_option maxHeartbeats 1000000
set_option maxRecDepth 100000
set_option autoImplicit false
namespace K64
open PySem Pf
/-! any value as a fraction -/
def isFr (v : PV) : Bool := match v with
  | .tup [.int a, .int b] => decide (1 ≤ b) && decide (Nat.gcd a.natAbs b.natAbs = 1)
  | _ => false
/-- numbers of a pair are not too great -/
def NumS (v : PV) : Prop := ∀ a b : Int, v = .tup [.int a, .int b] → a.natAbs ≤ 10 ^ 40 ∧ b.natAbs ≤ 10 ^ 40
theorem isFr_frac (q : Rat) : isFr (frac q) = true := by
  have h1 := q.den_pos
  have h2 := q.reduced
  simp only [isFr, frac, Int.natAbs_natCast, Bool.and_eq_true, decide_eq_true_eq]
  exact ⟨by omega, h2⟩
theorem isFr_ex {v : PV} (h : isFr v = true) : ∃ q, v = frac q := by
  unfold isFr at h
  split at h
  · next a b =>
    simp only [Bool.and_eq_true, decide_eq_true_eq] at h
    refine ⟨⟨a, b.natAbs, by omega, h.2⟩, ?_⟩
    simp only [frac]
    congr
    omega
  · cases h
theorem eqv_ii2 (a b c d : Int) : eqv (.tup [.int a, .int b]) (.tup [.int c, .int d]) = (decide (a = c) && decide (b = d)) := by
  rw [Bool.eq_iff_iff]
  simp [eqv, toD, toDs, PyData.eqv, PyData.eqvAll]
theorem v_is_fraction_of {v : PV} (hv : NumS v) : f_is_fraction_of [.val v] = .ok (.val (.bl (isFr v))) [] := by
  simp [f_is_fraction_of, d_is_fraction_of]
  match v with
  | .tup [x, y] =>
    cases hx : isI x with
    | false => 
      have : isFr (.tup [x, y]) = false := by cases x <;> first | rfl | (simp [isI] at hx)
      simp [isTu, hx, this]
    | true =>
      cases hy : isI y with
      | false =>
        have : isFr (.tup [x, y]) = false := by cases y <;> first | (cases x <;> rfl) | (simp [isI] at hy)
        simp [isTu, hx, hy, this]
      | true =>
        cases x <;> simp [isI] at hx
        cases y <;> simp [isI] at hy
        next a b =>
        have ha : (if a < 0 then -a else a) = ((a.natAbs : Nat) : Int) := by split <;> omega
        simp [isTu, isI, ha]
        by_cases hb : 1 ≤ b
        · obtain ⟨n, rfl⟩ := Int.eq_ofNat_of_zero_le (show 0 ≤ b by omega)
          have hs : Sz 1900 (n : Nat) := (sz_of (k := 200) _ (hv _ _ rfl).2 (by decide)).mono (by omega)
          have := v_divisor a.natAbs n hs
          have e : isFr (.tup [.int a, .int (n : Nat)]) = decide (Nat.gcd n a.natAbs = 1) := by
            simp [isFr, Nat.gcd_comm]
            omega
          simp [hb, ha, this, e]
          omega
        · have e : isFr (.tup [.int a, .int b]) = false := by simp [isFr, hb]
          simp [hb, e]
  | .tup [] => simp [isFr, isTu]
  | .tup [a] => simp [isFr, isTu]
  | .tup (a :: b :: c :: ds) =>
    have h : ¬ ((ds.length : Int) + 1 + 1 + 1 = 2) := by omega
    simp [isFr, isTu, h]
  | .non => simp [isFr, isTu]
  | .bl _ => simp [isFr, isTu]
  | .int _ => simp [isFr, isTu]
  | .str _ => simp [isFr, isTu]
  | .lst _ => simp [isFr, isTu]
  | .dct _ => simp [isFr, isTu]
  | .scr _ => simp [isFr, isTu]
theorem pow40 : bPow (.int 10) (.int 40) = some (.val (.int (10 ^ 40))) := rfl
end K64
end
section
set_option Elab.async false
set_option linter.all false
set_option maxHeartbeats 1000000
set_option maxRecDepth 100000
set_option autoImplicit false
namespace K64
open PySem Pf
/-- a case as it is drawn -/
def rowI (r : List Int) : PV := .lst (r.map .int)
def natI (n : Nat) : PV := .int (n : Nat)
def caseP (ws : List (List Int)) (rl : List Nat) : PV := .tup [.lst (ws.map rowI), .lst (rl.map natI)]
structure CaseOk (ws : List (List Int)) (rl : List Nat) (a : Nat) : Prop where
  len : rl.length = ws.length
  m1 : 1 ≤ ws.length
  m4 : ws.length ≤ 5
  a1 : 1 ≤ a
  a4 : a ≤ 5
  row : ∀ r ∈ ws, r.length = a ∧ ∀ i ∈ r, -99 ≤ i ∧ i ≤ 99
  rule : ∀ n ∈ rl, n < a
def wo (ws : List (List Int)) (i o : Nat) : Int := (ws.getD i []).getD o 0
def ru (rl : List Nat) (i : Nat) : Nat := rl.getD i 0
def lo (ws : List (List Int)) (rl : List Nat) (i j : Nat) : Int := wo ws i (ru rl i) - wo ws i (ru rl j)
variable {ws : List (List Int)} {rl : List Nat} {a : Nat}
theorem c_rl (c : CaseOk ws rl a) {i : Nat} (hi : i < ws.length) : rl[i]? = some (ru rl i) ∧ ru rl i < a := by
  have h : i < rl.length := by rw [c.len]; exact hi
  have e : ru rl i = rl[i] := by simp [ru, h]
  rw [e]
  exact ⟨List.getElem?_eq_getElem h, c.rule _ (List.getElem_mem h)⟩
theorem c_wo (c : CaseOk ws rl a) {i o : Nat} (hi : i < ws.length) (ho : o < a) : ∃ r, ws[i]? = some r ∧ r.length = a ∧ r[o]? = some (wo ws i o) ∧ -99 ≤ wo ws i o ∧ wo ws i o ≤ 99 := by
  have h1 := c.row _ (List.getElem_mem hi)
  have h2 : o < ws[i].length := by omega
  have e : wo ws i o = ws[i][o] := by simp [wo, hi, h2]
  refine ⟨ws[i], List.getElem?_eq_getElem hi, h1.1, ?_, ?_⟩
  · rw [e]; exact List.getElem?_eq_getElem h2
  · rw [e]; exact h1.2 _ (List.getElem_mem h2)
@[simp] theorem x_0 (ws : List (List Int)) (rl : List Nat) : bIdx (caseP ws rl) (.int 0) = some (.val (.lst (ws.map rowI))) := by simp [caseP]
@[simp] theorem x_1 (ws : List (List Int)) (rl : List Nat) : bIdx (caseP ws rl) (.int 1) = some (.val (.lst (rl.map natI))) := by simp [caseP]
theorem x_ru (c : CaseOk ws rl a) {i : Nat} (hi : i < ws.length) : bIdx (.lst (rl.map natI)) (.int (i : Nat)) = some (.val (.int (ru rl i : Nat))) := idx_l (by rw [List.getElem?_map, (c_rl c hi).1]; rfl)
theorem x_row {i : Nat} {r : List Int} (h : ws[i]? = some r) : bIdx (.lst (ws.map rowI)) (.int (i : Nat)) = some (.val (rowI r)) := idx_l (by rw [List.getElem?_map, h]; rfl)
theorem x_cell {r : List Int} {o : Nat} {x : Int} (h : r[o]? = some x) : bIdx (rowI r) (.int (o : Nat)) = some (.val (.int x)) := idx_l (by rw [List.getElem?_map, h]; rfl)
theorem v_own_worth (c : CaseOk ws rl a) {i : Nat} (hi : i < ws.length) : f_own_worth [.val (caseP ws rl), .val (.int (i : Nat))] = .ok (.val (.int (wo ws i (ru rl i)))) [] := by
  obtain ⟨r, h1, h2, h3, h4⟩ := c_wo c hi (c_rl c hi).2
  simp [f_own_worth, d_own_worth, x_ru c hi, x_row h1, x_cell h3]
theorem v_loss (c : CaseOk ws rl a) {i j : Nat} (hi : i < ws.length) (hj : j < ws.length) : f_loss [.val (caseP ws rl), .val (.int (i : Nat)), .val (.int (j : Nat))] = .ok (.val (.int (lo ws rl i j))) [] := by
  obtain ⟨r, h1, h2, h3, h4⟩ := c_wo c hi (c_rl c hj).2
  simp [f_loss, d_loss, x_ru c hj, x_row h1, x_cell h3, v_own_worth c hi, lo]
theorem v_law_loss (c : CaseOk ws rl a) {i j : Nat} (hi : i < ws.length) (hj : j < ws.length) : f__law_loss [.val (caseP ws rl), .val (.int (i : Nat)), .val (.int (j : Nat))] = .ok (.val (.int (lo ws rl i j))) [] := by
  obtain ⟨r, h1, h2, h3, h4⟩ := c_wo c hi (c_rl c hj).2
  obtain ⟨r', k1, k2, k3, k4⟩ := c_wo c hi (c_rl c hi).2
  rw [h1] at k1
  cases k1
  simp [f__law_loss, d__law_loss, x_ru c hj, x_ru c hi, x_row h1, x_cell h3, x_cell k3, lo]
theorem lo_small (c : CaseOk ws rl a) {i j : Nat} (hi : i < ws.length) (hj : j < ws.length) : -198 ≤ lo ws rl i j ∧ lo ws rl i j ≤ 198 := by
  obtain ⟨r, h1, h2, h3, h4, h5⟩ := c_wo c hi (c_rl c hj).2
  obtain ⟨r', k1, k2, k3, k4, k5⟩ := c_wo c hi (c_rl c hi).2
  unfold lo
  omega
end K64
end
section
set_option Elab.async false
set_option linter.all false
set_option maxHeartbeats 1000000
set_option maxRecDepth 100000
set_option autoImplicit false
namespace K64
open PySem Pf
variable {ws : List (List Int)} {rl : List Nat} {a : Nat}
@[simp] theorem len_ws (ws : List (List Int)) (rl : List Nat) : fLen (.lst (rl.map natI)) = some (.val (.int (rl.length : Nat))) := by simp
def isPay (m : Nat) (v : PV) : Bool := isL v && (decide (lenR v = m) && (rowsOf v).all isFr)
theorem v_are_payments (c : CaseOk ws rl a) {v : PV} (hv : ∀ x ∈ rowsOf v, NumS x) : f_are_payments [.val (caseP ws rl), .val v] = .ok (.val (.bl (isPay ws.length v))) [] := by
  simp [f_are_payments, d_are_payments]
  cases hl : isL v with
  | false => simp [isPay, hl]
  | true =>
    obtain ⟨i2, i1⟩ := len_isL hl
    simp [i2]
    have hcl := c.len
    by_cases hm : lenR v = ws.length
    · have hm' : lenR v = rl.length := by omega
      simp [hm']
      rw [dComp_map (xs := rowsOf v) (gs := []) (fun x => .bl (isFr x)) (by simp [i1]) (by show lenR v ≤ sizeLine; have := c.m4; unfold sizeLine; omega) rfl (fun x hx => by simp [v_is_fraction_of (hv x hx)])]
      simp [fall_ok, isPay, hl, hm]
    · have hm' : ¬ lenR v = rl.length := by omega
      have hm2 : ¬ (lenR v : Int) = rl.length := by omega
      simp [hm', hm2, isPay, hm]
end K64
end
section
set_option Elab.async false
set_option linter.all false
set_option maxHeartbeats 1000000
set_option maxRecDepth 100000
set_option autoImplicit false
namespace K64
open PySem Pf
variable {ws : List (List Int)} {rl : List Nat} {a : Nat}
theorem rows_l (xs : List PV) : rowsOf (.lst xs) = xs := rfl
theorem isC_case (c : CaseOk ws rl a) : isC (caseP ws rl) = true := by
  obtain ⟨w0, wr, e⟩ : ∃ w0 wr, ws = w0 :: wr := by
    cases h : ws with
    | nil => have := c.m1; rw [h] at this; simp at this
    | cons x y => exact ⟨x, y, rfl⟩
  have hw0 := (c.row w0 (by rw [e]; exact List.mem_cons_self)).1
  have l1 : lenR (.lst (ws.map rowI)) = ws.length := by simp [lenR, rows_l]
  have l2 : lenR (.lst (rl.map natI)) = rl.length := by simp [lenR, rows_l]
  have l3 : ∀ r : List Int, lenR (rowI r) = r.length := fun r => by simp [lenR, rowI, rows_l]
  have f : fstLen (.lst (ws.map rowI)) = a := by rw [e]; simp [fstLen, rows_l, l3, hw0]
  have m := c.m4
  have m1 := c.m1
  have a1 := c.a1
  have a4 := c.a4
  have aw : areW (.lst (ws.map rowI)) = true := by
    unfold areW
    rw [l1, rows_l]
    simp only [isL, Bool.true_and, Bool.and_eq_true, decide_eq_true_eq]
    refine ⟨⟨⟨m1, by omega⟩, ?_⟩, ?_⟩
    · rw [List.all_map, List.all_eq_true]; exact fun r _ => rfl
    · rw [e, List.map_cons]
      simp only [Bool.and_eq_true, decide_eq_true_eq]
      rw [l3, hw0, ← List.map_cons, ← e]
      refine ⟨⟨⟨a1, by omega⟩, ?_⟩, ?_⟩
      · rw [List.all_map, List.all_eq_true]
        intro r hr
        simp [l3, (c.row r hr).1]
      · rw [List.all_map, List.all_eq_true]
        intro r hr
        show ((rowsOf (rowI r)).all (inR (-99) 99)) = true
        rw [rowI, rows_l, List.all_map, List.all_eq_true]
        intro i hi
        have := (c.row r hr).2 i hi
        simp [inR, this.1, this.2]
  unfold caseP
  rw [isC_pair, aw, l1, l2, f, rows_l]
  simp only [isL, c.len, decide_true, Bool.true_and]
  rw [List.all_map, List.all_eq_true]
  intro n hn
  have := c.rule n hn
  simp [inR, natI]
  omega
/-- payments as fractions -/
theorem isPay_ex {m : Nat} {v : PV} (h : isPay m v = true) (hv : ∀ x ∈ rowsOf v, NumS x) : ∃ qs : List Rat, itemsOf v = some (qs.map frac) ∧ qs.length = m ∧ ∀ q ∈ qs, FS 140 q := by
  simp only [isPay, Bool.and_eq_true, decide_eq_true_eq] at h
  obtain ⟨hl, hm, ha⟩ := h
  have key : ∀ xs : List PV, xs.all isFr = true → (∀ x ∈ xs, NumS x) → ∃ qs : List Rat, xs = qs.map frac ∧ ∀ q ∈ qs, FS 140 q := fun xs => by
    induction xs with
    | nil => exact fun _ _ => ⟨[], rfl, fun q h => by cases h⟩
    | cons x xs ih =>
      intro h1 h2
      rw [List.all_cons, Bool.and_eq_true] at h1
      obtain ⟨q, rfl⟩ := isFr_ex h1.1
      obtain ⟨qs, rfl, h3⟩ := ih h1.2 fun y hy => h2 y (List.mem_cons_of_mem _ hy)
      refine ⟨q :: qs, rfl, fun p hp => ?_⟩
      rcases List.mem_cons.mp hp with e | hp
      · subst e
        obtain ⟨e1, e2⟩ := h2 _ List.mem_cons_self _ _ rfl
        exact ⟨sz_of _ e1 (by decide), sz_of _ e2 (by decide)⟩
      · exact h3 p hp
  obtain ⟨qs, e, h3⟩ := key _ ha hv
  obtain ⟨i2, i1⟩ := len_isL hl
  refine ⟨qs, by rw [i1, e], ?_, h3⟩
  rw [← hm]
  unfold lenR
  rw [e, List.length_map]
theorem frac_int (z : Int) : frac (z : Rat) = .tup [.int z, .int 1] := rfl
theorem fs_int {z : Int} {k : Nat} (h : Sz k z) (hk : 1 ≤ k) : FS k (z : Rat) := ⟨h, by unfold Sz; show 1 < 2 ^ k; exact Nat.one_lt_two_pow (by omega)⟩
def gq (qs : List Rat) (i : Nat) : Rat := qs.getD i 0
def trB (ws : List (List Int)) (rl : List Nat) (qs : List Rat) (i j : Nat) : Bool := !decide ((lo ws rl i j : Rat) < gq qs i - gq qs j)
def tr (ws : List (List Int)) (rl : List Nat) (qs : List Rat) : Bool := (List.range rl.length).all fun i => (List.range rl.length).all fun j => trB ws rl qs i j
theorem idx_fr {v : PV} {qs : List Rat} {i : Nat} (h : itemsOf v = some (qs.map frac)) (hi : i < qs.length) : bIdx v (.int (i : Nat)) = some (.val (frac (gq qs i))) := idx_items h (by rw [List.getElem?_map, List.getElem?_eq_getElem hi]; simp [gq, hi])
theorem fs_get {qs : List Rat} {i : Nat} (h : ∀ q ∈ qs, FS 140 q) (hi : i < qs.length) : FS 140 (gq qs i) := by
  have : gq qs i = qs[i] := by simp [gq, hi]
  rw [this]
  exact h _ (List.getElem_mem hi)
theorem lo_fs (c : CaseOk ws rl a) {i j : Nat} (hi : i < ws.length) (hj : j < ws.length) : FS 300 (lo ws rl i j : Rat) := by
  have := lo_small c hi hj
  exact fs_int ((sz_of (k := 8) 198 (by omega) (by decide)).mono (by omega)) (by omega)
theorem FS.sub {a : Nat} {p q : Rat} (h : FS a p) (g : FS a q) : FS (2 * a + 1) (p - q) := by
  rw [← rat_sub_mk]
  refine fs_mk (Nat.mul_pos p.den_pos q.den_pos) ?_ ?_
  · have := Sz.sub (h.1.mul g.2) (g.1.mul h.2)
    exact this.mono (by omega)
  · have := h.2.mul g.2
    rw [← Int.natCast_mul] at this
    exact this.mono (by omega)
theorem v_do_make_true (c : CaseOk ws rl a) {v : PV} {qs : List Rat} (hv : ∀ x ∈ rowsOf v, NumS x) (hp : isPay ws.length v = true) (e1 : itemsOf v = some (qs.map frac)) (e2 : qs.length = ws.length) (e3 : ∀ q ∈ qs, FS 140 q) :
    f_do_make_true [.val (caseP ws rl), .val v] = .ok (.val (.bl (tr ws rl qs))) [] := by
  have hr := rng1_nat rl.length (by have := c.len; have := c.m4; omega)
  simp [f_do_make_true, d_do_make_true, v_check_case (isC_case c), v_are_payments c hv, hp, hr]
  generalize hx : loop _ _ _ _ _ _ = x
  obtain ⟨ρ', rfl, y', z', rfl⟩ := loop_rng_of hx (fun ρ => ∃ y z, ρ = [some (.val (caseP ws rl)), some (.val v), some (.val (.int rl.length)), y, z]) (fun i => (List.range rl.length).all fun j => trB ws rl qs i j) (.val (.bl false)) rfl ⟨_, _, rfl⟩ (fun i hi ρ hI => by
    obtain ⟨y, z, rfl⟩ := hI
    simp [hr]
    generalize hx : loop _ _ _ _ _ _ = x
    obtain ⟨ρ', rfl, z', rfl⟩ := loop_rng_of hx (fun ρ => ∃ z, ρ = [some (.val (caseP ws rl)), some (.val v), some (.val (.int rl.length)), some (.val (.int (i : Nat))), z]) (fun j => trB ws rl qs i j) (.val (.bl false)) rfl ⟨_, rfl⟩ (fun j hj ρ hI => by
      obtain ⟨z, rfl⟩ := hI
      have hlen := c.len
      have fi := fs_get e3 (i := i) (by omega)
      have fj := fs_get e3 (i := j) (by omega)
      have ht := v_take fi fj (by omega)
      have fl := lo_fs c (i := i) (j := j) (by omega) (by omega)
      have hb := v_is_below fl ((FS.sub fi fj).mono (by omega) : FS 300 _) (by omega)
      rw [frac_int] at hb
      simp [v_loss c (i := i) (j := j) (by omega) (by omega), idx_fr e1 (i := i) (by omega), idx_fr e1 (i := j) (by omega), lenOk, sizeLine, ht, hb]
      by_cases hd : (lo ws rl i j : Rat) < gq qs i - gq qs j
      · simp [hd]
        exact .ct (by simp [trB, hd]) ⟨_, rfl⟩
      · simp [hd]
        exact .nx (by simp [trB, hd]) ⟨_, rfl⟩)
    cases hd : (List.range rl.length).all fun j => trB ws rl qs i j
    · exact .ct rfl ⟨_, _, rfl⟩
    · exact .nx rfl ⟨_, _, rfl⟩)
  cases hd : tr ws rl qs <;> unfold tr at hd <;> simp [hd]
theorem frac_neg (q : Rat) : frac (-q) = .tup [.int (-q.num), .int (q.den : Nat)] := by
  simp only [frac, Rat.neg_num, Rat.neg_den]
theorem idx_f0 (q : Rat) : bIdx (frac q) (.int 0) = some (.val (.int q.num)) := by simp [frac]
theorem idx_f1 (q : Rat) : bIdx (frac q) (.int 1) = some (.val (.int (q.den : Nat))) := by simp [frac]
end K64
end
section
set_option Elab.async false
set_option linter.all false
set_option maxHeartbeats 1000000
set_option maxRecDepth 100000
set_option autoImplicit false
namespace K64
open PySem Pf
variable {ws : List (List Int)} {rl : List Nat} {a : Nat}
def tpB (ws : List (List Int)) (rl : List Nat) (qs : List Rat) (i : Nat) : Bool := !decide ((wo ws i (ru rl i) : Rat) < gq qs i)
def tp (ws : List (List Int)) (rl : List Nat) (qs : List Rat) : Bool := (List.range rl.length).all (tpB ws rl qs)
theorem qs_rng (qs : List Rat) : qs.map frac = (List.range qs.length).map fun i => frac (gq qs i) := map_rng frac qs 0
def rw' (ws : List (List Int)) (i : Nat) : List Int := ws.getD i []
theorem ws_rng (ws : List (List Int)) : ws.map rowI = (List.range ws.length).map fun i => rowI (rw' ws i) := map_rng rowI ws []
theorem rl_rng (rl : List Nat) : rl.map natI = (List.range rl.length).map fun i => .int (ru rl i : Nat) := map_rng natI rl 0
theorem own_small (c : CaseOk ws rl a) {i : Nat} (hi : i < ws.length) : -99 ≤ wo ws i (ru rl i) ∧ wo ws i (ru rl i) ≤ 99 := by
  obtain ⟨r', k1, k2, k3, k4⟩ := c_wo c hi (c_rl c hi).2
  exact k4
/-! losses along a list of sorts -/
def lsum (ws : List (List Int)) (rl : List Nat) (xs ys : List Nat) : Int := ((xs.zip ys).map fun p => lo ws rl p.1 p.2).sum
theorem zip_lt {m : Nat} {xs ys : List Nat} (hx : ∀ n ∈ xs, n < m) (hy : ∀ n ∈ ys, n < m) : ∀ p ∈ xs.zip ys, p.1 < m ∧ p.2 < m := fun p hp => by
  obtain ⟨a, b⟩ := p
  have := List.of_mem_zip hp
  exact ⟨hx _ this.1, hy _ this.2⟩
theorem drop_map (xs : List Nat) : (xs.map natI).tail = xs.tail.map natI := by simp
theorem take_map (xs : List Nat) : (xs.map natI).take 1 = (xs.take 1).map natI := by simp
theorem v_losses_round (c : CaseOk ws rl a) {xs : List Nat} (hx : ∀ n ∈ xs, n < ws.length) (hl : xs.length ≤ 100) :
    f_losses_round [.val (caseP ws rl), .val (.lst (xs.map natI))] = .ok (.val (.int (lsum ws rl xs (xs.tail ++ xs.take 1)))) [] := by
  have hadd : bAdd (.lst ((xs.map natI).tail)) (.lst ((xs.map natI).take 1)) = some (.own (.lst ((xs.tail ++ xs.take 1).map natI))) := by
    rw [add_ll (by simp; omega), drop_map, take_map, List.map_append]
  have hy : ∀ n ∈ xs.tail ++ xs.take 1, n < ws.length := fun n hn => by
    rcases List.mem_append.mp hn with h | h
    · exact hx n (List.mem_of_mem_tail h)
    · exact hx n (List.mem_of_mem_take h)
  simp only [f_losses_round, d_losses_round]
  generalize hz : xs.tail ++ xs.take 1 = zs at *
  have hzl : zs.length ≤ 200 := by rw [← hz]; simp; omega
  have hc : ∀ ρ : Pf.Env, dComp (itZip2 [dVar 1, dBin bAdd (dSli (dVar 1) (some (dCst (.int 1))) none) (dSli (dVar 1) none (some (dCst (.int 1))))]) (tgTup [tgName 2 false, tgName 3 false]) none (dCall 3 f_loss [false, false, false] [dVar 0, dVar 2, dVar 3]) [2, 3]
      [some (.val (caseP ws rl)), some (.val (.lst (xs.map natI))), none, none] [] = .ok (.own (.lst ((xs.zip zs).map fun p => .int (lo ws rl p.1 p.2)))) [] := fun ρ => by
    rw [dComp_mapG (ys := xs.zip zs) (g := fun p => .tup [natI p.1, natI p.2]) (gs := []) (fun p => .int (lo ws rl p.1 p.2)) (by simp [cut_l, hadd, zip2_map]) (by simp; unfold sizeLine; omega) rfl (fun p hp => by
      obtain ⟨h1, h2⟩ := zip_lt hx hy p hp
      simp [natI, v_loss c h1 h2])]
  simp [hc [], fsum_mapG, lsum]
theorem v_law_losses (c : CaseOk ws rl a) {xs : List Nat} (hx : ∀ n ∈ xs, n < ws.length) (hl : xs.length ≤ 100) :
    f__law_losses [.val (caseP ws rl), .val (.lst (xs.map natI))] = .ok (.val (.int (lsum ws rl xs (xs.tail)))) [] := by
  have hy : ∀ n ∈ xs.tail, n < ws.length := fun n hn => hx n (List.mem_of_mem_tail hn)
  have hd := drop_map xs
  simp only [f__law_losses, d__law_losses]
  generalize hz : xs.tail = zs at *
  have hzl : zs.length ≤ 200 := by rw [← hz]; simp; omega
  have hc : dComp (itZip2 [dVar 1, dSli (dVar 1) (some (dCst (.int 1))) none]) (tgTup [tgName 2 false, tgName 3 false]) none (dCall 3 f__law_loss [false, false, false] [dVar 0, dVar 2, dVar 3]) [2, 3]
      [some (.val (caseP ws rl)), some (.val (.lst (xs.map natI))), none, none] [] = .ok (.own (.lst ((xs.zip zs).map fun p => .int (lo ws rl p.1 p.2)))) [] := by
    rw [dComp_mapG (ys := xs.zip zs) (g := fun p => .tup [natI p.1, natI p.2]) (gs := []) (fun p => .int (lo ws rl p.1 p.2)) (by rw [← zip2_map, ← hd]; simp [cut_l]) (by simp; unfold sizeLine; omega) rfl (fun p hp => by
      obtain ⟨h1, h2⟩ := zip_lt hx hy p hp
      simp [natI, v_law_loss c h1 h2])]
  simp [hc, fsum_mapG, lsum]
end K64
end
section
set_option Elab.async false
set_option linter.all false
set_option maxHeartbeats 1000000
set_option maxRecDepth 100000
set_option autoImplicit false
namespace K64
open PySem Pf
variable {ws : List (List Int)} {rl : List Nat} {a : Nat}
def natL (r : List Nat) : PV := .lst (r.map natI)
/-! all lists of unlike sorts -/
def okLists (F : Fn) (m : Nat) : Bool := match F [.val (.int (m : Nat))] with
  | .ok (.val p) [] => same p (.lst ((alls m).map natL))
  | _ => false
theorem lists_ok : [1, 2, 3, 4, 5].all (okLists f__law_lists) = true := by decide +kernel
theorem lists_of {F : Fn} {m : Nat} (h : okLists F m = true) : F [.val (.int (m : Nat))] = .ok (.val (.lst ((alls m).map natL))) [] := by
  unfold okLists at h
  split at h
  · next p e => rw [e, same_eq _ _ h]
  · cases h
theorem v_law_lists {m : Nat} (h1 : 1 ≤ m) (h4 : m ≤ 5) : f__law_lists [.val (.int (m : Nat))] = .ok (.val (.lst ((alls m).map natL))) [] := lists_of (List.all_eq_true.mp lists_ok m (by simp; omega))
theorem alls_len : ∀ m ∈ [1, 2, 3, 4, 5], (alls m).length ≤ 400 := by decide +kernel
theorem alls_le {m : Nat} (h1 : 1 ≤ m) (h4 : m ≤ 5) : (alls m).length ≤ 400 := alls_len m (by simp; omega)
/-! rings -/
theorem lsum_wt (ws : List (List Int)) (rl : List Nat) : ∀ xs : List Nat, lsum ws rl xs xs.tail = wt (lo ws rl) xs
  | [] => rfl
  | [x] => rfl
  | x :: y :: r => by
    have ih := lsum_wt ws rl (y :: r)
    unfold lsum at ih ⊢
    simp only [List.tail_cons, List.zip_cons_cons, List.map_cons, List.sum_cons, wt] at ih ⊢
    rw [ih]
theorem lsum_ring (xs : List Nat) (ws : List (List Int)) (rl : List Nat) (x : Nat) : lsum ws rl (x :: xs ++ [x]) ((x :: xs ++ [x]).tail) = lsum ws rl (x :: xs) ((x :: xs).tail ++ (x :: xs).take 1) := by
  unfold lsum
  have h := List.zip_append (l₁ := x :: xs) (r₁ := [x]) (l₂ := xs ++ [x]) (r₂ := []) (by simp)
  rw [List.append_nil, List.zip_nil_right, List.append_nil] at h
  have e : (x :: xs ++ [x]).tail = xs ++ [x] := rfl
  have e2 : (x :: xs).tail ++ (x :: xs).take 1 = xs ++ [x] := rfl
  rw [e, e2, h]
theorem lo_zero (ws : List (List Int)) (rl : List Nat) (i : Nat) : lo ws rl i i = 0 := by unfold lo; omega
def isRg (ws : List (List Int)) (rl : List Nat) (r : List Nat) : Bool := decide (1 < r.length) && decide (wt (lo ws rl) (r ++ r.take 1) < 0)
def rgP (o : Option (List Nat)) : PV := match o with
  | none => .non
  | some r => natL r
theorem v_law_ring (c : CaseOk ws rl a) : f__law_ring [.val (caseP ws rl)] = .ok (.val (rgP ((alls rl.length).find? (isRg ws rl)))) [] := by
  have hlen := c.len
  have h4 := c.m4
  have h1 := c.m1
  have hL := v_law_lists (m := rl.length) (by omega) (by omega)
  simp [f__law_ring, d__law_ring, hL]
  generalize hx : loop _ _ _ _ _ _ = x
  obtain ⟨ρ', ⟨y, rfl⟩, rfl⟩ := loop_find_of (fun ρ => ∃ y, ρ = [some (.val (caseP ws rl)), y]) (fun r : List Nat => !isRg ws rl r) (fun r => .val (natL r)) rfl hx ⟨_, rfl⟩ (fun r hr' ρ hI => by
    obtain ⟨y, rfl⟩ := hI
    obtain ⟨r1, r2, r3⟩ := mem_alls.mp hr'
    have r4 := nodup_len _ r r2 r3
    have hadd : bAdd (.lst (r.map natI)) (.lst ((r.map natI).take 1)) = some (.own (.lst ((r ++ r.take 1).map natI))) := by
      rw [add_ll (by simp; omega), take_map, List.map_append]
    have hll := v_law_losses c (xs := r ++ r.take 1) (fun n hn => by
      rw [← hlen]
      rcases List.mem_append.mp hn with h | h
      · exact r3 n h
      · exact r3 n (List.mem_of_mem_take h)) (by simp; omega)
    rw [lsum_wt] at hll
    unfold isRg natL
    generalize hG : r ++ r.take 1 = G at *
    by_cases h1 : 1 < r.length
    · have h1' : (1 : Int) < r.length := by omega
      simp [h1, h1', cut_l, hadd, hll]
      by_cases h2 : wt (lo ws rl) G < 0
      · simp [h2]
        exact .ct rfl ⟨_, rfl⟩
      · simp [h2]
        exact .nx rfl ⟨_, rfl⟩
    · have h1' : ¬ (1 : Int) < r.length := by omega
      simp [h1, h1']
      exact .nx rfl ⟨_, rfl⟩)
  simp only [Bool.not_not]
  cases (alls rl.length).find? (isRg ws rl) with
  | none => simp [rgP]
  | some r => simp [rgP]
theorem noRing (h : (alls rl.length).find? (isRg ws rl) = none) : NoRing (lo ws rl) rl.length := noRing_of (lo_zero ws rl) fun r hr h1 => by
  have := List.find?_eq_none.mp h r hr
  simp only [isRg, h1, decide_true, Bool.true_and, decide_eq_true_eq] at this
  omega
theorem natI_list (xs : List Nat) (s : Nat) : bNin (.int (s : Nat)) (.lst (xs.map natI)) = some (.val (.bl (!xs.contains s))) := by
  have h := bnin_int (s : Int) (xs.map fun n : Nat => (n : Int))
  have e : (xs.map fun n : Nat => (n : Int)).map PV.int = xs.map natI := by simp [natI, Function.comp_def]
  have e2 : (xs.map fun n : Nat => (n : Int)).contains (s : Int) = xs.contains s := by
    rw [Bool.eq_iff_iff]
    simp
    exact ⟨fun ⟨a, h, e⟩ => by have : a = s := by omega
                               exact this ▸ h, fun h => ⟨s, h, rfl⟩⟩
  rw [e, e2] at h
  exact h
theorem find_alls {m : Nat} (hm : 1 ≤ m) (P : List Nat → Bool) (h : ∀ s, P [s] = false) : (alls m).find? P = (List.range (m - 1)).findSome? fun k => (lev m (k + 1)).find? P := by
  unfold alls
  rw [List.find?_flatMap]
  obtain ⟨n, rfl⟩ : ∃ n, m = n + 1 := ⟨m - 1, by omega⟩
  rw [List.range_succ_eq_map, List.findSome?_cons]
  have h0 : (lev (n + 1) 0).find? P = none := by
    rw [List.find?_eq_none]
    intro r hr
    obtain ⟨s, _, rfl⟩ := List.mem_map.mp hr
    rw [h]
    simp
  rw [h0, List.findSome?_map]
  rfl
def rtV (o : Option (List Nat)) : Option RV := o.map fun r => .val (natL r)
theorem v_ring_of (c : CaseOk ws rl a) : f_ring_of [.val (caseP ws rl)] = .ok (.val (rgP ((alls rl.length).find? (isRg ws rl)))) [] := by
  have hlen := c.len
  have h4 := c.m4
  have h1 := c.m1
  have hr := rng1_nat rl.length (by omega)
  have hr2 : rng2 [.int 1, .int (rl.length : Nat)] = some ((List.range (rl.length - 1)).map fun i => .int ((1 + i : Nat) : Int)) := rng2_nat 1 rl.length (by omega) (by omega)
  simp [f_ring_of, d_ring_of]
  rw [dComp_mapO (ys := List.range rl.length) (g := fun i => .int (i : Nat)) (gs := []) (fun s => natL [s]) (by simp [hr]) (by simp; unfold sizeLine; omega) rfl (fun i _ => ⟨_, .own (natL [i]), by simp; rfl, by simp [lenOk, sizeLine, natL, natI], .o⟩)]
  have h0 : (List.range rl.length).map (fun s => natL [s]) = (lev rl.length 0).map natL := by unfold lev; rw [List.map_map]; rfl
  rw [h0]
  simp [hr2]
  generalize hx : loop _ _ _ _ _ _ = x
  have hpk := loop_pick_of hx (fun k ρ S => ∃ T y3 y4 y5 y6, S = T ++ [.live (.lst ((lev rl.length k).map natL))] ∧ ρ = [some (.val (caseP ws rl)), some (.val (.int rl.length)), some (.ref T.length), y3, y4, y5, y6]) (fun _ _ => True) (fun k => rtV ((lev rl.length (k + 1)).find? (isRg ws rl))) (fun _ _ _ _ => rfl) ⟨[], _, _, _, _, rfl, rfl⟩ (fun k y hk ρ S hI => by
    obtain ⟨T, y3, y4, y5, y6, rfl, rfl⟩ := hI
    have hkm : k < rl.length - 1 := by have := (List.getElem?_eq_some_iff.mp hk).1; simpa using this
    have hLk : (lev rl.length k).length ≤ 400 := by
      have : ∀ m ∈ [1, 2, 3, 4, 5], ∀ k ∈ [0, 1, 2, 3, 4], (lev m k).length ≤ 400 := by decide +kernel
      exact this rl.length (by simp; omega) k (by simp; omega)
    have hLk1 : (lev rl.length (k + 1)).length ≤ 400 := by
      have : ∀ m ∈ [1, 2, 3, 4, 5], ∀ k ∈ [0, 1, 2, 3, 4, 5], (lev m k).length ≤ 400 := by decide +kernel
      exact this rl.length (by simp; omega) (k + 1) (by simp; omega)
    have g1 : (T ++ [Cell.live (.lst ((lev rl.length k).map natL)), Cell.live (.lst [])])[T.length]? = some (.live (.lst ((lev rl.length k).map natL))) := by simp
    simp [lenOk, sizeLine]
    generalize hx : loop _ _ _ _ _ _ = x
    -- longer lists
    obtain ⟨ρ', S', rfl, rfl, y5, y6, rfl⟩ := loop_inv_of hx (fun j ρ S => S = T ++ [.live (.lst ((lev rl.length k).map natL)), .live (.lst ((((lev rl.length k).take j).flatMap (ext rl.length)).map natL))] ∧ ∃ y5 y6, ρ = [some (.val (caseP ws rl)), some (.val (.int rl.length)), some (.ref T.length), some (.val y), some (.ref (T.length + 1)), y5, y6])
      (fun j ρ S hI => by rw [hI.1]; simp [chkG, same_refl]) ⟨by simp, _, _, rfl⟩ (fun j z hj ρ S hI => by
      obtain ⟨rfl, y5, y6, rfl⟩ := hI
      have hjl : j < (lev rl.length k).length := by have := (List.getElem?_eq_some_iff.mp hj).1; simpa using this
      rw [List.getElem?_map, List.getElem?_eq_getElem hjl] at hj
      have hz : natL (lev rl.length k)[j] = z := by simpa using hj
      subst hz
      have hmem := (mem_lev k _).mp (List.getElem_mem hjl)
      have htk : (lev rl.length k).take (j + 1) = (lev rl.length k).take j ++ [(lev rl.length k)[j]] := List.take_succ_eq_append_getElem hjl
      generalize (lev rl.length k)[j] = l at *
      have hel : (ext rl.length l).length ≤ 10 := by
        unfold ext
        rw [List.length_map]
        exact Nat.le_trans (List.length_filter_le _ _) (by simp; omega)
      have hfl : (((lev rl.length k).take j).flatMap (ext rl.length)).length ≤ 5000 := by
        have : ∀ xs : List (List Nat), (xs.flatMap (ext rl.length)).length ≤ 10 * xs.length := fun xs => by
          induction xs with
          | nil => simp
          | cons x xs ih =>
            have : (ext rl.length x).length ≤ 10 := by
              unfold ext
              rw [List.length_map]
              exact Nat.le_trans (List.length_filter_le _ _) (by simp; omega)
            rw [List.flatMap_cons, List.length_append, List.length_cons]
            omega
        have h1 := this ((lev rl.length k).take j)
        rw [List.length_take] at h1
        omega
      have hcomp : ∀ S : Sto, dComp (itRng rng1 [dVar 1]) (tgName 6 false) (some (dBin bNin (dVar 6) (dVar 5))) (dBin bAdd (dVar 5) (dLst [dVar 6])) [6] [some (.val (caseP ws rl)), some (.val (.int rl.length)), some (.ref T.length), some (.val y), some (.ref (T.length + 1)), some (.val (natL l)), y6] S = .ok (.own (.lst ((ext rl.length l).map natL))) S := fun S => by
        rw [dComp_filtO (ys := List.range rl.length) (g := fun i => .int (i : Nat)) (gs := []) (fun s => !l.contains s) (fun s => natL (l ++ [s])) (by simp [hr]) (by simp; unfold sizeLine; omega) rfl (fun s _ => ⟨by simp [natL, natI_list], fun _ => ⟨.own (natL (l ++ [s])), by
          have := add_ll (xs := l.map natI) (ys := [natI s]) (by simp; omega)
          simp only [natI] at this
          simp [natL, lenOk, sizeLine, natI, this], .o⟩⟩)]
        unfold ext
        rw [List.map_map]
        rfl
      rw [htk, List.flatMap_append, List.flatMap_singleton, List.map_append]
      have hext := ext_ok (xs := (((lev rl.length k).take j).flatMap (ext rl.length)).map natL) (ys := (ext rl.length l).map natL) (by simp only [List.length_map]; omega)
      have g2 : (T ++ [Cell.live (.lst ((lev rl.length k).map natL)), Cell.live (.lst ((((lev rl.length k).take j).flatMap (ext rl.length)).map natL))])[T.length + 1]? = some (.live (.lst ((((lev rl.length k).take j).flatMap (ext rl.length)).map natL))) := by simp
      generalize (((lev rl.length k).take j).flatMap (ext rl.length)).map natL = A at *
      generalize (ext rl.length l).map natL = B at *
      have g3 : ∀ c : Cell, (T ++ [Cell.live (.lst ((lev rl.length k).map natL)), Cell.live (.lst A)]).set (T.length + 1) c = T ++ [.live (.lst ((lev rl.length k).map natL)), c] := fun c => by simp
      generalize hSS : T ++ [Cell.live (.lst ((lev rl.length k).map natL)), Cell.live (.lst A)] = SS at *
      simp [hcomp, g2, hext, g3]
      exact .mk ⟨rfl, _, _, rfl⟩)
    have htake : (lev rl.length k).take ((lev rl.length k).map natL).length = lev rl.length k := by rw [List.length_map, List.take_length]
    rw [htake]
    have hlv : (lev rl.length k).flatMap (ext rl.length) = lev rl.length (k + 1) := rfl
    rw [hlv]
    have g2 : (T ++ [Cell.live (.lst ((lev rl.length k).map natL)), Cell.live (.lst ((lev rl.length (k + 1)).map natL))])[T.length + 1]? = some (.live (.lst ((lev rl.length (k + 1)).map natL))) := by simp
    simp only [rb_ok, sq_n, e_seq, e_bd, e_for', e_itseq, e_var, List.getElem?_cons_succ, List.getElem?_cons_zero, ov_some, e_rvr, e_bvr, e_srcr, g2, ob_some, cv_l, e_itl]
    generalize hx : loop _ _ _ _ _ _ = x
    obtain ⟨ρ', ⟨y5, rfl⟩, rfl⟩ := loop_find_of (fun ρ => ∃ y5, ρ = [some (.val (caseP ws rl)), some (.val (.int rl.length)), some (.ref T.length), some (.val y), some (.ref (T.length + 1)), y5, y6]) (fun r : List Nat => !isRg ws rl r) (fun r => .val (natL r)) (by simp [chkG, same_refl]) hx ⟨_, rfl⟩ (fun r hr' ρ hI => by
      obtain ⟨y5, rfl⟩ := hI
      obtain ⟨r1, r2, r3⟩ := (mem_lev (k + 1) r).mp hr'
      have hll := v_losses_round c (xs := r) (fun n hn => by rw [← hlen]; exact r3 n hn) (by omega)
      obtain ⟨x, t, rfl⟩ : ∃ x t, r = x :: t := by
        cases r with
        | nil => cases r1
        | cons x t => exact ⟨x, t, rfl⟩
      rw [← lsum_ring, lsum_wt] at hll
      have h2 : 1 < (x :: t).length := by omega
      have h3 : (x :: t).take 1 = [x] := rfl
      simp only [isRg, h2, decide_true, Bool.true_and, h3]
      unfold natL
      generalize wt (lo ws rl) (x :: t ++ [x]) = w at *
      generalize x :: t = r at *
      by_cases hw : w < 0
      · simp [hll, hw]
        exact .ct rfl ⟨_, rfl⟩
      · simp [hll, hw]
        exact .nx rfl ⟨_, rfl⟩)
    simp only [Bool.not_not]
    cases hf : (lev rl.length (k + 1)).find? (isRg ws rl) with
    | some r =>
      simp
      exact PkOk.rt rfl trivial
    | none =>
      simp
      refine PkOk.nx rfl ⟨T ++ [.live (.lst ((lev rl.length k).map natL))], by simp, some (.val y), some (.ref (T.length + 1)), y5, y6, ?_⟩
      simp)
  rw [List.length_map, List.length_range] at hpk
  rw [find_alls (by omega) _ (fun s => by simp [isRg])]
  have hfs : (List.range (rl.length - 1)).findSome? (fun k => rtV ((lev rl.length (k + 1)).find? (isRg ws rl))) = rtV ((List.range (rl.length - 1)).findSome? fun k => (lev rl.length (k + 1)).find? (isRg ws rl)) := by
    generalize List.range (rl.length - 1) = ks
    induction ks with
    | nil => rfl
    | cons k ks ih =>
      rw [List.findSome?_cons, List.findSome?_cons]
      cases (lev rl.length (k + 1)).find? (isRg ws rl) with
      | none => exact ih
      | some r => rfl
  rw [hfs] at hpk
  cases hr : (List.range (rl.length - 1)).findSome? fun k => (lev rl.length (k + 1)).find? (isRg ws rl) with
  | none =>
    rw [hr] at hpk
    obtain ⟨ρ', S', rfl, -⟩ := hpk
    simp [rgP]
  | some r =>
    rw [hr] at hpk
    obtain ⟨ρ', S', rfl, -⟩ := hpk
    simp [rgP]
end K64
end
section
set_option Elab.async false
set_option linter.all false
set_option maxHeartbeats 1000000
set_option maxRecDepth 100000
set_option autoImplicit false
namespace K64
open PySem Pf
variable {ws : List (List Int)} {rl : List Nat} {a : Nat}
theorem idx_last {xs : List PV} {x : PV} (h : xs.getLast? = some x) : bIdx (.lst xs) (.int (-1)) = some (.val x) := by
  have hne : xs ≠ [] := fun e => by rw [e] at h; cases h
  have hl : 0 < xs.length := List.length_pos_iff.mpr hne
  have h1 : L2.ixN xs.length (-1) = some (xs.length - 1) := by
    unfold L2.ixN
    rw [if_neg (by decide), if_pos (by omega)]
    congr 1
    omega
  have h2 : L2.atI xs (-1) = some x := by
    unfold L2.atI
    rw [h1]
    show xs[xs.length - 1]? = some x
    rw [← h, List.getLast?_eq_getElem?]
  simp [bIdx, h2]
/-- from the one to the other -/
def fromTo (i j : Nat) (r : List Nat) : Bool := decide (r.head? = some i) && decide (r.getLast? = some j)
def farF (ws : List (List Int)) (rl : List Nat) (i j : Nat) : Int := match ((alls rl.length).filter (fromTo i j)).map (wt (lo ws rl)) with
  | [] => 0
  | x :: t => minI x t
theorem farF_ok : Far (lo ws rl) rl.length (farF ws rl) := fun i j hi hj => by
  obtain ⟨l, w, nd⟩ := far_ex (D := lo ws rl) hi hj
  have mem : ∀ l, Walk rl.length i j l → l.Nodup → l ∈ (alls rl.length).filter (fromTo i j) := fun l w nd => List.mem_filter.mpr ⟨walk_alls w nd, by simp [fromTo, w.hd, w.la]⟩
  have back : ∀ l ∈ (alls rl.length).filter (fromTo i j), Walk rl.length i j l ∧ l.Nodup := fun l hl => by
    obtain ⟨h1, h2⟩ := List.mem_filter.mp hl
    obtain ⟨h3, h4, h5⟩ := mem_alls.mp h1
    simp only [fromTo, Bool.and_eq_true, decide_eq_true_eq] at h2
    exact ⟨⟨h2.1, h2.2, h5⟩, h4⟩
  have hm := mem l w nd
  unfold farF
  cases h : ((alls rl.length).filter (fromTo i j)).map (wt (lo ws rl)) with
  | nil =>
    rw [List.map_eq_nil_iff] at h
    rw [h] at hm
    cases hm
  | cons x t =>
    obtain ⟨k1, k2⟩ := minI_mem t x
    rw [← h] at k1 k2
    obtain ⟨r, hr, e⟩ := List.mem_map.mp k1
    obtain ⟨w1, nd1⟩ := back r hr
    exact ⟨⟨r, w1, nd1, e⟩, fun l' w' nd' => k2 _ (List.mem_map.mpr ⟨l', mem l' w' nd', rfl⟩)⟩
/-! the table of the least sums -/
def tabP (m : Nat) (F : Nat → Nat → Int) : PV := .lst ((List.range m).map fun i => .lst ((List.range m).map fun j => .int (F i j)))
def rowP (m : Nat) (F : Nat → Nat → Int) (i : Nat) : PV := .lst ((List.range m).map fun j => .int (F i j))
theorem v_least_sums (c : CaseOk ws rl a) (hn : NoRing (lo ws rl) rl.length) : f_least_sums [.val (caseP ws rl)] = .ok (.own (tabP rl.length (farF ws rl))) [] := by
  have hlen := c.len
  have h4 := c.m4
  have h1 := c.m1
  have hf := farF_ok (ws := ws) (rl := rl)
  have hr := rng1_nat rl.length (by omega)
  simp [f_least_sums, d_least_sums]
  rw [dComp_mapO (ys := List.range rl.length) (g := fun i => .int (i : Nat)) (gs := []) (rowP rl.length fun i j => if i = j then 0 else lo ws rl i j) (by simp [hr]) (by simp; unfold sizeLine; omega) rfl (fun i hi => ⟨_, .own (rowP rl.length (fun i j => if i = j then 0 else lo ws rl i j) i), by simp; rfl, by
    have hi := List.mem_range.mp hi
    rw [dComp_mapG (ys := List.range rl.length) (g := fun i => .int (i : Nat)) (gs := []) (fun j => .int (if i = j then 0 else lo ws rl i j)) (by simp [hr]) (by simp; unfold sizeLine; omega) rfl (fun j hj => by
      have hj := List.mem_range.mp hj
      by_cases h : i = j
      · subst h; simp
      · have h' : ¬ (i : Int) = j := by omega
        simp [h, h', v_loss c (i := i) (j := j) (by omega) (by omega)])]
    rfl, .o⟩)]
  simp [hr]
  generalize hx : loop _ _ _ _ _ _ = x
  obtain ⟨ρ', S', rfl, F, rfl, hU, hL, y3, y4, y5, y6, rfl⟩ := loop_inv_of hx (fun k ρ S => ∃ F, S = [.live (tabP rl.length F)] ∧ Upb (lo ws rl) rl.length k F ∧ (∀ i j, i < rl.length → j < rl.length → farF ws rl i j ≤ F i j) ∧ ∃ y3 y4 y5 y6, ρ = [some (.val (caseP ws rl)), some (.val (.int rl.length)), some (.ref 0), y3, y4, y5, y6]) (fun _ _ _ _ => rfl)
    ⟨fun i j => if i = j then 0 else lo ws rl i j, rfl, upb_0 fun i j _ _ => rfl, fun i j hi hj => by
      show farF ws rl i j ≤ if i = j then 0 else lo ws rl i j
      split
      · next e => subst e; rw [far_zero hn hf hi]; omega
      · exact far_le hn hf hi hj, _, _, _, _, rfl⟩ (fun k y hk ρ S hI => by
    obtain ⟨F, rfl, hU, hL, y3, y4, y5, y6, rfl⟩ := hI
    have hkm : k < rl.length := by have := (List.getElem?_eq_some_iff.mp hk).1; simpa using this
    rw [List.getElem?_map, List.getElem?_range hkm] at hk
    cases hk
    simp [hr]
    generalize hx : loop _ _ _ _ _ _ = x
    obtain ⟨ρ', S', rfl, F', rfl, h1', h2', h3', y4, y5, y6, rfl⟩ := loop_inv_of hx (fun t ρ S => ∃ F', S = [.live (tabP rl.length F')] ∧ (∀ i j, i < rl.length → j < rl.length → F' i j ≤ F i j) ∧ (∀ i j, i < t → i < rl.length → j < rl.length → F' i j ≤ F i k + F k j) ∧ (∀ i j, i < rl.length → j < rl.length → farF ws rl i j ≤ F' i j) ∧
      ∃ y4 y5 y6, ρ = [some (.val (caseP ws rl)), some (.val (.int rl.length)), some (.ref 0), some (.val (.int (k : Nat))), y4, y5, y6]) (fun _ _ _ _ => rfl) ⟨F, rfl, fun _ _ _ _ => Int.le_refl _, fun _ _ h => by omega, hL, _, _, _, rfl⟩ (fun t y ht ρ S hI => by
      obtain ⟨F', rfl, h1', h2', h3', y4, y5, y6, rfl⟩ := hI
      have htm : t < rl.length := by have := (List.getElem?_eq_some_iff.mp ht).1; simpa using this
      rw [List.getElem?_map, List.getElem?_range htm] at ht
      cases ht
      have hcomp : dComp (itRng rng1 [dVar 1]) (tgName 6 false) none (dCl (n2 fMin2) [dBin bIdx (dVar 5) (dVar 6), dBin bAdd (dBin bIdx (dVar 5) (dVar 3)) (dBin bIdx (dBin bIdx (dVar 2) (dVar 3)) (dVar 6))]) [6]
          [some (.val (caseP ws rl)), some (.val (.int rl.length)), some (.ref 0), some (.val (.int (k : Nat))), some (.val (.int (t : Nat))), some (.val (rowP rl.length F' t)), y6] [.live (tabP rl.length F')] =
          .ok (.own (rowP rl.length (fun _ j => if F' t k + F' k j < F' t j then F' t k + F' k j else F' t j) t)) [.live (tabP rl.length F')] := by
        rw [dComp_mapG (ys := List.range rl.length) (g := fun i => .int (i : Nat)) (gs := []) (fun j => .int (if F' t k + F' k j < F' t j then F' t k + F' k j else F' t j)) (by simp [hr]) (by simp; unfold sizeLine; omega) rfl (fun j hj => by
          have hj := List.mem_range.mp hj
          have i1 : bIdx (rowP rl.length F' t) (.int (j : Nat)) = some (.val (.int (F' t j))) := idx_rngL hj
          have i2 : bIdx (rowP rl.length F' t) (.int (k : Nat)) = some (.val (.int (F' t k))) := idx_rngL hkm
          have i3 : bIdx (tabP rl.length F') (.int (k : Nat)) = some (.val (rowP rl.length F' k)) := idx_rngL hkm
          have i4 : bIdx (rowP rl.length F' k) (.int (j : Nat)) = some (.val (.int (F' k j))) := idx_rngL hj
          simp [i1, i2, i3, i4])]
        rfl
      have i0 : bIdx (tabP rl.length F') (.int (t : Nat)) = some (.val (rowP rl.length F' t)) := idx_rngL htm
      have hset : setF (.int (t : Nat)) (rowP rl.length (fun _ j => if F' t k + F' k j < F' t j then F' t k + F' k j else F' t j) t) (tabP rl.length F') = some (tabP rl.length (fun i j => if i = t then (if F' t k + F' k j < F' t j then F' t k + F' k j else F' t j) else F' i j), .non) := by
        unfold tabP
        rw [setF_nat (by simpa using htm), set_rng]
        refine congrArg (fun l => some (PV.lst l, PV.non)) (List.map_congr_left fun i _ => ?_)
        by_cases h : i = t
        · subst h; simp [rowP]
        · simp [h]
      simp [i0, hcomp, hset]
      refine .mk ⟨fun i j => if i = t then (if F' t k + F' k j < F' t j then F' t k + F' k j else F' t j) else F' i j, rfl, fun i j hi hj => ?_, fun i j hit hi hj => ?_, fun i j hi hj => ?_, _, _, _, rfl⟩
      · have := h1' i j hi hj
        show (if i = t then (if F' t k + F' k j < F' t j then F' t k + F' k j else F' t j) else F' i j) ≤ F i j
        split
        · next e => subst e; split <;> omega
        · exact this
      · show (if i = t then (if F' t k + F' k j < F' t j then F' t k + F' k j else F' t j) else F' i j) ≤ F i k + F k j
        split
        · next e =>
          subst e
          have e1 := h1' i k hi hkm
          have e2 := h1' k j hkm hj
          split <;> omega
        · next e => exact h2' i j (by omega) hi hj
      · show farF ws rl i j ≤ (if i = t then (if F' t k + F' k j < F' t j then F' t k + F' k j else F' t j) else F' i j)
        split
        · next e =>
          subst e
          have e0 := h3' i j hi hj
          have e1 := h3' i k hi hkm
          have e2 := h3' k j hkm hj
          have e3 := far_tri hn hf hi hj hkm
          split <;> omega
        · exact h3' i j hi hj)
    refine .mk ⟨F', rfl, upb_succ hkm hU h1' fun i j hi hj => h2' i j (by simpa using hi) hi hj, h3', _, _, _, _, rfl⟩)
  rw [List.length_map, List.length_range] at hU
  have he := upb_far hf hU hL
  have ht : tabP rl.length F = tabP rl.length (farF ws rl) := by
    refine congrArg PV.lst (List.map_congr_left fun i hi => congrArg PV.lst (List.map_congr_left fun j hj => ?_))
    rw [he i j (List.mem_range.mp hi) (List.mem_range.mp hj)]
  simp [ht]
end K64
end
section
set_option Elab.async false
set_option linter.all false
set_option maxHeartbeats 1000000
set_option maxRecDepth 100000
set_option autoImplicit false
namespace K64
open PySem Pf
variable {ws : List (List Int)} {rl : List Nat} {a : Nat}
/-! many whole numbers -/
def intsP (m : Nat) (x : Nat → Int) : PV := .lst ((List.range m).map fun i => .int (x i))
theorem intsP_congr {m : Nat} {x y : Nat → Int} (h : ∀ i, i < m → x i = y i) : intsP m x = intsP m y := congrArg PV.lst (List.map_congr_left fun i hi => by rw [h i (List.mem_range.mp hi)])
theorem eqvAll_ints : ∀ xs ys : List Int, PyData.eqvAll (toDs (xs.map .int)) (toDs (ys.map .int)) = decide (xs = ys)
  | [], [] => by simp [toDs, PyData.eqvAll]
  | [], y :: ys => by simp [toDs, PyData.eqvAll]
  | x :: xs, [] => by simp [toDs, PyData.eqvAll]
  | x :: xs, y :: ys => by
    have ih := eqvAll_ints xs ys
    simp only [List.map_cons, toDs, toD, PyData.eqvAll, ih]
    rw [Bool.eq_iff_iff]
    simp [PyData.eqv]
theorem bne_ints (xs ys : List Int) : bNe (.lst (xs.map .int)) (.lst (ys.map .int)) = some (.val (.bl (!decide (xs = ys)))) := by
  have h : ∀ zs : List Int, (zs.map PV.int).all (dat 59) = true := fun zs => by rw [List.all_map, List.all_eq_true]; exact fun x _ => rfl
  have e : eqv (.lst (xs.map .int)) (.lst (ys.map .int)) = decide (xs = ys) := by
    rw [← eqvAll_ints]
    simp [eqv, toD, PyData.eqv]
  have d : ∀ zs : List Int, dat 60 (.lst (zs.map .int)) = true := fun zs => by
    unfold dat
    exact h zs
  simp [bNe, isS, d, e]
theorem bne_intsP (m : Nat) (x y : Nat → Int) : bNe (intsP m x) (intsP m y) = some (.val (.bl (!decide ((List.range m).map x = (List.range m).map y)))) := by
  have h := bne_ints ((List.range m).map x) ((List.range m).map y)
  rw [List.map_map, List.map_map] at h
  exact h
theorem map_rng_eq {m : Nat} {x y : Nat → Int} : (List.range m).map x = (List.range m).map y ↔ ∀ i, i < m → x i = y i := by
  constructor
  · intro h i hi
    have := congrArg (fun l => l[i]?) h
    simpa [hi] using this
  · exact fun h => List.map_congr_left fun i hi => h i (List.mem_range.mp hi)
/-! the greatest payments by which all take part -/
def ow (ws : List (List Int)) (rl : List Nat) (j : Nat) : Int := wo ws j (ru rl j)
def due (ws : List (List Int)) (rl : List Nat) (i : Nat) : Int := mn rl.length fun j => ow ws rl j + farF ws rl i j
theorem v_check_had (c : CaseOk ws rl a) (hn : (alls rl.length).find? (isRg ws rl) = none) : f_check_had [.val (caseP ws rl)] = .ok (.val .non) [] := by
  simp [f_check_had, d_check_had, v_ring_of c, hn, rgP, bIsN, isNon]
end K64
end
section
set_option Elab.async false
set_option linter.all false
set_option maxHeartbeats 4000000
set_option maxRecDepth 100000
set_option autoImplicit false
namespace K64
open PySem Pf
variable {ws : List (List Int)} {rl : List Nat} {a : Nat}
theorem v_law_far (c : CaseOk ws rl a) {i j : Nat} (hi : i < rl.length) (hj : j < rl.length) : f__law_far [.val (caseP ws rl), .val (.int (i : Nat)), .val (.int (j : Nat))] = .ok (.val (.int (farF ws rl i j))) [] := by
  have hlen := c.len
  have h4 := c.m4
  have h1 := c.m1
  have hL := v_law_lists (m := rl.length) (by omega) (by omega)
  have hll := alls_le (m := rl.length) (by omega) (by omega)
  have hfilt : dComp (itSeq (dCall 1 f__law_lists [false] [dCl (n1 fLen) [dBin bIdx (dVar 0) (dCst (.int 1))]])) (tgName 4 false) (some (dAnd (dBin bEq (dBin bIdx (dVar 4) (dCst (.int 0))) (dVar 1)) (dBin bEq (dBin bIdx (dVar 4) (dUn uNeg (dCst (.int 1)))) (dVar 2)))) (dVar 4) [4]
      [some (.val (caseP ws rl)), some (.val (.int (i : Nat))), some (.val (.int (j : Nat))), none, none] [] = .ok (.own (.lst (((alls rl.length).filter (fromTo i j)).map natL))) [] := by
    refine (dComp_filtO (ys := alls rl.length) (g := natL) (gs := []) (fromTo i j) natL (by simp [hL]) (by unfold sizeLine; omega) rfl fun r hr' => ?_)
    obtain ⟨r1, r2, r3⟩ := mem_alls.mp hr'
    cases r with
    | nil => exact absurd rfl r1
    | cons x t =>
      obtain ⟨y, hy⟩ : ∃ y, (x :: t).getLast? = some y := ⟨_, List.getLast?_eq_some_getLast (by simp)⟩
      have hlast : bIdx (.lst ((x :: t).map natI)) (.int (-1)) = some (.val (natI y)) := idx_last (by rw [List.getLast?_map, hy]; rfl)
      have hx0 : bIdx (.lst ((x :: t).map natI)) (.int 0) = some (.val (natI x)) := idx_l (k := 0) rfl
      unfold natL
      simp only [fromTo, hy, List.head?_cons]
      generalize hXT : PV.lst ((x :: t).map natI) = XT at *
      refine ⟨?_, fun _ => ⟨.val XT, by simp, .v⟩⟩
      by_cases e1 : x = i
      · subst e1
        by_cases e2 : y = j
        · subst e2; simp [hlast, hx0, natI]
        · have e2' : ¬ (y : Int) = j := by omega
          simp [hlast, hx0, natI, e2, e2']
      · have e1' : ¬ (x : Int) = i := by omega
        simp [hx0, natI, e1, e1']
  obtain ⟨⟨l, w, nd, -⟩, -⟩ := farF_ok (ws := ws) (rl := rl) i j hi hj
  have hmem : l ∈ (alls rl.length).filter (fromTo i j) := List.mem_filter.mpr ⟨walk_alls w nd, by simp [fromTo, w.hd, w.la]⟩
  have hsub : ∀ r ∈ (alls rl.length).filter (fromTo i j), r ∈ alls rl.length := fun r h => (List.mem_filter.mp h).1
  have hFl : ((alls rl.length).filter (fromTo i j)).length ≤ 400 := Nat.le_trans (List.length_filter_le _ _) hll
  unfold farF
  generalize (alls rl.length).filter (fromTo i j) = M at *
  cases M with
  | nil => cases hmem
  | cons m0 M =>
    have hmin := fmin_mapG (wt (lo ws rl)) m0 M
    simp only [List.map_cons (f := wt (lo ws rl))]
    generalize minI (wt (lo ws rl) m0) (M.map (wt (lo ws rl))) = z at *
    generalize hMM : m0 :: M = MM at *
    simp [f__law_far, d__law_far, hfilt]
    rw [dComp_mapG (ys := MM) (g := natL) (gs := []) (fun r => .int (wt (lo ws rl) r)) (by simp) (by unfold sizeLine; omega) rfl (fun r hr' => by
      obtain ⟨r1, r2, r3⟩ := mem_alls.mp (hsub r hr')
      have r4 := nodup_len _ r r2 r3
      have hll := v_law_losses c (xs := r) (fun n hn => by rw [← hlen]; exact r3 n hn) (by omega)
      rw [lsum_wt] at hll
      unfold natL
      simp [hll])]
    simp [hmin]
/-! the table of the least sums -/
end K64
end
section
set_option Elab.async false
set_option linter.all false
set_option maxHeartbeats 4000000
set_option maxRecDepth 100000
set_option autoImplicit false
namespace K64
open PySem Pf
variable {ws : List (List Int)} {rl : List Nat} {a : Nat}
theorem find_none_of (hNR : NoRing (lo ws rl) rl.length) : (alls rl.length).find? (isRg ws rl) = none := by
  rw [List.find?_eq_none]
  intro r hr
  obtain ⟨r1, r2, r3⟩ := mem_alls.mp hr
  cases r with
  | nil => exact absurd rfl r1
  | cons x t =>
    have := hNR.cyc x t r2 r3
    have e : (x :: t).take 1 = [x] := rfl
    simp only [isRg, e]
    simp
    intro _
    simpa using this
theorem v_ring (c : CaseOk ws rl a) : f_ring [.val (caseP ws rl)] = .ok (.val (rgP ((alls rl.length).find? (isRg ws rl)))) [] := by
  simp [f_ring, d_ring, v_check_case (isC_case c), v_ring_of c]
theorem v_check_sort {i : Nat} (hi : i < rl.length) : f_check_sort [.val (caseP ws rl), .val (.int (i : Nat))] = .ok (.val .non) [] := by
  have h : inR 0 ((rl.length : Int) - 1) (.int (i : Nat)) = true := by simp [inR]; omega
  simp [f_check_sort, d_check_sort, caseP, h]
theorem tab_idx {m i j : Nat} (f : Nat → Nat → Int) (hi : i < m) (hj : j < m) : ∃ r, bIdx (tabP m f) (.int (i : Nat)) = some (.val r) ∧ bIdx r (.int (j : Nat)) = some (.val (.int (f i j))) := by
  refine ⟨intsP m (f i), ?_, ?_⟩
  · exact idx_rngL hi
  · exact idx_rngL hj
theorem v_span (c : CaseOk ws rl a) (hn : (alls rl.length).find? (isRg ws rl) = none) {i j : Nat} (hi : i < rl.length) (hj : j < rl.length) :
    f_span [.val (caseP ws rl), .val (.int (i : Nat)), .val (.int (j : Nat))] = .ok (.val (.tup [.int (0 - farF ws rl j i), .int (farF ws rl i j)])) [] := by
  have hN := noRing hn
  obtain ⟨r1, h1, h2⟩ := tab_idx (farF ws rl) hj hi
  obtain ⟨r2, h3, h4⟩ := tab_idx (farF ws rl) hi hj
  simp [f_span, d_span, v_check_case (isC_case c), v_check_sort hi, v_check_sort hj, v_check_had c hn, v_least_sums c hN, h1, h2, h3, h4, lenOk, sizeLine]
/-! a thing that is had or not -/
end K64
end
section
set_option Elab.async false
set_option linter.all false
set_option maxHeartbeats 4000000
set_option maxRecDepth 100000
set_option autoImplicit false
namespace K64
open PySem Pf
variable {ws : List (List Int)} {rl : List Nat} {a : Nat}
def TrP (r : FRes) : Prop := ∃ p', r = .ok (.val (.bl true)) [.live p'] ∧ PotOk p'
theorem TrP.mk {p : PV} (h : PotOk p) : TrP (.ok (.val (.bl true)) [.live p]) := ⟨p, rfl, h⟩
theorem rng_at (n : Nat) (h : n < 1000) : rng1 [.int (n : Int)] = some ((List.range n).map fun i => .int (i : Nat)) := rng1_nat n (by omega)
/-! what is let by numbers -/
theorem payR_frac (m : Nat) (x : Nat → Int) : ((List.range m).map fun i => (x i : Rat)).map frac = (List.range m).map fun i => .tup [.int (x i), .int 1] := by
  rw [List.map_map]
  rfl
def payR (m : Nat) (x : Nat → Int) : List Rat := (List.range m).map fun i => (x i : Rat)
theorem gq_pay {m i : Nat} (x : Nat → Int) (hi : i < m) : gq (payR m x) i = (x i : Rat) := by simp [gq, payR, hi]
theorem le_cast {x y : Int} (h : x ≤ y) : (x : Rat) ≤ (y : Rat) := by exact_mod_cast h
theorem tr_pay (x : Nat → Int) (h : ∀ i j, i < rl.length → j < rl.length → x i - x j ≤ lo ws rl i j) : tr ws rl (payR rl.length x) = true := by
  simp only [tr, List.all_eq_true, List.mem_range, trB, Bool.not_eq_true', decide_eq_false_iff_not, Rat.not_lt]
  intro i hi j hj
  rw [gq_pay x hi, gq_pay x hj, ← Rat.intCast_sub]
  exact le_cast (h i j hi hj)
theorem numS_fs {qs : List Rat} {k : Nat} (hk : k ≤ 130) (h : ∀ q ∈ qs, FS k q) : ∀ x ∈ qs.map frac, NumS x := fun x hx => by
  obtain ⟨q, hq, rfl⟩ := List.mem_map.mp hx
  intro a b e
  obtain ⟨h1, h2⟩ := h q hq
  have h1 := h1.mono hk
  have h2 := h2.mono hk
  simp only [frac, PV.tup.injEq, List.cons.injEq, PV.int.injEq, and_true] at e
  obtain ⟨e1, e2⟩ := e
  rw [e1] at h1
  rw [e2] at h2
  unfold Sz at h1 h2
  have h3 : (2 : Nat) ^ 130 ≤ 10 ^ 40 := by decide
  omega
theorem pay_ok {v : PV} {qs : List Rat} {m k : Nat} (hv : v = .lst (qs.map frac) ∨ v = .tup (qs.map frac)) (hl : qs.length = m) (hk : k ≤ 130) (h : ∀ q ∈ qs, FS k q) : (∀ x ∈ rowsOf v, NumS x) ∧ isPay m v = true ∧ itemsOf v = some (qs.map frac) ∧ ∀ q ∈ qs, FS 140 q := by
  have hr : rowsOf v = qs.map frac := by rcases hv with rfl | rfl <;> rfl
  have hL : isL v = true := by rcases hv with rfl | rfl <;> rfl
  have hi : itemsOf v = some (qs.map frac) := by rcases hv with rfl | rfl <;> rfl
  refine ⟨by rw [hr]; exact numS_fs hk h, ?_, hi, fun q hq => (h q hq).mono (by omega)⟩
  unfold isPay lenR
  rw [hr, hL]
  simp [hl, isFr_frac]
/-- payments of whole numbers that make true -/
theorem v_true_ints (c : CaseOk ws rl a) (x : Nat → Int) (hb : ∀ i, i < rl.length → (x i).natAbs ≤ 100000) (h : ∀ i j, i < rl.length → j < rl.length → x i - x j ≤ lo ws rl i j) :
    f_do_make_true [.val (caseP ws rl), .val (.lst ((List.range rl.length).map fun i => .tup [.int (x i), .int 1]))] = .ok (.val (.bl true)) [] := by
  have hlen := c.len
  have hfs : ∀ q ∈ payR rl.length x, FS 20 q := fun q hq => by
    obtain ⟨i, hi, rfl⟩ := List.mem_map.mp hq
    exact fs_int (sz_of 100000 (hb i (List.mem_range.mp hi)) (by decide)) (by omega)
  have hpl : (payR rl.length x).length = ws.length := by simp [payR, hlen]
  obtain ⟨q1, q2, q3, q4⟩ := pay_ok (.inl rfl) hpl (by omega : 20 ≤ 130) hfs
  have hd := v_do_make_true c q1 q2 q3 hpl q4
  rw [tr_pay x h] at hd
  have e : (payR rl.length x).map frac = (List.range rl.length).map fun i => .tup [.int (x i), .int 1] := payR_frac _ _
  rw [e] at hd
  exact hd
/-! sizes -/
theorem wt_bd (c : CaseOk ws rl a) : ∀ l : List Nat, (∀ n ∈ l, n < rl.length) → (wt (lo ws rl) l).natAbs ≤ 198 * l.length
  | [], _ => by simp [wt]
  | [x], _ => by simp [wt]
  | x :: y :: r, h => by
    have ih := wt_bd c (y :: r) fun n hn => h n (List.mem_cons_of_mem _ hn)
    have hlen := c.len
    have := lo_small c (i := x) (j := y) (by have := h x (by simp); omega) (by have := h y (by simp); omega)
    simp only [wt, List.length_cons] at ih ⊢
    omega
theorem far_bd (c : CaseOk ws rl a) {i j : Nat} (hi : i < rl.length) (hj : j < rl.length) : (farF ws rl i j).natAbs ≤ 1000 := by
  obtain ⟨⟨l, w, nd, e⟩, -⟩ := farF_ok (ws := ws) (rl := rl) i j hi hj
  have h1 := wt_bd c l w.lt
  have h2 := nodup_len _ l nd w.lt
  have := c.len
  have := c.m4
  rw [e] at h1
  omega
/-! drawn worths -/
theorem rowsIs {o : Nat} {Q : PV → PV → Prop} {xs ps : List PV} (h : Paired Q xs ps) (hQ : ∀ x y, Q x y → ∃ r : List Int, y = rowI r ∧ r.length = o ∧ ∀ i ∈ r, -99 ≤ i ∧ i ≤ 99) : ∃ ws : List (List Int), ps = ws.map rowI ∧ ∀ r ∈ ws, r.length = o ∧ ∀ i ∈ r, -99 ≤ i ∧ i ≤ 99 := by
  induction h with
  | nil => exact ⟨[], rfl, fun r h => by cases h⟩
  | cons a b ih =>
    obtain ⟨r, rfl, h1⟩ := hQ _ _ a
    obtain ⟨ws, rfl, h2⟩ := ih
    exact ⟨r :: ws, rfl, fun r' h => by
      rcases List.mem_cons.mp h with e | h
      · subst e; exact h1
      · exact h2 r' h⟩
/-- drawn whole numbers: many - less is each -/
theorem drawnG {i v : Nat} {e1 e2 : Den} {vs : List Nat} {ρ : Pf.Env} {T : Sto} {p : PV} {x : Res RV} {o many less : Nat} (hx : dComp (itRng rng1 [dVar v]) (tgName i false) none (dBin bSub (dCall 2 f__law_draw [true, false] [dVar 0, e1]) e2) vs ρ (.live p :: T) = x) (hp : PotOk p) (ho : o ≤ 100) (hm : 1 ≤ many) (hm2 : many < 10000)
    (hv : ρ[v]? = some (some (.val (.int (o : Nat))))) (h0 : ∀ z, ((wipeE ρ vs).set i z)[0]? = some (some (.ref 0))) (h1 : ∀ z S, e1 ((wipeE ρ vs).set i z) S = .ok (.val (.int (many : Nat))) S) (h2 : ∀ z S, e2 ((wipeE ρ vs).set i z) S = .ok (.val (.int (less : Nat))) S) :
    ∃ (r : List Int) (p' : PV), x = .ok (.own (rowI r)) (.live p' :: T) ∧ PotOk p' ∧ r.length = o ∧ ∀ i ∈ r, -(less : Int) ≤ i ∧ i ≤ (many : Int) - 1 - less := by
  obtain ⟨ps, p', e, hp', hq⟩ := dComp_pot_of hx ((List.range o).map fun i => .int (i : Nat)) (fun _ y => ∃ i : Int, y = .int i ∧ -(less : Int) ≤ i ∧ i ≤ (many : Int) - 1 - less) (by simp [hv, rng_at o (by omega)]) (by simp; unfold sizeLine; omega) hp (fun x hx q hq => by
    obtain ⟨q', d, e, hq', d0, d1⟩ := v_law_draw hq (many := many) (by omega) (by omega)
    have h00 := h0 (some (.val x))
    have h11 := h1 (some (.val x))
    have h22 := h2 (some (.val x))
    generalize ((wipeE ρ vs).set i (some (.val x))) = ρ' at *
    exact ⟨q', .val (.int (d - less)), .int (d - less), by simp [h00, h11, h22, e], .inl rfl, hq', d - less, rfl, by omega, by omega⟩)
  have hl := paired_len hq
  obtain ⟨r, rfl, hr2⟩ := ints_of (paired_all hq fun x y h => h)
  refine ⟨r, p', e, hp', ?_, hr2⟩
  simp at hl
  omega
theorem gd_rows (h : ∀ r ∈ ws, r.length = a ∧ ∀ i ∈ r, -99 ≤ i ∧ i ≤ 99) (ha : a ≤ 6) : ∀ x ∈ ws.map rowI, Gd 1 200 x := fun x hx => by
  obtain ⟨r, hr, rfl⟩ := List.mem_map.mp hx
  obtain ⟨h1, h2⟩ := h r hr
  exact (gd_lst (m := 6) (n := 0) (k := 20) (fun x hx => by
    obtain ⟨i, hi, rfl⟩ := List.mem_map.mp hx
    have := h2 i hi
    exact gd_int' (by omega)) (by simp; omega)).mono (by omega) (by omega)
theorem gd_natL {r : List Nat} (h : ∀ n ∈ r, n < 100) (hl : r.length ≤ 6) : Gd 1 200 (.lst (r.map natI)) := (gd_lst (m := 6) (n := 0) (k := 20) (fun x hx => by
  obtain ⟨i, hi, rfl⟩ := List.mem_map.mp hx
  have := h i hi
  exact gd_int' (by omega)) (by simp; omega)).mono (by omega) (by omega)
end K64
end
section
set_option Elab.async false
set_option linter.all false
set_option maxHeartbeats 4000000
set_option maxRecDepth 100000
set_option autoImplicit false
namespace K64
open PySem Pf
variable {ws : List (List Int)} {rl : List Nat} {a : Nat}
/-! drawn cases -/
theorem rowIs9 {o : Nat} {Q : PV → PV → Prop} {xs ps : List PV} (h : Paired Q xs ps) (hQ : ∀ x y, Q x y → ∃ r : List Int, y = rowI r ∧ r.length = o ∧ ∀ i ∈ r, -9 ≤ i ∧ i ≤ 9) : ∃ ws : List (List Int), ps = ws.map rowI ∧ ∀ r ∈ ws, r.length = o ∧ ∀ i ∈ r, -9 ≤ i ∧ i ≤ 9 := by
  induction h with
  | nil => exact ⟨[], rfl, fun r h => by cases h⟩
  | cons a b ih =>
    obtain ⟨r, rfl, h1⟩ := hQ _ _ a
    obtain ⟨ws, rfl, h2⟩ := ih
    exact ⟨r :: ws, rfl, fun r' h => by
      rcases List.mem_cons.mp h with e | h
      · subst e; exact h1
      · exact h2 r' h⟩
theorem natIs {o : Nat} {ps : List PV} (h : ∀ y ∈ ps, ∃ d : Int, y = .int d ∧ 0 ≤ d ∧ d < o) : ∃ rl : List Nat, ps = rl.map natI ∧ ∀ n ∈ rl, n < o := by
  induction ps with
  | nil => exact ⟨[], rfl, fun r h => by cases h⟩
  | cons y ps ih =>
    obtain ⟨d, rfl, h1, h2⟩ := h y List.mem_cons_self
    obtain ⟨rl, rfl, h3⟩ := ih fun z hz => h z (List.mem_cons_of_mem _ hz)
    obtain ⟨n, rfl⟩ := Int.eq_ofNat_of_zero_le h1
    exact ⟨n :: rl, rfl, fun r' h => by
      rcases List.mem_cons.mp h with e | h
      · subst e; omega
      · exact h3 r' h⟩
/-- a drawn row of whole numbers -/
theorem v_drawn {p : PV} (hp : PotOk p) {w o : Nat} (hw : w ≤ 9) (ho : o ≤ 4) (T : Sto) (x1 x3 x5 x6 x7 x8 x9 x10 x11 x12 x13 : Option SV) :
    ∃ r p', dComp (itRng rng1 [dVar 4]) (tgName 11 false) none (dBin bSub (dCall 2 f__law_draw [true, false] [dVar 0, dBin bAdd (dBin bMul (dCst (.int 2)) (dVar 2)) (dCst (.int 1))]) (dVar 2)) [11]
      [some (.ref 0), x1, some (.val (.int (w : Nat))), x3, some (.val (.int (o : Nat))), x5, x6, x7, x8, x9, x10, x11, x12, x13] (.live p :: T) = .ok (.own (rowI r)) (.live p' :: T) ∧ PotOk p' ∧ r.length = o ∧ ∀ i ∈ r, -9 ≤ i ∧ i ≤ 9 := by
  have hr := rng1_nat o (by omega)
  have m1 : bMul (.int 2) (.int (w : Nat)) = some (.val (.int (2 * w))) := mul_ok (by omega) (by omega)
  obtain ⟨ps, p', e, hp', hq⟩ := dComp_pot (i := 11) (it := itRng rng1 [dVar 4]) (e := dBin bSub (dCall 2 f__law_draw [true, false] [dVar 0, dBin bAdd (dBin bMul (dCst (.int 2)) (dVar 2)) (dCst (.int 1))]) (dVar 2)) (vs := [11]) (xs := (List.range o).map fun i => .int (i : Nat)) (T := T) (p := p)
    (ρ := [some (.ref 0), x1, some (.val (.int (w : Nat))), x3, some (.val (.int (o : Nat))), x5, x6, x7, x8, x9, x10, x11, x12, x13]) (fun _ y => ∃ i : Int, y = .int i ∧ -9 ≤ i ∧ i ≤ 9) (by simp [hr]) (by simp; unfold sizeLine; omega) hp (fun x hx q hq => by
      obtain ⟨q', d, e1, hq', d0, d1⟩ := v_law_draw hq (many := 2 * w + 1) (by omega) (by omega)
      exact ⟨q', .val (.int (d - w)), .int (d - w), by simp [m1, e1], .inl rfl, hq', d - w, rfl, by omega, by omega⟩)
  have hl := paired_len hq
  obtain ⟨r, rfl, hr2⟩ := ints_of (paired_all hq fun x y h => h)
  refine ⟨r, p', e, hp', ?_, hr2⟩
  simp at hl
  omega
theorem fstIx_lt {ns : List Int} {m : Int} (h : m ∈ ns) : ∃ k, bIndex (.lst (ns.map .int)) (.int m) = some (.val (.int (k : Nat))) ∧ k < ns.length := by
  have key : ∀ ns : List Int, m ∈ ns → ∃ k, fstIx (.int m) (ns.map .int) = some k ∧ k < ns.length := fun ns => by
    induction ns with
    | nil => exact fun h => by cases h
    | cons n ns ih =>
      intro h
      by_cases e : n = m
      · subst e
        exact ⟨0, by simp [fstIx], by simp⟩
      · have h : m ∈ ns := by
          rcases List.mem_cons.mp h with h | h
          · exact absurd h.symm e
          · exact h
        obtain ⟨k, h1, h2⟩ := ih h
        refine ⟨k + 1, ?_, by simp; omega⟩
        simp only [List.map_cons, fstIx, eqv_int, e, decide_false, h1]
        simp
  obtain ⟨k, h1, h2⟩ := key ns h
  refine ⟨k, ?_, h2⟩
  simp [bIndex, h1, dat]
theorem v_law_case {p : PV} (hp : PotOk p) {w : Nat} (hw : w ≤ 9) : ∃ p' ws rl a, f__law_case [.cel p, .val (.int 4), .val (.int (w : Nat))] = .ok (.val (caseP ws rl)) [.live p'] ∧ PotOk p' ∧ CaseOk ws rl a ∧ ∀ r ∈ ws, ∀ i ∈ r, -9 ≤ i ∧ i ≤ 9 := by
  obtain ⟨p1, d1, e1, hp1, d10, d11⟩ := v_law_draw hp (many := 4) (by omega) (by omega)
  obtain ⟨p2, d2, e2, hp2, d20, d21⟩ := v_law_draw hp1 (many := 4) (by omega) (by omega)
  obtain ⟨m, hm⟩ := Int.eq_ofNat_of_zero_le (show 0 ≤ 1 + d1 by omega)
  obtain ⟨o, ho⟩ := Int.eq_ofNat_of_zero_le (show 0 ≤ 1 + d2 by omega)
  have hm1 : 1 ≤ m := by omega
  have hm4 : m ≤ 4 := by omega
  have ho1 : 1 ≤ o := by omega
  have ho4 : o ≤ 4 := by omega
  have hr := rng1_nat m (by omega)
  -- worths
  obtain ⟨ps, p3, e3, hp3, hq3⟩ := dComp_pot (i := 10) (it := itRng rng1 [dVar 3]) (vs := [10]) (xs := (List.range m).map fun i => .int (i : Nat)) (T := []) (p := p2)
    (e := dComp (itRng rng1 [dVar 4]) (tgName 11 false) none (dBin bSub (dCall 2 f__law_draw [true, false] [dVar 0, dBin bAdd (dBin bMul (dCst (.int 2)) (dVar 2)) (dCst (.int 1))]) (dVar 2)) [11])
    (ρ := [some (.ref 0), some (.val (.int 4)), some (.val (.int (w : Nat))), some (.val (.int (m : Nat))), some (.val (.int (o : Nat))), none, none, none, none, none, none, none, none, none]) (fun _ y => ∃ r : List Int, y = rowI r ∧ r.length = o ∧ ∀ i ∈ r, -9 ≤ i ∧ i ≤ 9) (by simp [hr]) (by simp; unfold sizeLine; omega) hp2 (fun x hx q hq => by
      obtain ⟨r, q', e, hq', h1, h2⟩ := v_drawn hq (w := w) (o := o) hw ho4 [] (some (.val (.int 4))) (some (.val (.int (m : Nat)))) none none none none none (some (.val x)) none none none
      exact ⟨q', .own (rowI r), rowI r, e, .inr rfl, hq', r, rfl, h1, h2⟩)
  obtain ⟨ws, rfl, hws⟩ := rowIs9 hq3 fun x y h => h
  have hwl : ws.length = m := by have := paired_len hq3; simp at this; omega
  -- the rule
  obtain ⟨qs, p4, e4, hp4, hq4⟩ := dComp_pot (i := 10) (it := itRng rng1 [dVar 3]) (vs := [10]) (xs := (List.range m).map fun i => .int (i : Nat)) (T := []) (p := p3)
    (e := dCall 2 f__law_draw [true, false] [dVar 0, dVar 4])
    (ρ := [some (.ref 0), some (.val (.int 4)), some (.val (.int (w : Nat))), some (.val (.int (m : Nat))), some (.val (.int (o : Nat))), some (.val (.lst (ws.map rowI))), none, none, none, none, none, none, none, none]) (fun _ y => ∃ d : Int, y = .int d ∧ 0 ≤ d ∧ d < o) (by simp [hr]) (by simp; unfold sizeLine; omega) hp3 (fun x hx q hq => by
      obtain ⟨q', d, e, hq', h1, h2⟩ := v_law_draw hq (many := o) (by omega) (by omega)
      exact ⟨q', .val (.int d), .int d, by simp [e], .inl rfl, hq', d, rfl, h1, h2⟩)
  obtain ⟨rl, rfl, hrl⟩ := natIs (o := o) (paired_all hq4 fun x y h => h)
  have hrll : rl.length = m := by have := paired_len hq4; simp at this; omega
  obtain ⟨p5, d5, e5, hp5, d50, d51⟩ := v_law_draw hp4 (many := 3) (by omega) (by omega)
  have rowok : ∀ r ∈ ws, r.length = o ∧ ∀ i ∈ r, -99 ≤ i ∧ i ≤ 99 := fun r hr => ⟨(hws r hr).1, fun i hi => by have := (hws r hr).2 i hi; omega⟩
  have small : ∀ r ∈ ws, ∀ i ∈ r, -9 ≤ i ∧ i ≤ 9 := fun r hr => (hws r hr).2
  by_cases h5 : 0 < d5
  · obtain ⟨nums, p6, e6, hp6, hn1, hn2⟩ := v_drawn hp5 (w := w) (o := o) hw ho4 [.live (.lst (rl.map natI))] (some (.val (.int 4))) (some (.val (.int (m : Nat)))) (some (.val (.lst (ws.map rowI)))) (some (.ref 1)) none none none none none none none
    have hloop : ∀ x, loop [] (tgName 8 false) (dsSeq (dsAsg (tgName 9 false) (dComp (itZip2 [dVar 8, dVar 7]) (tgTup [tgName 12 false, tgName 13 false]) none (dBin bAdd (dVar 12) (dVar 13)) [12, 13]))
      (dsSeq (dsExpr (dApp (dVar 6) (dMIx (dVar 9) (dCl (n1 fMax) [dVar 9])))) (dsNx))) (ws.map rowI) [some (.ref 0), some (.val (.int 4)), some (.val (.int (w : Nat))), some (.val (.int (m : Nat))), some (.val (.int (o : Nat))), some (.val (.lst (ws.map rowI))), some (.ref 2), some (.val (rowI nums)), none, none, none, none, none, none]
      [.live p6, .live (.lst (rl.map natI)), .live (.lst [])] = x → InOk x fun ρ S => ∃ rl2 : List Nat, S = [.live p6, .live (.lst (rl.map natI)), .live (.lst (rl2.map natI))] ∧ rl2.length = ws.length ∧ (∀ n ∈ rl2, n < o) ∧ ∃ y8 y9 y10 y11 y12 y13, ρ = [some (.ref 0), some (.val (.int 4)), some (.val (.int (w : Nat))), some (.val (.int (m : Nat))), some (.val (.int (o : Nat))), some (.val (.lst (ws.map rowI))), some (.ref 2), some (.val (rowI nums)), y8, y9, y10, y11, y12, y13] := fun x hx => by
      have := loop_inv_of hx (fun k ρ S => ∃ rl2 : List Nat, S = [.live p6, .live (.lst (rl.map natI)), .live (.lst (rl2.map natI))] ∧ rl2.length = k ∧ (∀ n ∈ rl2, n < o) ∧ ∃ y8 y9 y10 y11 y12 y13, ρ = [some (.ref 0), some (.val (.int 4)), some (.val (.int (w : Nat))), some (.val (.int (m : Nat))), some (.val (.int (o : Nat))), some (.val (.lst (ws.map rowI))), some (.ref 2), some (.val (rowI nums)), y8, y9, y10, y11, y12, y13]) (fun _ _ _ _ => rfl) ⟨[], rfl, rfl, (fun n h => by cases h), _, _, _, _, _, _, rfl⟩ (fun j y hj ρ S hI => by
        obtain ⟨rl2, rfl, hk, hb, y8, y9, y10, y11, y12, y13, rfl⟩ := hI
        have hjl : j < ws.length := by have := (List.getElem?_eq_some_iff.mp hj).1; simpa using this
        obtain ⟨r, hr', rfl⟩ := List.mem_map.mp (List.mem_of_getElem? hj)
        have hrl1 := (hws r hr').1
        simp
        rw [dComp_mapG (ys := r.zip nums) (g := fun p => .tup [.int p.1, .int p.2]) (gs := []) (fun p => .int (p.1 + p.2)) (by simp [rowI, zip2_map]) (by simp; unfold sizeLine; omega) rfl (fun p hp => by simp)]
        have hmm : (r.zip nums).map (fun p => PV.int (p.1 + p.2)) = ((r.zip nums).map fun p => p.1 + p.2).map .int := by simp [Function.comp_def]
        have hsl : ((r.zip nums).map fun p => p.1 + p.2).length = o := by simp; omega
        simp only [hmm]
        generalize ((r.zip nums).map fun p => p.1 + p.2) = sums at *
        have hne : sums ≠ [] := fun e => by rw [e] at hsl; simp at hsl; omega
        have hmax := fmax_ne hne
        obtain ⟨k, hk1, hk2⟩ := fstIx_lt ((mx_spec hne).1)
        have happ : appF (.int (k : Nat)) (.lst (rl2.map natI)) = some (.lst ((rl2 ++ [k]).map natI), .non) := by
          simp only [appF]
          rw [if_pos (by rw [List.length_map]; unfold sizeLine; omega), List.map_append]
          rfl
        generalize hRL : PV.lst (rl2.map natI) = RL at *
        obtain ⟨R, rfl⟩ : ∃ R, RL = .lst R := ⟨_, hRL.symm⟩
        simp [hmax, hk1, happ]
        refine .mk ⟨rl2 ++ [k], by simp, by simp [hk], fun n hn => ?_, _, _, _, _, _, _, rfl⟩
        rcases List.mem_append.mp hn with h | h
        · exact hb n h
        · rw [List.mem_singleton] at h; omega)
      rw [List.length_map] at this
      exact this
    obtain ⟨ρ', S', hlp, rl2, rfl, hl2, hb2, y8, y9, y10, y11, y12, y13, rfl⟩ := hloop _ rfl
    refine ⟨p6, ws, rl2, o, ?_, hp6, ⟨hl2, by omega, by omega, ho1, by omega, rowok, hb2⟩, small⟩
    have d5' : ¬ d5 ≤ 0 := by omega
    simp [f__law_case, d__law_case, e1, e2, hm, ho, lenOk, sizeLine, e3, e4, e5, h5, e6, hlp, caseP]
  · refine ⟨p5, ws, rl, o, ?_, hp5, ⟨by omega, by omega, by omega, ho1, by omega, rowok, hrl⟩, small⟩
    simp [f__law_case, d__law_case, e1, e2, hm, ho, lenOk, sizeLine, e3, e4, e5, h5, caseP]
end K64
end
section
set_option Elab.async false
set_option linter.all false
set_option maxHeartbeats 4000000
set_option maxRecDepth 100000
set_option autoImplicit false
namespace K64
open PySem Pf
variable {ws : List (List Int)} {rl : List Nat} {a : Nat}
theorem v_law_times {k : Nat} {p q : Rat} (hp : FS k p) (hq : FS k q) (hk : k ≤ 900) : f__law_times [.val (frac p), .val (frac q)] = .ok (.val (frac (p * q))) [] := by
  have m1 : bMul (.int p.num) (.int q.num) = some (.val (.int (p.num * q.num))) := mul_sz hp.1 hq.1 (by omega)
  have m3 : bMul (.int (p.den : Nat)) (.int (q.den : Nat)) = some (.val (.int ((p.den * q.den : Nat) : Int))) := by
    rw [Int.natCast_mul]
    exact mul_sz hp.2 hq.2 (by omega)
  have h := v_law_plain (p.num * q.num) (p.den * q.den) (Nat.mul_pos p.den_pos q.den_pos) ((hp.1.mul hq.1).mono (by omega)) ((fs_bot hp hq).mono (by omega))
  rw [rat_mul_mk] at h
  simp only [frac, Int.natCast_mul] at h m3 ⊢
  simp [f__law_times, d__law_times, m1, m3, h]
/-! greatest and least payments against a base -/
theorem v_greatest (c : CaseOk ws rl a) (hn : (alls rl.length).find? (isRg ws rl) = none) {b : Nat} (hb : b < rl.length) : f_greatest_payments [.val (caseP ws rl), .val (.int (b : Nat))] = .ok (.own (intsP rl.length fun i => farF ws rl i b)) [] := by
  have hlen := c.len
  have hm5 := c.m4
  have hN := noRing hn
  simp [f_greatest_payments, d_greatest_payments, v_check_case (isC_case c), v_check_sort hb, v_check_had c hn]
  rw [dComp_mapG (ys := List.range rl.length) (g := fun i => intsP rl.length (farF ws rl i)) (gs := []) (fun i => .int (farF ws rl i b)) (by simp [v_least_sums c hN, tabP, intsP]) (by simp; unfold sizeLine; omega) rfl (fun i hi => by
    have h : bIdx (intsP rl.length (farF ws rl i)) (.int (b : Nat)) = some (.val (.int (farF ws rl i b))) := idx_rngL hb
    simp [h])]
  simp [intsP]
theorem v_least (c : CaseOk ws rl a) (hn : (alls rl.length).find? (isRg ws rl) = none) {b : Nat} (hb : b < rl.length) : f_least_payments [.val (caseP ws rl), .val (.int (b : Nat))] = .ok (.own (intsP rl.length fun i => 0 - farF ws rl b i)) [] := by
  have hlen := c.len
  have hm5 := c.m4
  have hN := noRing hn
  have hx : bIdx (tabP rl.length (farF ws rl)) (.int (b : Nat)) = some (.val (intsP rl.length (farF ws rl b))) := idx_rngL hb
  simp [f_least_payments, d_least_payments, v_check_case (isC_case c), v_check_sort hb, v_check_had c hn]
  rw [dComp_mapG (ys := List.range rl.length) (g := fun i => .int (farF ws rl b i)) (gs := []) (fun i => .int (0 - farF ws rl b i)) (by simp [v_least_sums c hN, hx, intsP]) (by simp; unfold sizeLine; omega) rfl (fun i hi => by simp)]
  simp [intsP]
/-! plain -/
theorem far_first {D : Nat → Nat → Int} {m : Nat} {f : Nat → Nat → Int} (hf : Far D m f) {i j : Nat} (hi : i < m) (hj : j < m) (hij : i ≠ j) : ∃ k, k < m ∧ k ≠ i ∧ D i k + f k j ≤ f i j := by
  obtain ⟨⟨l, w, nd, e⟩, -⟩ := hf i j hi hj
  cases l with
  | nil => cases w.hd
  | cons x t =>
    have hx : x = i := by simpa using w.hd
    subst hx
    cases t with
    | nil =>
      have := w.la
      simp at this
      exact absurd this hij
    | cons y r =>
      have hy : y < m := w.lt y (by simp)
      refine ⟨y, hy, fun e => by subst e; simp at nd, ?_⟩
      have w1 : Walk m y j (y :: r) := ⟨rfl, by have := w.la; rwa [List.getLast?_cons_cons] at this, fun n hn => w.lt n (List.mem_cons_of_mem _ hn)⟩
      have nd1 : (y :: r).Nodup := (List.nodup_cons.mp nd).2
      obtain ⟨-, h2⟩ := hf y j hy hj
      have := h2 (y :: r) w1 nd1
      rw [← e]
      simp only [wt]
      omega
theorem mix_le {q x1 x2 y1 y2 l : Rat} (h0 : 0 ≤ q) (h1 : q ≤ 1) (hx : x1 - x2 ≤ l) (hy : y1 - y2 ≤ l) : (q * x1 + (1 - q) * y1) - (q * x2 + (1 - q) * y2) ≤ l := by
  have a1 := Rat.mul_le_mul_of_nonneg_left hx h0
  have a2 := Rat.mul_le_mul_of_nonneg_left hy (show (0 : Rat) ≤ 1 - q by grind)
  grind
def mixR (m : Nat) (q : Rat) (x y : Nat → Int) : List Rat := (List.range m).map fun i => q * (x i : Rat) + (1 - q) * (y i : Rat)
theorem gq_mix {m i : Nat} {q : Rat} (x y : Nat → Int) (hi : i < m) : gq (mixR m q x y) i = q * (x i : Rat) + (1 - q) * (y i : Rat) := by simp [gq, mixR, hi]
theorem fs_mix {m : Nat} {q : Rat} {x y : Nat → Int} (hq : FS 12 q) (hx : ∀ i, i < m → (x i).natAbs ≤ 2000) (hy : ∀ i, i < m → (y i).natAbs ≤ 2000) : ∀ z ∈ mixR m q x y, FS 130 z := fun z hz => by
  obtain ⟨i, hi, rfl⟩ := List.mem_map.mp hz
  have hi := List.mem_range.mp hi
  have h1 : FS 12 (x i : Rat) := fs_int (sz_of 2000 (hx i hi) (by decide)) (by omega)
  have h2 : FS 12 (y i : Rat) := fs_int (sz_of 2000 (hy i hi) (by decide)) (by omega)
  have h3 : FS 12 (1 : Rat) := fs_int (z := 1) (sz_of 2000 (by decide) (by decide)) (by omega)
  have h4 := (hq.mul h1).mono (show 2 * 12 ≤ 50 by omega)
  have h6 := ((h3.sub hq).mul (h2.mono (show 12 ≤ 2 * 12 + 1 by omega)))
  exact (h4.add h6).mono (by omega)
theorem tr_mix {q : Rat} (h0 : 0 ≤ q) (h1 : q ≤ 1) {x y : Nat → Int} (hx : ∀ i j, i < rl.length → j < rl.length → x i - x j ≤ lo ws rl i j) (hy : ∀ i j, i < rl.length → j < rl.length → y i - y j ≤ lo ws rl i j) : tr ws rl (mixR rl.length q x y) = true := by
  simp only [tr, List.all_eq_true, List.mem_range, trB, Bool.not_eq_true', decide_eq_false_iff_not, Rat.not_lt]
  intro i hi j hj
  rw [gq_mix x y hi, gq_mix x y hj]
  refine mix_le h0 h1 ?_ ?_
  · rw [← Rat.intCast_sub]; exact le_cast (hx i j hi hj)
  · rw [← Rat.intCast_sub]; exact le_cast (hy i j hi hj)
theorem v_true_rats (c : CaseOk ws rl a) {v : PV} {qs : List Rat} (hv : v = .lst (qs.map frac) ∨ v = .tup (qs.map frac)) (hl : qs.length = rl.length) (hf : ∀ q ∈ qs, FS 130 q) : f_do_make_true [.val (caseP ws rl), .val v] = .ok (.val (.bl (tr ws rl qs))) [] := by
  have hlen := c.len
  obtain ⟨q1, q2, q3, q4⟩ := pay_ok hv (hl.trans hlen) (Nat.le_refl _) hf
  exact v_do_make_true c q1 q2 q3 (hl.trans hlen) q4
theorem v_law_mixed_of {m : Nat} (hm : m ≤ 5) {q : Rat} {x y : Nat → Int} (hq : FS 12 q) (hx : ∀ i, i < m → (x i).natAbs ≤ 2000) (hy : ∀ i, i < m → (y i).natAbs ≤ 2000) :
    f__law_mixed_of [.val (intsP m x), .val (intsP m y), .val (frac q)] = .ok (.own (.lst ((mixR m q x y).map frac))) [] := by
  have h3 : FS 12 (1 : Rat) := fs_int (z := 1) (sz_of 2000 (by decide) (by decide)) (by omega)
  have hp := v_law_plus h3 hq.neg (by omega)
  have e1 : (1 : Rat) + -q = 1 - q := by grind
  have f1 : frac 1 = .tup [.int 1, .int 1] := rfl
  rw [e1, frac_neg, f1] at hp
  have hr : FS 25 (1 - q) := (h3.sub hq).mono (by omega)
  have i0 := idx_f0 q
  have i1 := idx_f1 q
  have neg0 : (0 : Int) - q.num = -q.num := by omega
  have body : ∀ i, i < m → f__law_times [.val (frac q), .val (.tup [.int (x i), .int 1])] = .ok (.val (frac (q * (x i : Rat)))) [] ∧ f__law_times [.val (frac (1 - q)), .val (.tup [.int (y i), .int 1])] = .ok (.val (frac ((1 - q) * (y i : Rat)))) [] ∧ f__law_plus [.val (frac (q * (x i : Rat))), .val (frac ((1 - q) * (y i : Rat)))] = .ok (.val (frac (q * (x i : Rat) + (1 - q) * (y i : Rat)))) [] := fun i hi => by
    have h1 : FS 12 (x i : Rat) := fs_int (sz_of 2000 (hx i hi) (by decide)) (by omega)
    have h2 : FS 12 (y i : Rat) := fs_int (sz_of 2000 (hy i hi) (by decide)) (by omega)
    have t1 := v_law_times hq h1 (by omega)
    have t2 := v_law_times hr (h2.mono (show 12 ≤ 25 by omega)) (by omega)
    rw [frac_int] at t1 t2
    exact ⟨t1, t2, v_law_plus ((hq.mul h1).mono (show 2 * 12 ≤ 50 by omega)) (hr.mul (h2.mono (show 12 ≤ 25 by omega))) (by omega)⟩
  have hres : (mixR m q x y).map frac = (List.range m).map fun i => frac (q * (x i : Rat) + (1 - q) * (y i : Rat)) := by simp [mixR]
  rw [hres]
  generalize frac q = fq at *
  generalize hfr : frac (1 - q) = fr at *
  simp [f__law_mixed_of, d__law_mixed_of, i0, i1, neg0, hp, lenOk, sizeLine]
  rw [dComp_mapG (ys := List.range m) (g := fun i => .tup [.int (x i), .int (y i)]) (gs := []) (fun i => frac (q * (x i : Rat) + (1 - q) * (y i : Rat))) (by simp [intsP, zip2_same]) (by simp; unfold sizeLine; omega) rfl (fun i hi => by
    have hi := List.mem_range.mp hi
    obtain ⟨t1, t2, t3⟩ := body i hi
    simp [t1, t2, t3, lenOk, sizeLine])]
  simp
end K64
end
section
set_option Elab.async false
set_option linter.all false
set_option maxHeartbeats 4000000
set_option maxRecDepth 100000
set_option autoImplicit false
namespace K64
open PySem Pf
variable {ws : List (List Int)} {rl : List Nat} {a : Nat}
theorem set_last {S : Sto} {c d : Cell} : (S ++ [c]).set S.length d = S ++ [d] := by rw [List.set_append_right _ _ (Nat.le_refl _), Nat.sub_self]; rfl
theorem get_last {S : Sto} {c : Cell} : (S ++ [c])[S.length]? = some c := by rw [List.getElem?_append_right (Nat.le_refl _), Nat.sub_self]; rfl
def oneMore (m : Nat) (x : Nat → Int) (j : Nat) : List Rat := (payR m x).set j ((x j : Rat) + mkRat 1 5)
theorem f15 : frac (mkRat 1 5) = .tup [.int 1, .int 5] := by
  have e : mkRat 1 5 = ⟨1, 5, by decide, by decide⟩ := by decide +kernel
  rw [e]
  rfl
theorem fs15 : FS 12 (mkRat 1 5) := fs_mk (by decide) (sz_of 2000 (by decide) (by decide)) (sz_of 2000 (by decide) (by decide))
theorem more_len {m : Nat} {x : Nat → Int} {j : Nat} : (oneMore m x j).length = m := by simp [oneMore, payR]
theorem fs_more {m : Nat} {x : Nat → Int} {j : Nat} (hj : j < m) (hx : ∀ i, i < m → (x i).natAbs ≤ 2000) : ∀ q ∈ oneMore m x j, FS 130 q := fun q hq => by
  rcases List.mem_or_eq_of_mem_set hq with h | rfl
  · obtain ⟨i, hi, rfl⟩ := List.mem_map.mp h
    exact (fs_int (sz_of 2000 (hx i (List.mem_range.mp hi)) (by decide)) (by omega) : FS 12 _).mono (by omega)
  · exact ((fs_int (sz_of 2000 (hx j hj) (by decide)) (by omega) : FS 12 _).add fs15).mono (by omega)
theorem gq_more {m : Nat} {x : Nat → Int} {j i : Nat} (hj : j < m) (hi : i < m) : gq (oneMore m x j) i = if i = j then (x j : Rat) + mkRat 1 5 else (x i : Rat) := by
  by_cases h : i = j
  · subst h; simp [gq, oneMore, payR, hi]
  · have h2 : ¬ j = i := fun e => h e.symm
    simp [gq, oneMore, payR, hi, h, h2, List.getElem?_set]
theorem more_frac {m : Nat} {x : Nat → Int} {j : Nat} : (oneMore m x j).map frac = ((List.range m).map fun i => PV.tup [.int (x i), .int 1]).set j (frac ((x j : Rat) + mkRat 1 5)) := by
  unfold oneMore
  rw [List.map_set, payR]
  congr 1
  exact payR_frac _ _
theorem tr_more {x : Nat → Int} {j k : Nat} (hj : j < rl.length) (hk : k < rl.length) (hkj : k ≠ j) (h : lo ws rl j k + x k ≤ x j) : tr ws rl (oneMore rl.length x j) = false := by
  cases ht : tr ws rl (oneMore rl.length x j) with
  | false => rfl
  | true =>
    simp only [tr, List.all_eq_true, List.mem_range, trB, Bool.not_eq_true', decide_eq_false_iff_not, Rat.not_lt] at ht
    have h1 := ht j hj k hk
    rw [gq_more hj hj, gq_more hj hk, if_pos rfl, if_neg hkj] at h1
    have h2 := le_cast h
    rw [Rat.intCast_add] at h2
    have h3 : (0 : Rat) < mkRat 1 5 := by decide +kernel
    exact absurd h1 (by grind)
theorem v_base_right (c : CaseOk ws rl a) (hn : (alls rl.length).find? (isRg ws rl) = none) {b : Nat} (hb : b < rl.length) {p : PV} (hp : PotOk p) : TrP (f__law_base_right [.cel p, .val (caseP ws rl), .val (.int (b : Nat))]) := by
  have hlen := c.len
  have hm5 := c.m4
  have hN := noRing hn
  have hF := farF_ok (ws := ws) (rl := rl)
  have hr := rng_at rl.length (by omega)
  obtain ⟨x, hxd⟩ : ∃ x : Nat → Int, x = fun i => farF ws rl i b := ⟨_, rfl⟩
  obtain ⟨y, hyd⟩ : ∃ y : Nat → Int, y = fun i => 0 - farF ws rl b i := ⟨_, rfl⟩
  have hxe : ∀ i, x i = farF ws rl i b := fun i => by rw [hxd]
  have hye : ∀ i, y i = 0 - farF ws rl b i := fun i => by rw [hyd]
  have hG := v_greatest c hn hb
  have hL := v_least c hn hb
  rw [← hxd] at hG
  rw [← hyd] at hL
  have hx : ∀ i j, i < rl.length → j < rl.length → x i - x j ≤ lo ws rl i j := fun i j hi hj => by
    have t1 := far_tri hN hF hi hb hj
    have t2 := far_le hN hF hi hj
    rw [hxe, hxe]
    omega
  have hy : ∀ i j, i < rl.length → j < rl.length → y i - y j ≤ lo ws rl i j := fun i j hi hj => by
    have t1 := far_tri hN hF hb hj hi
    have t2 := far_le hN hF hi hj
    rw [hye, hye]
    omega
  have hxb : ∀ i, i < rl.length → (x i).natAbs ≤ 1000 := fun i hi => by rw [hxe]; exact far_bd c hi hb
  have hyb : ∀ i, i < rl.length → (y i).natAbs ≤ 1000 := fun i hi => by
    have := far_bd c hb hi
    rw [hye]
    omega
  have hx0 : x b = 0 := by rw [hxe, far_zero hN hF hb]
  have hy0 : y b = 0 := by rw [hye, far_zero hN hF hb]; rfl
  have hfar1 : ∀ i, i < rl.length → f__law_far [.val (caseP ws rl), .val (.int (i : Nat)), .val (.int (b : Nat))] = .ok (.val (.int (x i))) [] := fun i hi => by rw [hxe]; exact v_law_far c hi hb
  have hfar2 : ∀ i, i < rl.length → f__law_far [.val (caseP ws rl), .val (.int (b : Nat)), .val (.int (i : Nat))] = .ok (.val (.int (farF ws rl b i))) [] := fun i hi => v_law_far c hb hi
  have hdx := v_true_ints c x (fun i hi => by have := hxb i hi; omega) hx
  have hdy := v_true_ints c y (fun i hi => by have := hyb i hi; omega) hy
  -- shown
  have gI : ∀ z : Nat → Int, (∀ i, i < rl.length → (z i).natAbs ≤ 1000) → Gd 2 200000 (intsP rl.length z) := fun z hz => by
    have e : intsP rl.length z = .lst (((List.range rl.length).map z).map .int) := by simp [intsP]
    rw [e]
    exact (gd_intsL (m := 6) (fun i hi => by
      obtain ⟨j, hj, rfl⟩ := List.mem_map.mp hi
      have := hz j (List.mem_range.mp hj)
      omega) (by simp; omega)).mono (by omega) (by omega)
  have gx := gI x hxb
  have gy := gI y hyb
  have gP : Gd 3 500000 (.lst [intsP rl.length x, intsP rl.length y]) := (gd_lst (m := 2) (gd_cons gx (gd_cons gy gd_nil)) (by simp)).mono (by omega) (by omega)
  have rD := repL2 gP gP (by omega) (by omega)
  have rQ := gd_repr (gd_lst (m := 2) (gd_cons gP (gd_cons gP gd_nil)) (by simp)) (by omega) (by omega)
  have rX := gd_repr gx (by omega) (by omega)
  have hlc : bIdx (caseP ws rl) (.int 1) = some (.val (.lst (rl.map natI))) := rfl
  have hX : intsP rl.length x = .lst ((List.range rl.length).map fun i => .int (x i)) := rfl
  simp [f__law_base_right, d__law_base_right, hlc]
  rw [dComp_mapG (ys := List.range rl.length) (g := fun i => .int (i : Nat)) (gs := []) (fun i => .int (x i)) (by simp [hr]) (by simp; unfold sizeLine; omega) rfl (fun i hi => by simp [hfar1 i (List.mem_range.mp hi)])]
  simp
  rw [dComp_mapG (ys := List.range rl.length) (g := fun i => .int (i : Nat)) (gs := []) (fun i => .int (y i)) (by simp [hr]) (by simp; unfold sizeLine; omega) rfl (fun i hi => by simp [hfar2 i (List.mem_range.mp hi), hye])]
  have ex : PV.lst ((List.range rl.length).map fun i => .int (x i)) = intsP rl.length x := rfl
  have ey : PV.lst ((List.range rl.length).map fun i => .int (y i)) = intsP rl.length y := rfl
  rw [ex, ey]
  have ixx : bIdx (intsP rl.length x) (.int (b : Nat)) = some (.val (.int 0)) := by rw [← hx0]; exact idx_rngL hb
  have ixy : bIdx (intsP rl.length y) (.int (b : Nat)) = some (.val (.int 0)) := by rw [← hy0]; exact idx_rngL hb
  have mul2 : bMul (.lst [.lst [intsP rl.length x, intsP rl.length y]]) (.int 2) = some (.own (.lst [.lst [intsP rl.length x, intsP rl.length y], .lst [intsP rl.length x, intsP rl.length y]])) := mul_l (k := 2) (by simp) (by omega)
  simp [hG, hL, lenOk, sizeLine, permL, rD, rQ, mul2, ixx, ixy]
  have hch0 : ∀ S, chk [] S = .ok () S := fun S => chk_ok rfl
  have itx : itemsOf (intsP rl.length x) = some ((List.range rl.length).map fun i => .int (x i)) := rfl
  have ity : itemsOf (intsP rl.length y) = some ((List.range rl.length).map fun i => .int (y i)) := rfl
  have hcl : (List.range rl.length).length ≤ sizeLine := by simp; unfold sizeLine; omega
  simp [loop, hch0]
  rw [dComp_mapG (ys := List.range rl.length) (g := fun i => .int (x i)) (gs := []) (fun i => .tup [.int (x i), .int 1]) (by simp [itx]) hcl rfl (fun i hi => by simp [lenOk, sizeLine])]
  simp [loop, cont, hch0, hdx, bisn_bb]
  rw [dComp_mapG (ys := List.range rl.length) (g := fun i => .int (y i)) (gs := []) (fun i => .tup [.int (y i), .int 1]) (by simp [ity]) hcl rfl (fun i hi => by simp [lenOk, sizeLine])]
  simp [loop, cont, hch0, hdy, bisn_bb]
  obtain ⟨p1, d, e1, hp1, d0, d1⟩ := v_law_draw hp (many := 8) (by omega) (by omega)
  have key : ∀ (t : Int) (n : Nat), 0 < n → n ≤ 7 → t.natAbs ≤ 7 → 0 ≤ mkRat t n → mkRat t n ≤ 1 → f__law_plain [.val (.int t), .val (.int (n : Nat))] = .ok (.val (frac (mkRat t n))) [] ∧ f__law_mixed_of [.val (intsP rl.length x), .val (intsP rl.length y), .val (frac (mkRat t n))] = .ok (.own (.lst ((mixR rl.length (mkRat t n) x y).map frac))) [] ∧ f_do_make_true [.val (caseP ws rl), .val (.lst ((mixR rl.length (mkRat t n) x y).map frac))] = .ok (.val (.bl true)) [] := fun t n n0 n7 t7 q0 q1 => by
    have s1 : Sz 12 t := sz_of 2000 (by omega) (by decide)
    have s2 : Sz 12 ((n : Nat) : Int) := sz_of 2000 (by omega) (by decide)
    have hq : FS 12 (mkRat t n) := fs_mk n0 s1 s2
    refine ⟨v_law_plain t n n0 (s1.mono (by omega)) (s2.mono (by omega)), v_law_mixed_of (by omega) hq (fun i hi => by have := hxb i hi; omega) (fun i hi => by have := hyb i hi; omega), ?_⟩
    rw [v_true_rats c (.inl rfl) (by simp [mixR]) (fs_mix hq (fun i hi => by have := hxb i hi; omega) fun i hi => by have := hyb i hi; omega), tr_mix q0 q1 hx hy]
  obtain ⟨k1, k2, k3⟩ := key 1 2 (by decide) (by decide) (by decide) (by decide) (by decide)
  obtain ⟨l1, l2, l3⟩ := key 1 3 (by decide) (by decide) (by decide) (by decide) (by decide)
  have hd : d = 0 ∨ d = 1 ∨ d = 2 ∨ d = 3 ∨ d = 4 ∨ d = 5 ∨ d = 6 ∨ d = 7 := by omega
  obtain ⟨m1, m2, m3⟩ := key d 7 (by decide) (by decide) (by omega) (by rcases hd with rfl | rfl | rfl | rfl | rfl | rfl | rfl | rfl <;> decide) (by rcases hd with rfl | rfl | rfl | rfl | rfl | rfl | rfl | rfl <;> decide)
  simp only [Int.cast_ofNat_Int] at k1 l1 m1
  simp [e1, lenOk, sizeLine, loop, cont, hch0, k1, k2, k3, l1, l2, l3, m1, m2, m3, bisn_bb]
  simp [hr]
  generalize hx1 : loop _ _ _ _ _ _ = x1
  have hlp := loop_inv_of hx1 (fun k ρ S => ∃ T y8 y10 y11, S = [.live p1, .live (intsP rl.length x), .live (intsP rl.length y), .nest [.cl 1, .cl 2]] ++ T ∧ ρ = [some (.ref 0), some (.val (caseP ws rl)), some (.val (.int (b : Nat))), some (.val (.int (rl.length : Nat))), some (.val (intsP rl.length x)), some (.val (intsP rl.length y)), some (.ref 3),
      some (.val (.lst [intsP rl.length x, intsP rl.length y])), y8, some (.val (.tup [.int d, .int 7])), y10, y11]) (fun _ _ _ _ => rfl) ⟨[], _, _, _, rfl, rfl⟩ (fun j z hj ρ S hI => by
    obtain ⟨T, y8, y10, y11, rfl, rfl⟩ := hI
    have hjm : j < rl.length := by have := (List.getElem?_eq_some_iff.mp hj).1; simpa using this
    obtain rfl : z = .int (j : Nat) := by simpa [hjm] using hj.symm
    have hpl := v_law_plus (fs_int (sz_of 2000 (show (x j).natAbs ≤ 2000 by have := hxb j hjm; omega) (by decide)) (by omega) : FS 12 ((x j : Int) : Rat)) fs15 (by omega)
    rw [frac_int, f15] at hpl
    have hdm := v_true_rats c (v := .tup ((oneMore rl.length x j).map frac)) (.inr rfl) more_len (fs_more hjm fun i hi => by have := hxb i hi; omega)
    rw [more_frac] at hdm
    have hidx : bIdx (.lst ((List.range rl.length).map fun i => PV.tup [.int (x i), .int 1])) (.int (j : Nat)) = some (.val (.tup [.int (x j), .int 1])) := idx_rngL hjm
    have hset : setF (.int (j : Nat)) (frac ((x j : Rat) + mkRat 1 5)) (.lst ((List.range rl.length).map fun i => PV.tup [.int (x i), .int 1])) = some (.lst (((List.range rl.length).map fun i => PV.tup [.int (x i), .int 1]).set j (frac ((x j : Rat) + mkRat 1 5))), .non) := by
      exact setF_nat (by simpa using hjm)
    have hfl : j ≠ b → tr ws rl (oneMore rl.length x j) = false := fun hjb => by
      obtain ⟨k, hk, hkj, hle⟩ := far_first hF hjm hb hjb
      rw [← hxe, ← hxe] at hle
      exact tr_more hjm hk hkj hle
    generalize hS : [Cell.live p1, .live (intsP rl.length x), .live (intsP rl.length y), .nest [.cl 1, .cl 2]] ++ T = S
    simp
    rw [dComp_mapG (ys := List.range rl.length) (g := fun i => .int (x i)) (gs := []) (fun i => .tup [.int (x i), .int 1]) (by simp [itx]) hcl rfl (fun i hi => by simp [lenOk, sizeLine])]
    generalize (List.range rl.length).map (fun i => PV.tup [.int (x i), .int 1]) = PL at *
    simp [get_last, hidx, hpl, hset, set_last, lenOk, sizeLine, hdm]
    by_cases hjb : j = b
    · subst hjb
      simp
      exact .mk ⟨⟨T ++ [_], by rw [← hS]; rfl⟩, _, _, _, rfl⟩
    · have hjb2 : ¬ (j : Int) = (b : Int) := by omega
      have hfl2 := hfl hjb
      rw [hfl2] at hdm
      simp [hjb2, get_last, hdm, bisn_bb]
      exact .mk ⟨⟨T ++ [_], by rw [← hS]; rfl⟩, _, _, _, rfl⟩)
  obtain ⟨ρ', S', rfl, T, y8, y10, y11, rfl, rfl⟩ := hlp
  clear hx1
  have h5 : rl.length ≤ 5 := by rw [hlen]; exact hm5
  have hGL : intsP rl.length x = .lst ((List.range rl.length).map fun i => .int (x i)) := rfl
  have hGl : ((List.range rl.length).map fun i => PV.int (x i)).length < 100000 := by
    rw [List.length_map, List.length_range]
    exact Nat.lt_of_le_of_lt h5 (by decide)
  rw [hGL] at rX hG ⊢
  generalize (List.range rl.length).map (fun i => PV.int (x i)) = GL at *
  simp [app_ok hGl, hG, rX, lenOk, sizeLine]
  exact TrP.mk hp1
end K64
end
section
set_option Elab.async false
set_option linter.all false
set_option maxHeartbeats 4000000
set_option maxRecDepth 100000
set_option autoImplicit false
namespace K64
open PySem Pf
variable {ws : List (List Int)} {rl : List Nat} {a : Nat}
theorem dat_i : ∀ zs : List Int, (zs.map PV.int).all (dat 59) = true := fun zs => by rw [List.all_map, List.all_eq_true]; exact fun x _ => rfl
theorem beq_ints (xs ys : List Int) : bEq (.lst (xs.map .int)) (.lst (ys.map .int)) = some (.val (.bl (decide (xs = ys)))) := by
  have e : eqv (.lst (xs.map .int)) (.lst (ys.map .int)) = decide (xs = ys) := by
    rw [← eqvAll_ints]
    simp [eqv, toD, PyData.eqv]
  have d : ∀ zs : List Int, dat 60 (.lst (zs.map .int)) = true := fun zs => by
    unfold dat
    exact dat_i zs
  simp [bEq, isS, d, e]
theorem bne_intsT (xs ys : List Int) : bNe (.tup (xs.map .int)) (.tup (ys.map .int)) = some (.val (.bl (!decide (xs = ys)))) := by
  have e : eqv (.tup (xs.map .int)) (.tup (ys.map .int)) = decide (xs = ys) := by
    rw [← eqvAll_ints]
    simp [eqv, toD, PyData.eqv]
  have d : ∀ zs : List Int, dat 60 (.tup (zs.map .int)) = true := fun zs => by
    unfold dat
    exact dat_i zs
  simp [bNe, isS, d, e]
def natZ (xs : List Nat) : List Int := xs.map fun n : Nat => ((n : Nat) : Int)
theorem natI_Z (xs : List Nat) : xs.map natI = (natZ xs).map .int := by simp [natZ, natI, Function.comp_def]
theorem case_gd (c : CaseOk ws rl a) : Gd 3 500000 (caseP ws rl) := by
  have hlen := c.len
  have h4 := c.m4
  have ha := c.a4
  have g1 : Gd 2 20000 (.lst (ws.map rowI)) := (gd_lst (m := 5) (gd_rows c.row (by omega)) (by rw [List.length_map]; exact h4)).mono (by omega) (by omega)
  have g2 : Gd 2 20000 (.lst (rl.map natI)) := (gd_natL (fun n hn => by have := c.rule n hn; omega) (by omega)).mono (by omega) (by omega)
  exact (gd_tup (m := 2) (gd_cons g1 (gd_cons g2 gd_nil)) (by simp)).mono (by omega) (by omega)
theorem beq_natL (r : List Nat) : bEq (.lst (r.map natI)) (.lst (r.map natI)) = some (.val (.bl true)) := by
  have h := beq_ints (natZ r) (natZ r)
  rw [← natI_Z] at h
  simpa using h
theorem v_law_right {p : PV} (hp : PotOk p) : Tr (f__law_right [.cel p]) := by
  obtain ⟨p1, wv, e1, hp1, m1⟩ := v_law_pick hp (xs := [.int 1, .int 3, .int 9]) (by simp) (by simp)
  obtain ⟨w, rfl, hw⟩ : ∃ w : Nat, wv = .int (w : Nat) ∧ w ≤ 9 := by
    simp only [List.mem_cons, List.not_mem_nil, or_false] at m1
    rcases m1 with h | h | h <;> subst h
    · exact ⟨1, rfl, by omega⟩
    · exact ⟨3, rfl, by omega⟩
    · exact ⟨9, rfl, by omega⟩
  obtain ⟨p2, ws, rl, a, e2, hp2, c, -⟩ := v_law_case hp1 hw
  have hlen := c.len
  have h4 := c.m4
  have h1 := c.m1
  have hring := v_law_ring c
  have hring2 := v_ring c
  cases hfind : (alls rl.length).find? (isRg ws rl) with
  | some r =>
    rw [hfind] at hring hring2
    simp [f__law_right, d__law_right, e1, e2, hring, hring2, rgP, natL, bIsN, isNon, lenOk, sizeLine, beq_natL]
    exact .mk
  | none =>
    rw [hfind] at hring
    have hN := noRing hfind
    have hF := farF_ok (ws := ws) (rl := rl)
    have hm : 0 < rl.length := by omega
    have hrep := gd_repr (case_gd c) (by omega) (by omega)
    have hr := rng_at rl.length (by omega)
    have hlc : bIdx (caseP ws rl) (.int 1) = some (.val (.lst (rl.map natI))) := rfl
    simp [f__law_right, d__law_right, e1, e2, hring, rgP, bIsN, isNon, lenOk, sizeLine, hlc, hrep, hr]
    have facts : ∀ i j, i < rl.length → j < rl.length → 0 - farF ws rl j i ≤ farF ws rl i j ∧ (ru rl i = ru rl j → farF ws rl i j = 0 ∧ farF ws rl j i = 0) ∧ ∀ b, b < rl.length → 0 - farF ws rl j i ≤ farF ws rl i b - farF ws rl j b ∧ farF ws rl i b - farF ws rl j b ≤ farF ws rl i j := fun i j hi hj => by
      have t1 := far_tri hN hF hi hi hj
      have t0 := far_zero hN hF hi
      refine ⟨by omega, fun e => ?_, fun b hb => ?_⟩
      · have l1 := far_le hN hF hi hj
        have l2 := far_le hN hF hj hi
        unfold lo at l1 l2
        rw [e] at l1 l2
        omega
      · have u1 := far_tri hN hF hi hb hj
        have u2 := far_tri hN hF hj hb hi
        omega
    generalize hx : loop _ _ _ _ _ _ = x
    have hlp := loop_keep_of hx (fun ρ S => ∃ p x4 x5 x6 x7 x8, PotOk p ∧ S = [.live p] ∧ ρ = [some (.ref 0), some (.val (caseP ws rl)), some (.val (.int (rl.length : Nat))), some (.val (.str (shT (caseP ws rl)))), x4, x5, x6, x7, x8]) (fun ρ S ⟨_, _, _, _, _, _, _, e, _⟩ => by rw [e]; rfl) ⟨p2, _, _, _, _, _, hp2, rfl, rfl⟩ (fun y hy ρ S hI => by
      obtain ⟨q, x4, x5, x6, x7, x8, hq, rfl, rfl⟩ := hI
      obtain ⟨i, hi, rfl⟩ := List.mem_map.mp hy
      have hi := List.mem_range.mp hi
      simp [hr]
      generalize hx2 : loop _ _ _ _ _ _ = z
      have hlp2 := loop_keep_of hx2 (fun ρ S => ∃ p x5 x6 x7 x8, PotOk p ∧ S = [.live p] ∧ ρ = [some (.ref 0), some (.val (caseP ws rl)), some (.val (.int (rl.length : Nat))), some (.val (.str (shT (caseP ws rl)))), some (.val (.int (i : Nat))), x5, x6, x7, x8]) (fun ρ S ⟨_, _, _, _, _, _, e, _⟩ => by rw [e]; rfl) ⟨q, _, _, _, _, hq, rfl, rfl⟩ (fun y hy ρ S hI => by
        obtain ⟨q, x5, x6, x7, x8, hq, rfl, rfl⟩ := hI
        obtain ⟨j, hj, rfl⟩ := List.mem_map.mp hy
        have hj := List.mem_range.mp hj
        obtain ⟨f1, f2, f3⟩ := facts i j hi hj
        have hij := v_law_far c hi hj
        have hji := v_law_far c hj hi
        have hsp := v_span c hfind hi hj
        obtain ⟨q', b, e3, hq', b0, b1⟩ := v_law_draw hq (many := rl.length) (by omega) (by omega)
        obtain ⟨b, rfl⟩ := Int.eq_ofNat_of_zero_le b0
        have hb : b < rl.length := by omega
        have hgr := v_greatest c hfind hb
        have gi : bIdx (intsP rl.length fun i => farF ws rl i b) (.int (i : Nat)) = some (.val (.int (farF ws rl i b))) := idx_rngL hi
        have gj : bIdx (intsP rl.length fun i => farF ws rl i b) (.int (j : Nat)) = some (.val (.int (farF ws rl j b))) := idx_rngL hj
        obtain ⟨g1, g2⟩ := f3 b hb
        have ri : bIdx (.lst (rl.map natI)) (.int (i : Nat)) = some (.val (.int (ru rl i : Nat))) := by
          refine idx_l ?_
          simp [natI, ru, hi]
        have rj : bIdx (.lst (rl.map natI)) (.int (j : Nat)) = some (.val (.int (ru rl j : Nat))) := by
          refine idx_l ?_
          simp [natI, ru, hj]
        have d1 := far_bd c hi hj
        have d2 := far_bd c hj hi
        have gT : Gd 2 20000 (.tup [.int (0 - farF ws rl j i), .int (farF ws rl i j)]) := (gd_tup (m := 2) (gd_cons (gd_int (Nat.le_trans (show (0 - farF ws rl j i).natAbs ≤ 1000 by omega) (by decide))) (gd_cons (gd_int (Nat.le_trans d1 (by decide))) gd_nil)) (by simp)).mono (by omega) (by omega)
        have rT := repL2 gT gT (by omega) (by omega)
        have hne : bNe (.tup [.int (0 - farF ws rl j i), .int (farF ws rl i j)]) (.tup [.int 0, .int 0]) = some (.val (.bl (!decide ([0 - farF ws rl j i, farF ws rl i j] = [0, 0])))) := bne_intsT [0 - farF ws rl j i, farF ws rl i j] [0, 0]
        generalize intsP rl.length (fun i => farF ws rl i b) = GP at *
        generalize farF ws rl i j = F1 at *
        generalize farF ws rl j i = F2 at *
        rw [Int.zero_sub] at hsp rT hne f1 g1
        have n1 : ¬ F1 < -F2 := by omega
        simp [hij, hji, hsp, permL, rT, lenOk, sizeLine, n1, hlc, ri, rj, e3, hgr, gi, gj]
        have b1' : -F2 ≤ farF ws rl i b - farF ws rl j b := by omega
        by_cases hru : (ru rl i : Int) = (ru rl j : Nat)
        · obtain ⟨z1, z2⟩ := f2 (by omega)
          subst z1 z2
          simp at hne
          simp [hru, hne, lenOk, sizeLine, e3, hgr, gi, gj, b1', g2]
          simp at b1'
          simp [b1', g2, e3, hgr, gi, gj]
          exact .mk ⟨q', hq', rfl, _, _, _, _, rfl⟩
        · simp [hru, lenOk, sizeLine, e3, hgr, gi, gj, b1', g2]
          exact .mk ⟨q', hq', rfl, _, _, _, _, rfl⟩)
      obtain ⟨ρ', S', rfl, q', x5, x6, x7, x8, hq', rfl, rfl⟩ := hlp2
      simp
      exact .mk ⟨q', hq', rfl, _, _, _, _, _, rfl⟩)
    obtain ⟨ρ', S', rfl, q', x4, x5, x6, x7, x8, hq', rfl, rfl⟩ := hlp
    clear hx
    simp
    generalize hx : dComp _ _ _ _ _ _ _ = x
    obtain ⟨ps, p4, rfl, hp4, hq4⟩ := dComp_pot_of hx ((List.range rl.length).map fun i => .int (i : Nat)) (fun _ y => y = .bl true) (by simp [hr]) (by simp; unfold sizeLine; omega) hq' (fun x hx q hq => by
      obtain ⟨j, hj, rfl⟩ := List.mem_map.mp hx
      obtain ⟨q2, e, hq2⟩ := v_base_right c hfind (List.mem_range.mp hj) hq
      exact ⟨q2, .val (.bl true), .bl true, by simp [e], .inl rfl, hq2, rfl⟩)
    have hall : ∀ y ∈ ps, y = .bl true := paired_all hq4 fun x y h => h
    have hb : ps = ps.map fun _ => PV.bl true := by
      have : ∀ l : List PV, (∀ y ∈ l, y = .bl true) → l = l.map fun _ => PV.bl true := fun l => by
        induction l with
        | nil => intro _; rfl
        | cons a l ih => intro h; rw [List.map_cons, ← ih fun y hy => h y (List.mem_cons_of_mem _ hy), h a List.mem_cons_self]
      exact this ps hall
    have hf : fAll (.lst ps) = some (.val (.bl true)) := by
      rw [hb]
      exact fall_of (xs := ps) (P := fun _ => true) (by simp)
    simp [hf, hrep]
    exact .mk
end K64
end
section
set_option Elab.async false
set_option linter.all false
set_option maxHeartbeats 4000000
set_option maxRecDepth 100000
set_option autoImplicit false
namespace K64
open PySem Pf
theorem law_ok : LawOk f_law := fun ns hn => by
  obtain ⟨m, hm1, hm2, hm⟩ : ∃ m : Nat, 1 ≤ m ∧ m ≤ 3 ∧ (if (if (ns.length : Int) < 3 then (ns.length : Int) else 3) > 1 then (if (ns.length : Int) < 3 then (ns.length : Int) else 3) else 1) = (m : Int) := by
    by_cases h : 3 ≤ ns.length
    · exact ⟨3, by omega, by omega, by rw [if_neg (by omega : ¬ (ns.length : Int) < 3)]; rfl⟩
    · by_cases h1 : 1 < ns.length
      · exact ⟨ns.length, by omega, by omega, by rw [if_pos (by omega : (ns.length : Int) < 3)]; rw [if_pos (by omega)]⟩
      · exact ⟨1, by omega, by omega, by rw [if_pos (by omega : (ns.length : Int) < 3)]; rw [if_neg (by omega)]; rfl⟩
  obtain ⟨bs, S2, e2, _, q2⟩ := dComp_inv (ρ := [some (.val (.scr ns)), none]) (S := []) (it := itRng rng1 [dCl (n2 fMax2) [dCst (.int 1), dCl (n2 fMin2) [dCst (.int 3), dCl (n1 fLen) [dVar 0]]]]) (t := tgName 1 false) (c := none)
    (e := dCall 1 f__law_right [true] [dCall 2 f__law_pot [false, false] [dVar 0, dVar 1]]) (vs := [1]) (xs := (List.range m).map fun i => .int (i : Nat)) (gs := []) (S1 := []) (fun _ => True) (fun _ y => y = .bl true)
    (by
      have h := rng1_nat m (by omega)
      rw [← hm] at h
      simp [h]) (by simp [sizeLine]; omega) (fun _ _ => rfl) trivial (fun x hx S _ => by
      obtain ⟨k, hk, rfl⟩ := List.mem_map.mp hx
      have hk := List.mem_range.mp hk
      obtain ⟨p, e, hp⟩ := v_law_pot ns k (by omega)
      obtain ⟨outs, e'⟩ := v_law_right hp
      exact ⟨.bl true, _, by simp [turnC, condM, chk, e, e']; rfl, trivial, rfl⟩)
  have hall : ∀ y ∈ bs, y = .bl true := paired_all q2 fun x y h => h
  have hb : bs = (bs.map fun _ => PV.bl true) := by
    have : ∀ l : List PV, (∀ y ∈ l, y = .bl true) → l = l.map fun _ => PV.bl true := fun l => by
      induction l with
      | nil => intro _; rfl
      | cons a l ih => intro h; rw [List.map_cons, ← ih fun y hy => h y (List.mem_cons_of_mem _ hy), h a List.mem_cons_self]
    exact this bs hall
  have hf : fAll (.lst bs) = some (.val (.bl true)) := by
    rw [hb]
    exact fall_of (xs := bs) (P := fun _ => true) (by simp)
  exact ⟨[], by simp [f_law, d_law, e2, hf]⟩
end K64
end
section
set_option Elab.async false
set_option linter.all false
set_option maxHeartbeats 4000000
set_option maxRecDepth 100000
set_option autoImplicit false
namespace K64
open PySem PySem.Spec PyProof.Rows L2 Pf
def fnl : List He.DefD := [D__law_pot, D_is_integer, D_is_within, D_is_list, D_are_worths_of, D_is_case_of, D_check_case, D_check_sort, D_own_worth, D_loss, D_losses_round, D_ring_of, D_check_had, D_least_sums, D_span, D_greatest_payments, D_ring, D__law_draw, D__law_pick, D__law_case, D__law_lists, D__law_loss, D__law_losses, D__law_ring, D__law_far, D_divisor, D_reduced, D_take, D_is_below, D_is_fraction_of, D_are_payments, D_do_make_true, D_least_payments, D__law_plain, D__law_plus, D__law_times, D__law_mixed_of, D__law_base_right, D__law_right, D_law]
def fal0 : List He.Fa := [.free "abs", .free "all", .free "bool", .free "divmod", .free "int", .free "isinstance", .free "len", .free "list", .free "max", .free "min", .free "range", .free "repr", .free "sum", .free "tuple", .free "zip", .int "MOST_OUTCOMES" 6, .int "MOST_SORTS" 5, .int "MOST_WORTH" 99, .glo "_law_pot", .glo "is_integer", .glo "is_within", .glo "is_list", .glo "are_worths_of", .glo "is_case_of", .glo "check_case", .glo "check_sort", .glo "own_worth", .glo "loss", .glo "losses_round", .glo "ring_of"]
def fal1 : List He.Fa := [.glo "check_had", .glo "least_sums", .glo "span", .glo "greatest_payments", .glo "ring", .glo "_law_draw", .glo "_law_pick", .glo "_law_case", .glo "_law_lists", .glo "_law_loss", .glo "_law_losses", .glo "_law_ring", .glo "_law_far", .glo "divisor", .glo "reduced", .glo "take", .glo "is_below", .glo "is_fraction_of", .glo "are_payments", .glo "do_make_true", .glo "least_payments", .glo "_law_plain", .glo "_law_plus", .glo "_law_times", .glo "_law_mixed_of", .glo "_law_base_right", .glo "_law_right", .glo "law"]
def fal : List He.Fa := fal0 ++ fal1
def tbl : Tb := []
theorem fx_of {K : Frag} {base : Heap} {mg : Str → Option Value} (X : K.In base) (G : base.Ns mainGlobals mg) (c : SaysS fal tbl fnl K) : Fx K mg base where
  sys := let ⟨o, e⟩ := c.sys; ⟨o, X _ _ e⟩
  n_abs := He.free_ok X G (c.d.fact 0 (f := .free "abs") rfl)
  n_all := He.free_ok X G (c.d.fact 1 (f := .free "all") rfl)
  n_bool := He.free_ok X G (c.d.fact 2 (f := .free "bool") rfl)
  n_divmod := He.free_ok X G (c.d.fact 3 (f := .free "divmod") rfl)
  n_int := He.free_ok X G (c.d.fact 4 (f := .free "int") rfl)
  n_isinstance := He.free_ok X G (c.d.fact 5 (f := .free "isinstance") rfl)
  n_len := He.free_ok X G (c.d.fact 6 (f := .free "len") rfl)
  n_list := He.free_ok X G (c.d.fact 7 (f := .free "list") rfl)
  n_max := He.free_ok X G (c.d.fact 8 (f := .free "max") rfl)
  n_min := He.free_ok X G (c.d.fact 9 (f := .free "min") rfl)
  n_range := He.free_ok X G (c.d.fact 10 (f := .free "range") rfl)
  n_repr := He.free_ok X G (c.d.fact 11 (f := .free "repr") rfl)
  n_sum := He.free_ok X G (c.d.fact 12 (f := .free "sum") rfl)
  n_tuple := He.free_ok X G (c.d.fact 13 (f := .free "tuple") rfl)
  n_zip := He.free_ok X G (c.d.fact 14 (f := .free "zip") rfl)
  i_MOST_OUTCOMES := He.int_ok X G (c.d.fact 15 (f := .int "MOST_OUTCOMES" 6) rfl)
  i_MOST_SORTS := He.int_ok X G (c.d.fact 16 (f := .int "MOST_SORTS" 5) rfl)
  i_MOST_WORTH := He.int_ok X G (c.d.fact 17 (f := .int "MOST_WORTH" 99) rfl)
  f__law_pot := let ⟨fd, F⟩ := c.d.def_ 0 (d := D__law_pot) rfl; ⟨_, fd, F, He.glo_ok X G (c.d.fact 18 (f := .glo "_law_pot") rfl)⟩
  f_is_integer := let ⟨fd, F⟩ := c.d.def_ 1 (d := D_is_integer) rfl; ⟨_, fd, F, He.glo_ok X G (c.d.fact 19 (f := .glo "is_integer") rfl)⟩
  f_is_within := let ⟨fd, F⟩ := c.d.def_ 2 (d := D_is_within) rfl; ⟨_, fd, F, He.glo_ok X G (c.d.fact 20 (f := .glo "is_within") rfl)⟩
  f_is_list := let ⟨fd, F⟩ := c.d.def_ 3 (d := D_is_list) rfl; ⟨_, fd, F, He.glo_ok X G (c.d.fact 21 (f := .glo "is_list") rfl)⟩
  f_are_worths_of := let ⟨fd, F⟩ := c.d.def_ 4 (d := D_are_worths_of) rfl; ⟨_, fd, F, He.glo_ok X G (c.d.fact 22 (f := .glo "are_worths_of") rfl)⟩
  f_is_case_of := let ⟨fd, F⟩ := c.d.def_ 5 (d := D_is_case_of) rfl; ⟨_, fd, F, He.glo_ok X G (c.d.fact 23 (f := .glo "is_case_of") rfl)⟩
  f_check_case := let ⟨fd, F⟩ := c.d.def_ 6 (d := D_check_case) rfl; ⟨_, fd, F, He.glo_ok X G (c.d.fact 24 (f := .glo "check_case") rfl)⟩
  f_check_sort := let ⟨fd, F⟩ := c.d.def_ 7 (d := D_check_sort) rfl; ⟨_, fd, F, He.glo_ok X G (c.d.fact 25 (f := .glo "check_sort") rfl)⟩
  f_own_worth := let ⟨fd, F⟩ := c.d.def_ 8 (d := D_own_worth) rfl; ⟨_, fd, F, He.glo_ok X G (c.d.fact 26 (f := .glo "own_worth") rfl)⟩
  f_loss := let ⟨fd, F⟩ := c.d.def_ 9 (d := D_loss) rfl; ⟨_, fd, F, He.glo_ok X G (c.d.fact 27 (f := .glo "loss") rfl)⟩
  f_losses_round := let ⟨fd, F⟩ := c.d.def_ 10 (d := D_losses_round) rfl; ⟨_, fd, F, He.glo_ok X G (c.d.fact 28 (f := .glo "losses_round") rfl)⟩
  f_ring_of := let ⟨fd, F⟩ := c.d.def_ 11 (d := D_ring_of) rfl; ⟨_, fd, F, He.glo_ok X G (c.d.fact 29 (f := .glo "ring_of") rfl)⟩
  f_check_had := let ⟨fd, F⟩ := c.d.def_ 12 (d := D_check_had) rfl; ⟨_, fd, F, He.glo_ok X G (c.d.fact 30 (f := .glo "check_had") rfl)⟩
  f_least_sums := let ⟨fd, F⟩ := c.d.def_ 13 (d := D_least_sums) rfl; ⟨_, fd, F, He.glo_ok X G (c.d.fact 31 (f := .glo "least_sums") rfl)⟩
  f_span := let ⟨fd, F⟩ := c.d.def_ 14 (d := D_span) rfl; ⟨_, fd, F, He.glo_ok X G (c.d.fact 32 (f := .glo "span") rfl)⟩
  f_greatest_payments := let ⟨fd, F⟩ := c.d.def_ 15 (d := D_greatest_payments) rfl; ⟨_, fd, F, He.glo_ok X G (c.d.fact 33 (f := .glo "greatest_payments") rfl)⟩
  f_ring := let ⟨fd, F⟩ := c.d.def_ 16 (d := D_ring) rfl; ⟨_, fd, F, He.glo_ok X G (c.d.fact 34 (f := .glo "ring") rfl)⟩
  f__law_draw := let ⟨fd, F⟩ := c.d.def_ 17 (d := D__law_draw) rfl; ⟨_, fd, F, He.glo_ok X G (c.d.fact 35 (f := .glo "_law_draw") rfl)⟩
  f__law_pick := let ⟨fd, F⟩ := c.d.def_ 18 (d := D__law_pick) rfl; ⟨_, fd, F, He.glo_ok X G (c.d.fact 36 (f := .glo "_law_pick") rfl)⟩
  f__law_case := let ⟨fd, F⟩ := c.d.def_ 19 (d := D__law_case) rfl; ⟨_, fd, F, He.glo_ok X G (c.d.fact 37 (f := .glo "_law_case") rfl)⟩
  f__law_lists := let ⟨fd, F⟩ := c.d.def_ 20 (d := D__law_lists) rfl; ⟨_, fd, F, He.glo_ok X G (c.d.fact 38 (f := .glo "_law_lists") rfl)⟩
  f__law_loss := let ⟨fd, F⟩ := c.d.def_ 21 (d := D__law_loss) rfl; ⟨_, fd, F, He.glo_ok X G (c.d.fact 39 (f := .glo "_law_loss") rfl)⟩
  f__law_losses := let ⟨fd, F⟩ := c.d.def_ 22 (d := D__law_losses) rfl; ⟨_, fd, F, He.glo_ok X G (c.d.fact 40 (f := .glo "_law_losses") rfl)⟩
  f__law_ring := let ⟨fd, F⟩ := c.d.def_ 23 (d := D__law_ring) rfl; ⟨_, fd, F, He.glo_ok X G (c.d.fact 41 (f := .glo "_law_ring") rfl)⟩
  f__law_far := let ⟨fd, F⟩ := c.d.def_ 24 (d := D__law_far) rfl; ⟨_, fd, F, He.glo_ok X G (c.d.fact 42 (f := .glo "_law_far") rfl)⟩
  f_divisor := let ⟨fd, F⟩ := c.d.def_ 25 (d := D_divisor) rfl; ⟨_, fd, F, He.glo_ok X G (c.d.fact 43 (f := .glo "divisor") rfl)⟩
  f_reduced := let ⟨fd, F⟩ := c.d.def_ 26 (d := D_reduced) rfl; ⟨_, fd, F, He.glo_ok X G (c.d.fact 44 (f := .glo "reduced") rfl)⟩
  f_take := let ⟨fd, F⟩ := c.d.def_ 27 (d := D_take) rfl; ⟨_, fd, F, He.glo_ok X G (c.d.fact 45 (f := .glo "take") rfl)⟩
  f_is_below := let ⟨fd, F⟩ := c.d.def_ 28 (d := D_is_below) rfl; ⟨_, fd, F, He.glo_ok X G (c.d.fact 46 (f := .glo "is_below") rfl)⟩
  f_is_fraction_of := let ⟨fd, F⟩ := c.d.def_ 29 (d := D_is_fraction_of) rfl; ⟨_, fd, F, He.glo_ok X G (c.d.fact 47 (f := .glo "is_fraction_of") rfl)⟩
  f_are_payments := let ⟨fd, F⟩ := c.d.def_ 30 (d := D_are_payments) rfl; ⟨_, fd, F, He.glo_ok X G (c.d.fact 48 (f := .glo "are_payments") rfl)⟩
  f_do_make_true := let ⟨fd, F⟩ := c.d.def_ 31 (d := D_do_make_true) rfl; ⟨_, fd, F, He.glo_ok X G (c.d.fact 49 (f := .glo "do_make_true") rfl)⟩
  f_least_payments := let ⟨fd, F⟩ := c.d.def_ 32 (d := D_least_payments) rfl; ⟨_, fd, F, He.glo_ok X G (c.d.fact 50 (f := .glo "least_payments") rfl)⟩
  f__law_plain := let ⟨fd, F⟩ := c.d.def_ 33 (d := D__law_plain) rfl; ⟨_, fd, F, He.glo_ok X G (c.d.fact 51 (f := .glo "_law_plain") rfl)⟩
  f__law_plus := let ⟨fd, F⟩ := c.d.def_ 34 (d := D__law_plus) rfl; ⟨_, fd, F, He.glo_ok X G (c.d.fact 52 (f := .glo "_law_plus") rfl)⟩
  f__law_times := let ⟨fd, F⟩ := c.d.def_ 35 (d := D__law_times) rfl; ⟨_, fd, F, He.glo_ok X G (c.d.fact 53 (f := .glo "_law_times") rfl)⟩
  f__law_mixed_of := let ⟨fd, F⟩ := c.d.def_ 36 (d := D__law_mixed_of) rfl; ⟨_, fd, F, He.glo_ok X G (c.d.fact 54 (f := .glo "_law_mixed_of") rfl)⟩
  f__law_base_right := let ⟨fd, F⟩ := c.d.def_ 37 (d := D__law_base_right) rfl; ⟨_, fd, F, He.glo_ok X G (c.d.fact 55 (f := .glo "_law_base_right") rfl)⟩
  f__law_right := let ⟨fd, F⟩ := c.d.def_ 38 (d := D__law_right) rfl; ⟨_, fd, F, He.glo_ok X G (c.d.fact 56 (f := .glo "_law_right") rfl)⟩
  f_law := let ⟨fd, F⟩ := c.d.def_ 39 (d := D_law) rfl; ⟨_, fd, F, He.glo_ok X G (c.d.fact 57 (f := .glo "law") rfl)⟩
abbrev R : PySem.W.OpenRow := PySem.W.OpenLaw.row PySem.Challenge.rw_playpapers_k64_whole_spans_of_payments
abbrev hk : PySem.W.Hook := hookS 4 fal tbl fnl
def ob (s : PySem.W.SharedT) : He.AlD := obsS 4 fal tbl fnl (HandSHeadRun.getT s)
theorem ob_eq (s : PySem.W.SharedT) : ob s = hk.obs s.abs := obsS_eq (HandSHeadRun.getT_eq s)
def hlo0 : List Str := ["PlayError", "StateError", "InvalidCase", "InvalidSort", "CanNotBeHad", "is_integer", "is_within", "is_list", "divisor", "is_fraction_of", "reduced", "take", "is_below", "MOST_SORTS", "MOST_OUTCOMES", "MOST_WORTH", "are_worths_of", "is_case_of", "check_case", "check_sort", "check_had", "own_worth", "loss", "losses_round", "ring_of", "least_sums", "are_payments", "do_make_true", "span", "greatest_payments"]
def hlo1 : List Str := ["least_payments", "ring", "_law_pot", "_law_draw", "_law_pick", "_law_mixed", "_law_plain", "_law_plus", "_law_times", "_law_total", "_law_lot", "_law_fraction", "_law_case", "_law_loss", "_law_lists", "_law_losses", "_law_ring", "_law_far", "_law_is_true", "_law_mixed_of", "_law_base_right", "_law_right"]
def hlo : List Str := hlo0 ++ hlo1
theorem run (w : World) : HandSHeadRun.RunEq R (PySem.W.view R.prog [58]) hk ob 4000 hlo w := by
  intro os
  kernel_rfl
end K64
namespace K64
open PySem PySem.Spec PyProof.Rows L2 Pf
theorem law_end {w : World} {K : Frag} {h : Heap} {mg : Str → Option Value} {fa : Addr} (X : K.In h) (G : h.Ns mainGlobals mg) (hmg : mg ("law" : Str) = some (.ref fa)) (c : SaysS fal tbl fnl K) :
    ∃ (K : Frag) (fd : FuncData), K.In h ∧ (∀ (s : Shared) (u : Value), BindsTo s fd ⟨[u], []⟩ [("script", u)]) ∧
      ∀ base : Heap, K.In base → base.Ns mainGlobals mg → FnG PySem.Challenge.rw_playpapers_k64_whole_spans_of_payments.prog w K mg base 9 fa fd ["script"] (spF K f_law) := by
  have fx := fx_of X G c
  obtain ⟨a, fd, F, hm⟩ := fx.f_law
  have e := hmg.symm.trans hm
  cases e
  refine ⟨K, fd, X, fun s u => ?_, fun base Xb Gb => ?_⟩
  · obtain ⟨oc, od, dV, kV, doc, pm, an, cdv, ct, osl, rfl, lk, hcd, hD, _⟩ := F.ex
    have e : dV = .none := by
      rcases hD with h | h
      · exact h.2
      · exact absurd rfl h.1
    subst e
    exact .of_eq (b_law kV doc pm an cdv ct [u] rfl)
  · exact fnG_law F (fx_of Xb Gb c)
end K64
end
set_option Elab.async false
set_option linter.all false
set_option maxHeartbeats 4000000
set_option maxRecDepth 100000
set_option autoImplicit false
open PySem PySem.W PySem.Calls PyProof.Rows
theorem PySem.Challenge.cw_playpapers_k64_whole_spans_of_payments_holds : PySem.Challenge.rw_playpapers_k64_whole_spans_of_payments.Holds := by
  w_on; o_law
  refine HandSHeadRun.head_any (r := OpenLaw.row PySem.Challenge.rw_playpapers_k64_whole_spans_of_payments) (q := view (OpenLaw.row PySem.Challenge.rw_playpapers_k64_whole_spans_of_payments).prog [58]) (H := K64.hk) (ob := K64.ob) (M := 4000) (loose := K64.hlo) (d := HandSHeadRun.topDef (OpenLaw.row PySem.Challenge.rw_playpapers_k64_whole_spans_of_payments).prog 58) (kwd := []) K64.ob_eq
    (by kernel_rfl) (fun s => by kernel_rfl) K64.run (by kernel_rfl) (by kernel_rfl) (by kernel_rfl) (by rfl) (by first | assumption | decide +kernel) (by decide +kernel) ⟨rfl, rfl, rfl, rfl, rfl, by decide +kernel⟩ ?hw ?hc
  case hw => w_witness2
  case hc =>
    refine Pf.walk_ofG (l := PySem.Challenge.rw_playpapers_k64_whole_spans_of_payments) (k := 9) (x := "script") (F := K64.f_law) K64.law_ok rfl (by kernel_rfl) ⟨rfl, by decide, by decide⟩ ?C
    intro w mg fa h Y G hmg0
    obtain ⟨K, KX, c⟩ := Y
    have hmg : mg ("law" : PySem.Str) = some (.ref fa) := by
      have e : (HandSHeadRun.topDef (OpenLaw.row PySem.Challenge.rw_playpapers_k64_whole_spans_of_payments).prog 58).name = ("law" : PySem.Str) := by kernel_rfl
      rw [← e]
      exact hmg0
    exact K64.law_end KX G hmg c
